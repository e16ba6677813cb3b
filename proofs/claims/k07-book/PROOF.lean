import PyProof.Rows.All
import Wide.All
import OpenK.AllK
import Wide.FinOn
import HandS.ForMost
import HandS.ForExc
import HandS.Wide
import HandS.Deep
import HandS.IsInst
import HandS.Flow
import HandS.Zip
import HandS.TupSets
import PyProof.ReprRoads
import KE.SortData
import KE.DataMinMax
import KE.DataCmp
import KE.DataEq
import KE.GoesMore
import KE.KDictKeyed
import KE.KDictPairs
import KE.KDictZip
import KE.KDictWalk
import KE.KDictDisplayH
import KE.KTupSum
import HandS.Style
import HandS.ExcInit
import HandS.TupAny
import HandS.TupMul
import HandS.Dict
import KE.KEqDict
import KE.KDictList
import KE.KDictCopyH
import HandS.More
import KE.KExcIs
import HandS.Defaults
import HandS.Ends
import HandS.HeadHook1
import HandS.Small
import KE.GoesEnum
import HandS.TryOnly
import HandS.ExcValue
import HandS.Codes
import HandS.Head0
import HandS.Head1
import HandS.Head2
import HandS.HeadEnd
import HandS.HeadHook2
import HandS.HeadHook3
import HandS.HeadHook4
import PySem.Challenge.RW_updownworths_k07_what_is_a_book
set_option Elab.async false
set_option linter.all false
set_option maxRecDepth 100000
set_option maxHeartbeats 0
/-! M: a small interpreter for defs over plain data, lists as values; what it answers the model does (below). -/
namespace M
open PySem L2
inductive R (ε α : Type) where
  | ok (a : α)
  | exc (e : ε)
  | stuck
namespace R
variable {ε α β : Type}
def bind (x : R ε α) (f : α → R ε β) : R ε β :=
  match x with
  | .ok a => f a
  | .exc e => .exc e
  | .stuck => .stuck
def ofO : Option α → R ε α
  | some a => .ok a
  | none => .stuck
end R
instance {ε : Type} : Monad (R ε) where
  pure := R.ok
  bind := R.bind
/-- what a slot holds: shared data, a list of its own, one handed in by reference, one that a loop walks -/
inductive Own where
  | sh | ow | rf | ln
  deriving DecidableEq
abbrev Slot := PyData × Own
abbrev Env := List (Option Slot)
/-- an expression's value: data (fresh: a list that nobody else holds), or the own list of a slot -/
inductive EV where
  | va (d : PyData) (fr : Bool)
  | sl (i : Nat)
/-- an exception: its class, its fields -/
structure Exn where
  c : Nat
  fs : List (Str × PyData)
inductive Arg where
  | v (d : PyData)
  | r (d : PyData)
structure Ret where
  d : PyData
  fr : Bool
  rs : List PyData
abbrev RE := R (Exn × Env)
abbrev CallT := Nat → List Arg → R Exn Ret
inductive IK where
  | ex | r1 | r2 | en | zp | it
  deriving DecidableEq
inductive Blt where
  | len | abs | sum | all | any | min1 | max1 | min2 | max2 | srt | lst | tup | int | str | repr | sset | sit | dzip | dct
  deriving DecidableEq
inductive Ty where
  | int | bool | str | tuple | list
  deriving DecidableEq
inductive Mut where
  | append | extend | clear | insert | pop | remove
  deriving DecidableEq
inductive MT where
  | nm (i : Nat)
  | tp (ts : List MT)
inductive ME where
  | var (i : Nat)
  | cst (d : PyData)
  | glo (x : Nat)
  | ref (i : Nat)
  | bin (op : Operator) (a b : ME)
  | neg (a : ME)
  | not (a : ME)
  | and (a b : ME)
  | or (a b : ME)
  | cmp (op : CmpOp) (a b : ME)
  | chn (op op' : CmpOp) (a b c : ME)
  | ife (c a b : ME)
  | call (f : Nat) (es : List ME)
  | blt (b : Blt) (es : List ME)
  | isi (e : ME) (t : Ty)
  | sub (a b : ME)
  | slc (a : ME) (lo hi : Option ME)
  | rev (a : ME)
  | pop (i : Nat) (z : Bool)
  | idx (a b : ME)
  | tup (es : List ME)
  | lst (es : List ME)
  | dic0
  | dic1 (a b : ME)
  | get1 (a b : ME)
  | get2 (a b c : ME)
  | bad
  | lc (t : MT) (k : IK) (src : List ME) (cs : List ME) (e : ME)
  | isx (e : ME) (c : Option Nat)
  | xtup (es : List ME)
  | fld (e : ME) (f : Str)
  | nw (e : ME)
  | calln (f : Nat) (es : List ME)
/-- what an except suite does: x = e, x = None, x = e.f -/
inductive TK where
  | keep (j : Nat)
  | non (j : Nat)
  | fld (j : Nat) (f : Str)
inductive MS where
  | nop
  | set (i : Nat) (e : ME)
  | setT (ts : List MT) (e : ME)
  | setI (i : Nat) (ix e : ME)
  | mut (i : Nat) (m : Mut) (es : List ME)
  | ext (i : Nat) (e : ME)
  | expr (e : ME)
  | ret (e : ME)
  | retN
  | ite (c : ME) (a b : List MS)
  | forr (t : MT) (k : IK) (src : List ME) (body : List MS)
  | whl (c : ME) (body : List MS)
  | rais (c : Nat) (fs : List Str) (es : List ME)
  | tryx (body : List MS) (c : Nat) (i : Option Nat) (k : TK)
  | bad
/-! ### plain data -/
def mulOk (i j : Int) : Bool := (Nat.ble i.natAbs 18446744073709551615 || Nat.ble j.natAbs 18446744073709551615) || Nat.ble (i.natAbs.log2 + j.natAbs.log2) 999999
/-! bounds, said so that the kernel never counts down from them -/
def rgB : Int → Bool
  | .ofNat m => Nat.ble m 16777216
  | .negSucc m => Nat.ble m 1000000
def rsB : Int → Bool
  | .ofNat m => Nat.ble m 1000000
  | .negSucc m => Nat.ble m 1000000
def fdB : Int → Bool
  | .ofNat m => Nat.ble 1 m && Nat.ble m 1073741823
  | .negSucc _ => false
theorem fdB_iff (n : Int) : fdB n = true ↔ 0 < n ∧ n < 1073741824 := by
  cases n with
  | ofNat m =>
    show (Nat.ble 1 m && Nat.ble m 1073741823) = true ↔ _
    rw [Bool.and_eq_true, Nat.ble_eq, Nat.ble_eq]
    show _ ↔ 0 < (m : Int) ∧ (m : Int) < 1073741824
    omega
  | negSucc m =>
    show false = true ↔ _
    simp
def mlB (n : Nat) : Int → Bool
  | .ofNat m => Nat.ble m 16777216 && Nat.ble (n * m) 16777216
  | .negSucc _ => false
theorem rgB_iff (n : Int) : rgB n = true ↔ -1000001 ≤ n ∧ n ≤ 16777216 := by
  cases n with
  | ofNat m =>
    show Nat.ble m 16777216 = true ↔ _
    rw [Nat.ble_eq]
    show _ ↔ -1000001 ≤ (m : Int) ∧ (m : Int) ≤ 16777216
    omega
  | negSucc m =>
    show Nat.ble m 1000000 = true ↔ _
    rw [Nat.ble_eq]
    omega
theorem rsB_iff (n : Int) : rsB n = true ↔ -1000001 ≤ n ∧ n ≤ 1000000 := by
  cases n with
  | ofNat m =>
    show Nat.ble m 1000000 = true ↔ _
    rw [Nat.ble_eq]
    show _ ↔ -1000001 ≤ (m : Int) ∧ (m : Int) ≤ 1000000
    omega
  | negSucc m =>
    show Nat.ble m 1000000 = true ↔ _
    rw [Nat.ble_eq]
    omega
theorem mlB_of {n : Nat} {k : Int} (h : mlB n k = true) : (0 ≤ k ∧ k ≤ 16777216) ∧ n * k.toNat ≤ 16777216 := by
  cases k with
  | ofNat m =>
    have h : (Nat.ble m 16777216 && Nat.ble (n * m) 16777216) = true := h
    rw [Bool.and_eq_true, Nat.ble_eq, Nat.ble_eq] at h
    show (0 ≤ (m : Int) ∧ (m : Int) ≤ 16777216) ∧ n * m ≤ 16777216
    exact ⟨by omega, h.2⟩
  | negSucc m => cases h
theorem mlB_nat {n m : Nat} (h1 : m ≤ 16777216) (h2 : n * m ≤ 16777216) : mlB n (m : Int) = true := by
  show (Nat.ble m 16777216 && Nat.ble (n * m) 16777216) = true
  rw [Bool.and_eq_true, Nat.ble_eq, Nat.ble_eq]
  exact ⟨h1, h2⟩
def binD : Operator → PyData → PyData → Option (PyData × Bool)
  | .Add, .int i, .int j => some (.int (i + j), false)
  | .Add, .str x, .str y => if x.length + y.length ≤ sizeLine then some (.str (x ++ y), false) else none
  | .Add, .tuple xs, .tuple ys => if xs.length + ys.length ≤ sizeLine then some (.tuple (xs ++ ys), false) else none
  | .Add, .list xs, .list ys => if xs.length + ys.length ≤ sizeLine then some (.list (xs ++ ys), true) else none
  | .Sub, .int i, .int j => some (.int (i - j), false)
  | .Mult, .int i, .int j => if mulOk i j = true then some (.int (i * j), false) else none
  | .FloorDiv, .int i, .int j => if fdB j = true then some (.int (i / j), false) else none
  | .Mod, .int i, .int j => if 0 < j then some (.int (i % j), false) else none
  | .Pow, .int i, .int j => if 0 ≤ j ∧ j ≤ 1000000 ∧ i.natAbs < 2 ^ 64 then some (.int (i ^ j.toNat), false) else none
  | .Mult, .tuple xs, .int k => if (decide (xs ≠ []) && (decide (2 ≤ k) && (decide (k ≤ 1000) && decide (xs.length ≤ 1000)))) = true then some (.tuple (List.replicate k.toNat xs).flatten, false) else none
  | .Mult, .list xs, .int k => if mlB xs.length k = true then some (.list (List.replicate k.toNat xs).flatten, true) else none
  | _, _, _ => none
def truD : PyData → Option Bool
  | .none => some false
  | .bool b => some b
  | .int i => some (i != 0)
  | .str x => some ((x.length : Int) != 0)
  | .list xs => some (!xs.isEmpty)
  | .tuple xs => some (!xs.isEmpty)
  | .dict _ => none
def flatD : PyData → Bool
  | .none | .bool _ | .int _ | .str _ => true
  | _ => false
def ndB : PyData → Bool
  | .dict _ => false
  | _ => true
def eqOk (d e : PyData) : Bool := ndB d && (ndB e && decide (d.depth ≤ 190 ∨ e.depth ≤ 190))
/-- may they be ordered? -/
def ordOk (d e : PyData) : Bool := PySem.W.alike d e && decide (d.depth ≤ 190 ∨ e.depth ≤ 190)
/-! ### tables -/
def isTup : PyData → Bool
  | .tuple _ => true
  | _ => false
/-- may it be a key? -/
def keyB : Nat → PyData → Bool
  | _, .int _ => true
  | _, .str _ => true
  | n + 1, .tuple ds => ds.all (keyB n)
  | _, _ => false
def kdD : PyData → Nat
  | .tuple _ => 0
  | .int _ => 1
  | .str _ => 2
  | _ => 3
/-- .. of this table? (its keys are all of one kind) -/
def keyIn (kvs : List (PyData × PyData)) (k : PyData) : Bool := keyB 8 k && kvs.all fun p => kdD p.1 == kdD k
/-! errors as data, tuples that hold them: told as tables with keys that no table has -/
def excK (c : Nat) (fs : List (Str × PyData)) : List (PyData × PyData) := (.none, .int (c : Int)) :: fs.map fun p => (.str p.1, p.2)
def excD (c : Nat) (fs : List (Str × PyData)) : PyData := .dict (excK c fs)
def excX (x : Exn) : PyData := excD x.c x.fs
def xtK (ds : List PyData) : List (PyData × PyData) := (.bool true, .none) :: ds.map fun d => (.bool true, d)
def xtD (ds : List PyData) : PyData := .dict (xtK ds)
/-- neither of them -/
def spK : List (PyData × PyData) → Bool
  | (.none, _) :: _ => true
  | (.bool _, _) :: _ => true
  | _ => false
def excOf : PyData → Option Nat
  | .dict ((.none, .int (.ofNat c)) :: _) => some c
  | _ => none
def fldOf (f : Str) : PyData → Option PyData
  | .dict ((.none, .int (.ofNat _)) :: r) => (r.find? fun p => match p.1 with | .str y => decide (y = f) | _ => false).map (·.2)
  | _ => none
def xtOf : List (PyData × PyData) → Option (List PyData)
  | (.bool true, .none) :: r => some (r.map (·.2))
  | _ => none
/-- is an error of class c one of the class k (none: ValueError)? All stand beneath class 0. -/
def subX (c : Nat) : Option Nat → Bool
  | none => true
  | some k => decide (k = 0) || decide (k = c)
/-- all keys are tuples -/
def tupK (kvs : List (PyData × PyData)) : Bool := kvs.all fun p => isTup p.1
def findD (kvs : List (PyData × PyData)) (k : PyData) : Option PyData := (kvs.find? fun p => PyData.eqv p.1 k).map (·.2)
def hasD (kvs : List (PyData × PyData)) (k : PyData) : Bool := kvs.any fun p => PyData.eqv p.1 k
def putD (kvs : List (PyData × PyData)) (k v : PyData) : List (PyData × PyData) := if hasD kvs k = true then kvs.map fun p => if PyData.eqv p.1 k = true then (p.1, v) else p else kvs ++ [(k, v)]
/-- dict(..) of pairs -/
def dctD : List PyData → List (PyData × PyData) → Option (List (PyData × PyData))
  | [], acc => some acc
  | .tuple [k, v] :: r, acc => if (isTup k && keyIn acc k) = true then dctD r (putD acc k v) else none
  | _ :: _, _ => none
/-- a table of plain things by tuples -/
def flatDic : PyData → Bool
  | .dict kvs => kvs.all fun p => (isTup p.1 && keyB 8 p.1) && flatD p.2
  | _ => false
/-- two such tables compared -/
def dicEq : PyData → PyData → Option Bool
  | .dict xs, .dict ys => if (flatDic (.dict xs) && flatDic (.dict ys)) = true then some (xs.length == ys.length && xs.all fun p => match findD ys p.1 with | some v => PyData.eqv p.2 v | none => false) else none
  | _, _ => none
def cmpD : CmpOp → PyData → PyData → Option Bool
  | .Eq, d, e => if eqOk d e = true then some (PyData.eqv d e) else dicEq d e
  | .NotEq, d, e => if eqOk d e = true then some (!PyData.eqv d e) else none
  | .Lt, .int i, .int j => some (decide (i < j))
  | .LtE, .int i, .int j => some (decide (i ≤ j))
  | .Gt, .int i, .int j => some (decide (j < i))
  | .GtE, .int i, .int j => some (decide (j ≤ i))
  | .Is, .none, .none => some true
  | .Is, _, .none => some false
  | .IsNot, .none, .none => some false
  | .IsNot, _, .none => some true
  | .In, d, .list ds => if ndB d = true ∧ d.depth ≤ 64 then some (ds.any fun z => PyData.eqv z d) else none
  | .NotIn, d, .list ds => if ndB d = true ∧ d.depth ≤ 64 then some (!ds.any fun z => PyData.eqv z d) else none
  | .In, d, .dict kvs => if keyIn kvs d = true then some (hasD kvs d) else none
  | .NotIn, d, .dict kvs => if keyIn kvs d = true then some (!hasD kvs d) else none
  | .In, d, .tuple ds => if ndB d = true ∧ d.depth ≤ 64 then some (ds.any fun z => PyData.eqv z d) else none
  | .NotIn, d, .tuple ds => if ndB d = true ∧ d.depth ≤ 64 then some (!ds.any fun z => PyData.eqv z d) else none
  | .Is, .bool a, .bool b => some (decide (a = b))
  | .IsNot, .bool a, .bool b => some (!decide (a = b))
  | .Lt, .tuple xs, .tuple ys => if ordOk (.tuple xs) (.tuple ys) = true then some (PySem.W.dataLt (.tuple xs) (.tuple ys)) else none
  | .Gt, .tuple xs, .tuple ys => if ordOk (.tuple xs) (.tuple ys) = true then some (PySem.W.dataLt (.tuple ys) (.tuple xs)) else none
  | .LtE, .tuple xs, .tuple ys => if ordOk (.tuple xs) (.tuple ys) = true then some (!PySem.W.dataLt (.tuple ys) (.tuple xs)) else none
  | .GtE, .tuple xs, .tuple ys => if ordOk (.tuple xs) (.tuple ys) = true then some (!PySem.W.dataLt (.tuple xs) (.tuple ys)) else none
  | _, _, _ => none
def intsD : List PyData → Option (List Int)
  | [] => some []
  | .int i :: r => (intsD r).map (i :: ·)
  | _ :: _ => none
def boolsD : List PyData → Option (List Bool)
  | [] => some []
  | .bool i :: r => (boolsD r).map (i :: ·)
  | _ :: _ => none
def isD : Ty → PyData → Bool
  | .int, .int _ | .int, .bool _ => true
  | .bool, .bool _ => true
  | .str, .str _ => true
  | .tuple, .tuple _ => true
  | .list, .list _ => true
  | .tuple, .dict ((.bool _, _) :: _) => true
  | _, _ => false
/-- tuples of two ints, as pairs -/
def pairsD : List PyData → Option (List (Int × Int))
  | [] => some []
  | .tuple [.int i, .int j] :: r => if 0 ≤ i ∧ 0 ≤ j then (pairsD r).map ((i, j) :: ·) else none
  | _ :: _ => none
def pLt (p q : Int × Int) : Bool := decide (p.1 < q.1 ∨ (p.1 = q.1 ∧ p.2 < q.2))
/-- put into a rising list of unlike pairs -/
def pIns (p : Int × Int) : List (Int × Int) → List (Int × Int)
  | [] => [p]
  | q :: r => if pLt p q = true then p :: q :: r else if p = q then q :: r else q :: pIns p r
def pSort : List (Int × Int) → List (Int × Int)
  | [] => []
  | p :: r => pIns p (pSort r)
def pD (p : Int × Int) : PyData := .tuple [.int p.1, .int p.2]
/-- may its repr be told? -/
def reprOk (d : PyData) : Bool := (d.canLay0 || flatDic d) && (d.showable && (decide (d.shown.length ≤ sizeLine) && (decide (d.depth ≤ 64) && PyData.strOk d.shown)))
def minI : List Int → Option Int
  | [] => none
  | x :: r => some (r.foldl min x)
def maxI : List Int → Option Int
  | [] => none
  | x :: r => some (r.foldl max x)
def alikeB (xs : List PyData) : Bool := xs.all fun x => xs.all fun y => PySem.W.alike x y
/-- may they be sorted? -/
def sortOk (xs : List PyData) : Bool := alikeB xs && (decide (PyData.depthAll xs ≤ 64) && ((xs.all fun d => match d with | .tuple (_ :: _) => true | _ => false) || (xs.all fun d => match d with | .none => false | .tuple _ => false | _ => true)))
def leD (x y : PyData) : Bool := PySem.W.dataLe false id x y
def bltD : Blt → List PyData → Option (PyData × Bool)
  | .len, [.list xs] => some (.int xs.length, false)
  | .len, [.tuple xs] => some (.int xs.length, false)
  | .len, [.str x] => some (.int x.length, false)
  | .abs, [.int i] => some (.int (if i < 0 then -i else i), false)
  | .sum, [.list xs] => (intsD xs).map fun ns => (.int ns.sum, false)
  | .all, [.list xs] => (boolsD xs).map fun bs => (.bool (bs.all id), false)
  | .any, [.list xs] => (boolsD xs).map fun bs => (.bool (bs.any id), false)
  | .min2, [.int i, .int j] => some (.int (if j < i then j else i), false)
  | .max2, [.int i, .int j] => some (.int (if j > i then j else i), false)
  | .lst, [.list xs] => some (.list xs, true)
  | .lst, [.tuple xs] => some (.list xs, true)
  | .tup, [.list xs] => some (.tuple xs, false)
  | .tup, [.tuple xs] => some (.tuple xs, false)
  | .sset, [.list xs] => if xs.length < 64 then (pairsD xs).map fun ps => (.list ((pSort ps).map pD), true) else none
  | .int, [.int i] => some (.int i, false)
  | .int, [.bool b] => some (.int (if b = true then 1 else 0), false)
  | .str, [.int i] => if i.natAbs.log2 < 1920 then some (.str (toString i), false) else none
  | .repr, [d] => if reprOk d = true then some (.str d.shown, false) else none
  | .min1, [.list xs] => ((intsD xs).bind minI).map fun m => (.int m, false)
  | .min1, [.tuple xs] => ((intsD xs).bind minI).map fun m => (.int m, false)
  | .max1, [.list xs] => ((intsD xs).bind maxI).map fun m => (.int m, false)
  | .max1, [.tuple xs] => ((intsD xs).bind maxI).map fun m => (.int m, false)
  | .sum, [.tuple xs] => (intsD xs).map fun ns => (.int ns.sum, false)
  | .srt, [.list xs] => if sortOk xs = true then some (.list (xs.mergeSort leD), true) else none
  | .len, [.dict kvs] => if tupK kvs = true then some (.int kvs.length, false) else none
  | .lst, [.dict kvs] => if tupK kvs = true then some (.list (kvs.map (·.1)), true) else none
  | .dzip, [.list xs, .list ys] => (dctD (List.zipWith (fun x y => PyData.tuple [x, y]) xs ys) []).map fun kvs => (.dict kvs, true)
  | .dct, [.list xs] => (dctD xs []).map fun kvs => (.dict kvs, true)
  | _, _ => none
def cutD (xs : List PyData) (lo hi : Option Int) : List PyData := (xs.drop (HT.sIx xs.length 0 lo)).take (HT.sIx xs.length xs.length hi - HT.sIx xs.length 0 lo)
def subD : PyData → PyData → Option PyData
  | .list xs, .int i => atI xs i
  | .tuple xs, .int i => atI xs i
  | .dict kvs, k => if keyIn kvs k = true then findD kvs k else none
  | _, _ => none
def isDic : PyData → Bool
  | .dict _ => true
  | _ => false
/-- a table whose keys are tuples -/
def tupDic : PyData → Bool
  | .dict kvs => tupK kvs
  | _ => false
def getD : PyData → PyData → PyData → Option PyData
  | .dict kvs, k, e => if (keyIn kvs k && tupK kvs) = true then some ((findD kvs k).getD e) else none
  | _, _, _ => none
def slcD : PyData → Option Int → Option Int → Option (PyData × Bool)
  | .list xs, lo, hi => some (.list (cutD xs lo hi), true)
  | .tuple xs, lo, hi => some (.tuple (cutD xs lo hi), false)
  | _, _, _ => none
def popD : Bool → List PyData → Option (PyData × List PyData)
  | true, x :: r => some (x, r)
  | true, [] => none
  | false, xs => (xs.getLast?).map fun y => (y, xs.dropLast)
def revD : PyData → Option (PyData × Bool)
  | .list xs => some (.list xs.reverse, true)
  | .tuple xs => some (.tuple xs.reverse, false)
  | _ => none
/-- the place of the first equal one -/
def idxD : PyData → PyData → Option Int
  | .list xs, d => if d.canLay0 = true ∧ d.depth ≤ 64 then (xs.findIdx? fun z => PyData.eqv z d).map fun (j : Nat) => (j : Int) else none
  | _, _ => none
def itemsD : IK → List PyData → Option (List PyData)
  | .ex, [.list xs] => some xs
  | .ex, [.tuple xs] => some xs
  | .r1, [.int n] => if rgB n = true then some ((List.range n.toNat).map fun (i : Nat) => .int (i : Int)) else none
  | .r2, [.int a, .int b] => if rsB a = true ∧ rsB b = true then some ((List.range (b - a).toNat).map fun (i : Nat) => .int (a + i)) else none
  | .en, [.list xs] => some (xs.zipIdx.map fun p => .tuple [.int (p.2 : Int), p.1])
  | .zp, [.list xs, .list ys] => some (List.zipWith (fun x y => .tuple [x, y]) xs ys)
  | .zp, [.tuple xs, .tuple ys] => some (List.zipWith (fun x y => .tuple [x, y]) xs ys)
  | .en, [.tuple xs] => some (xs.zipIdx.map fun p => .tuple [.int (p.2 : Int), p.1])
  | .ex, [.dict kvs] => if tupK kvs = true then some (kvs.map (·.1)) else none
  | .it, [.dict kvs] => if tupK kvs = true then some (kvs.map fun p => .tuple [p.1, p.2]) else none
  | _, _ => none
def mutD : Mut → PyData → List PyData → Option PyData
  | .append, .list xs, [d] => if xs.length < sizeLine then some (.list (xs ++ [d])) else none
  | .clear, .list _, [] => some (.list [])
  | _, _, _ => none
def setD : PyData → PyData → PyData → Option PyData
  | .list xs, .int i, d => (ixN xs.length i).map fun j => .list (xs.set j d)
  | .dict kvs, k, d => if keyIn kvs k = true ∧ kvs.length < sizeLine then some (.dict (putD kvs k d)) else none
  | _, _, _ => none
def extD : PyData → List PyData → Option PyData
  | .list xs, ys => if xs.length + ys.length ≤ sizeLine then some (.list (xs ++ ys)) else none
  | _, _ => none
/-! ### slots -/
def rdv (env : Env) : EV → RE PyData
  | .va d _ => .ok d
  | .sl i => match env[i]? with
    | some (some (d, _)) => .ok d
    | _ => .stuck
def rdAll (env : Env) : List EV → RE (List PyData)
  | [] => .ok []
  | w :: r => do
    let d ← rdv env w
    let ds ← rdAll env r
    .ok (d :: ds)
def fzv (env : Env) : EV → RE (PyData × Env)
  | .va d _ => .ok (d, env)
  | .sl i => match env[i]? with
    | some (some (d, .ow)) => .ok (d, env.set i (some (d, .sh)))
    | some (some (d, .sh)) => .ok (d, env)
    | _ => .stuck
/-- .. of what may lie in lists and tuples -/
def fzn (env : Env) (w : EV) : RE (PyData × Env) :=
  match fzv env w with
  | .ok (d, env') => if ndB d = true then .ok (d, env') else .stuck
  | .exc e => .exc e
  | .stuck => .stuck
/-- a list of its own stands there -/
def ownS : Option (Option Slot) → Bool
  | some (some (_, .ow)) => true
  | some (some (_, .rf)) => true
  | _ => false
/-- .. a list -/
def ownL : Option (Option Slot) → Bool
  | some (some (.list _, .ow)) => true
  | some (some (.list _, .rf)) => true
  | _ => false
/-- may a slot be bound anew? -/
def freeS : Option (Option Slot) → Bool
  | some (some (_, .rf)) => false
  | some (some (_, .ln)) => false
  | some _ => true
  | none => false
def setS (i : Nat) (d : PyData) (k : Own) (env : Env) : Option Env := if freeS env[i]? = true then some (env.set i (some (d, k))) else none
mutual
def bindT : MT → PyData → Env → Option Env
  | .nm i, d, env => setS i d .sh env
  | .tp ts, .tuple ds, env => bindTs ts ds env
  | .tp ts, .dict kvs, env => (xtOf kvs).bind fun ds => bindTs ts ds env
  | .tp _, _, _ => none
def bindTs : List MT → List PyData → Env → Option Env
  | [], [], env => some env
  | t :: ts, d :: ds, env => (bindT t d env).bind fun env' => bindTs ts ds env'
  | _, _, _ => none
end
mutual
def MT.vars : MT → List Nat
  | .nm i => [i]
  | .tp ts => MT.varsL ts
def MT.varsL : List MT → List Nat
  | [] => []
  | t :: ts => MT.vars t ++ MT.varsL ts
end
def wipeE (env : Env) : List Nat → Env
  | [] => env
  | v :: vs => (wipeE env vs).set v none
/-- the slots of vs as they stood -/
def backE (env0 env : Env) : List Nat → Env
  | [] => env
  | v :: vs => (backE env0 env vs).set v (env0[v]?.join)
def lend1 (env : Env) (i : Nat) : Env := match env[i]? with
  | some (some (d, .ow)) => env.set i (some (d, .ln))
  | some (some (d, .rf)) => env.set i (some (d, .ln))
  | _ => env
def lendE (env : Env) : List Nat → Env
  | [] => env
  | i :: r => lend1 (lendE env r) i
/-- a slot whose data is shared by now is but its data -/
def normW (env : Env) : EV → EV
  | .sl i => match env[i]? with
    | some (some (d, .sh)) => .va d false
    | _ => .sl i
  | w => w
def slots : List EV → List Nat
  | [] => []
  | .sl i :: r => i :: slots r
  | .va _ _ :: r => slots r
/-- the slots that a loop walks -/
def lent (env : Env) (ws : List EV) : List Nat := slots (ws.map (normW env))
inductive SR where
  | nx (env : Env)
  | rt (d : PyData) (fr : Bool) (env : Env)
/-- arguments: those by reference are named by their slots -/
def refsOf : List (Sum Nat PyData) → List Nat
  | [] => []
  | .inl i :: r => i :: refsOf r
  | .inr _ :: r => refsOf r
def argsAt (env : Env) : List (Sum Nat PyData) → Option (List Arg)
  | [] => some []
  | .inr d :: r => (argsAt env r).map (.v d :: ·)
  | .inl i :: r => match env[i]? with
    | some (some (d, .ow)) => (argsAt env r).map (.r d :: ·)
    | some (some (d, .rf)) => (argsAt env r).map (.r d :: ·)
    | _ => none
def putRefs (env : Env) : List Nat → List PyData → Option Env
  | [], [] => some env
  | i :: is, d :: ds => match env[i]? with
    | some (some (_, k)) => putRefs (env.set i (some (d, k))) is ds
    | _ => none
  | _, _ => none
def callAt (C : CallT) (f : Nat) (as : List (Sum Nat PyData)) (env : Env) : RE (EV × Env) :=
  if (refsOf as).Nodup then
    match argsAt env as with
    | none => .stuck
    | some args => match C f args with
      | .ok r => match putRefs env (refsOf as) r.rs with
        | some env' => .ok (.va r.d r.fr, env')
        | none => .stuck
      | .exc x => if refsOf as = [] then .exc (x, env) else .stuck
      | .stuck => .stuck
  else .stuck
def lcLoop (f : PyData → Env → RE (Option PyData × Env)) : List PyData → Env → RE (List PyData × Env)
  | [], env => .ok ([], env)
  | x :: r, env => match f x env with
    | .ok (o, env1) => match lcLoop f r env1 with
      | .ok (ds, env2) => .ok (o.toList ++ ds, env2)
      | .exc _ => .stuck
      | .stuck => .stuck
    | .exc _ => .stuck
    | .stuck => .stuck
def forLoop (f : PyData → Env → RE SR) : List PyData → Env → RE SR
  | [], env => .ok (.nx env)
  | x :: r, env => match f x env with
    | .ok (.nx env1) => forLoop f r env1
    | .ok (.rt d fr env1) => .ok (.rt d fr env1)
    | .exc e => .exc e
    | .stuck => .stuck
def whLoop (c : Env → RE (Bool × Env)) (b : Env → RE SR) : Nat → Env → RE SR
  | 0, _ => .stuck
  | n + 1, env => match c env with
    | .ok (false, env1) => .ok (.nx env1)
    | .ok (true, env1) => match b env1 with
      | .ok (.nx env2) => whLoop c b n env2
      | .ok (.rt d fr env2) => .ok (.rt d fr env2)
      | .exc e => .exc e
      | .stuck => .stuck
    | .exc e => .exc e
    | .stuck => .stuck
def truW (env : Env) (w : EV) : RE Bool := do
  let d ← rdv env w
  R.ofO (truD d)
section
variable (C : CallT) (G : List PyData)
mutual
def ev : ME → Env → RE (EV × Env)
  | .var i, env => match env[i]? with
    | some (some (d, .sh)) => .ok (.va d false, env)
    | some (some (_, _)) => .ok (.sl i, env)
    | _ => .stuck
  | .cst d, env => .ok (.va d false, env)
  | .glo x, env => match G[x]? with
    | some d => .ok (.va d false, env)
    | none => .stuck
  | .ref _, _ => .stuck
  | .bin op a b, env => do
    let (x, env) ← ev a env
    let (y, env) ← ev b env
    let d ← rdv env x
    let e ← rdv env y
    let p ← R.ofO (binD op d e)
    .ok (.va p.1 p.2, env)
  | .neg a, env => do
    let (x, env) ← ev a env
    match ← rdv env x with
    | .int i => .ok (.va (.int (-i)) false, env)
    | _ => .stuck
  | .not a, env => do
    let (x, env) ← ev a env
    let k ← truW env x
    .ok (.va (.bool (!k)) false, env)
  | .and a b, env => do
    let (x, env) ← ev a env
    let k ← truW env x
    if k = true then ev b env else .ok (x, env)
  | .or a b, env => do
    let (x, env) ← ev a env
    let k ← truW env x
    if k = true then .ok (x, env) else ev b env
  | .cmp op a b, env => do
    let (x, env) ← ev a env
    let (y, env) ← ev b env
    let d ← rdv env x
    let e ← rdv env y
    let k ← R.ofO (cmpD op d e)
    .ok (.va (.bool k) false, env)
  | .chn op op' a b c, env => do
    let (x, env) ← ev a env
    let (y, env) ← ev b env
    let d ← rdv env x
    let e ← rdv env y
    let k ← R.ofO (cmpD op d e)
    if k = true then
      let (z, env) ← ev c env
      let e ← rdv env y
      let g ← rdv env z
      let k ← R.ofO (cmpD op' e g)
      .ok (.va (.bool k) false, env)
    else .ok (.va (.bool false) false, env)
  | .ife c a b, env => do
    let (x, env) ← ev c env
    let k ← truW env x
    if k = true then ev a env else ev b env
  | .call f es, env => do
    let (as, env) ← evG es env
    callAt C f as env
  | .nw _, _ => .stuck
  | .calln f es, env => do
    let (as, env1) ← evN es env
    let (w, env2) ← callAt C f as env1
    .ok (w, env2.take env.length)
  | .blt b es, env => do
    let (ws, env) ← evE es env
    let ds ← rdAll env ws
    let p ← R.ofO (bltD b ds)
    .ok (.va p.1 p.2, env)
  | .isi e t, env => do
    let (x, env) ← ev e env
    let d ← rdv env x
    .ok (.va (.bool (isD t d)) false, env)
  | .sub a b, env => do
    let (x, env) ← ev a env
    let (y, env) ← ev b env
    let d ← rdv env x
    let e ← rdv env y
    let g ← R.ofO (subD d e)
    .ok (.va g false, env)
  | .slc a lo hi, env => do
    let (x, env) ← ev a env
    let (l, env) ← evO lo env
    let (h, env) ← evO hi env
    let d ← rdv env x
    let p ← R.ofO (slcD d l h)
    .ok (.va p.1 p.2, env)
  | .pop i z, env => match env[i]? with
    | some (some (.list xs, k)) => if k = .ow ∨ k = .rf then (match popD z xs with
      | some p => .ok (.va p.1 false, env.set i (some (.list p.2, k)))
      | none => .stuck) else .stuck
    | _ => .stuck
  | .rev a, env => do
    let (x, env) ← ev a env
    let d ← rdv env x
    let p ← R.ofO (revD d)
    .ok (.va p.1 p.2, env)
  | .idx a b, env => do
    let (x, env) ← ev a env
    let d ← rdv env x
    if isD .list d = true then
      let (y, env) ← ev b env
      let d ← rdv env x
      let e ← rdv env y
      let i ← R.ofO (idxD d e)
      .ok (.va (.int i) false, env)
    else .stuck
  | .tup es, env => do
    let (ds, env) ← evA es env
    if ds.length ≤ sizeLine then .ok (.va (.tuple ds) false, env) else .stuck
  | .lst es, env => do
    let (ds, env) ← evA es env
    if ds.length ≤ sizeLine then .ok (.va (.list ds) true, env) else .stuck
  | .dic0, env => .ok (.va (.dict []) true, env)
  | .dic1 a b, env => do
    let (x, env) ← ev a env
    let (k, env) ← fzn env x
    let (y, env) ← ev b env
    let (d, env) ← fzn env y
    if keyB 8 k = true then .ok (.va (.dict [(k, d)]) true, env) else .stuck
  | .get1 a b, env => do
    let (x, env) ← ev a env
    let d ← rdv env x
    if tupDic d = true then
      let (y, env) ← ev b env
      let d ← rdv env x
      let k ← rdv env y
      let g ← R.ofO (getD d k .none)
      .ok (.va g false, env)
    else .stuck
  | .get2 a b c, env => do
    let (x, env) ← ev a env
    let d ← rdv env x
    if tupDic d = true then
      let (y, env) ← ev b env
      let (z, env) ← ev c env
      let (e, env) ← fzn env z
      let d ← rdv env x
      let k ← rdv env y
      let g ← R.ofO (getD d k e)
      .ok (.va g false, env)
    else .stuck
  | .bad, _ => .stuck
  | .isx e c, env => do
    let (x, env) ← ev e env
    let d ← rdv env x
    let k ← R.ofO (excOf d)
    .ok (.va (.bool (subX k c)) false, env)
  | .xtup es, env => do
    let (ds, env) ← evX es env
    if ds.length ≤ sizeLine then .ok (.va (xtD ds) false, env) else .stuck
  | .fld e f, env => do
    let (x, env) ← ev e env
    let d ← rdv env x
    let g ← R.ofO (fldOf f d)
    .ok (.va g false, env)
  | .lc t k src cs e, env => do
    let (ws, env1) ← evE src env
    let ds ← rdAll env1 ws
    let items ← R.ofO (itemsD k ds)
    if (lent env1 ws).any (fun i => t.vars.contains i) = true then .stuck else
    match lcLoop (fun x env => do
        let env ← R.ofO (bindT t x env)
        let (b, env) ← evC cs env
        if b = true then
          let (w, env) ← ev e env
          let (d, env) ← fzn env w
          .ok (some d, wipeE env t.vars)
        else .ok (none, wipeE env t.vars)) items (wipeE (lendE env1 (lent env1 ws)) t.vars) with
    | .ok q => .ok (.va (.list q.1) true, backE env1 (backE (lendE env1 (lent env1 ws)) q.2 t.vars) (lent env1 ws))
    | .exc _ => .stuck
    | .stuck => .stuck
/-- items, each frozen -/
def evA : List ME → Env → RE (List PyData × Env)
  | [], env => .ok ([], env)
  | e :: es, env => do
    let (w, env) ← ev e env
    let (d, env) ← fzn env w
    let (ds, env) ← evA es env
    .ok (d :: ds, env)
/-- .. errors among them -/
def evX : List ME → Env → RE (List PyData × Env)
  | [], env => .ok ([], env)
  | e :: es, env => do
    let (w, env) ← ev e env
    let (d, env) ← fzv env w
    let (ds, env) ← evX es env
    .ok (d :: ds, env)
/-- values to be read -/
def evE : List ME → Env → RE (List EV × Env)
  | [], env => .ok ([], env)
  | e :: es, env => do
    let (w, env) ← ev e env
    let (ws, env) ← evE es env
    .ok (w :: ws, env)
/-- a call's arguments -/
def evG : List ME → Env → RE (List (Sum Nat PyData) × Env)
  | [], env => .ok ([], env)
  | .ref i :: es, env => if ownS env[i]? = true then do
      let (as, env) ← evG es env
      .ok (.inl i :: as, env)
    else .stuck
  | e :: es, env => do
    let (w, env) ← ev e env
    let (d, env) ← fzv env w
    let (as, env) ← evG es env
    .ok (.inr d :: as, env)
/-- as evG; a fresh list by reference stands in a slot of its own behind the others -/
def evN : List ME → Env → RE (List (Sum Nat PyData) × Env)
  | [], env => .ok ([], env)
  | .ref i :: es, env => if ownS env[i]? = true then do
      let (as, env) ← evN es env
      .ok (.inl i :: as, env)
    else .stuck
  | .nw e :: es, env => do
    let (w, env) ← ev e env
    match w with
    | .va d true => do
      let (as, env) ← evN es env
      .ok (.inl env.length :: as, env ++ [some (d, .ow)])
    | _ => .stuck
  | e :: es, env => do
    let (w, env) ← ev e env
    let (d, env) ← fzv env w
    let (as, env) ← evN es env
    .ok (.inr d :: as, env)
def evO : Option ME → Env → RE (Option Int × Env)
  | none, env => .ok (none, env)
  | some e, env => do
    let (w, env) ← ev e env
    match ← rdv env w with
    | .int i => .ok (some i, env)
    | _ => .stuck
/-- tests, all of them -/
def evC : List ME → Env → RE (Bool × Env)
  | [], env => .ok (true, env)
  | e :: es, env => do
    let (w, env) ← ev e env
    let k ← truW env w
    if k = true then evC es env else .ok (false, env)
end
def evT (e : ME) (env : Env) : RE (Bool × Env) := do
  let (w, env) ← ev C G e env
  let k ← truW env w
  .ok (k, env)
def FUEL : Nat := 2 ^ 60
def unlend (env1 : Env) (is : List Nat) : SR → SR
  | .nx env => .nx (backE env1 env is)
  | .rt d fr env => .rt d fr (backE env1 env is)
def unlR (env1 : Env) (is : List Nat) : RE SR → RE SR
  | .ok r => .ok (unlend env1 is r)
  | .exc x => .exc (x.1, backE env1 x.2 is)
  | .stuck => .stuck
/-- an error is caught: its name is bound, the suite done, the name unbound -/
def catchE (i : Option Nat) (k : TK) (x : Exn) (env : Env) : Option Env := match i, k with
  | some i, .keep j => (setS i (excX x) .sh env).bind fun env => (setS j (excX x) .sh env).map fun env => env.set i none
  | some i, .fld j f => (setS i (excX x) .sh env).bind fun env => (fldOf f (excX x)).bind fun d => (setS j d .sh env).map fun env => env.set i none
  | none, .non j => setS j .none .sh env
  | _, _ => none
/-- a slot's own list is changed -/
def mutS (i : Nat) (env : Env) (f : PyData → Option PyData) : RE SR := match env[i]? with
  | some (some (c, .ow)) => (R.ofO (f c)).bind fun c => .ok (.nx (env.set i (some (c, .ow))))
  | some (some (c, .rf)) => (R.ofO (f c)).bind fun c => .ok (.nx (env.set i (some (c, .rf))))
  | _ => .stuck
mutual
def evS : MS → Env → RE SR
  | .nop, env => .ok (.nx env)
  | .set i e, env => do
    let (w, env) ← ev C G e env
    match w with
    | .va d fr => (R.ofO (setS i d (if fr = true then .ow else .sh) env)).bind fun env => .ok (.nx env)
    | .sl j => do
      let (d, env) ← fzv env (.sl j)
      (R.ofO (setS i d .sh env)).bind fun env => .ok (.nx env)
  | .setT ts e, env => do
    let (w, env) ← ev C G e env
    let (d, env) ← fzv env w
    (R.ofO (bindT (.tp ts) d env)).bind fun env => .ok (.nx env)
  | .setI i ix e, env => do
    let (w, env) ← ev C G e env
    let (d, env) ← fzn env w
    if ownS env[i]? = true then
      let (y, env) ← ev C G ix env
      let k ← rdv env y
      mutS i env fun c => setD c k d
    else .stuck
  | .mut i m es, env => if ownL env[i]? = true then do
      let (ds, env) ← evA C G es env
      mutS i env fun c => mutD m c ds
    else .stuck
  | .ext i e, env => if ownL env[i]? = true then do
      let (w, env) ← ev C G e env
      match w with
      | .va (.list ys) true => mutS i env fun c => extD c ys
      | _ => .stuck
    else .stuck
  | .expr e, env => do
    let (_, env) ← ev C G e env
    .ok (.nx env)
  | .ret e, env => do
    let (w, env) ← ev C G e env
    match w with
    | .va d fr => .ok (.rt d fr env)
    | .sl i => match env[i]? with
      | some (some (d, .ow)) => .ok (.rt d true (env.set i none))
      | _ => .stuck
  | .retN, env => .ok (.rt .none false env)
  | .ite c a b, env => do
    let (k, env) ← evT C G c env
    if k = true then evSs a env else evSs b env
  | .forr t k src body, env => do
    let (ws, env1) ← evE C G src env
    let ds ← rdAll env1 ws
    let items ← R.ofO (itemsD k ds)
    unlR env1 (lent env1 ws) (forLoop (fun x env => do
        let env ← R.ofO (bindT t x env)
        evSs body env) items (lendE env1 (lent env1 ws)))
  | .whl c body, env => whLoop (fun env => evT C G c env) (fun env => evSs body env) FUEL env
  | .rais c fs es, env => do
    let (ds, env) ← evA C G es env
    .exc (⟨c, fs.zip ds⟩, env)
  | .tryx body c i k, env => match evSs body env with
    | .exc x => if subX x.1.c (some c) = true then (R.ofO (catchE i k x.1 x.2)).bind fun env => .ok (.nx env) else .exc x
    | .ok r => .ok r
    | .stuck => .stuck
  | .bad, _ => .stuck
def evSs : List MS → Env → RE SR
  | [], env => .ok (.nx env)
  | s :: r, env => match evS s env with
    | .ok (.nx env) => evSs r env
    | .ok (.rt d fr env) => .ok (.rt d fr env)
    | .exc e => .exc e
    | .stuck => .stuck
end
end
/-- a def: which parameters are by reference, how many slots, the body -/
structure MFn where
  refs : List Bool
  nsl : Nat
  body : List MS
def slotOf : Arg → Option Slot
  | .v d => some (d, .sh)
  | .r d => some (d, .rf)
def isR : Arg → Bool
  | .v _ => false
  | .r _ => true
def startE (n : Nat) (args : List Arg) : Env := args.map slotOf ++ List.replicate (n - args.length) none
def rfs : List Bool → Env → Option (List PyData)
  | [], _ => some []
  | false :: r, _ :: env => rfs r env
  | true :: r, some (d, .rf) :: env => (rfs r env).map (d :: ·)
  | _, _ => none
def retOf (refs : List Bool) : RE SR → R Exn Ret
  | .ok (.nx env) => (R.ofO (rfs refs env)).bind fun ds => .ok ⟨.none, false, ds⟩
  | .ok (.rt d fr env) => (R.ofO (rfs refs env)).bind fun ds => .ok ⟨d, fr, ds⟩
  | .exc (x, _) => .exc x
  | .stuck => .stuck
def callF (F : List MFn) (G : List PyData) : Nat → CallT
  | 0, _, _ => .stuck
  | k + 1, f, args => match F[f]? with
    | none => .stuck
    | some fn => if args.map isR = fn.refs ∧ args.length ≤ fn.nsl then retOf fn.refs (evSs (callF F G k) G fn.body (startE fn.nsl args)) else .stuck
end M
/-! M, second part: from the statement's own syntax to the small one. -/
namespace M
open PySem L2
/-- the names of a text: its defs (with their parameters by reference), its constants, its error classes -/
structure Nm where
  fns : List (Str × List Bool)
  gls : List Str
  cls : List (Str × Bool)
  xs : List Str
def ixOf (x : Str) : List Str → Option Nat
  | [] => none
  | y :: r => if y = x then some 0 else (ixOf x r).map (· + 1)
theorem ixOf_get : ∀ {x : Str} {l : List Str} {i : Nat}, ixOf x l = some i → l[i]? = some x
  | x, y :: r, i, h => by
    unfold ixOf at h
    split at h
    · rename_i e
      cases h
      rw [e]
      rfl
    · cases q : ixOf x r with
      | none => rw [q] at h; cases h
      | some j =>
        rw [q] at h
        cases h
        show r[j]? = some x
        exact ixOf_get q
def mapO {α β : Type} (f : α → Option β) : List α → Option (List β)
  | [] => some []
  | x :: r => (f x).bind fun y => (mapO f r).bind fun ys => some (y :: ys)
def visB (sc : Scope) (x : Str) : Bool := match sc.names.lookup x with
  | some .local | some .cell | some .free => true
  | _ => false
def glB (sc : Scope) (x : Str) : Bool := (match sc.names.lookup x with
  | some .globalImplicit => true
  | _ => false) && !(x == ("__debug__" : Str))
/-- may it be stored into here? -/
def stB (rs : Scope) (x : Str) : Bool := match rs.names.lookup x with
  | some .local | some .cell => true
  | _ => false
def okName (x : Str) : Bool := !(x == ("__debug__" : Str)) && !(x == ("__classdict__" : Str))
def cstO : Const → Option PyData
  | .none => some .none
  | .bool b => some (.bool b)
  | .int i => some (.int i)
  | .str x => if (PyData.strOk x && decide (x.length ≤ sizeLine)) = true then some (.str x) else none
  | _ => none
def bltTab : List (Str × Nat × Blt) := [("len", 1, .len), ("abs", 1, .abs), ("sum", 1, .sum), ("all", 1, .all), ("any", 1, .any), ("min", 2, .min2), ("max", 2, .max2), ("list", 1, .lst), ("tuple", 1, .tup), ("int", 1, .int), ("str", 1, .str), ("repr", 1, .repr), ("min", 1, .min1), ("max", 1, .max1), ("dict", 1, .dct)]
def bltO (x : Str) (n : Nat) : Option Blt := (bltTab.find? fun t => decide (t.1 = x) && decide (t.2.1 = n)).map (·.2.2)
theorem bltO_mem {x : Str} {n : Nat} {b : Blt} (h : bltO x n = some b) : (x, n, b) ∈ bltTab := by
  unfold bltO at h
  rw [Option.map_eq_some_iff] at h
  obtain ⟨t, h1, h2⟩ := h
  have hm := List.mem_of_find?_eq_some h1
  have hp := List.find?_some h1
  simp only [Bool.and_eq_true, decide_eq_true_eq] at hp
  obtain ⟨rfl, rfl⟩ := hp
  subst h2
  exact hm
def tyO (x : Str) : Option Ty :=
  if x = "int" then some .int
  else if x = "bool" then some .bool
  else if x = "str" then some .str
  else if x = "tuple" then some .tuple
  else if x = "list" then some .list
  else none
def mutO (x : Str) (n : Nat) : Option Mut :=
  if x = "append" ∧ n = 1 then some .append
  else if x = "clear" ∧ n = 0 then some .clear
  else none
def noCall : Expr → Bool
  | .Call _ [] _ _ => false
  | _ => true
/-- is one of these names among them? -/
def hasX (xs : List Str) (es : List Expr) : Bool := es.any fun e => match e with
  | .Name x _ => decide (x ∈ xs)
  | _ => false
/-- a plain local -/
def locB (rs : Scope) (x : Str) : Bool := match rs.names.lookup x with
  | some .local => true
  | _ => false
section
variable (nm : Nm) (N : List Str)
def cBool (op : BoolOp) : List ME → Option ME
  | [] => none
  | [a] => some a
  | a :: r => (cBool op r).bind fun b => some (match op with | .And => .and a b | .Or => .or a b)
def cTg (rs : Scope) : Nat → Expr → Option MT
  | 0, _ => none
  | n + 1, e => match e with
    | .Name x _ => if (stB rs x && okName x) = true then (ixOf x N).map .nm else none
    | .Tuple es _ _ => (mapO (cTg rs n) es).map .tp
    | _ => none
/-- the names of a target, with their slots -/
def ownOf (t : MT) : List (Str × Nat) := t.vars.filterMap fun i => (N[i]?).map fun x => (x, i)
def isTupE : Expr → Bool
  | .Tuple .. => true
  | _ => false
/-- arguments of a call, those by reference as slots -/
def cArgs (f : Expr → Option ME) : List Bool → List Expr → Option (List ME)
  | [], [] => some []
  | false :: r, e :: es => (f e).bind fun m => (cArgs f r es).bind fun ms => some (m :: ms)
  | true :: r, e :: es => (f e).bind fun m => match m with
    | .var i => (cArgs f r es).bind fun ms => some (.ref i :: ms)
    | _ => none
  | _, _ => none
def isRefN : ME → Bool
  | .ref _ => true
  | .nw _ => true
  | _ => false
/-- the same, where a list display may stand by reference -/
def cArgsN (f : Expr → Option ME) : List Bool → List Expr → Option (List ME)
  | [], [] => some []
  | false :: r, e :: es => (f e).bind fun m => if isRefN m = true then none else (cArgsN f r es).bind fun ms => some (m :: ms)
  | true :: r, e :: es => (f e).bind fun m => match m with
    | .var i => (cArgsN f r es).bind fun ms => some (.ref i :: ms)
    | .lst l => (cArgsN f r es).bind fun ms => some (.nw (.lst l) :: ms)
    | _ => none
  | _, _ => none
def cIter (f : Expr → Option ME) (sc : Scope) (tup : Bool) (e : Expr) : Option (IK × List ME) :=
  match e with
  | .Call (.Name x _) [a] [] _ =>
    if x = "range" then (if glB sc x = true then (f a).map fun m => (.r1, [m]) else none)
    else if x = "enumerate" then (if (glB sc x && tup) = true then (f a).map fun m => (.en, [m]) else none)
    else (f e).map fun m => (.ex, [m])
  | .Call (.Name x _) [a, b] [] _ =>
    if x = "range" then (if glB sc x = true then (f a).bind fun m => (f b).map fun m' => (.r2, [m, m']) else none)
    else if x = "zip" then (if (glB sc x && tup) = true then (f a).bind fun m => (f b).map fun m' => (.zp, [m, m']) else none)
    else (f e).map fun m => (.ex, [m])
  | .Call (.Attribute o x apos) [] [] cpos =>
    if x = "items" ∧ (apos.endLine == cpos.line && (noCall o && tup)) = true then (f o).map fun m => (.it, [m]) else none
  | .Set .. => none
  | e => (f e).map fun m => (.ex, [m])
def cCall (f : Expr → Option ME) (sc : Scope) (x : Str) (args : List Expr) : Option ME :=
  if glB sc x = true then
    if x = "isinstance" then
      match args with
      | [e, .Name y _] => if glB sc y = true then (match tyO y with
        | some t => (f e).map fun m => .isi m t
        | none => if y = "ValueError" then (f e).map fun m => .isx m none else (ixOf y (nm.cls.map (·.1))).bind fun i => (f e).map fun m => .isx m (some i)) else none
      | _ => none
    else if x = "sorted" then
      match args with
      | [.Call (.Name y p) [e] [] q] => if y = "set" then (if glB sc y = true then (f e).map fun m => .blt .sset [m] else none) else (f (.Call (.Name y p) [e] [] q)).map fun m => .blt .srt [m]
      | [e] => (f e).map fun m => .blt .srt [m]
      | _ => none
    else if x = "dict" then
      match args with
      | [.Call (.Name y p) [a, b] [] q] => if y = "zip" then (if glB sc y = true then (f a).bind fun m => (f b).map fun m' => .blt .dzip [m, m'] else none) else (f (.Call (.Name y p) [a, b] [] q)).map fun m => .blt .dct [m]
      | [e] => (f e).map fun m => .blt .dct [m]
      | _ => none
    else match bltO x args.length with
      | some b => (mapO f args).map fun ms => .blt b ms
      | none => (ixOf x (nm.fns.map (·.1))).bind fun i => (nm.fns[i]?).bind fun p => match cArgs f p.2 args with | some ms => some (.call i ms) | none => (cArgsN f p.2 args).map fun ms => .calln i ms
  else none
def cE : Nat → Scope → Expr → Option ME
  | 0, _, _ => none
  | n + 1, sc, e => match e with
    | .Name x _ => if okName x = true then (if visB sc x = true then (ixOf x N).map .var else if glB sc x = true then (ixOf x nm.gls).map .glo else none) else none
    | .Constant c _ _ => (cstO c).map .cst
    | .BinOp a op b _ => (cE n sc a).bind fun a' => (cE n sc b).map fun b' => .bin op a' b'
    | .UnaryOp .Not a _ => (cE n sc a).map .not
    | .UnaryOp .USub a _ => (cE n sc a).map .neg
    | .BoolOp op es _ => (mapO (cE n sc) es).bind (cBool op)
    | .Compare a [op] [b] _ => if behindInMarks op b = false then (cE n sc a).bind fun a' => (cE n sc b).map fun b' => .cmp op a' b' else none
    | .Compare a [op, op'] [b, c] _ => if behindInMarks op' c = false then (cE n sc a).bind fun a' => (cE n sc b).bind fun b' => (cE n sc c).map fun c' => .chn op op' a' b' c' else none
    | .IfExp c a b _ => (cE n sc c).bind fun c' => (cE n sc a).bind fun a' => (cE n sc b).map fun b' => .ife c' a' b'
    | .Call (.Name x _) args [] _ => cCall nm (cE n sc) sc x args
    | .Call (.Attribute o name apos) [e] [] cpos => if (apos.endLine == cpos.line) = true ∧ noCall o = true then
        (if name = "index" then (cE n sc o).bind fun a' => (cE n sc e).map fun b' => .idx a' b'
        else if name = "get" then (cE n sc o).bind fun a' => (cE n sc e).map fun b' => .get1 a' b'
        else if name = "pop" then (match o, e with
          | .Name x p, .Constant (.int 0) _ _ => (cE n sc (.Name x p)).bind fun a' => (match a' with
            | .var i => some (.pop i true)
            | _ => none)
          | _, _ => none)
        else none) else none
    | .Call (.Attribute (.Name x p) name apos) [] [] cpos => if (apos.endLine == cpos.line) = true ∧ name = "pop" then
        (cE n sc (.Name x p)).bind fun a' => (match a' with
            | .var i => some (.pop i false)
            | _ => none)
        else none
    | .Call (.Attribute o name apos) [e, f] [] cpos => if (apos.endLine == cpos.line) = true ∧ noCall o = true then
        (if name = "get" then (cE n sc o).bind fun a' => (cE n sc e).bind fun b' => (cE n sc f).map fun c' => .get2 a' b' c'
        else none) else none
    | .Dict [] [] _ => some .dic0
    | .Dict [some a] [b] _ => (cE n sc a).bind fun a' => (cE n sc b).map fun b' => .dic1 a' b'
    | .Subscript a (.Slice none none (some (.UnaryOp .USub (.Constant (.int 1) _ _) _)) _) _ => (cE n sc a).map .rev
    | .Subscript a (.Slice lo hi none _) _ => (cE n sc a).bind fun a' =>
        match lo, hi with
        | none, none => some (.slc a' none none)
        | some l, none => (cE n sc l).map fun l' => .slc a' (some l') none
        | none, some h => (cE n sc h).map fun h' => .slc a' none (some h')
        | some l, some h => (cE n sc l).bind fun l' => (cE n sc h).map fun h' => .slc a' (some l') (some h')
    | .Subscript a b _ => (cE n sc a).bind fun a' => (cE n sc b).map fun b' => .sub a' b'
    | .Tuple es _ _ => (mapO (cE n sc) es).map fun ms => if hasX nm.xs es = true then .xtup ms else .tup ms
    | .List es _ => (mapO (cE n sc) es).map .lst
    | .ListComp elt [⟨tg, iter, ifs, 0⟩] scope _ => (cTg N scope n tg).bind fun t =>
        if (blkC N sc scope (ownOf N t) && decide (ifs.length ≤ 1)) = true then
          (cIter (cE n sc) sc (isTupE tg) iter).bind fun ki => (mapO (cE n (relS scope sc)) ifs).bind fun cs => (cE n (relS scope sc) elt).map fun m => .lc t ki.1 ki.2 cs m
        else none
    | _ => none
/-- statements; sc is the def's scope -/
def cS (sc : Scope) : Nat → Stmt → Option MS
  | 0, _ => none
  | n + 1, st => match st with
    | .Pass _ => some .nop
    | .Assign [.Name x p] e pos => (cTg N sc n (.Name x p)).bind fun t => match t with
      | .nm i => (cE nm N n sc e).map fun m => .set i m
      | _ => none
    | .Assign [.Tuple ts k p] e pos => if isTupE e = true then none else (cTg N sc n (.Tuple ts k p)).bind fun t => match t with
      | .tp ts' => (cE nm N n sc e).map fun m => .setT ts' m
      | _ => none
    | .Assign [.Subscript (.Name x p) ix _] e pos => (cE nm N n sc (.Name x p)).bind fun a => match a with
      | .var i => (cE nm N n sc ix).bind fun m => (cE nm N n sc e).map fun m' => .setI i m m'
      | _ => none
    | .Expr (.Call (.Attribute (.Name x p) m apos) es [] cpos) _ => if (apos.endLine == cpos.line && decide (es.length < 30)) = true then (cE nm N n sc (.Name x p)).bind fun a => match a with
      | .var i => if m = "extend" then (match es with
          | [e] => (cE nm N n sc e).map fun e' => .ext i e'
          | _ => none)
        else (mutO m es.length).bind fun u => (mapO (cE nm N n sc) es).map fun ms => .mut i u ms
      | _ => none
      else none
    | .Expr (.Constant (.str _) _ _) _ => some .nop
    | .Expr (.Call (.Name x p) es [] q) _ => (cE nm N n sc (.Call (.Name x p) es [] q)).map .expr
    | .Return (some e) _ => (cE nm N n sc e).map .ret
    | .Return none _ => some .retN
    | .If c a b _ => (cE nm N n sc c).bind fun c' => (mapO (fun s => some ((cS sc n s).getD .bad)) a).bind fun a' => (mapO (fun s => some ((cS sc n s).getD .bad)) b).map fun b' => .ite c' a' b'
    | .For tg iter body [] _ => (cTg N sc n tg).bind fun t => (cIter (cE nm N n sc) sc (isTupE tg) iter).bind fun ki => (mapO (fun s => some ((cS sc n s).getD .bad)) body).map fun b => .forr t ki.1 ki.2 b
    | .While c body [] _ => (cE nm N n sc c).bind fun c' => (mapO (fun s => some ((cS sc n s).getD .bad)) body).map fun b => .whl c' b
    | .Raise (some (.Call (.Name x _) [.Constant (.str _) _ _] [] _)) none _ => if glB sc x = true then (ixOf x (nm.cls.map (·.1))).bind fun i => (nm.cls[i]?).bind fun p => if p.2 = false then some (.rais i [] []) else none else none
    | .Try body [.ExceptHandler (some (.Name x _)) (some n1) [.Assign [.Name y _] (.Name n2 _) _] _] [] [] _ =>
      if (glB sc x && (locB sc n1 && (locB sc y && (okName x && (okName y && (okName n1 && decide (n1 = n2))))))) = true then
        (ixOf x (nm.cls.map (·.1))).bind fun c => (ixOf n1 N).bind fun i => (ixOf y N).bind fun j => (mapO (fun s => some ((cS sc n s).getD .bad)) body).map fun b => .tryx b c (some i) (.keep j)
      else none
    | .Try body [.ExceptHandler (some (.Name x _)) none [.Assign [.Name y _] (.Constant .none _ _) _] _] [] [] _ =>
      if (glB sc x && (locB sc y && (okName x && okName y))) = true then
        (ixOf x (nm.cls.map (·.1))).bind fun c => (ixOf y N).bind fun j => (mapO (fun s => some ((cS sc n s).getD .bad)) body).map fun b => .tryx b c none (.non j)
      else none
    | _ => none
/-- .. or nothing that is known -/
def cB (sc : Scope) (n : Nat) (st : Stmt) : Option MS := some ((cS nm N sc n st).getD .bad)
end
end M
/-! M, third part: what the abstract heap says of data; slots; steps. -/
namespace M
open PySem L2
abbrev St := List (Option V)
/-- what is fixed through a text: the written part, its tables, where its error classes stand -/
structure Wd where
  K : PySem.W.Frag
  DK : Addr → List (PyData × PyData) → Prop
  ca : Nat → Addr
  nc : Nat
  w : World
  dn : ∀ a kvs, DK a kvs → tupK kvs = false
  ds : ∀ a kvs, DK a kvs → spK kvs = false
/-- a list, a tuple that nobody changes: tracked outside Av, or written -/
def LsA (K : PySem.W.Frag) (H : Hp) (Av : Addr → Prop) (a : Addr) (xs : List V) : Prop :=
  (¬ Av a ∧ Rd H a (.lst xs)) ∨ ∃ (o : Obj) (its : Array Value) (n : Nat), K.lookup a = some o ∧ o.cls = .type "list" ∧ o.dict = none ∧ o.data = .seq its n ∧ its.size ≤ sizeLine ∧ Vals xs its.toList
def TpA (K : PySem.W.Frag) (H : Hp) (Av : Addr → Prop) (a : Addr) (xs : List V) : Prop :=
  (¬ Av a ∧ Rd H a (.tup xs)) ∨ ∃ (o : Obj) (its : Array Value) (n : Nat), K.lookup a = some o ∧ o.cls = .type "tuple" ∧ o.data = .seq its n ∧ its.size ≤ sizeLine ∧ Vals xs its.toList
theorem LsA.sq {K : PySem.W.Frag} {H : Hp} {Av : Addr → Prop} {a : Addr} {xs : List V} (h : LsA K H Av a xs) : SqL K H a xs := h.elim (fun x => .inl x.2) .inr
theorem TpA.sq {K : PySem.W.Frag} {H : Hp} {Av : Addr → Prop} {a : Addr} {xs : List V} (h : TpA K H Av a xs) : SqT K H a xs := h.elim (fun x => .inl x.2) .inr
theorem rd_some {H : Hp} {a : Addr} {u : HO} (h : Rd H a u) : H a ≠ none := by
  rcases h with h | ⟨o, h⟩ <;> (rw [h]; simp)
theorem rd_kept {H H' : Hp} {a : Addr} {u : HO} (h : Rd H a u) (k : ∀ o, H a = some o → H' a = some o) : Rd H' a u := by
  rcases h with h | ⟨o, h⟩
  · exact .inl (k _ h)
  · exact .inr ⟨o, k _ h⟩
/-- from H and Av to H' and Av': what is not in Av and stands stays, and does not come into Av' -/
structure Tr (H H' : Hp) (Av Av' : Addr → Prop) : Prop where
  keep : ∀ a o, ¬ Av a → H a = some o → H' a = some o
  out : ∀ a, ¬ Av a → H a ≠ none → ¬ Av' a
theorem LsA.tr {K : PySem.W.Frag} {H H' : Hp} {Av Av' : Addr → Prop} {a : Addr} {xs : List V} (t : Tr H H' Av Av') (h : LsA K H Av a xs) : LsA K H' Av' a xs :=
  h.elim (fun x => .inl ⟨t.out a x.1 (rd_some x.2), rd_kept x.2 fun o e => t.keep a o x.1 e⟩) .inr
theorem TpA.tr {K : PySem.W.Frag} {H H' : Hp} {Av Av' : Addr → Prop} {a : Addr} {xs : List V} (t : Tr H H' Av Av') (h : TpA K H Av a xs) : TpA K H' Av' a xs :=
  h.elim (fun x => .inl ⟨t.out a x.1 (rd_some x.2), rd_kept x.2 fun o e => t.keep a o x.1 e⟩) .inr
/-! ### data and values -/
mutual
/-- a key, as the library has it -/
def nkD : PyData → NestedKey
  | .none => .none
  | .bool _ => .none
  | .int i => .num i
  | .str x => .text x
  | .tuple ds => .tup (nkDs ds)
  | .list _ => .none
  | .dict _ => .none
def nkDs : List PyData → List NestedKey
  | [] => []
  | d :: ds => nkD d :: nkDs ds
end
/-- the dict at a has these entries -/
def DicO (a : Addr) (es : List DictEntry) (ep : Nat) : HO := .ext fun h => h.DictRaw a es.toArray ep
/-- what is true of a dict's keys -/
structure DicG (a : Addr) (kvs : List (PyData × PyData)) : Prop where
  sm : (a == sysModules) = false
  len : kvs.length ≤ sizeLine
  key : ∀ p ∈ kvs, keyB 8 p.1 = true
  one : (∀ p ∈ kvs, isTup p.1 = true) ∨ ∀ p ∈ kvs, isTup p.1 = false
  nd : (kvs.map fun p => nkD p.1).Nodup
theorem DicG.nsp {a : Addr} {kvs : List (PyData × PyData)} (g : DicG a kvs) : spK kvs = false := by
  match kvs, g.key with
  | [], _ => rfl
  | (k, z) :: r, h =>
    have := h _ List.mem_cons_self
    cases k <;> first | rfl | (cases this)
/-- a caught error: its class, the place of its own fields -/
def ExcO (a c : Addr) (d : Option Addr) : HO := .ext fun h => ∃ o vs, h.get? a = some o ∧ o.cls = .ref c ∧ o.dict = d ∧ o.data = .fields vs
mutual
def Rep (W : Wd) (H : Hp) (Av : Addr → Prop) : PyData → V → Prop
  | .none, v => v = .non
  | .bool b, v => v = .bl b
  | .int i, v => v = .int i
  | .str x, v => v = .str x ∧ PyData.strOk x = true ∧ x.length ≤ sizeLine
  | .list ds, v => ∃ a vs, v = .ref a ∧ LsA W.K H Av a vs ∧ vs.length ≤ sizeLine ∧ RepAll W H Av ds vs
  | .tuple ds, v => ∃ a vs, v = .ref a ∧ TpA W.K H Av a vs ∧ vs.length ≤ sizeLine ∧ RepAll W H Av ds vs
  | .dict kvs, v => ∃ a, v = .ref a ∧ (W.DK a kvs ∨ (¬ Av a ∧ ∃ es ep, H a = some (DicO a es ep) ∧ DicG a kvs ∧ EntAll W H Av kvs es) ∨
      (¬ Av a ∧ ∃ c d, c < W.nc ∧ H a = some (ExcO a (W.ca c) d) ∧ ((d = Option.none ∧ kvs = excK c []) ∨ ∃ dx gs, d = some dx ∧ ¬ Av dx ∧ H dx = some (exd dx gs) ∧ kvs.map (·.1) = .none :: gs.map (fun g => PyData.str g.1) ∧ ValAll W H Av kvs (.int (c : Int) :: gs.map (·.2)))) ∨
      (∃ vs, TpA W.K H Av a vs ∧ vs.length ≤ sizeLine ∧ kvs.map (·.1) = .bool true :: vs.map (fun _ => PyData.bool true) ∧ ValAll W H Av kvs (.non :: vs)))
def RepAll (W : Wd) (H : Hp) (Av : Addr → Prop) : List PyData → List V → Prop
  | [], vs => vs = []
  | d :: ds, vs => ∃ v r, vs = v :: r ∧ ndD d ∧ Rep W H Av d v ∧ RepAll W H Av ds r
/-- a dict's entries -/
def EntAll (W : Wd) (H : Hp) (Av : Addr → Prop) : List (PyData × PyData) → List DictEntry → Prop
  | [], es => es = []
  | p :: r, es => ∃ e es', es = e :: es' ∧ EntOne W H Av p e ∧ EntAll W H Av r es'
def EntOne (W : Wd) (H : Hp) (Av : Addr → Prop) : PyData × PyData → DictEntry → Prop
  | (k, d), e => ∃ kv dv, RelV kv e.key ∧ RelV dv e.val ∧ e.hash = (nkD k).hash W.w ∧ ndD d ∧ Rep W H Av k kv ∧ Rep W H Av d dv
/-- the values alone -/
def ValAll (W : Wd) (H : Hp) (Av : Addr → Prop) : List (PyData × PyData) → List V → Prop
  | [], vs => vs = []
  | p :: r, vs => ∃ v vs', vs = v :: vs' ∧ ValOne W H Av p v ∧ ValAll W H Av r vs'
def ValOne (W : Wd) (H : Hp) (Av : Addr → Prop) : PyData × PyData → V → Prop
  | (_, d), v => Rep W H Av d v
/-- no table -/
def ndD : PyData → Prop
  | .dict _ => False
  | _ => True
end
section
variable {W : Wd} {H H' : Hp} {Av Av' : Addr → Prop}
mutual
theorem Rep.tr (t : Tr H H' Av Av') : ∀ {d : PyData} {v : V}, Rep W H Av d v → Rep W H' Av' d v
  | .none, _, h => by simpa only [Rep] using h
  | .bool _, _, h => by simpa only [Rep] using h
  | .int _, _, h => by simpa only [Rep] using h
  | .str _, _, h => by simpa only [Rep] using h
  | .list ds, _, h => by
    simp only [Rep] at h ⊢
    obtain ⟨a, vs, e, l, z, r⟩ := h
    exact ⟨a, vs, e, l.tr t, z, RepAll.tr t r⟩
  | .tuple ds, _, h => by
    simp only [Rep] at h ⊢
    obtain ⟨a, vs, e, l, z, r⟩ := h
    exact ⟨a, vs, e, l.tr t, z, RepAll.tr t r⟩
  | .dict kvs, _, h => by
    simp only [Rep] at h ⊢
    obtain ⟨a, e, h | ⟨n, es, ep, ha, g, l⟩ | ⟨n, c, d, hc, ha, h⟩ | ⟨vs, h1, h2, h3, h4⟩⟩ := h
    · exact ⟨a, e, .inl h⟩
    · exact ⟨a, e, .inr (.inl ⟨t.out a n (by rw [ha]; simp), es, ep, t.keep a _ n ha, g, EntAll.tr t l⟩)⟩
    · refine ⟨a, e, .inr (.inr (.inl ⟨t.out a n (by rw [ha]; simp), c, d, hc, t.keep a _ n ha, ?_⟩))⟩
      rcases h with h | ⟨dx, gs, e1, n1, e2, e3, l⟩
      · exact .inl h
      · exact .inr ⟨dx, gs, e1, t.out dx n1 (by rw [e2]; simp), t.keep dx _ n1 e2, e3, ValAll.tr t l⟩
    · exact ⟨a, e, .inr (.inr (.inr ⟨vs, h1.tr t, h2, h3, ValAll.tr t h4⟩))⟩
theorem RepAll.tr (t : Tr H H' Av Av') : ∀ {ds : List PyData} {vs : List V}, RepAll W H Av ds vs → RepAll W H' Av' ds vs
  | [], _, h => by simpa only [RepAll] using h
  | d :: ds, _, h => by
    simp only [RepAll] at h ⊢
    obtain ⟨v, r, e, n, h1, h2⟩ := h
    exact ⟨v, r, e, n, Rep.tr t h1, RepAll.tr t h2⟩
theorem EntAll.tr (t : Tr H H' Av Av') : ∀ {kvs : List (PyData × PyData)} {es : List DictEntry}, EntAll W H Av kvs es → EntAll W H' Av' kvs es
  | [], _, h => by simpa only [EntAll] using h
  | p :: r, _, h => by
    simp only [EntAll] at h ⊢
    obtain ⟨e, es', q, h1, h2⟩ := h
    exact ⟨e, es', q, EntOne.tr t h1, EntAll.tr t h2⟩
theorem EntOne.tr (t : Tr H H' Av Av') : ∀ {p : PyData × PyData} {e : DictEntry}, EntOne W H Av p e → EntOne W H' Av' p e
  | (k, d), _, h => by
    simp only [EntOne] at h ⊢
    obtain ⟨kv, dv, h1, h2, h3, h4, h5, h6⟩ := h
    exact ⟨kv, dv, h1, h2, h3, h4, Rep.tr t h5, Rep.tr t h6⟩
theorem ValAll.tr (t : Tr H H' Av Av') : ∀ {kvs : List (PyData × PyData)} {vs : List V}, ValAll W H Av kvs vs → ValAll W H' Av' kvs vs
  | [], _, h => by simpa only [ValAll] using h
  | p :: r, _, h => by
    simp only [ValAll] at h ⊢
    obtain ⟨v, vs, q, h1, h2⟩ := h
    exact ⟨v, vs, q, ValOne.tr t h1, ValAll.tr t h2⟩
theorem ValOne.tr (t : Tr H H' Av Av') : ∀ {p : PyData × PyData} {v : V}, ValOne W H Av p v → ValOne W H' Av' p v
  | (k, d), _, h => by
    simp only [ValOne] at h ⊢
    exact Rep.tr t h
end
/-- an error's fields, as they lie -/
def ExF (W : Wd) (H : Hp) (A : Addr → Prop) (kvs : List (PyData × PyData)) (c : Nat) (d : Option Addr) : Prop :=
  (d = none ∧ kvs = excK c []) ∨ ∃ dx gs, d = some dx ∧ ¬ A dx ∧ H dx = some (exd dx gs) ∧ kvs.map (·.1) = .none :: gs.map (fun g => PyData.str g.1) ∧ ValAll W H A kvs (.int (c : Int) :: gs.map (·.2))
theorem ExF.tr (t : Tr H H' Av Av') {kvs : List (PyData × PyData)} {c : Nat} {d : Option Addr} (h : ExF W H Av kvs c d) : ExF W H' Av' kvs c d := by
  rcases h with h | ⟨dx, gs, e1, n1, e2, e3, l⟩
  · exact .inl h
  · exact .inr ⟨dx, gs, e1, t.out dx n1 (by rw [e2]; simp), t.keep dx _ n1 e2, e3, ValAll.tr t l⟩
theorem RepAll.length : ∀ {ds : List PyData} {vs : List V}, RepAll W H Av ds vs → vs.length = ds.length
  | [], _, h => by simp only [RepAll] at h; rw [h]; rfl
  | d :: ds, _, h => by
    simp only [RepAll] at h
    obtain ⟨v, r, e, _, _, h2⟩ := h
    rw [e, List.length_cons, List.length_cons, RepAll.length h2]
theorem RepAll.get : ∀ {ds : List PyData} {vs : List V} {i : Nat} {d : PyData}, RepAll W H Av ds vs → ds[i]? = some d → ∃ v, vs[i]? = some v ∧ ndD d ∧ Rep W H Av d v
  | d :: ds, _, 0, x, h, e => by
    simp only [RepAll] at h
    obtain ⟨v, r, rfl, n, h1, _⟩ := h
    cases Option.some.inj e
    exact ⟨v, rfl, n, h1⟩
  | d :: ds, _, i + 1, x, h, e => by
    simp only [RepAll] at h
    obtain ⟨v, r, rfl, _, _, h2⟩ := h
    exact RepAll.get (i := i) h2 e
  | [], _, _, _, _, e => by simp at e
theorem RepAll.getV : ∀ {ds : List PyData} {vs : List V} {i : Nat} {v : V}, RepAll W H Av ds vs → vs[i]? = some v → ∃ d, ds[i]? = some d ∧ ndD d ∧ Rep W H Av d v
  | d :: ds, _, 0, x, h, e => by
    simp only [RepAll] at h
    obtain ⟨v, r, rfl, n, h1, _⟩ := h
    cases Option.some.inj e
    exact ⟨d, rfl, n, h1⟩
  | d :: ds, _, i + 1, x, h, e => by
    simp only [RepAll] at h
    obtain ⟨v, r, rfl, _, _, h2⟩ := h
    exact RepAll.getV (i := i) h2 e
  | [], _, _, _, h, e => by
    simp only [RepAll] at h
    rw [h] at e
    simp at e
theorem RepAll.append : ∀ {ds es : List PyData} {vs ws : List V}, RepAll W H Av ds vs → RepAll W H Av es ws → RepAll W H Av (ds ++ es) (vs ++ ws)
  | [], _, _, _, h, h2 => by
    simp only [RepAll] at h
    rw [h]
    exact h2
  | d :: ds, es, _, ws, h, h2 => by
    simp only [RepAll] at h
    obtain ⟨v, r, rfl, n, h1, h3⟩ := h
    show RepAll W H Av (d :: (ds ++ es)) (v :: (r ++ ws))
    simp only [RepAll]
    exact ⟨v, r ++ ws, rfl, n, h1, RepAll.append h3 h2⟩
theorem RepAll.drop : ∀ {ds : List PyData} {vs : List V} (n : Nat), RepAll W H Av ds vs → RepAll W H Av (ds.drop n) (vs.drop n)
  | _, _, 0, h => h
  | [], _, n + 1, h => by
    simp only [RepAll] at h
    rw [h]
    simp [RepAll]
  | d :: ds, _, n + 1, h => by
    simp only [RepAll] at h
    obtain ⟨v, r, rfl, _, _, h3⟩ := h
    exact RepAll.drop n h3
theorem RepAll.take : ∀ {ds : List PyData} {vs : List V} (n : Nat), RepAll W H Av ds vs → RepAll W H Av (ds.take n) (vs.take n)
  | _, _, 0, h => by simp [RepAll]
  | [], _, n + 1, h => by
    simp only [RepAll] at h
    rw [h]
    simp [RepAll]
  | d :: ds, _, n + 1, h => by
    simp only [RepAll] at h
    obtain ⟨v, r, rfl, m, h1, h3⟩ := h
    show RepAll W H Av (d :: ds.take n) (v :: r.take n)
    simp only [RepAll]
    exact ⟨v, _, rfl, m, h1, RepAll.take n h3⟩
theorem RepAll.set : ∀ {ds : List PyData} {vs : List V} {d : PyData} {v : V} (j : Nat), RepAll W H Av ds vs → ndD d → Rep W H Av d v → RepAll W H Av (ds.set j d) (vs.set j v)
  | [], _, _, _, _, h, _, _ => by
    simp only [RepAll] at h
    rw [h]
    simp [RepAll]
  | d :: ds, _, _, _, 0, h, n, h0 => by
    simp only [RepAll] at h
    obtain ⟨v, r, rfl, m, h1, h3⟩ := h
    simp only [List.set_cons_zero, RepAll]
    exact ⟨_, _, rfl, n, h0, h3⟩
  | d :: ds, _, _, _, j + 1, h, n, h0 => by
    simp only [RepAll] at h
    obtain ⟨v, r, rfl, m, h1, h3⟩ := h
    simp only [List.set_cons_succ, RepAll]
    exact ⟨_, _, rfl, m, h1, RepAll.set j h3 n h0⟩
theorem RepAll.one {d : PyData} {v : V} (n : ndD d) (h : Rep W H Av d v) : RepAll W H Av [d] [v] := by
  simp only [RepAll]
  exact ⟨v, [], rfl, n, h, rfl⟩
theorem RepAll.cons {d : PyData} {v : V} {ds : List PyData} {vs : List V} (n : ndD d) (h : Rep W H Av d v) (h2 : RepAll W H Av ds vs) : RepAll W H Av (d :: ds) (v :: vs) := by
  simp only [RepAll]
  exact ⟨v, vs, rfl, n, h, h2⟩
end
/-- a list of one's own: nobody else holds it -/
def OwnAt (W : Wd) (H : Hp) (Av : Addr → Prop) : PyData → Addr → Prop
  | .list ds, a => ∃ vs, H a = some (.lst vs) ∧ vs.length ≤ sizeLine ∧ RepAll W H Av ds vs
  | .dict kvs, a => ∃ es ep, H a = some (DicO a es ep) ∧ DicG a kvs ∧ EntAll W H Av kvs es
  | _, _ => False
theorem OwnAt.tr {W : Wd} {H H' : Hp} {Av Av' : Addr → Prop} (t : Tr H H' Av Av') {d : PyData} {a : Addr} (h : OwnAt W H Av d a) (k : ∀ o, H a = some o → H' a = some o) : OwnAt W H' Av' d a := by
  cases d with
  | list ds =>
    obtain ⟨vs, e, z, r⟩ := h
    exact ⟨vs, k _ e, z, r.tr t⟩
  | dict kvs =>
    obtain ⟨es, ep, e, g, l⟩ := h
    exact ⟨es, ep, k _ e, g, l.tr t⟩
  | _ => exact h
theorem OwnAt.some {W : Wd} {H : Hp} {Av : Addr → Prop} {d : PyData} {a : Addr} (h : OwnAt W H Av d a) : H a ≠ none := by
  cases d with
  | list ds =>
    obtain ⟨vs, e, _⟩ := h
    rw [e]
    simp
  | dict kvs =>
    obtain ⟨es, ep, e, _⟩ := h
    rw [e]
    simp
  | _ => exact False.elim h
/-- what may be read -/
def Rb (W : Wd) (H : Hp) (Av : Addr → Prop) (d : PyData) (v : V) : Prop := Rep W H Av d v ∨ ∃ a, v = .ref a ∧ OwnAt W H Av d a
/-! ### slots -/
def Owns (env : Env) (σ : St) (i : Nat) (a : Addr) : Prop := ∃ d k, env[i]? = some (some (d, k)) ∧ k ≠ Own.sh ∧ σ[i]? = some (some (.ref a))
def Ownd (env : Env) (σ : St) (a : Addr) : Prop := ∃ i, Owns env σ i a
def Av (T : Addr → Prop) (env : Env) (σ : St) : Addr → Prop := fun a => T a ∨ Ownd env σ a
def SlotOk (W : Wd) (H : Hp) (A : Addr → Prop) (d : PyData) (k : Own) (v : V) : Prop :=
  match k with
  | .sh => Rep W H A d v
  | _ => ∃ a, v = .ref a ∧ OwnAt W H A d a
structure Rel (W : Wd) (T : Addr → Prop) (env : Env) (σ : St) (H : Hp) : Prop where
  len : env.length = σ.length
  slot : ∀ (i : Nat) (d : PyData) (k : Own), env[i]? = some (some (d, k)) → ∃ v, σ[i]? = some (some v) ∧ SlotOk W H (Av T env σ) d k v
  inj : ∀ (i j : Nat) (a : Addr), Owns env σ i a → Owns env σ j a → i = j
  prot : ∀ (a : Addr), T a → ¬ Ownd env σ a ∧ H a ≠ none
/-- by reference, or walked by a loop: stays -/
def Fixd (k : Own) : Prop := k = .rf ∨ k = .ln
structure Step (env : Env) (σ : St) (H : Hp) (env' : Env) (σ' : St) (H' : Hp) : Prop where
  keep : ∀ a o, H a = some o → ¬ Ownd env σ a → H' a = some o
  own : ∀ a, Ownd env' σ' a → Ownd env σ a ∨ H a = none
  dom : ∀ a, H a ≠ none → H' a ≠ none
  fix : ∀ (i : Nat) (d : PyData) (k : Own), Fixd k → env[i]? = some (some (d, k)) → ∃ d', env'[i]? = some (some (d', k)) ∧ σ'[i]? = σ[i]? ∧ (k = .ln → d' = d)
  lnk : ∀ (i : Nat) (d : PyData) (a : Addr) (o : HO), env[i]? = some (some (d, .ln)) → σ[i]? = some (some (.ref a)) → H a = some o → H' a = some o
theorem Step.refl {env : Env} {σ : St} {H : Hp} : Step env σ H env σ H :=
  ⟨fun _ _ e _ => e, fun _ h => .inl h, fun _ h => h, fun i d k _ e => ⟨d, e, rfl, fun _ => rfl⟩, fun _ _ _ _ _ _ e => e⟩
theorem Step.trans {env env1 env2 : Env} {σ σ1 σ2 : St} {H H1 H2 : Hp} (a : Step env σ H env1 σ1 H1) (b : Step env1 σ1 H1 env2 σ2 H2) : Step env σ H env2 σ2 H2 := by
  refine ⟨fun p o e n => ?_, fun p h => ?_, fun p h => b.dom p (a.dom p h), fun i d k hk e => ?_, fun i d p o e es eo => ?_⟩
  · refine b.keep p o (a.keep p o e n) fun q => ?_
    rcases a.own p q with q | q
    · exact n q
    · rw [e] at q; cases q
  · rcases b.own p h with q | q
    · exact a.own p q
    · by_cases z : H p = none
      · exact .inr z
      · exact absurd q (a.dom p z)
  · obtain ⟨d1, e1, s1, l1⟩ := a.fix i d k hk e
    obtain ⟨d2, e2, s2, l2⟩ := b.fix i d1 k hk e1
    exact ⟨d2, e2, s2.trans s1, fun z => (l2 z).trans (l1 z)⟩
  · obtain ⟨d1, e1, s1, l1⟩ := a.fix i d .ln (.inr rfl) e
    exact b.lnk i d1 p o e1 (s1.trans es) (a.lnk i d p o e es eo)
theorem Step.same {env : Env} {σ : St} {H H' : Hp} (s : Same H H') : Step env σ H env σ H' :=
  ⟨fun a o e _ => s a o e, fun _ h => .inl h, fun a h => by
    cases q : H a with
    | none => exact absurd q h
    | some o => rw [s a o q]; simp, fun i d k _ e => ⟨d, e, rfl, fun _ => rfl⟩, fun i d a o _ _ e => s a o e⟩
section
variable {W : Wd} {T T' : Addr → Prop} {env env' : Env} {σ σ' : St} {H H' : Hp}
theorem Step.tr (s : Step env σ H env' σ' H') (hT : ∀ a, T' a → T a ∨ H a = none) : Tr H H' (Av T env σ) (Av T' env' σ') :=
  ⟨fun a o n e => s.keep a o e fun q => n (.inr q), fun a n e q => by
    rcases q with q | q
    · rcases hT a q with z | z
      · exact n (.inl z)
      · exact e z
    · rcases s.own a q with z | z
      · exact n (.inr z)
      · exact e z⟩
theorem Same.tr {A : Addr → Prop} (s : Same H H') : Tr H H' A A := ⟨fun a o _ e => s a o e, fun a n _ => n⟩
/-- with one new place that is kept apart -/
theorem Same.tr1 {A : Addr → Prop} {p : Addr} (s : Same H H') (hp : H p = none) : Tr H H' A (fun b => A b ∨ b = p) := ⟨fun a o _ e => s a o e, fun a n e q => by
  rcases q with q | q
  · exact n q
  · rw [q] at e; exact e hp⟩
theorem SlotOk.tr {A A' : Addr → Prop} (t : Tr H H' A A') {d : PyData} {k : Own} {v : V} (h : SlotOk W H A d k v) (hk : ∀ a, v = .ref a → k ≠ .sh → ∀ o, H a = some o → H' a = some o) : SlotOk W H' A' d k v := by
  cases k with
  | sh => exact Rep.tr (W := W) t h
  | ow =>
    obtain ⟨a, e, o⟩ := h
    exact ⟨a, e, o.tr t (hk a e (by decide))⟩
  | rf =>
    obtain ⟨a, e, o⟩ := h
    exact ⟨a, e, o.tr t (hk a e (by decide))⟩
  | ln =>
    obtain ⟨a, e, o⟩ := h
    exact ⟨a, e, o.tr t (hk a e (by decide))⟩
theorem Rel.same (R : Rel W T env σ H) (s : Same H H') : Rel W T env σ H' :=
  ⟨R.len, fun i d k e => by
    obtain ⟨v, h1, h2⟩ := R.slot i d k e
    exact ⟨v, h1, h2.tr (Same.tr s) fun a _ _ o q => s a o q⟩, R.inj, fun a t => ⟨(R.prot a t).1, (Step.same (env := env) (σ := σ) s).dom a (R.prot a t).2⟩⟩
theorem Rel.av (R : Rel W T env σ H) {a : Addr} (h : Av T env σ a) : H a ≠ none := by
  rcases h with h | ⟨i, d, k, e, hk, es⟩
  · exact (R.prot a h).2
  · obtain ⟨v, h1, h2⟩ := R.slot i d k e
    rw [es] at h1
    have h1 := Option.some.inj (Option.some.inj h1)
    subst h1
    cases k with
    | sh => exact absurd rfl hk
    | ow => obtain ⟨b, eb, o⟩ := h2; cases eb; exact o.some
    | rf => obtain ⟨b, eb, o⟩ := h2; cases eb; exact o.some
    | ln => obtain ⟨b, eb, o⟩ := h2; cases eb; exact o.some
/-- fewer places kept apart -/
theorem Rel.less (R : Rel W T env σ H) (h : ∀ a, T' a → T a) : Rel W T' env σ H :=
  ⟨R.len, fun i d k e => by
    obtain ⟨v, h1, h2⟩ := R.slot i d k e
    refine ⟨v, h1, h2.tr ⟨fun a o _ e => e, fun a n _ q => n (q.elim (fun z => .inl (h a z)) .inr)⟩ fun a _ _ o q => q⟩, R.inj, fun a t => R.prot a (h a t)⟩
/-- a new place kept apart -/
theorem Rel.more (R : Rel W T env σ H) {p : Addr} (s : Same H H') (hp : H p = none) (hp' : H' p ≠ none) : Rel W (fun b => T b ∨ b = p) env σ H' := by
  refine ⟨R.len, fun i d k e => ?_, R.inj, fun a t => ?_⟩
  · obtain ⟨v, h1, h2⟩ := R.slot i d k e
    refine ⟨v, h1, h2.tr ⟨fun a o _ e => s a o e, fun a n e q => ?_⟩ fun a _ _ o q => s a o q⟩
    rcases q with (q | q) | q
    · exact n (.inl q)
    · rw [q] at e; exact e hp
    · exact n (.inr q)
  · rcases t with t | t
    · exact ⟨(R.prot a t).1, (Step.same (env := env) (σ := σ) s).dom a (R.prot a t).2⟩
    · subst t
      exact ⟨fun q => R.av (T := T) (.inr q) hp, hp'⟩
end
/-! ### an expression's value -/
def Tw (T : Addr → Prop) : EV → V → Addr → Prop
  | .va _ true, v => fun a => T a ∨ v = .ref a
  | _, _ => T
def VOk (W : Wd) (T : Addr → Prop) (H0 H : Hp) (env : Env) (σ : St) : EV → V → Prop
  | .va d false, v => Rep W H (Av T env σ) d v
  | .va d true, v => ∃ a, v = .ref a ∧ ¬ T a ∧ H0 a = none ∧ OwnAt W H (fun b => Av T env σ b ∨ b = a) d a
  | .sl i, v => σ[i]? = some (some v)
theorem Tw_sub {T : Addr → Prop} {w : EV} {v : V} {a : Addr} (h : T a) : Tw T w v a := by
  cases w with
  | va d fr => cases fr with
    | false => exact h
    | true => exact .inl h
  | sl i => exact h
end M
/-! M, fourth part: operators and built-ins, by data. -/
namespace M
open PySem L2 PyProof.Rows
/-- the outcome of an operation: shared data, or a new list of one's own -/
def ResV (W : Wd) (H H' : Hp) (A : Addr → Prop) (d : PyData) : Bool → V → Prop
  | false, v => Rep W H' A d v
  | true, v => ∃ a, v = .ref a ∧ H a = none ∧ OwnAt W H' (fun b => A b ∨ b = a) d a
def AvOk (H : Hp) (A : Addr → Prop) : Prop := ∀ a, A a → H a ≠ none
section
variable {W : Wd} {H H' : Hp} {A : Addr → Prop} {d : PyData} {v : V}
theorem Rb.int {i : Int} (h : Rb W H A (.int i) v) : v = .int i := by
  rcases h with h | ⟨a, _, h⟩
  · simpa only [Rep] using h
  · exact False.elim h
theorem Rb.str {x : Str} (h : Rb W H A (.str x) v) : v = .str x ∧ PyData.strOk x = true ∧ x.length ≤ sizeLine := by
  rcases h with h | ⟨a, _, h⟩
  · simpa only [Rep] using h
  · exact False.elim h
theorem Rb.bool {b : Bool} (h : Rb W H A (.bool b) v) : v = .bl b := by
  rcases h with h | ⟨a, _, h⟩
  · simpa only [Rep] using h
  · exact False.elim h
theorem Rb.non (h : Rb W H A .none v) : v = .non := by
  rcases h with h | ⟨a, _, h⟩
  · simpa only [Rep] using h
  · exact False.elim h
theorem Rb.list {ds : List PyData} (h : Rb W H A (.list ds) v) : ∃ a vs, v = .ref a ∧ SqL W.K H a vs ∧ vs.length ≤ sizeLine ∧ RepAll W H A ds vs := by
  rcases h with h | ⟨a, e, h⟩
  · simp only [Rep] at h
    obtain ⟨a, vs, e, l, z, r⟩ := h
    exact ⟨a, vs, e, l.sq, z, r⟩
  · obtain ⟨vs, e2, z, r⟩ := h
    exact ⟨a, vs, e, SqL.of e2, z, r⟩
theorem Rb.tuple {ds : List PyData} (h : Rb W H A (.tuple ds) v) : ∃ a vs, v = .ref a ∧ TpA W.K H A a vs ∧ vs.length ≤ sizeLine ∧ RepAll W H A ds vs := by
  rcases h with h | ⟨a, e, h⟩
  · simpa only [Rep] using h
  · exact False.elim h
theorem spK_exc (c : Nat) (fs : List (Str × PyData)) : spK (excK c fs) = true := rfl
theorem Rep.real {kvs : List (PyData × PyData)} (hs : spK kvs = false) (h : Rep W H A (.dict kvs) v) : ∃ a, v = .ref a ∧ (W.DK a kvs ∨ (¬ A a ∧ ∃ es ep, H a = some (DicO a es ep) ∧ DicG a kvs ∧ EntAll W H A kvs es)) := by
  have no : ∀ {k : PyData} {r : List PyData}, kvs.map (·.1) = k :: r → (k = .none ∨ ∃ b, k = .bool b) → False := fun {k r} h hk => by
    match kvs, h with
    | (k', x) :: r', h =>
      have e : k' = k := (List.cons.inj h).1
      subst e
      rcases hk with rfl | ⟨b, rfl⟩ <;> cases hs
  simp only [Rep] at h
  obtain ⟨a, e, h | h | ⟨_, c, d, _, _, h | ⟨_, _, _, _, _, h, _⟩⟩ | ⟨_, _, _, h, _⟩⟩ := h
  · exact ⟨a, e, .inl h⟩
  · exact ⟨a, e, .inr h⟩
  · rw [h.2, spK_exc] at hs
    cases hs
  · exact (no h (.inl rfl)).elim
  · exact (no h (.inr ⟨true, rfl⟩)).elim
theorem Rb.dict {kvs : List (PyData × PyData)} (hs : spK kvs = false) (h : Rb W H A (.dict kvs) v) : ∃ a, v = .ref a ∧ (W.DK a kvs ∨ ∃ es ep, H a = some (DicO a es ep) ∧ DicG a kvs ∧ EntAll W H A kvs es) := by
  rcases h with h | ⟨a, e, h⟩
  · obtain ⟨a, e, h | ⟨_, h⟩⟩ := h.real hs
    · exact ⟨a, e, .inl h⟩
    · exact ⟨a, e, .inr h⟩
  · exact ⟨a, e, .inr h⟩
/-- it is some object -/
theorem Rb.dictR {kvs : List (PyData × PyData)} (h : Rb W H A (.dict kvs) v) : ∃ a, v = .ref a := by
  rcases h with h | ⟨a, e, h⟩
  · simp only [Rep] at h
    obtain ⟨a, e, _⟩ := h
    exact ⟨a, e⟩
  · exact ⟨a, e⟩
theorem spK_tup {kvs : List (PyData × PyData)} (h : tupK kvs = true) : spK kvs = false := by
  match kvs, h with
  | [], _ => rfl
  | (k, _) :: _, h =>
    unfold tupK at h
    rw [List.all_cons, Bool.and_eq_true] at h
    cases k <;> first | rfl | (exact absurd h.1 (by decide)) | (cases h.1)
theorem spK_in {kvs : List (PyData × PyData)} {k : PyData} (h : keyIn kvs k = true) : spK kvs = false := by
  match kvs, h with
  | [], _ => rfl
  | (k', _) :: _, h =>
    unfold keyIn at h
    rw [List.all_cons, Bool.and_eq_true, Bool.and_eq_true] at h
    obtain ⟨h1, h2, _⟩ := h
    cases k' <;> first | rfl | (cases k <;> first | (cases h1; done) | (cases h2; done))
theorem Rb.tr {A' : Addr → Prop} (t : Tr H H' A A') (h : Rep W H A d v) : Rb W H' A' d v := .inl (Rep.tr t h)
/-! ### as the library's data -/
mutual
theorem Rep.dp : ∀ {d : PyData} {v : V}, ndD d → Rep W H A d v → Dp W.K H v d ∧ d.canLay0 = true
  | .none, _, _, h => by
    simp only [Rep] at h
    subst h
    exact ⟨.non, rfl⟩
  | .bool b, _, _, h => by
    simp only [Rep] at h
    subst h
    exact ⟨.bl b, rfl⟩
  | .int b, _, _, h => by
    simp only [Rep] at h
    subst h
    exact ⟨.int b, rfl⟩
  | .str x, _, _, h => by
    simp only [Rep] at h
    obtain ⟨rfl, h, _⟩ := h
    exact ⟨.str x, by simpa only [PyData.canLay0] using h⟩
  | .list ds, _, _, h => by
    simp only [Rep] at h
    obtain ⟨a, vs, rfl, l, _, r⟩ := h
    obtain ⟨h1, h2⟩ := RepAll.dp r
    exact ⟨.lst l.sq h1, by simpa only [PyData.canLay0] using h2⟩
  | .tuple ds, _, _, h => by
    simp only [Rep] at h
    obtain ⟨a, vs, rfl, l, _, r⟩ := h
    obtain ⟨h1, h2⟩ := RepAll.dp r
    exact ⟨.tup l.sq h1, by simpa only [PyData.canLay0] using h2⟩
  | .dict _, _, n, _ => False.elim (by simpa only [ndD] using n)
theorem RepAll.dp : ∀ {ds : List PyData} {vs : List V}, RepAll W H A ds vs → DpAll W.K H vs ds ∧ PyData.canLayAll0 ds = true
  | [], _, h => by
    simp only [RepAll] at h
    subst h
    exact ⟨.nil, rfl⟩
  | d :: ds, _, h => by
    simp only [RepAll] at h
    obtain ⟨v, r, rfl, n, h1, h2⟩ := h
    obtain ⟨q1, q2⟩ := Rep.dp n h1
    obtain ⟨q3, q4⟩ := RepAll.dp h2
    exact ⟨.cons q1 q3, by simp only [PyData.canLayAll0, q2, q4, Bool.and_self]⟩
end
theorem Rb.dp (n : ndD d) (h : Rb W H A d v) : Dp W.K H v d ∧ d.canLay0 = true := by
  rcases h with h | ⟨a, rfl, h⟩
  · exact Rep.dp n h
  · cases d with
    | list ds =>
      obtain ⟨vs, e2, z, r⟩ := h
      obtain ⟨h1, h2⟩ := RepAll.dp r
      exact ⟨.lst (SqL.of e2) h1, by simpa only [PyData.canLay0] using h2⟩
    | dict kvs => exact False.elim (by simpa only [ndD] using n)
    | _ => exact False.elim h
theorem same_upd {p : Addr} {o : HO} (h : H p = none) : Same H (upd H p o) := fun b x e => by
  rw [upd_ne (ne_of_none e h)]
  exact e
/-- a new tuple -/
theorem new_tup (hA : AvOk H A) {p : Addr} {ds : List PyData} {vs : List V} (hp : H p = none) (hz : vs.length ≤ sizeLine) (r : RepAll W H A ds vs) : Rep W (upd H p (.tup vs)) A (.tuple ds) (.ref p) := by
  simp only [Rep]
  exact ⟨p, vs, rfl, .inl ⟨fun q => hA p q hp, .inl upd_same⟩, hz, r.tr (Same.tr (same_upd hp))⟩
/-- a new list -/
theorem new_lst {p : Addr} {ds : List PyData} {vs : List V} (hp : H p = none) (hz : vs.length ≤ sizeLine) (r : RepAll W H A ds vs) : ResV W H (upd H p (.lst vs)) A (.list ds) true (.ref p) :=
  ⟨p, rfl, hp, vs, upd_same, hz, r.tr (Same.tr1 (same_upd hp) hp)⟩
theorem RepAll.ints : ∀ {ds : List PyData} {vs : List V} {ns : List Int}, RepAll W H A ds vs → intsD ds = some ns → vs = ns.map V.int
  | [], _, _, h, e => by
    simp only [RepAll] at h
    subst h
    cases e
    rfl
  | d :: ds, _, ns, h, e => by
    simp only [RepAll] at h
    obtain ⟨v, r, rfl, n, h1, h2⟩ := h
    cases d with
    | int i =>
      simp only [intsD] at e
      cases q : intsD ds with
      | none => rw [q] at e; cases e
      | some ms =>
        rw [q] at e
        cases e
        simp only [Rep] at h1
        rw [h1, RepAll.ints h2 q]
        rfl
    | _ => simp [intsD] at e
theorem RepAll.bools : ∀ {ds : List PyData} {vs : List V} {ns : List Bool}, RepAll W H A ds vs → boolsD ds = some ns → vs = ns.map V.bl
  | [], _, _, h, e => by
    simp only [RepAll] at h
    subst h
    cases e
    rfl
  | d :: ds, _, ns, h, e => by
    simp only [RepAll] at h
    obtain ⟨v, r, rfl, n, h1, h2⟩ := h
    cases d with
    | bool i =>
      simp only [boolsD] at e
      cases q : boolsD ds with
      | none => rw [q] at e; cases e
      | some ms =>
        rw [q] at e
        cases e
        simp only [Rep] at h1
        rw [h1, RepAll.bools h2 q]
        rfl
    | _ => simp [boolsD] at e
end
section
variable {X : Cx} {W : Wd}
/-! ### list + list, whatever holds them -/
theorem op_catL : OpR X (binaryOp .Add) (fun x y H Q => ∃ l b xs zs, x = .ref l ∧ y = .ref b ∧ SqL X.K H l xs ∧ SqL X.K H b zs ∧ xs.length + zs.length ≤ sizeLine ∧ ∀ p, H p = none → Q (.ref p) (upd H p (.lst (xs ++ zs)))) := by
  intro pins s σ H x y v u Q I rx ry h
  obtain ⟨l, b, xs, zs, rfl, rfl, hH, hB, hz, q⟩ := h
  cases rx
  cases ry
  obtain ⟨its, r, ⟨⟨cls, dd, data, sl⟩, n, ho, hc, hdn, hd⟩, z⟩ := I.list hH
  obtain ⟨its2, r2, ⟨⟨cls2, dd2, data2, sl2⟩, n2, ho2, hc2, hdn2, hd2⟩, z2⟩ := I.list hB
  simp only at hc hd hc2 hd2
  subst hc hd hc2 hd2
  have e : its.toArray ++ its2.toArray = (its ++ its2).toArray := by simp
  have hl := r.length
  have hl2 := r2.length
  refine concat_meets ⟨_, ho, rfl⟩ ⟨_, ho2, rfl⟩ noFill_list_add seq_list_add PySem.F.slot_list_add PySem.F.entry_list_add (PySem.F.args_list_add_2 _ _) (list_addW l b its.toArray its2.toArray n n2 dd dd2 sl sl2 (by simp only [List.size_toArray]; omega)) ⟨ho, ho2, ?_⟩
  rw [e]
  exact ⟨.ref _, _, I.lnew (t' := s.toks) (r.append r2) (by rw [List.length_append]; omega), rfl, q _ I.fresh⟩
/-! ### list * int, whatever holds it -/
theorem mulW (l : Addr) (items : Array Value) (n : Nat) (d : Option Addr) (sl : Array (Option Value)) (x : Int) (u : Tok) (hc0 : ¬(!Builtin.List.listFitsIndex x) = true) (hc1 : ¬items.size * x.toNat > (2 ^ 63 - 1) / 8) (hc2 : ¬Builtin.List.listTooLong (items.size * x.toNat) = true) :
    Meets (Builtin.«list.__mul__» ⟨[.ref l, .int x u], []⟩) (fun _ R s => s.heap.get? l = some { cls := .type "list", dict := d, data := .seq items n, slots := sl } ∧ R (.ok (.ret (Value.ref s.heap.objs.size))) { s with heap := s.heap.push { cls := Value.type "list", data := Data.seq (List.foldl (fun x1 x2 => x1 ++ x2) #[] (List.replicate (if items.isEmpty = true then 0 else x.toNat) items)) }, toks := s.toks }) :=
  .of_wp fun prog w A R s h => by
    obtain ⟨hp, g, d, tk, os⟩ := s; obtain ⟨hl, h⟩ := h
    have hsz := AutoListH.joined_fits hc2
    wp_walk; refine wpAny_ite_false (decide_eq_false (Nat.not_lt.mpr hsz)) ?_; wp_walk; exact ⟨_, rfl, h⟩
theorem rmulW (a : Int) (t : Tok) (l : Addr) (items : Array Value) (n : Nat) (d : Option Addr) (sl : Array (Option Value)) :
    Meets (Builtin.«int.__rmul__» ⟨[.int a t, .ref l], []⟩) (fun _ R s => s.heap.get? l = some { cls := .type "list", dict := d, data := .seq items n, slots := sl } ∧ R (.ok (.ret Value.notImplemented)) s) :=
  .of_wp fun prog w A R s h => by obtain ⟨hp, g, d, tk, os⟩ := s; obtain ⟨hl, h⟩ := h; wp_walk; exact ⟨_, rfl, h⟩
theorem op_repL : OpR X (binaryOp .Mult) (fun x y H Q => ∃ l k xs, x = .ref l ∧ y = .int k ∧ SqL X.K H l xs ∧ -(2 ^ 63) ≤ k ∧ k < 2 ^ 63 ∧ xs.length * k.toNat ≤ sizeLine ∧ ∀ p, H p = none → Q (.ref p) (upd H p (.lst (List.replicate k.toNat xs).flatten))) := by
  intro pins s σ H x y v u Q I rx ry h
  obtain ⟨l, k, xs, rfl, rfl, hH, h1, h2, hz, q⟩ := h
  cases rx
  obtain ⟨t, rfl⟩ := ry
  obtain ⟨its, r, ⟨⟨cls, dd, data, sl⟩, n, e, hc, hdn, hd⟩, z⟩ := I.list hH
  simp only at hc hd
  subst hc hd
  have hl := r.length
  have hlen : its.toArray.size * k.toNat ≤ sizeLine := by rw [List.size_toArray, ← hl]; exact hz
  have hcap : ¬ its.toArray.size * k.toNat > (2 ^ 63 - 1) / 8 := by
    have : (sizeLine : Nat) ≤ (2 ^ 63 - 1) / 8 := by decide
    omega
  have hfit : ¬ (!Builtin.List.listFitsIndex k) = true := by
    rw [fitsIndex_both h1 h2]
    exact Bool.false_ne_true
  have hlong : ¬ Builtin.List.listTooLong (its.toArray.size * k.toNat) = true := by
    rw [notLongL hlen]
    exact Bool.false_ne_true
  have hnew : List.foldl (fun x1 x2 => x1 ++ x2) #[] (List.replicate (if its.toArray.isEmpty = true then 0 else k.toNat) its.toArray) = (List.replicate k.toNat its).flatten.toArray := by
    have f0 : ∀ m : Nat, List.foldl (fun x1 x2 => x1 ++ x2) #[] (List.replicate m its.toArray) = (List.replicate m its).flatten.toArray := fun m => by
      have := foldl_rep its m []
      rw [List.nil_append] at this
      exact this
    rw [f0]
    cases its with
    | nil => simp
    | cons a r' => rw [if_neg (by simp)]
  refine wpAny_binaryOp_repeat_ref (T := "list") (U := "int") (by decide) ⟨_, e, rfl⟩ (fun s' => typeIs_int s' k t) noFill_list_mul PySem.F.fills_int_mul PySem.F.slot_int_rmul repeat_list PySem.F.slot_int_index.lookup
    (call_meets PySem.F.slot_int_rmul (typeIs_int s k t) PySem.F.entry_int_rmul (PySem.F.args_int_rmul_2 _ _) (rmulW k t l its.toArray n dd sl)
      ⟨e, rfl, ⟨_, e, rfl⟩, call_meets PySem.F.slot_list_mul ⟨_, e, rfl⟩ PySem.F.entry_list_mul (PySem.F.args_list_mul_2 _ _) (mulW l its.toArray n dd sl k t hfit hcap hlong) ⟨e, ?_⟩⟩)
  rw [hnew]
  exact ⟨.ref _, _, I.lnew (t' := s.toks) (r.rep k.toNat) (by rw [PyProof.Rows.lm_len_rep_flat, Nat.mul_comm]; exact hz), rfl, q _ I.fresh⟩
theorem RepAll.rep {H : Hp} {A : Addr → Prop} {ds : List PyData} {vs : List V} (h : RepAll W H A ds vs) : ∀ k : Nat, RepAll W H A (List.replicate k ds).flatten (List.replicate k vs).flatten
  | 0 => by simp [RepAll]
  | k + 1 => by
    rw [List.replicate_succ, List.replicate_succ, List.flatten_cons, List.flatten_cons]
    exact h.append (RepAll.rep h k)
def rBin (W : Wd) (op : Operator) : R2 := fun x y H Q => ∃ A d e p, AvOk H A ∧ Rb W H A d x ∧ Rb W H A e y ∧ binD op d e = some p ∧ ∀ v H', Same H H' → ResV W H H' A p.1 p.2 v → Q v H'
theorem strOk_append {x y : Str} (hx : PyData.strOk x = true) (hy : PyData.strOk y = true) : PyData.strOk (x ++ y) = true := by
  unfold PyData.strOk at *
  show (x.cps ++ y.cps).all _ = true
  rw [Array.all_append, hx, hy]
  rfl
theorem str_len_append (x y : Str) : (x ++ y).length = x.length + y.length := by
  show (x.cps ++ y.cps).size = _
  exact Array.size_append
theorem op_bin (hK : W.K = X.K) (op : Operator) : OpR X (binaryOp op) (rBin W op) := by
  intro pins s σ H x y v u Q I rx ry h
  obtain ⟨A, d, e, p, hA, hd, he, hp, q⟩ := h
  have q0 : ∀ (g : PyData) (z : V), p = (g, false) → Rep W H A g z → Q z H := fun g z e r => by
    subst e
    exact q z H (Same.refl H) r
  cases op <;> cases d <;> cases e <;> simp only [binD, reduceCtorEq] at hp
  case Add.int.int i j =>
    cases hp
    exact op_add pins s σ H x y v u Q I rx ry ⟨i, j, hd.int, he.int, q0 _ _ rfl (by simp only [Rep])⟩
  case Add.str.str i j =>
    split at hp
    · rename_i hz
      cases hp
      obtain ⟨e1, s1, l1⟩ := hd.str
      obtain ⟨e2, s2, l2⟩ := he.str
      exact op_add_str pins s σ H x y v u Q I rx ry ⟨i, j, e1, e2, hz, q0 _ _ rfl (by simp only [Rep]; exact ⟨trivial, strOk_append s1 s2, by rw [str_len_append]; exact hz⟩)⟩
    · cases hp
  case Add.list.list ds es =>
    split at hp
    · rename_i hz
      cases hp
      obtain ⟨a, vs, e1, s1, l1, r1⟩ := hd.list
      obtain ⟨b, ws, e2, s2, l2, r2⟩ := he.list
      rw [hK] at s1 s2
      have hl : (vs ++ ws).length ≤ sizeLine := by rw [List.length_append, r1.length, r2.length]; exact hz
      exact op_catL pins s σ H x y v u Q I rx ry ⟨a, b, vs, ws, e1, e2, s1, s2, by rw [List.length_append] at hl; exact hl, fun p hp => q _ _ (same_upd hp) (new_lst hp hl (r1.append r2))⟩
    · cases hp
  case Add.tuple.tuple ds es =>
    split at hp
    · rename_i hz
      cases hp
      obtain ⟨a, vs, e1, s1, l1, r1⟩ := hd.tuple
      obtain ⟨b, ws, e2, s2, l2, r2⟩ := he.tuple
      have t1 := s1.sq
      have t2 := s2.sq
      rw [hK] at t1 t2
      have hl : (vs ++ ws).length ≤ sizeLine := by rw [List.length_append, r1.length, r2.length]; exact hz
      have n1 := r1.length
      have n2 := r2.length
      refine op_catA pins s σ H x y v u Q I rx ry ⟨a, b, vs, ws, e1, e2, t1, t2, by rw [List.length_append] at hl; exact hl, fun z => ?_, fun _ z => ?_, fun _ _ p hp => ?_⟩
      · subst z
        have : ds = [] := List.length_eq_zero_iff.mp n1.symm
        subst this
        exact q0 _ _ rfl (by simp only [Rep]; exact ⟨b, ws, rfl, s2, l2, r2⟩)
      · subst z
        have : es = [] := List.length_eq_zero_iff.mp n2.symm
        subst this
        exact q0 _ _ rfl (by simp only [Rep, List.append_nil]; exact ⟨a, vs, rfl, s1, l1, r1⟩)
      · exact q _ _ (same_upd hp) (new_tup hA hp hl (r1.append r2))
    · cases hp
  case Sub.int.int i j =>
    cases hp
    exact op_sub pins s σ H x y v u Q I rx ry ⟨i, j, hd.int, he.int, q0 _ _ rfl (by simp only [Rep])⟩
  case Mult.int.int i j =>
    split at hp
    · rename_i hz
      cases hp
      unfold mulOk at hz
      rw [Bool.or_eq_true, Bool.or_eq_true, Nat.ble_eq, Nat.ble_eq, Nat.ble_eq] at hz
      have hz : ((-(2 ^ 64) < i ∧ i < 2 ^ 64) ∨ (-(2 ^ 64) < j ∧ j < 2 ^ 64)) ∨ i.natAbs.log2 + j.natAbs.log2 < 1000000 := by
        rcases hz with (hz | hz) | hz
        · exact .inl (.inl (by omega))
        · exact .inl (.inr (by omega))
        · exact .inr (by omega)
      rcases hz with hz | hz
      · exact op_mul pins s σ H x y v u Q I rx ry ⟨i, j, hd.int, he.int, hz, q0 _ _ rfl (by simp only [Rep])⟩
      · exact op_mulW pins s σ H x y v u Q I rx ry ⟨i, j, hd.int, he.int, hz, q0 _ _ rfl (by simp only [Rep])⟩
    · cases hp
  case Mod.int.int i j =>
    split at hp
    · rename_i hz
      cases hp
      exact op_mod pins s σ H x y v u Q I rx ry ⟨i, j, hd.int, he.int, hz, q0 _ _ rfl (by simp only [Rep])⟩
    · cases hp
  case Pow.int.int i j =>
    split at hp
    · rename_i hz
      cases hp
      exact op_pow pins s σ H x y v u Q I rx ry ⟨i, j, hd.int, he.int, hz, q0 _ _ rfl (by simp only [Rep])⟩
    · cases hp
  case FloorDiv.int.int i j =>
    split at hp
    · rename_i hz
      cases hp
      exact op_fdiv pins s σ H x y v u Q I rx ry ⟨i, j, hd.int, he.int, (fdB_iff j).mp hz, q0 _ _ rfl (by simp only [Rep])⟩
    · cases hp
  case Mult.tuple.int ds k =>
    split at hp
    · rename_i hz
      cases hp
      simp only [Bool.and_eq_true, decide_eq_true_eq] at hz
      obtain ⟨z1, z2, z3, z4⟩ := hz
      obtain ⟨a, vs, e1, s1, l1, r1⟩ := hd.tuple
      have t1 := s1.sq
      rw [hK] at t1
      have n1 := r1.length
      have hl : ((List.replicate k.toNat vs).flatten).length ≤ sizeLine := by
        rw [PyProof.Rows.lm_len_rep_flat, sizeLine_eq]
        have a1 : k.toNat * vs.length ≤ 1000 * 1000 := Nat.mul_le_mul (by omega) (by omega)
        omega
      exact op_repT pins s σ H x y v u Q I rx ry ⟨a, k, vs, e1, he.int, t1, fun z => z1 (by rw [z] at n1; exact List.length_eq_zero_iff.mp n1.symm), z2, z3, by omega, fun p hp => q _ _ (same_upd hp) (new_tup hA hp hl (r1.rep k.toNat))⟩
    · cases hp
  case Mult.list.int ds k =>
    split at hp
    · rename_i hz
      cases hp
      obtain ⟨a, vs, e1, s1, l1, r1⟩ := hd.list
      rw [hK] at s1
      obtain ⟨hk1, hk2⟩ := mlB_of hz
      have hz2 : vs.length * k.toNat ≤ sizeLine := by rw [r1.length, sizeLine_eq]; exact hk2
      have hl : ((List.replicate k.toNat vs).flatten).length ≤ sizeLine := by rw [PyProof.Rows.lm_len_rep_flat, Nat.mul_comm]; exact hz2
      exact op_repL pins s σ H x y v u Q I rx ry ⟨a, k, vs, e1, he.int, s1, by omega, by omega, hz2, fun p hp => q _ _ (same_upd hp) (new_lst hp hl (r1.rep k.toNat))⟩
    · cases hp
end
end M
/-! M: dicts. -/
namespace M
open PySem L2 PyProof.Rows
/-! ### keys -/
theorem key_eqv : ∀ (n m : Nat) (d e : PyData), keyB n d = true → keyB m e = true → PyData.eqv d e = decide (nkD d = nkD e) := by
  intro n
  induction n with
  | zero =>
    intro m d e hd he
    cases d <;> simp only [keyB, Bool.false_eq_true] at hd
    all_goals cases e <;> (try (cases m <;> simp only [keyB, Bool.false_eq_true] at he))
    all_goals simp [PyData.eqv, nkD]
    all_goals rfl
  | succ n ih =>
    intro m d e hd he
    cases d with
    | none => simp [keyB] at hd
    | bool b => simp [keyB] at hd
    | list b => simp [keyB] at hd
    | dict b => simp [keyB] at hd
    | int i => cases e <;> (try (cases m <;> simp only [keyB, Bool.false_eq_true] at he)) <;> simp [PyData.eqv, nkD] <;> rfl
    | str i => cases e <;> (try (cases m <;> simp only [keyB, Bool.false_eq_true] at he)) <;> simp [PyData.eqv, nkD] <;> rfl
    | tuple ds =>
      cases m with
      | zero => cases e <;> simp only [keyB, Bool.false_eq_true] at he <;> simp [PyData.eqv, nkD]
      | succ m =>
        cases e with
        | none => simp [keyB] at he
        | bool b => simp [keyB] at he
        | list b => simp [keyB] at he
        | dict b => simp [keyB] at he
        | int i => simp [PyData.eqv, nkD]
        | str i => simp [PyData.eqv, nkD]
        | tuple es =>
          simp only [keyB, List.all_eq_true] at hd he
          have : ∀ (ds es : List PyData), (∀ x ∈ ds, keyB n x = true) → (∀ x ∈ es, keyB m x = true) → PyData.eqvAll ds es = decide (nkDs ds = nkDs es) := by
            intro ds
            induction ds with
            | nil => intro es _ _; cases es <;> simp [PyData.eqvAll, nkDs]
            | cons x r ihr =>
              intro es h1 h2
              cases es with
              | nil => simp [PyData.eqvAll, nkDs]
              | cons y q =>
                simp only [PyData.eqvAll, nkDs]
                rw [ih m x y (h1 x List.mem_cons_self) (h2 y List.mem_cons_self), ihr q (fun z hz => h1 z (List.mem_cons_of_mem _ hz)) (fun z hz => h2 z (List.mem_cons_of_mem _ hz))]
                simp [List.cons.injEq]
          simp only [PyData.eqv, nkD]
          rw [this ds es hd he]
          simp
theorem key_depth : ∀ (n : Nat) (d : PyData), keyB n d = true → (nkD d).depth ≤ n := by
  intro n
  induction n with
  | zero => intro d hd; cases d <;> simp only [keyB, Bool.false_eq_true] at hd <;> simp [nkD, NestedKey.depth]
  | succ n ih =>
    intro d hd
    cases d with
    | none => simp [keyB] at hd
    | bool b => simp [keyB] at hd
    | list b => simp [keyB] at hd
    | dict b => simp [keyB] at hd
    | int i => simp [nkD, NestedKey.depth]
    | str i => simp [nkD, NestedKey.depth]
    | tuple ds =>
      simp only [keyB, List.all_eq_true] at hd
      have : ∀ ds : List PyData, (∀ x ∈ ds, keyB n x = true) → NestedKey.depthAll (nkDs ds) ≤ n := by
        intro ds
        induction ds with
        | nil => intro _; simp [nkDs, NestedKey.depthAll]
        | cons x r ihr =>
          intro h
          simp only [nkDs, NestedKey.depthAll]
          exact Nat.max_le.mpr ⟨ih x (h x List.mem_cons_self), ihr fun z hz => h z (List.mem_cons_of_mem _ hz)⟩
      simp only [nkD, NestedKey.depth]
      exact Nat.succ_le_succ (this ds hd)
section
variable {X : Cx} {W : Wd} {pins : List (Addr × Obj)} {σ : St} {H : Hp} {s : Shared} {A : Addr → Prop}
theorem rep_nested (hK : W.K = X.K) (I : Inv X pins σ H s) : ∀ (n : Nat) (d : PyData) (v : V) (u : Value), keyB n d = true → Rep W H A d v → RelV v u → NestedIs s.heap (nkD d) u := by
  intro n
  induction n with
  | zero =>
    intro d v u hd h r
    cases d <;> simp only [keyB, Bool.false_eq_true] at hd
    · simp only [Rep] at h
      subst h
      obtain ⟨t, rfl⟩ := r
      exact .int _ _
    · simp only [Rep] at h
      obtain ⟨rfl, _⟩ := h
      obtain ⟨t, rfl⟩ := r
      exact .text _ _
  | succ n ih =>
    intro d v u hd h r
    cases d with
    | none => simp [keyB] at hd
    | bool b => simp [keyB] at hd
    | list b => simp [keyB] at hd
    | dict b => simp [keyB] at hd
    | int i =>
      simp only [Rep] at h
      subst h
      obtain ⟨t, rfl⟩ := r
      exact .int _ _
    | str i =>
      simp only [Rep] at h
      obtain ⟨rfl, _⟩ := h
      obtain ⟨t, rfl⟩ := r
      exact .text _ _
    | tuple ds =>
      simp only [keyB, List.all_eq_true] at hd
      simp only [Rep] at h
      obtain ⟨a, vs, rfl, l, _, ra⟩ := h
      cases r
      have l := l.sq
      rw [hK] at l
      obtain ⟨its, rv, ⟨o, e1, e2, k, e3⟩, _⟩ := I.tuple l
      have all : ∀ (ds : List PyData) (vs : List V) (us : List Value), (∀ x ∈ ds, keyB n x = true) → RepAll W H A ds vs → Vals vs us → NestedAll s.heap (nkDs ds) us := by
        intro ds
        induction ds with
        | nil =>
          intro vs us _ h r
          simp only [RepAll] at h
          subst h
          cases r
          exact .nil
        | cons x q ihr =>
          intro vs us hk h r
          simp only [RepAll] at h
          obtain ⟨v, r', rfl, _, h1, h2⟩ := h
          cases r with
          | cons r1 r2 => exact .cons (ih x v _ (hk x List.mem_cons_self) h1 r1) (ihr r' _ (fun z hz => hk z (List.mem_cons_of_mem _ hz)) h2 r2)
      exact .tup e1 e2 e3 (by simpa using all ds vs its hd ra rv)
theorem dic_raw (I : Inv X pins σ H s) {a : Addr} {es : List DictEntry} {ep : Nat} (e : H a = some (DicO a es ep)) : s.heap.DictRaw a es.toArray ep := by
  obtain ⟨z, _, _⟩ := I.hok a _ e
  exact z
theorem dicO_ok {P : Program} {w : World} {H' : Hp} {h : Heap} {a : Addr} {es : List DictEntry} {ep : Nat} (d : h.DictRaw a es.toArray ep) : ObjOk P w H' h a (DicO a es ep) :=
  ⟨d, (let ⟨o, e, _⟩ := d; ⟨o, e⟩), fun h1 h2 d1 k => d1.at k⟩
theorem dicO_inj {h : Heap} {a : Addr} {es es' : List DictEntry} {ep ep' : Nat} (d : h.DictRaw a es.toArray ep) (e : DicO a es ep = DicO a es' ep') : es = es' ∧ ep = ep' := by
  unfold DicO at e
  injection e with e
  have d' : h.DictRaw a es'.toArray ep' := by
    have := congrFun e h
    exact this ▸ d
  obtain ⟨o, h1, _, h2⟩ := d
  obtain ⟨o', h1', _, h2'⟩ := d'
  rw [h1] at h1'
  cases h1'
  rw [h2] at h2'
  injection h2' with q1 q2
  exact ⟨by simpa using q1, q2⟩
theorem relV_inj : ∀ {x y : V} {u : Value}, RelV x u → RelV y u → x = y := by
  intro x y u hx hy
  cases x <;> cases y <;> simp only [L2.RelV] at hx hy
  all_goals first
    | rfl
    | (subst hx; cases hy; rfl)
    | (obtain ⟨t, rfl⟩ := hx; obtain ⟨t', e⟩ := hy; injection e with e1; subst e1; rfl)
    | (obtain ⟨t, rfl⟩ := hx; obtain ⟨t', e⟩ := hy; cases e)
    | (obtain ⟨t, rfl⟩ := hx; cases hy)
    | (obtain ⟨t, rfl⟩ := hy; cases hx)
    | (subst hx; obtain ⟨t', e⟩ := hy; cases e)
/-! ### entries -/
theorem EntAll.length : ∀ {kvs : List (PyData × PyData)} {es : List DictEntry}, EntAll W H A kvs es → es.length = kvs.length
  | [], _, h => by simp only [EntAll] at h; rw [h]; rfl
  | p :: r, _, h => by
    simp only [EntAll] at h
    obtain ⟨e, es', rfl, _, h2⟩ := h
    rw [List.length_cons, List.length_cons, EntAll.length h2]
theorem EntAll.get : ∀ {kvs : List (PyData × PyData)} {es : List DictEntry} {i : Nat} {p : PyData × PyData}, EntAll W H A kvs es → kvs[i]? = some p → ∃ e, es[i]? = some e ∧ EntOne W H A p e
  | [], _, _, _, _, e => by simp at e
  | p :: r, _, 0, q, h, e => by
    simp only [EntAll] at h
    obtain ⟨e1, es', rfl, h1, h2⟩ := h
    cases e
    exact ⟨e1, rfl, h1⟩
  | p :: r, _, i + 1, q, h, e => by
    simp only [EntAll] at h
    obtain ⟨e1, es', rfl, h1, h2⟩ := h
    exact EntAll.get (i := i) h2 e
theorem EntAll.snoc : ∀ {kvs : List (PyData × PyData)} {es : List DictEntry} {p : PyData × PyData} {e : DictEntry}, EntAll W H A kvs es → EntOne W H A p e → EntAll W H A (kvs ++ [p]) (es ++ [e])
  | [], _, p, e, h, h1 => by
    simp only [EntAll] at h
    subst h
    simp only [List.nil_append, EntAll]
    exact ⟨e, [], rfl, h1, rfl⟩
  | q :: r, _, p, e, h, h1 => by
    simp only [EntAll] at h
    obtain ⟨e1, es', rfl, h2, h3⟩ := h
    simp only [List.cons_append, EntAll]
    exact ⟨e1, es' ++ [e], rfl, h2, EntAll.snoc h3 h1⟩
/-- a tuple-keyed dict's entries, as the library has them -/
def Kx (W : Wd) (H : Hp) (A : Addr → Prop) : List (PyData × PyData) → List (NestedKey × Addr × Value) → Prop := Paired fun p x => x.1 = nkD p.1 ∧ (∃ kv, RelV kv (.ref x.2.1) ∧ Rep W H A p.1 kv) ∧ ndD p.2 ∧ ∃ dv, RelV dv x.2.2 ∧ Rep W H A p.2 dv
theorem ent_kx {P : Program} : ∀ {kvs : List (PyData × PyData)} {es : List DictEntry}, (∀ p ∈ kvs, isTup p.1 = true) → EntAll W H A kvs es → ∃ xs, es = xs.map (entryOfKey (nestedKind P W.w)) ∧ Kx W H A kvs xs
  | [], _, _, h => by
    simp only [EntAll] at h
    subst h
    exact ⟨[], rfl, .nil⟩
  | (k, d) :: r, _, ht, h => by
    simp only [EntAll, EntOne] at h
    obtain ⟨e, es', rfl, ⟨kv, dv, h1, h2, h3, h4, h5, h6⟩, h7⟩ := h
    obtain ⟨xs, rfl, kx⟩ := ent_kx (P := P) (fun p hp => ht p (List.mem_cons_of_mem _ hp)) h7
    have hk := ht (k, d) List.mem_cons_self
    cases k with
    | tuple ks =>
      have h5' := h5
      simp only [Rep] at h5'
      obtain ⟨b, vs, rfl, _⟩ := h5'
      have h1 : e.key = .ref b := h1
      refine ⟨(nkD (.tuple ks), b, e.val) :: xs, ?_, .cons ⟨rfl, ⟨.ref b, rfl, h5⟩, h4, dv, h2, h6⟩ kx⟩
      rw [List.map_cons]
      congr 1
      unfold entryOfKey
      cases e
      simp only at h1 h3 ⊢
      subst h1 h3
      rfl
    | _ => simp [isTup] at hk
theorem kx_ent {P : Program} : ∀ {kvs : List (PyData × PyData)} {xs : List (NestedKey × Addr × Value)}, Kx W H A kvs xs → EntAll W H A kvs (xs.map (entryOfKey (nestedKind P W.w)))
  | [], _, h => by
    cases h
    simp only [EntAll, List.map_nil]
  | (k, d) :: r, _, h => by
    cases h with
    | cons h1 h2 =>
      rename_i x xs
      obtain ⟨e1, ⟨kv, r1, q1⟩, n, dv, r2, q2⟩ := h1
      rw [List.map_cons]
      simp only [EntAll]
      refine ⟨_, _, rfl, ?_, kx_ent h2⟩
      simp only [EntOne]
      refine ⟨kv, dv, r1, r2, ?_, n, q1, q2⟩
      show (nestedKind P W.w).hash x.1 = _
      rw [e1]
      rfl
theorem Kx.keys {kvs : List (PyData × PyData)} {xs : List (NestedKey × Addr × Value)} (h : Kx W H A kvs xs) : xs.map (·.1) = kvs.map fun p => nkD p.1 := by
  unfold Kx at h
  induction h with
  | nil => rfl
  | cons h1 _ ih => rw [List.map_cons, List.map_cons, ih, h1.1]
theorem Kx.find {kvs : List (PyData × PyData)} {xs : List (NestedKey × Addr × Value)} {k : PyData} (hk : keyB 8 k = true) (h : Kx W H A kvs xs) (ha : ∀ p ∈ kvs, keyB 8 p.1 = true) :
    (findD kvs k = none ∧ hasD kvs k = false ∧ atKey xs (nkD k) = none) ∨ ∃ d b u dv, findD kvs k = some d ∧ hasD kvs k = true ∧ atKey xs (nkD k) = some (b, u) ∧ ndD d ∧ RelV dv u ∧ Rep W H A d dv := by
  unfold Kx at h
  induction h with
  | nil => exact .inl ⟨rfl, rfl, rfl⟩
  | @cons p x ps xs h1 h2 ih =>
    have e := key_eqv 8 8 p.1 k (ha p List.mem_cons_self) hk
    obtain ⟨e1, _, n, dv, r2, q2⟩ := h1
    by_cases z : nkD p.1 = nkD k
    · have e' : PyData.eqv p.1 k = true := by rw [e]; simpa using z
      refine .inr ⟨p.2, x.2.1, x.2.2, dv, ?_, ?_, ?_, n, r2, q2⟩
      · unfold findD; rw [List.find?_cons, e']; rfl
      · unfold hasD; rw [List.any_cons, e']; rfl
      · unfold atKey
        rw [List.find?_cons]
        have : decide (x.1 = nkD k) = true := by rw [e1]; simpa using z
        rw [this]; rfl
    · have e' : PyData.eqv p.1 k = false := by rw [e]; simpa using z
      have e2 : decide (x.1 = nkD k) = false := by rw [e1]; simpa using z
      have f1 : findD (p :: ps) k = findD ps k := by unfold findD; rw [List.find?_cons, e']
      have f2 : hasD (p :: ps) k = hasD ps k := by unfold hasD; rw [List.any_cons, e']; rfl
      have f3 : atKey (x :: xs) (nkD k) = atKey xs (nkD k) := by unfold atKey; rw [List.find?_cons, e2]
      rw [f1, f2, f3]
      exact ih fun q hq => ha q (List.mem_cons_of_mem _ hq)
theorem Kx.is (hK : W.K = X.K) (I : Inv X pins σ H s) {kvs : List (PyData × PyData)} {xs : List (NestedKey × Addr × Value)} (h : Kx W H A kvs xs) (ha : ∀ p ∈ kvs, keyB 8 p.1 = true) : ∀ x ∈ xs, (nestedKind X.prog X.w).is s.heap x.1 x.2.1 := by
  unfold Kx at h
  induction h with
  | nil => intro x hx; cases hx
  | @cons p x ps xs h1 h2 ih =>
    intro y hy
    rcases List.mem_cons.mp hy with z | z
    · subst z
      obtain ⟨e1, ⟨kv, r1, q1⟩, _⟩ := h1
      have hp := ha p List.mem_cons_self
      show NestedIs s.heap y.1 (.ref y.2.1) ∧ y.1.depth ≤ 8
      rw [e1]
      exact ⟨rep_nested hK I 8 p.1 kv _ hp q1 r1, key_depth 8 p.1 hp⟩
    · exact ih (fun q hq => ha q (List.mem_cons_of_mem _ hq)) y z
/-- the dict as the library has it: tuples as keys -/
theorem dic_h (hK : W.K = X.K) (hw : W.w = X.w) (I : Inv X pins σ H s) {a : Addr} {kvs : List (PyData × PyData)} {es : List DictEntry} {ep : Nat} (e : H a = some (DicO a es ep)) (g : DicG a kvs) (l : EntAll W H A kvs es) (ht : ∀ p ∈ kvs, isTup p.1 = true) :
    ∃ xs, s.heap.DictOfH (nestedKind X.prog X.w) a xs ∧ Kx W H A kvs xs := by
  obtain ⟨xs, q, kx⟩ := ent_kx (P := X.prog) ht l
  obtain ⟨o, h1, h2, h3⟩ := dic_raw I e
  refine ⟨xs, ⟨o, es.toArray, ep, h1, h2, h3, ?_, kx.is hK I g.key, by rw [kx.keys]; exact g.nd⟩, kx⟩
  rw [← hw]
  simpa using q
/-- a tuple that is a key -/
theorem key_h (hK : W.K = X.K) (I : Inv X pins σ H s) {k : PyData} {y : V} {u : Value} (hk : keyB 8 k = true) (ht : isTup k = true) (r : Rep W H A k y) (ry : RelV y u) : ∃ b, u = .ref b ∧ (nestedKind X.prog X.w).is s.heap (nkD k) b := by
  have n := rep_nested hK I 8 k y u hk r ry
  cases k with
  | tuple ks =>
    simp only [Rep] at r
    obtain ⟨b, vs, rfl, _⟩ := r
    cases ry
    exact ⟨b, rfl, n, key_depth 8 _ hk⟩
  | _ => simp [isTup] at ht
/-! ### numbers and texts as keys -/
def lfO : PyData → Option Key
  | .int i => some (.inl i)
  | .str x => some (.inr x)
  | _ => none
theorem lf_of {k : PyData} (hk : keyB 8 k = true) (ht : isTup k = false) : ∃ q, lfO k = some q ∧ (∀ w, (nkD k).hash w = keyH w q) ∧ (∀ W H A y, Rep W H A k y → y = kV q) := by
  cases k with
  | int i => exact ⟨.inl i, rfl, fun w => rfl, fun W H A y h => by simp only [Rep] at h; exact h⟩
  | str x => exact ⟨.inr x, rfl, fun w => rfl, fun W H A y h => by simp only [Rep] at h; exact h.1⟩
  | tuple _ => simp [isTup] at ht
  | _ => simp [keyB] at hk
theorem lf_nk {k k' : PyData} {q q' : Key} (h : lfO k = some q) (h' : lfO k' = some q') : (nkD k = nkD k') ↔ q = q' := by
  cases k <;> simp only [lfO, reduceCtorEq, Option.some.injEq] at h <;> cases k' <;> simp only [lfO, reduceCtorEq, Option.some.injEq] at h' <;> subst h h' <;> simp [nkD]
def Kl (W : Wd) (H : Hp) (A : Addr → Prop) : List (PyData × PyData) → List (Key × Value) → Prop := Paired fun p x => lfO p.1 = some x.1 ∧ ndD p.2 ∧ ∃ dv, RelV dv x.2 ∧ Rep W H A p.2 dv
theorem ent_kl {P : Program} : ∀ {kvs : List (PyData × PyData)} {es : List DictEntry}, (∀ p ∈ kvs, isTup p.1 = false) → (∀ p ∈ kvs, keyB 8 p.1 = true) → EntAll W H A kvs es → ∃ xs, KeysOf (mixKind P W.w) es.toArray ∧ Pairs (mixKind P W.w) es xs ∧ Kl W H A kvs xs
  | [], _, _, _, h => by
    simp only [EntAll] at h
    subst h
    exact ⟨[], fun e he => by simp at he, .nil, .nil⟩
  | (k, d) :: r, _, ht, hk, h => by
    simp only [EntAll, EntOne] at h
    obtain ⟨e, es', rfl, ⟨kv, dv, h1, h2, h3, h4, h5, h6⟩, h7⟩ := h
    obtain ⟨xs, p1, p2, kx⟩ := ent_kl (P := P) (fun p hp => ht p (List.mem_cons_of_mem _ hp)) (fun p hp => hk p (List.mem_cons_of_mem _ hp)) h7
    obtain ⟨q, e1, e2, e3⟩ := lf_of (hk (k, d) List.mem_cons_self) (ht (k, d) List.mem_cons_self)
    have e3 := e3 _ _ _ _ h5
    subst e3
    refine ⟨(q, e.val) :: xs, fun e' he => ?_, .cons (kV_is h1) rfl p2, .cons ⟨e1, h4, dv, h2, h6⟩ kx⟩
    simp only [List.mem_toArray, List.mem_cons] at he
    rcases he with z | z
    · subst z
      exact ⟨q, kV_is h1, by rw [h3]; exact e2 _⟩
    · exact p1 e' (by simpa using z)
theorem kl_ent {P : Program} : ∀ {kvs : List (PyData × PyData)} {es : List DictEntry} {xs : List (Key × Value)}, (∀ p ∈ kvs, keyB 8 p.1 = true) → KeysOf (mixKind P W.w) es.toArray → Pairs (mixKind P W.w) es xs → Kl W H A kvs xs → (∀ p ∈ kvs, ∀ y, (∃ q, lfO p.1 = some q ∧ y = kV q) → Rep W H A p.1 y) → EntAll W H A kvs es
  | [], _, _, _, _, hp, h, _ => by
    cases h
    cases hp
    simp only [EntAll]
  | (k, d) :: r, _, _, hk, hs, hp, h, hr => by
    cases h with
    | cons h1 h2 =>
      cases hp with
      | @cons e _ es _ g1 g2 g3 =>
        obtain ⟨e1, n, dv, r2, q2⟩ := h1
        simp only [EntAll]
        refine ⟨e, es, rfl, ?_, kl_ent (fun p hp => hk p (List.mem_cons_of_mem _ hp)) (fun e' he => hs e' (by simp at he ⊢; exact .inr he)) g3 h2 fun p hp => hr p (List.mem_cons_of_mem _ hp)⟩
        simp only [EntOne]
        rename_i x xs
        obtain ⟨q', z1, z2⟩ := hs e (by simp)
        have : q' = x.1 := (mixKind P W.w).inj _ _ _ z1 g1
        subst this
        refine ⟨kV x.1, dv, ?_, by rw [g2]; exact r2, ?_, n, hr (k, d) List.mem_cons_self _ ⟨x.1, e1, rfl⟩, q2⟩
        · rcases keyIs_shape (show keyIs x.1 e.key = true from g1) with ⟨i, t, z, y⟩ | ⟨i, t, z, y⟩
          · rw [z, y]; exact ⟨t, rfl⟩
          · rw [z, y]; exact ⟨t, rfl⟩
        · rw [z2]
          cases k <;> simp only [lfO, reduceCtorEq, Option.some.injEq] at e1 <;> rw [← e1] <;> rfl
theorem Kl.keys {kvs : List (PyData × PyData)} {xs : List (Key × Value)} (h : Kl W H A kvs xs) (hn : (kvs.map fun p => nkD p.1).Nodup) : (xs.map (·.1)).Nodup := by
  unfold Kl at h
  induction h with
  | nil => exact List.nodup_nil
  | @cons p x ps xs h1 h2 ih =>
    rw [List.map_cons, List.nodup_cons] at hn ⊢
    refine ⟨fun z => hn.1 ?_, ih hn.2⟩
    have : ∀ {ps : List (PyData × PyData)} {xs : List (Key × Value)}, Paired (fun p x => lfO p.1 = some x.1 ∧ ndD p.2 ∧ ∃ dv, RelV dv x.2 ∧ Rep W H A p.2 dv) ps xs → x.1 ∈ xs.map (·.1) → nkD p.1 ∈ ps.map fun p => nkD p.1 := by
      intro ps xs h
      induction h with
      | nil => intro z; cases z
      | @cons p' x' _ _ g1 _ ihh =>
        intro z
        rw [List.map_cons] at z ⊢
        rcases List.mem_cons.mp z with y | y
        · rw [(lf_nk (k := p.1) (k' := p'.1) h1.1 g1.1).mpr y]
          exact List.mem_cons_self
        · exact List.mem_cons_of_mem _ (ihh y)
    exact this h2 z
theorem Kl.find {kvs : List (PyData × PyData)} {xs : List (Key × Value)} {k : PyData} {q : Key} (hk : keyB 8 k = true) (hq : lfO k = some q) (h : Kl W H A kvs xs) (ha : ∀ p ∈ kvs, keyB 8 p.1 = true) :
    (findD kvs k = none ∧ hasD kvs k = false ∧ valueAt xs q = none) ∨ ∃ d u dv, findD kvs k = some d ∧ hasD kvs k = true ∧ valueAt xs q = some u ∧ ndD d ∧ RelV dv u ∧ Rep W H A d dv := by
  unfold Kl at h
  induction h with
  | nil => exact .inl ⟨rfl, rfl, rfl⟩
  | @cons p x ps xs h1 h2 ih =>
    have e := key_eqv 8 8 p.1 k (ha p List.mem_cons_self) hk
    obtain ⟨e1, n, dv, r2, q2⟩ := h1
    have zz := lf_nk e1 hq
    by_cases z : nkD p.1 = nkD k
    · have e' : PyData.eqv p.1 k = true := by rw [e]; simpa using z
      refine .inr ⟨p.2, x.2, dv, ?_, ?_, ?_, n, r2, q2⟩
      · unfold findD; rw [List.find?_cons, e']; rfl
      · unfold hasD; rw [List.any_cons, e']; rfl
      · unfold valueAt
        rw [List.find?_cons]
        have : decide (x.1 = q) = true := by simpa using zz.mp z
        rw [this]; rfl
    · have e' : PyData.eqv p.1 k = false := by rw [e]; simpa using z
      have e2 : decide (x.1 = q) = false := by simpa using fun y => z (zz.mpr y)
      have f1 : findD (p :: ps) k = findD ps k := by unfold findD; rw [List.find?_cons, e']
      have f2 : hasD (p :: ps) k = hasD ps k := by unfold hasD; rw [List.any_cons, e']; rfl
      have f3 : valueAt (x :: xs) q = valueAt xs q := by unfold valueAt; rw [List.find?_cons, e2]
      rw [f1, f2, f3]
      exact ih fun p hp => ha p (List.mem_cons_of_mem _ hp)
theorem dic_l (hw : W.w = X.w) (I : Inv X pins σ H s) {a : Addr} {kvs : List (PyData × PyData)} {es : List DictEntry} {ep : Nat} (e : H a = some (DicO a es ep)) (g : DicG a kvs) (l : EntAll W H A kvs es) (ht : ∀ p ∈ kvs, isTup p.1 = false) :
    ∃ xs, s.heap.DictOf (mixKind X.prog X.w) a xs ∧ Kl W H A kvs xs := by
  obtain ⟨xs, q1, q2, kx⟩ := ent_kl (P := X.prog) ht g.key l
  obtain ⟨o, h1, h2, h3⟩ := dic_raw I e
  rw [hw] at q1 q2
  exact ⟨xs, ⟨o, es.toArray, ep, h1, h2, h3, q1, by simpa using q2, kx.keys g.nd⟩, kx⟩
theorem keyIn_of {kvs : List (PyData × PyData)} {k : PyData} (h : keyIn kvs k = true) : keyB 8 k = true ∧ ∀ p ∈ kvs, isTup p.1 = isTup k := by
  unfold keyIn at h
  rw [Bool.and_eq_true, List.all_eq_true] at h
  refine ⟨h.1, fun p hp => ?_⟩
  have := h.2 p hp
  generalize p.1 = e at this ⊢
  cases e <;> cases k <;> first | rfl | (simp [kdD] at this)
/-- a dict of one's own, or shared: what its operations ask -/
def DicR (W : Wd) (H : Hp) (A : Addr → Prop) (a : Addr) (kvs : List (PyData × PyData)) : Prop := ∃ es ep, H a = some (DicO a es ep) ∧ DicG a kvs ∧ EntAll W H A kvs es
variable {E : Value → Shared → Prop} {B : Around} {a : Addr} {kvs : List (PyData × PyData)} {k : PyData} {y : V} {u : Value}
/-- look-ups: by what stands at the key -/
theorem dic_look (hK : W.K = X.K) (hw : W.w = X.w) (hu : B.units + 20 < cLine) (I : Inv X pins σ H s) (d : DicR W H A a kvs) (hk : keyIn kvs k = true) (r : Rep W H A k y) (ry : RelV y u) :
    (∃ (o : Option PyData) (ov : Option Value), findD kvs k = o ∧ hasD kvs k = o.isSome ∧ (o = none → ov = none) ∧ (∀ g, o = some g → ndD g ∧ ∃ gv gu, ov = some gu ∧ RelV gv gu ∧ Rep W H A g gv) ∧
      (∀ Q, (∀ s', Inv X pins σ H s' → Q (.bool o.isSome) s') → wpAny (model X.prog X.w) B (compareOp .In u (.ref a)) Q E s) ∧
      (∀ Q, (∀ s', Inv X pins σ H s' → Q (.bool (!o.isSome)) s') → wpAny (model X.prog X.w) B (compareOp .NotIn u (.ref a)) Q E s) ∧
      (∀ Q gu, ov = some gu → (∀ s', Inv X pins σ H s' → Q gu s') → wpAny (model X.prog X.w) B (getItem (.ref a) u) Q E s) ∧
      (∀ Q, (∀ s', Inv X pins σ H s' → Q (ov.getD .none) s') → wpAny (model X.prog X.w) B (call (.builtin "dict.get") [.ref a, u]) Q E s) ∧
      (∀ Q x, (∀ s', Inv X pins σ H s' → Q (ov.getD x) s') → wpAny (model X.prog X.w) B (call (.builtin "dict.get") [.ref a, u, x]) Q E s)) := by
  obtain ⟨es, ep, e, g, l⟩ := d
  obtain ⟨hk1, hk2⟩ := keyIn_of hk
  cases ht : isTup k with
  | true =>
    obtain ⟨xs, dd, kx⟩ := dic_h hK hw I e g l (fun p hp => (hk2 p hp).trans ht)
    obtain ⟨b, rfl, kb⟩ := key_h hK I hk1 ht r ry
    have hr : (nestedKind X.prog X.w).room B.in1 := by
      show B.units + 1 + 8 < cLine
      omega
    rcases kx.find hk1 g.key with ⟨f1, f2, f3⟩ | ⟨d, c, gu, gv, f1, f2, f3, n, r1, r2⟩
    · refine ⟨none, none, f1, f2, fun _ => rfl, fun g e => (nomatch e), fun Q h => wpAny_in_heap hr kb g.sm dd ?_, fun Q h => wpAny_notIn_heap hr kb g.sm dd ?_, fun Q gu e => (nomatch e), fun Q h => ?_, fun Q x h => ?_⟩
      · rw [f3]; exact h _ (I.tok _)
      · rw [f3]; exact h _ (I.tok _)
      · refine call_meetsIn PySem.F.slot_dict_get dd.typeIs PySem.F.entry_dict_get (PySem.F.args_dict_get_2 _ _) (meetsH_dict_get (nestedKind X.prog X.w) a b g.sm) ⟨hr, nkD k, xs, kb, dd, ?_⟩
        rw [f3]; exact h _ (I.tok _)
      · refine call_meetsIn PySem.F.slot_dict_get dd.typeIs PySem.F.entry_dict_get (PySem.F.args_dict_get_3 _ _ _) (meetsH_dict_get_default (nestedKind X.prog X.w) a b g.sm x) ⟨hr, nkD k, xs, kb, dd, ?_⟩
        rw [f3]; exact h _ (I.tok _)
    · refine ⟨some d, some gu, f1, f2, fun e => (nomatch e), fun g' e => by cases e; exact ⟨n, gv, gu, rfl, r1, r2⟩, fun Q h => wpAny_in_heap hr kb g.sm dd ?_, fun Q h => wpAny_notIn_heap hr kb g.sm dd ?_, fun Q gu' e h => ?_, fun Q h => ?_, fun Q x h => ?_⟩
      · rw [f3]; exact h _ (I.tok _)
      · rw [f3]; exact h _ (I.tok _)
      · cases e
        exact wpAny_getItem_heap hr kb dd f3 (h _ (I.tok _))
      · refine call_meetsIn PySem.F.slot_dict_get dd.typeIs PySem.F.entry_dict_get (PySem.F.args_dict_get_2 _ _) (meetsH_dict_get (nestedKind X.prog X.w) a b g.sm) ⟨hr, nkD k, xs, kb, dd, ?_⟩
        rw [f3]; exact h _ (I.tok _)
      · refine call_meetsIn PySem.F.slot_dict_get dd.typeIs PySem.F.entry_dict_get (PySem.F.args_dict_get_3 _ _ _) (meetsH_dict_get_default (nestedKind X.prog X.w) a b g.sm x) ⟨hr, nkD k, xs, kb, dd, ?_⟩
        rw [f3]; exact h _ (I.tok _)
  | false =>
    obtain ⟨xs, dd, kx⟩ := dic_l hw I e g l (fun p hp => (hk2 p hp).trans ht)
    obtain ⟨q, e1, e2, e3⟩ := lf_of hk1 ht
    have e3 := e3 _ _ _ _ r
    subst e3
    have kq := kV_is (P := X.prog) (w := X.w) ry
    rcases kx.find hk1 e1 g.key with ⟨f1, f2, f3⟩ | ⟨d, gu, gv, f1, f2, f3, n, r1, r2⟩
    · refine ⟨none, none, f1, f2, fun _ => rfl, fun g e => (nomatch e), fun Q h => wpAny_in_of kq g.sm dd.mapOf ?_, fun Q h => wpAny_notIn_of kq g.sm dd.mapOf ?_, fun Q gu e => (nomatch e), fun Q h => ?_, fun Q x h => ?_⟩
      · rw [f3]; exact h _ (I.tok _)
      · rw [f3]; exact h _ (I.tok _)
      · refine call_meetsIn PySem.F.slot_dict_get dd.typeIs PySem.F.entry_dict_get (PySem.F.args_dict_get_2 _ _) (meets_dict_get (mixKind X.prog X.w) a kq g.sm) ⟨_, dd.mapOf, ?_⟩
        rw [f3]; exact h _ (I.tok _)
      · refine call_meetsIn PySem.F.slot_dict_get dd.typeIs PySem.F.entry_dict_get (PySem.F.args_dict_get_3 _ _ _) (meets_dict_get_default (mixKind X.prog X.w) a kq g.sm x) ⟨_, dd.mapOf, ?_⟩
        rw [f3]; exact h _ (I.tok _)
    · refine ⟨some d, some gu, f1, f2, fun e => (nomatch e), fun g' e => by cases e; exact ⟨n, gv, gu, rfl, r1, r2⟩, fun Q h => wpAny_in_of kq g.sm dd.mapOf ?_, fun Q h => wpAny_notIn_of kq g.sm dd.mapOf ?_, fun Q gu' e h => ?_, fun Q h => ?_, fun Q x h => ?_⟩
      · rw [f3]; exact h _ (I.tok _)
      · rw [f3]; exact h _ (I.tok _)
      · cases e
        exact wpAny_getItem_of kq dd.mapOf f3 (h _ (I.tok _))
      · refine call_meetsIn PySem.F.slot_dict_get dd.typeIs PySem.F.entry_dict_get (PySem.F.args_dict_get_2 _ _) (meets_dict_get (mixKind X.prog X.w) a kq g.sm) ⟨_, dd.mapOf, ?_⟩
        rw [f3]; exact h _ (I.tok _)
      · refine call_meetsIn PySem.F.slot_dict_get dd.typeIs PySem.F.entry_dict_get (PySem.F.args_dict_get_3 _ _ _) (meets_dict_get_default (mixKind X.prog X.w) a kq g.sm x) ⟨_, dd.mapOf, ?_⟩
        rw [f3]; exact h _ (I.tok _)
/-! ### stores -/
theorem putD_has {v : PyData} (h : hasD kvs k = true) : putD kvs k v = kvs.map fun p => if PyData.eqv p.1 k = true then (p.1, v) else p := by unfold putD; rw [if_pos h]
theorem putD_new {v : PyData} (h : hasD kvs k = false) : putD kvs k v = kvs ++ [(k, v)] := by unfold putD; rw [if_neg (by rw [h]; exact Bool.false_ne_true)]
theorem Kx.put {xs : List (NestedKey × Addr × Value)} {b : Addr} {d : PyData} {dv : V} {du : Value} (hk : keyB 8 k = true) (h : Kx W H A kvs xs) (ha : ∀ p ∈ kvs, keyB 8 p.1 = true) (rk : ∃ kv, RelV kv (.ref b) ∧ Rep W H A k kv) (nd : ndD d) (rd : RelV dv du) (rp : Rep W H A d dv) : Kx W H A (putD kvs k d) (storedH xs (nkD k) b du) := by
  rcases h.find hk ha with ⟨_, f2, f3⟩ | ⟨_, c, gu, gv, f1, f2, f3, _⟩
  · rw [putD_new f2, storedH_new f3]
    unfold Kx at h ⊢
    exact Paired.snoc h ⟨rfl, rk, nd, dv, rd, rp⟩
  · rw [putD_has f2, storedH_old f3]
    clear f1 f2 f3
    unfold Kx at h ⊢
    induction h with
    | nil => exact .nil
    | @cons p x ps xs h1 h2 ih =>
      rw [List.map_cons, List.map_cons]
      refine .cons ?_ (ih fun q hq => ha q (List.mem_cons_of_mem _ hq))
      have e := key_eqv 8 8 p.1 k (ha p List.mem_cons_self) hk
      obtain ⟨e1, e2, e3⟩ := h1
      unfold putAt
      by_cases z : nkD p.1 = nkD k
      · rw [if_pos (show x.1 = nkD k by rw [e1]; exact z), if_pos (show PyData.eqv p.1 k = true by rw [e]; simpa using z)]
        exact ⟨e1, e2, nd, dv, rd, rp⟩
      · rw [if_neg (show ¬ x.1 = nkD k by rw [e1]; exact z), if_neg (show ¬ PyData.eqv p.1 k = true by rw [e]; simpa using z)]
        exact ⟨e1, e2, e3⟩
theorem Kl.put {xs : List (Key × Value)} {q : Key} {d : PyData} {dv : V} {du : Value} (hk : keyB 8 k = true) (hq : lfO k = some q) (h : Kl W H A kvs xs) (ha : ∀ p ∈ kvs, keyB 8 p.1 = true) (nd : ndD d) (rd : RelV dv du) (rp : Rep W H A d dv) : Kl W H A (putD kvs k d) (stored xs q du) := by
  have hav : hasD kvs k = xs.any fun kv => decide (kv.1 = q) := by
    rcases h.find hk hq ha with ⟨_, f2, f3⟩ | ⟨_, gu, gv, _, f2, f3, _⟩
    · rw [f2]
      unfold valueAt at f3
      rw [Option.map_eq_none_iff] at f3
      symm
      rw [List.any_eq_false]
      intro x hx
      have := List.find?_eq_none.mp f3 x hx
      simpa using this
    · rw [f2]
      unfold valueAt at f3
      obtain ⟨p, hp, _⟩ := Option.map_eq_some_iff.mp f3
      symm
      rw [List.any_eq_true]
      exact ⟨p, List.mem_of_find?_eq_some hp, by have := List.find?_some hp; simpa using this⟩
  unfold putD stored
  rw [hav]
  by_cases z : (xs.any fun kv => decide (kv.1 = q)) = true
  · rw [if_pos z, if_pos z]
    clear z hav
    unfold Kl at h ⊢
    induction h with
    | nil => exact .nil
    | @cons p x ps xs h1 h2 ih =>
      rw [List.map_cons, List.map_cons]
      refine .cons ?_ (ih fun q hq => ha q (List.mem_cons_of_mem _ hq))
      have e := key_eqv 8 8 p.1 k (ha p List.mem_cons_self) hk
      obtain ⟨e1, e3⟩ := h1
      have zz := lf_nk e1 hq
      by_cases z : nkD p.1 = nkD k
      · rw [if_pos (by rw [e]; simpa using z), if_pos (zz.mp z)]
        exact ⟨e1, nd, dv, rd, rp⟩
      · rw [if_neg (by rw [e]; simpa using z), if_neg (fun y => z (zz.mpr y))]
        exact ⟨e1, e3⟩
  · rw [if_neg z, if_neg z]
    unfold Kl at h ⊢
    exact Paired.snoc h ⟨hq, nd, dv, rd, rp⟩
theorem DicG.put {d : PyData} (g : DicG a kvs) (hk : keyIn kvs k = true) (hz : kvs.length < sizeLine) : DicG a (putD kvs k d) := by
  obtain ⟨hk1, hk2⟩ := keyIn_of hk
  cases hh : hasD kvs k with
  | true =>
    rw [putD_has hh]
    have km : ∀ p ∈ kvs.map (fun p => if PyData.eqv p.1 k = true then (p.1, d) else p), ∃ q ∈ kvs, p.1 = q.1 := fun p hp => by
      obtain ⟨q, hq, e⟩ := List.mem_map.mp hp
      refine ⟨q, hq, ?_⟩
      rw [← e]; split <;> rfl
    refine ⟨g.sm, by rw [List.length_map]; exact g.len, fun p hp => ?_, ?_, ?_⟩
    · obtain ⟨q, hq, e⟩ := km p hp
      rw [e]; exact g.key q hq
    · rcases g.one with z | z
      · exact .inl fun p hp => by obtain ⟨q, hq, e⟩ := km p hp; rw [e]; exact z q hq
      · exact .inr fun p hp => by obtain ⟨q, hq, e⟩ := km p hp; rw [e]; exact z q hq
    · have : ((kvs.map fun p => if PyData.eqv p.1 k = true then (p.1, d) else p).map fun p => nkD p.1) = kvs.map fun p => nkD p.1 := by
        rw [List.map_map]
        refine List.map_congr_left fun p _ => ?_
        show nkD (if PyData.eqv p.1 k = true then (p.1, d) else p).1 = nkD p.1
        split <;> rfl
      rw [this]; exact g.nd
  | false =>
    rw [putD_new hh]
    refine ⟨g.sm, by rw [List.length_append]; exact hz, fun p hp => ?_, ?_, ?_⟩
    · rcases List.mem_append.mp hp with z | z
      · exact g.key p z
      · rw [List.mem_singleton.mp z]; exact hk1
    · cases ht : isTup k with
      | true =>
        refine .inl fun p hp => ?_
        rcases List.mem_append.mp hp with z | z
        · rw [hk2 p z]; exact ht
        · rw [List.mem_singleton.mp z]; exact ht
      | false =>
        refine .inr fun p hp => ?_
        rcases List.mem_append.mp hp with z | z
        · rw [hk2 p z]; exact ht
        · rw [List.mem_singleton.mp z]; exact ht
    · rw [List.map_append, List.map_cons, List.map_nil]
      refine List.nodup_append.mpr ⟨g.nd, by simp, fun x hx y hy => ?_⟩
      rw [List.mem_singleton.mp hy]
      obtain ⟨p, hp, rfl⟩ := List.mem_map.mp hx
      intro z
      have e := key_eqv 8 8 p.1 k (g.key p hp) hk1
      have : hasD kvs k = true := List.any_eq_true.mpr ⟨p, hp, by rw [e]; simpa using z⟩
      rw [hh] at this
      cases this
theorem dicG_new (h : (a == sysModules) = false) : DicG a [] := ⟨h, by simp, fun p hp => (by cases hp), .inl fun p hp => (by cases hp), List.nodup_nil⟩
theorem kx_len {xs : List (NestedKey × Addr × Value)} (h : Kx W H A kvs xs) : xs.length = kvs.length := (Paired.length h).symm
theorem kl_len {xs : List (Key × Value)} (h : Kl W H A kvs xs) : xs.length = kvs.length := (Paired.length h).symm
theorem rep_leaf {q : Key} {y : V} (hq : lfO k = some q) (hy : y = kV q) {z : V} (hz : Rep W H A k z) : Rep W H A k y := by
  have : z = y := by
    cases k <;> simp only [lfO, reduceCtorEq, Option.some.injEq] at hq
    · simp only [Rep] at hz; rw [hz, hy, ← hq]; rfl
    · simp only [Rep] at hz; rw [hz.1, hy, ← hq]; rfl
  rw [← this]; exact hz
theorem dic_set (hK : W.K = X.K) (hw : W.w = X.w) (hu : B.units + 20 < cLine) (I : Inv X pins σ H s) (dr : DicR W H A a kvs) (hk : keyIn kvs k = true) (hz : kvs.length < sizeLine) (r : Rep W H A k y) (ry : RelV y u) {d : PyData} {dv : V} {du : Value} (nd : ndD d) (rd : RelV dv du) (rp : Rep W H A d dv) {Q : Unit → Shared → Prop}
    (h : ∀ es ep s', Inv X pins σ (upd H a (DicO a es ep)) s' → EntAll W H A (putD kvs k d) es → Q () s') : wpAny (model X.prog X.w) B (setItem (.ref a) u du) Q E s := by
  obtain ⟨es, ep, e, g, l⟩ := dr
  obtain ⟨hk1, hk2⟩ := keyIn_of hk
  have mu : L2.Mut (H a) := by rw [e]; exact trivial
  cases ht : isTup k with
  | true =>
    obtain ⟨xs, dd, kx⟩ := dic_h hK hw I e g l (fun p hp => (hk2 p hp).trans ht)
    obtain ⟨b, rfl, kb⟩ := key_h hK I hk1 ht r ry
    have hr : (nestedKind X.prog X.w).room B.in1 := by
      show B.units + 1 + 8 < cLine
      omega
    refine wpAny_setItem_heap (hsz := by rw [kx_len kx]; exact g.len) hr kb dd fun h' dd' hs => ?_
    have kx' := kx.put (k := k) (b := b) hk1 g.key ⟨y, ry, r⟩ nd rd rp
    obtain ⟨o, es', ep', q1, q2, q3, q4, q5, q6⟩ := dd'
    have hraw : h'.DictRaw a es'.toList.toArray ep' := ⟨o, q1, q2, by simpa using q3⟩
    refine h es'.toList ep' _ (d_write I mu hs ⟨o, q1⟩ (dicO_ok hraw)) ?_
    have := kx_ent (P := X.prog) kx'
    rw [q4, ← hw]
    exact this
  | false =>
    obtain ⟨xs, dd, kx⟩ := dic_l hw I e g l (fun p hp => (hk2 p hp).trans ht)
    obtain ⟨q, e1, e2, e3⟩ := lf_of hk1 ht
    have e3 := e3 _ _ _ _ r
    subst e3
    have kq := kV_is (P := X.prog) (w := X.w) ry
    refine wpAny_setItem_pairs (hsz := by rw [kl_len kx]; exact g.len) kq dd fun h' dd' hs => ?_
    have kx' := kx.put hk1 e1 g.key nd rd rp
    obtain ⟨o, es', ep', q1, q2, q3, q4, q5, q6⟩ := dd'
    have hraw : h'.DictRaw a es'.toList.toArray ep' := ⟨o, q1, q2, by simpa using q3⟩
    refine h es'.toList ep' _ (d_write I mu hs ⟨o, q1⟩ (dicO_ok hraw)) ?_
    rw [← hw] at q4 q5
    refine kl_ent (P := X.prog) (g.put hk hz).key (by simpa using q4) q5 kx' fun p hp y' hy => ?_
    obtain ⟨q', z1, z2⟩ := hy
    have : ∃ z, Rep W H A p.1 z := by
      have mem : p.1 = k ∨ ∃ p' ∈ kvs, p.1 = p'.1 := by
        unfold putD at hp
        split at hp
        · obtain ⟨p', hp', e'⟩ := List.mem_map.mp hp
          refine .inr ⟨p', hp', ?_⟩
          rw [← e']; split <;> rfl
        · rcases List.mem_append.mp hp with z | z
          · exact .inr ⟨p, z, rfl⟩
          · rw [List.mem_singleton.mp z]; exact .inl rfl
      rcases mem with z | ⟨p', hp', z⟩
      · rw [z]; exact ⟨_, r⟩
      · rw [z]
        obtain ⟨j, hj, ej⟩ := List.getElem_of_mem hp'
        obtain ⟨e0, _, eo⟩ := l.get (i := j) (p := p') (by rw [List.getElem?_eq_getElem hj, ej])
        obtain ⟨k', d'⟩ := p'
        simp only [EntOne] at eo
        obtain ⟨kv, _, _, _, _, _, h5, _⟩ := eo
        exact ⟨kv, h5⟩
    obtain ⟨z, hz⟩ := this
    exact rep_leaf z1 z2 hz
theorem Rb.key {d : PyData} {v : V} (h : Rb W H A d v) (hk : keyB 8 d = true) : Rep W H A d v := by
  rcases h with h | ⟨a, rfl, h⟩
  · exact h
  · cases d with
    | list _ => simp [keyB] at hk
    | dict _ => simp [keyB] at hk
    | _ => exact False.elim h
end
end M
/-! M: tables of plain things by tuples, compared. -/
namespace M
open PySem PySem.Spec L2 PyProof.Rows
inductive KHt (A : Around) (s : Shared) (kb : List (NestedKey × Addr × Value)) : List (NestedKey × Addr × Value) → Bool → Prop
  | nil : KHt A s kb [] true
  | miss {k c v r} : atKey kb k = none → KHt A s kb ((k, c, v) :: r) false
  | hit {k c v r c' y e b} : atKey kb k = some (c', y) → SeqAt.EqAt A s v y e → KHt A s kb r b → KHt A s kb ((k, c, v) :: r) (e && b)
theorem KHt.inv {A : Around} {s : Shared} {kb : List (NestedKey × Addr × Value)} {k : NestedKey} {c : Addr} {v : Value} {r : List (NestedKey × Addr × Value)} {q : Bool} (h : KHt A s kb ((k, c, v) :: r) q) : (atKey kb k = none ∧ q = false) ∨ ∃ c' y e b, atKey kb k = some (c', y) ∧ SeqAt.EqAt A s v y e ∧ KHt A s kb r b ∧ q = (e && b) := by
  cases h with
  | miss h1 => exact .inl ⟨h1, rfl⟩
  | hit h1 h2 h3 => exact .inr ⟨_, _, _, _, h1, h2, h3, rfl⟩
section
variable {prog : Program} {w : World} {A : Around} {E : Value → Shared → Prop} {s : Shared} {a b : Addr} {ka kb : List (NestedKey × Addr × Value)} {r : Bool}
theorem same_pairs {nm : String} {Q : Bool → Shared → Prop} (hu : (nestedKind prog w).room A) (na : (a == sysModules) = false) (nb : (b == sysModules) = false) (da : s.heap.DictOfH (nestedKind prog w) a ka) (db : s.heap.DictOfH (nestedKind prog w) b kb) (ht : KHt A s kb ka r) (h : Q (ka.length == kb.length && r) s) :
    wpAny (model prog w) A (Builtin.Dict.samePairs nm a b) Q E s := by
  obtain ⟨o1, e1, p1, g1, _, d1, l1, i1, _⟩ := da
  obtain ⟨o2, e2, p2, g2, _, d2, l2, i2, u2⟩ := db
  have z1 : e1.size = ka.length := size_of_entries l1
  have z2 : e2.size = kb.length := size_of_entries l2
  rw [← z1, ← z2] at h
  unfold Builtin.Dict.samePairs Builtin.Dict.showsAll
  rw [if_neg (by rw [na]; exact Bool.false_ne_true), if_neg (by rw [nb]; exact Bool.false_ne_true)]
  refine wpAny_bind (wpAny_pure (wpAny_bind (wpAny_pure (wpAny_bind (wpAny_dictEntries g1 d1 ?_)))))
  dsimp only
  refine wpAny_bind (wpAny_dictEntries g2 d2 ?_)
  by_cases hz : e1.size = e2.size
  case neg =>
    rw [if_pos (by simpa using hz)]
    rw [show (e1.size == e2.size) = false by simpa using hz, Bool.false_and] at h
    exact wpAny_bind (wpAny_rule (wpAny_pure h))
  case pos =>
    have h' : Q r s := by simpa [hz] using h
    rw [if_neg (by rw [hz]; simp)]
    refine wpAny_bind (wpAny_dictEpoch g1 d1 (wpAny_bind ?_))
    rw [Std.Legacy.Range.forIn_eq_forIn_range']
    simp only [Std.Legacy.Range.size, Nat.sub_zero, Nat.add_sub_cancel, Nat.div_one]
    refine wpAny_forIn_list _ (fun rest q t => t = s ∧ q = (none, ()) ∧ ∃ i, rest = List.range' i (e1.size - i) ∧ i ≤ e1.size ∧ KHt A s kb (ka.drop i) r) _ ?_ ?_ _ _ ⟨rfl, rfl, 0, by simp, Nat.zero_le _, ht⟩
    · rintro x rest q t ⟨rfl, rfl, i, er, hi, pre⟩
      have lt : i < e1.size := by
        rcases Nat.lt_or_ge i e1.size with y | y
        · exact y
        · rw [Nat.sub_eq_zero_of_le y] at er
          simp at er
      obtain ⟨rfl, er2⟩ : x = i ∧ rest = List.range' (i + 1) (e1.size - (i + 1)) := by
        rw [show e1.size - i = (e1.size - (i + 1)) + 1 by omega, List.range'_succ] at er
        injection er with y1 y2
        exact ⟨y1, y2⟩
      refine wpAny_bind (wpAny_dictEntries g1 d1 ?_)
      rw [Array.getElem?_eq_getElem lt]
      have lt' : x < ka.length := by rw [← z1]; exact lt
      obtain ⟨k, c, v, ekv⟩ : ∃ k c v, ka[x] = (k, c, v) := ⟨_, _, _, rfl⟩
      have ee : e1[x] = entryOfKey (nestedKind prog w) (k, c, v) := by
        have q := entry_at l1 x
        rw [Array.getElem?_eq_getElem lt, List.getElem?_eq_getElem lt', ekv] at q
        exact Option.some.inj q
      rw [show ka.drop x = (k, c, v) :: ka.drop (x + 1) by rw [← ekv]; exact List.drop_eq_getElem_cons lt'] at pre
      have ki : (nestedKind prog w).is t.heap k c := i1 (k, c, v) (by rw [← ekv]; exact List.getElem_mem lt')
      show wpAny _ _ (holding [e1[x].key, e1[x].val] _ >>= _) _ _ _
      rw [ee]
      refine wpAny_bind (wpAny_holding (wpAny_bind (wpAny_dictFind_heap hu ki g2 d2 l2 i2 u2 (fun hn => ?_) fun j p hj => ?_)))
      · have na := atKey_none_of_get hn
        rcases pre.inv with ⟨_, eq⟩ | ⟨_, _, _, _, y, _⟩
        · rw [eq] at h'
          refine wpAny_pure ?_
          show wpAny _ _ (if (!false) = true then _ else _) _ _ _
          rw [if_pos (by decide)]
          exact wpAny_pure (wpAny_pure h')
        · rw [na] at y
          cases y
      · have ea := atKey_of_get u2 hj
        have jl : j < e2.size := by rw [z2]; exact (List.getElem?_eq_some_iff.mp hj).1
        have e2j : e2[j] = entryOfKey (nestedKind prog w) (k, p) := by
          have q := entry_at l2 j
          rw [Array.getElem?_eq_getElem jl, hj] at q
          exact Option.some.inj q
        refine wpAny_bind (wpAny_dictEntries g2 d2 ?_)
        rw [Array.getElem?_eq_getElem jl, e2j]
        rcases pre.inv with ⟨y, _⟩ | ⟨c', y, e, b', hy, he, hr, eq⟩
        · rw [ea] at y
          cases y
        · rw [ea] at hy
          cases hy
          refine wpAny_holding (he prog w _ _ ?_)
          cases e with
          | false =>
            rw [eq, Bool.false_and] at h'
            show wpAny _ _ (if (!false) = true then _ else _) _ _ _
            rw [if_pos (by decide)]
            exact wpAny_pure (wpAny_pure h')
          | true =>
            rw [Bool.true_and] at eq
            rw [← eq] at hr
            show wpAny _ _ (if (!true) = true then _ else _) _ _ _
            rw [if_neg (by decide)]
            refine wpAny_bind (wpAny_dictEpoch g1 d1 ?_)
            rw [if_neg (by simp)]
            exact wpAny_pure ⟨rfl, rfl, x + 1, er2, lt, hr⟩
    · rintro q t ⟨rfl, rfl, i, er, hi, pre⟩
      have hin : i = e1.size := by
        rcases Nat.lt_or_ge i e1.size with y | y
        · rw [show e1.size - i = (e1.size - (i + 1)) + 1 by omega, List.range'_succ] at er
          cases er
        · omega
      refine wpAny_pure ?_
      rw [hin, z1, List.drop_length] at pre
      cases pre
      exact h'
theorem eq_dicts {Q : Value → Shared → Prop} (hu : A.units + 20 < cLine) (na : (a == sysModules) = false) (nb : (b == sysModules) = false) (da : s.heap.DictOfH (nestedKind prog w) a ka) (db : s.heap.DictOfH (nestedKind prog w) b kb) (ht : KHt A.in1 s kb ka r) (h : Q (.bool (ka.length == kb.length && r)) s) : wpAny (model prog w) A (compareOp .Eq (.ref a) (.ref b)) Q E s := by
  have ty1 := da.typeIs
  have ty2 := db.typeIs
  refine wpAny_richCompare_same_room (op := .Eq) ty1 ty2 PySem.F.slot_dict_eq (wpAny_call_entry PySem.F.slot_dict_eq ty1 PySem.F.entry_dict_eq ?_ (PySem.F.args_dict_eq_2 _ _)) (by omega)
  show wpAny _ _ (Builtin.Dict.dictSlotArgs "__eq__" ⟨[.ref a, .ref b], []⟩ >>= _) _ _ s
  unfold Builtin.Dict.dictSlotArgs
  refine wpAny_bind (wpAny_bind (wpAny_notOrdered_dict ty1 (wpAny_pure (wpAny_bind (wpAny_isInstance (T := "dict") ty2 PySem.F.sub_dict_dict ?_)))))
  simp only [Bool.not_true, Bool.false_eq_true, if_false]
  refine wpAny_bind (wpAny_pure (wpAny_bind (wpAny_pure (wpAny_bind (same_pairs (by show A.units + 1 + 8 < cLine; omega) na nb da db ht (wpAny_pure ⟨_, rfl, fun z => (nomatch z), by simpa using h⟩))))))
end
section
variable {X : Cx} {W : Wd} {pins : List (Addr × Obj)} {σ : L2.St} {H : Hp} {s : Shared} {A : Addr → Prop}
theorem flat_rd {d : PyData} {v : V} {u : Value} {h : Heap} (hf : flatD d = true) (r : Rep W H A d v) (ru : RelV v u) : Reads h u d [] := by
  cases d with
  | none => simp only [Rep] at r; subst r; cases ru; exact .none
  | bool b => simp only [Rep] at r; subst r; cases ru; exact .bool b
  | int i => simp only [Rep] at r; subst r; obtain ⟨t, rfl⟩ := ru; exact .int i t
  | str x => simp only [Rep] at r; obtain ⟨rfl, _⟩ := r; obtain ⟨t, rfl⟩ := ru; exact .str x t
  | _ => cases hf
theorem flat_plain {d : PyData} (hf : flatD d = true) : d.plain = true ∧ d.depth = 0 := by
  cases d <;> first | (cases hf; done) | exact ⟨by simp [PyData.plain], by simp [PyData.depth]⟩
theorem kht_of {B : Around} (hu : B.units < cLine) {ys : List (PyData × PyData)} {kb : List (NestedKey × Addr × Value)} (ky : Kx W H A ys kb) (hy : ∀ p ∈ ys, keyB 8 p.1 = true ∧ flatD p.2 = true) : ∀ {xs : List (PyData × PyData)} {ka : List (NestedKey × Addr × Value)}, Kx W H A xs ka → (∀ p ∈ xs, keyB 8 p.1 = true ∧ flatD p.2 = true) → KHt B s kb ka (xs.all fun p => match findD ys p.1 with | some v => PyData.eqv p.2 v | none => false) := by
  intro xs ka kx
  unfold Kx at kx
  induction kx with
  | nil => intro _; exact .nil
  | @cons p x ps xs h1 h2 ih =>
    intro hx
    obtain ⟨k, c, v⟩ := x
    obtain ⟨e1, _, n, dv, r2, q2⟩ := h1
    have e1 : k = nkD p.1 := e1
    subst e1
    have hp := hx p List.mem_cons_self
    have ih := ih fun q hq => hx q (List.mem_cons_of_mem _ hq)
    rw [List.all_cons]
    rcases Kx.find hp.1 ky (fun q hq => (hy q hq).1) with ⟨f1, _, f3⟩ | ⟨d, b, u, dv', f1, _, f3, n', r', q'⟩
    · simp only [f1, Bool.false_and]
      exact .miss f3
    · simp only [f1]
      have fd : flatD d = true := by
        unfold findD at f1
        rw [Option.map_eq_some_iff] at f1
        obtain ⟨q, hq, rfl⟩ := f1
        exact (hy q (List.mem_of_find?_eq_some hq)).2
      exact .hit f3 (SeqAt.eqAt_plain p.2 d _ _ _ _ _ _ (flat_rd hp.2 q2 r2) (flat_rd fd q' r') (flat_plain hp.2).1 (flat_plain fd).1 (by rw [(flat_plain hp.2).2]; omega)) ih
theorem dic_eq (hK : W.K = X.K) (hw : W.w = X.w) (hu : X.A.units + 200 < cLine) (I : Inv X pins σ H s) {a b : Addr} {xs ys : List (PyData × PyData)} (d1 : DicR W H A a xs) (d2 : DicR W H A b ys) (h1 : ∀ p ∈ xs, isTup p.1 = true ∧ keyB 8 p.1 = true ∧ flatD p.2 = true) (h2 : ∀ p ∈ ys, isTup p.1 = true ∧ keyB 8 p.1 = true ∧ flatD p.2 = true) {Q : Value → Shared → Prop} {E : Value → Shared → Prop}
    (q : Q (.bool (xs.length == ys.length && xs.all fun p => match findD ys p.1 with | some v => PyData.eqv p.2 v | none => false)) s) : wpAny (model X.prog X.w) X.A (compareOp .Eq (.ref a) (.ref b)) Q E s := by
  obtain ⟨es, ep, e, g, l⟩ := d1
  obtain ⟨es', ep', e', g', l'⟩ := d2
  obtain ⟨ka, dd, kx⟩ := dic_h hK hw I e g l fun p hp => (h1 p hp).1
  obtain ⟨kb, dd', ky⟩ := dic_h hK hw I e' g' l' fun p hp => (h2 p hp).1
  have n1 : ka.length = xs.length := (Paired.length kx).symm
  have n2 : kb.length = ys.length := (Paired.length ky).symm
  refine eq_dicts (by omega) g.sm g'.sm dd dd' (kht_of (by show X.A.units + 1 < cLine; omega) ky (fun p hp => (h2 p hp).2) kx fun p hp => (h1 p hp).2) ?_
  rw [n1, n2]
  exact q
end
end M
/-! M: dicts made of pairs, listed. -/
namespace M
open PySem L2 PyProof.Rows
section
variable {X : Cx} {W : Wd} {pins : List (Addr × Obj)} {σ : St} {H : Hp} {s : Shared} {A : Addr → Prop} {E : Value → Shared → Prop} {B : Around} {a : Addr} {kvs acc : List (PyData × PyData)}
def prD (p : PyData × PyData) : PyData := .tuple [p.1, p.2]
theorem dctD_cons {x : PyData} {r : List PyData} {acc kvs : List (PyData × PyData)} (h : dctD (x :: r) acc = some kvs) : ∃ k v, x = .tuple [k, v] ∧ (isTup k && keyIn acc k) = true ∧ dctD r (putD acc k v) = some kvs := by
  match x, h with
  | .tuple [k, v], h =>
    simp only [dctD] at h
    split at h
    · rename_i z; exact ⟨k, v, rfl, z, h⟩
    · cases h
  | .tuple [], h => simp [dctD] at h
  | .tuple [_], h => simp [dctD] at h
  | .tuple (_ :: _ :: _ :: _), h => simp [dctD] at h
  | .none, h => simp [dctD] at h
  | .bool _, h => simp [dctD] at h
  | .int _, h => simp [dctD] at h
  | .str _, h => simp [dctD] at h
  | .list _, h => simp [dctD] at h
  | .dict _, h => simp [dctD] at h
theorem dctD_pairs : ∀ {xs : List PyData} {acc kvs : List (PyData × PyData)}, dctD xs acc = some kvs → ∃ prs : List (PyData × PyData), xs = prs.map prD ∧ ∀ p ∈ prs, keyB 8 p.1 = true ∧ isTup p.1 = true
  | [], _, _, _ => ⟨[], rfl, fun p hp => by cases hp⟩
  | x :: r, acc, kvs, h => by
    obtain ⟨k, v, rfl, z, h⟩ := dctD_cons h
    rw [Bool.and_eq_true] at z
    obtain ⟨prs, e, hp⟩ := dctD_pairs h
    refine ⟨(k, v) :: prs, by rw [e]; rfl, fun p hq => ?_⟩
    rcases List.mem_cons.mp hq with y | y
    · subst y; exact ⟨(keyIn_of z.2).1, z.1⟩
    · exact hp p y
theorem dct_kx : ∀ {prs : List (PyData × PyData)} {ps xs : List (NestedKey × Addr × Value)} {acc kvs : List (PyData × PyData)}, dctD (prs.map prD) acc = some kvs → Kx W H A prs ps → Kx W H A acc xs → DicG a acc → acc.length + prs.length ≤ sizeLine → Kx W H A kvs (storedAllH xs ps) ∧ DicG a kvs
  | [], _, xs, acc, kvs, h, h1, h2, g, _ => by
    cases h1
    cases h
    exact ⟨h2, g⟩
  | p :: r, _, xs, acc, kvs, h, h1, h2, g, hz => by
    cases h1 with
    | @cons _ x _ ps h3 h4 =>
      rw [List.map_cons] at h
      simp only [prD, dctD] at h
      split at h
      · rename_i z
        rw [Bool.and_eq_true] at z
        obtain ⟨e1, e2, n, dv, r1, r2⟩ := h3
        have hk := (keyIn_of z.2).1
        have h5 := h2.put (k := p.1) (b := x.2.1) hk g.key e2 n r1 r2
        rw [← e1] at h5
        rw [List.length_cons] at hz
        have hl : (putD acc p.1 p.2).length ≤ acc.length + 1 := by
          unfold putD
          split
          · rw [List.length_map]; omega
          · rw [List.length_append]; exact Nat.le_refl _
        have := dct_kx (ps := ps) h h4 h5 (g.put z.2 (by omega)) (by omega)
        exact this
      · cases h
/-- pairs of a list, as the library has them -/
theorem pairs_kx {prs : List (PyData × PyData)} {vs : List V} {us : List Value} (hK : W.K = X.K) (I : Inv X pins σ H s) (ht : ∀ p ∈ prs, keyB 8 p.1 = true ∧ isTup p.1 = true) (r : RepAll W H A (prs.map prD) vs) (rv : Vals vs us) :
    ∃ (Ts : Nat → Addr) (qs : List (Value × Value)) (ps : List (NestedKey × Addr × Value)), us.length = qs.length ∧ (∀ (j : Nat) (k v : Value), qs[j]? = some (k, v) → us[j]? = some (Value.ref (Ts j)) ∧ PairAt s.heap (Ts j) k v) ∧ Kx W H A prs ps ∧ ps.length = qs.length ∧ ∀ (i : Nat) (key v : Value), qs[i]? = some (key, v) → ∃ k b, ps[i]? = some (k, b, v) ∧ key = Value.ref b := by
  induction prs generalizing vs us with
  | nil =>
    simp only [List.map_nil, RepAll] at r
    subst r
    cases rv
    exact ⟨fun _ => 0, [], [], rfl, fun j k v h => by simp at h, .nil, rfl, fun i k v h => by simp at h⟩
  | cons p prs ih =>
    rw [List.map_cons] at r
    simp only [RepAll] at r
    obtain ⟨v, vs', rfl, _, h1, h2⟩ := r
    cases rv with
    | @cons _ u _ us' r1 r2 =>
      obtain ⟨Ts, qs, ps, g1, g2, g3, g4, g5⟩ := ih (fun q hq => ht q (List.mem_cons_of_mem _ hq)) h2 r2
      simp only [prD, Rep] at h1
      obtain ⟨t, ws, rfl, l, _, ra⟩ := h1
      cases r1
      have l := l.sq
      rw [hK] at l
      obtain ⟨its, rw', tp, _⟩ := I.tuple l
      simp only [RepAll] at ra
      obtain ⟨kv, _, rfl, _, k1, dv, _, rfl, n2, k2, rfl⟩ := ra
      cases rw' with
      | @cons _ ku _ _ q1 q2 =>
        cases q2 with
        | @cons _ du _ _ q3 q4 =>
          cases q4
          obtain ⟨kp, ktp⟩ := ht p List.mem_cons_self
          have hkr : ∃ b, ku = .ref b := by
            cases hp : p.1 with
            | tuple ks =>
              rw [hp] at k1
              simp only [Rep] at k1
              obtain ⟨b, _, rfl, _⟩ := k1
              exact ⟨b, q1⟩
            | _ => rw [hp] at ktp; simp [isTup] at ktp
          obtain ⟨b, rfl⟩ := hkr
          refine ⟨fun j => match j with | 0 => t | j + 1 => Ts j, (.ref b, du) :: qs, (nkD p.1, b, du) :: ps, by simp [g1], fun j k v h => ?_, .cons ⟨rfl, ⟨kv, q1, k1⟩, n2, dv, q3, k2⟩ g3, by simp [g4], fun i key v h => ?_⟩
          · cases j with
            | zero => cases h; exact ⟨rfl, .inl (show IsTup s.heap t #[Value.ref b, du] by simpa using tp)⟩
            | succ j => exact g2 j k v h
          · cases i with
            | zero => cases h; exact ⟨_, b, rfl, rfl⟩
            | succ i => exact g5 i key v h
/-- the new dict -/
theorem dic_made (hw : W.w = X.w) {h' : Heap} {tk : Nat} (I : Inv X pins σ H s) {p : Addr} {xs : List (NestedKey × Addr × Value)} (kp : ∀ b o, s.heap.get? b = some o → h'.get? b = some o) (hp : s.heap.objs.size ≤ p) (dd : h'.DictOfH (nestedKind X.prog X.w) p xs) (kx : Kx W H A kvs xs) (g : DicG p kvs) :
    ∃ es ep, Inv X pins σ (upd H p (DicO p es ep)) { s with heap := h', toks := tk } ∧ ResV W H (upd H p (DicO p es ep)) A (.dict kvs) true (.ref p) := by
  obtain ⟨o, es, ep, q1, q2, q3, q4, q5, q6⟩ := dd
  have hraw : h'.DictRaw p es.toList.toArray ep := ⟨o, q1, q2, by simpa using q3⟩
  have hn : H p = none := I.hok.fresh hp
  refine ⟨es.toList, ep, I.laid kp hp (dicO_ok hraw), p, rfl, hn, es.toList, ep, upd_same, g, ?_⟩
  have := kx_ent (P := X.prog) kx
  rw [q4, ← hw]
  exact this.tr (Same.tr1 (same_upd hn) hn)
theorem call_dct (hK : W.K = X.K) (hw : W.w = X.w) (hh : B.handled = none) (hu : B.units + 20 < cLine) (I : Inv X pins σ H s) {xs : List PyData} {v : V} {u : Value} (hv : Rb W H A (.list xs) v) (ru : RelV v u) (hd : dctD xs [] = some kvs) {Q : VK} (q : ∀ v H', Same H H' → ResV W H H' A (.dict kvs) true v → Q v H') :
    wpAny (model X.prog X.w) B (call (.type "dict") [u]) (EP X pins σ Q) E s := by
  obtain ⟨prs, rfl, ht⟩ := dctD_pairs hd
  obtain ⟨l, vs, rfl, sl, z, rr⟩ := hv.list
  cases ru
  rw [hK] at sl
  obtain ⟨its, rv, ⟨o, n, hl, hc, hdn, hdat⟩, _⟩ := I.list sl
  obtain ⟨Ts, qs, ps, g1, g2, g3, g4, g5⟩ := pairs_kx hK I ht rr rv
  have hb : (s.heap.objs.size == sysModules) = false := by
    have := I.big
    simp only [beq_eq_false_iff_ne]
    exact Nat.ne_of_gt this
  have hlen : prs.length ≤ sizeLine := by
    have := rr.length
    rw [List.length_map] at this
    omega
  obtain ⟨kx, g⟩ := dct_kx (a := s.heap.objs.size) hd g3 .nil (dicG_new hb) (by simpa using hlen)
  have his := g3.is hK I fun p hp => (ht p hp).1
  refine call_dict_pairsH (knd := nestedKind X.prog X.w) (PairArg.list l its.toArray Ts qs) hh (by show B.units + 1 + 1 + 8 < cLine; omega) ⟨⟨o, n, hl, hc, hdn, hdat⟩, by simpa using g1, fun j k v h => ?_⟩ ⟨g4, fun i key v h => g5 i key v h⟩ (fun h' hk x hx => ?_) (by rw [← g4, kx_len g3]; exact hlen) fun h' tk dd hk => ?_
  · obtain ⟨e1, e2⟩ := g2 j k v h
    exact ⟨by simpa using e1, e2⟩
  · exact nestedKind_stays.stays (fun b ob _ _ e _ => hk b ob (Nat.ne_of_lt (Heap.lt_size e)) (by simp) e) (his x hx)
  · obtain ⟨es, ep, I', res⟩ := dic_made (tk := tk) hw I (fun b ob e => hk b ob (by simp) e) (Nat.le_refl _) dd kx g
    exact ⟨.ref _, _, I', rfl, q _ _ (same_upd (I.hok.fresh (Nat.le_refl _))) res⟩
theorem call_dlen (I : Inv X pins σ H s) (d : DicR W H A a kvs) {Q : VK} (q : Q (.int kvs.length) H) : wpAny (model X.prog X.w) B (call (.builtin "len") [.ref a]) (EP X pins σ Q) E s := by
  obtain ⟨es, ep, e, g, l⟩ := d
  have hr := dic_raw I e
  have hl := l.length
  refine call_len_slot (n := kvs.length) hr.typeIs PySem.F.slot_dict_len (fun Q' hq => call_len_raw g.sm hr (by simpa [hl] using hq)) (by omega) (by have := g.len; rw [sizeLine_eq] at this; omega) ⟨.int _, H, I.tok _, ⟨_, rfl⟩, q⟩
theorem key_nd {k : PyData} (h : keyB 8 k = true) : ndD k := by
  cases k with
  | dict _ => simp [keyB] at h
  | _ => simp only [ndD]
theorem ent_keys : ∀ {kvs : List (PyData × PyData)} {es : List DictEntry}, EntAll W H A kvs es → (∀ p ∈ kvs, keyB 8 p.1 = true) → ∃ vs, Vals vs (es.map (·.key)) ∧ RepAll W H A (kvs.map (·.1)) vs
  | [], _, l, _ => by
    simp only [EntAll] at l
    subst l
    exact ⟨[], .nil, by simp only [List.map_nil, RepAll]⟩
  | (k, d) :: r, _, l, hk => by
    simp only [EntAll, EntOne] at l
    obtain ⟨e1, es', rfl, ⟨kv, dv, g1, _, _, _, g5, _⟩, h2⟩ := l
    obtain ⟨vs, q1, q2⟩ := ent_keys h2 fun p hp => hk p (List.mem_cons_of_mem _ hp)
    exact ⟨kv :: vs, .cons g1 q1, RepAll.cons (key_nd (hk (k, d) List.mem_cons_self)) g5 q2⟩
theorem call_dlist (hh : B.handled = none) (I : Inv X pins σ H s) (d : DicR W H A a kvs) {Q : VK} (q : ∀ v H', Same H H' → ResV W H H' A (.list (kvs.map (·.1))) true v → Q v H') : wpAny (model X.prog X.w) B (call (.type "list") [.ref a]) (EP X pins σ Q) E s := by
  obtain ⟨es, ep, e, g, l⟩ := d
  have hr := dic_raw I e
  have hl := l.length
  refine PySem.W.kdl_call (PySem.KdlSrc.rawDict (es := es.toArray) (ep := ep) g.sm) hh hr (by simp only [List.size_toArray, hl]; exact g.len) fun h' tk acc' c' hk hD hacc => ?_
  have hn : H s.heap.objs.size = none := I.hok.fresh (Nat.le_refl _)
  obtain ⟨vs, rv, ra⟩ := ent_keys l g.key
  have hacc' : acc' = (es.map (·.key)).toArray := by
    obtain ⟨h1, h2⟩ := hacc
    refine Array.ext (by simpa using h1) fun i hi hj => ?_
    obtain ⟨hi', e'⟩ := h2 i acc'[i] (by simp [hi])
    rw [e']
    simp
  have hz : vs.length ≤ sizeLine := by rw [ra.length, List.length_map]; exact g.len
  subst hacc'
  exact ⟨.ref _, upd H s.heap.objs.size (.lst vs), I.laid hk (Nat.le_refl _) ⟨hz, _, c', rv, hD⟩, rfl, q _ _ (same_upd hn) (new_lst hn hz ra)⟩
theorem zip_prs : ∀ (xs ys : List PyData), List.zipWith (fun x y => PyData.tuple [x, y]) xs ys = (xs.zip ys).map prD
  | [], _ => by simp
  | _ :: _, [] => by simp
  | x :: xs, y :: ys => by rw [List.zipWith_cons_cons, List.zip_cons_cons, List.map_cons, zip_prs xs ys]; rfl
theorem zip_kx (hK : W.K = X.K) : ∀ {xs ys : List PyData} {vs ws : List V} {us qs : List Value}, (∀ p ∈ xs.zip ys, keyB 8 p.1 = true ∧ isTup p.1 = true) → RepAll W H A xs vs → Vals vs us → RepAll W H A ys ws → Vals ws qs →
    ∃ ps : List (NestedKey × Addr × Value), Kx W H A (xs.zip ys) ps ∧ ps.length = min us.length qs.length ∧ ∀ (i : Nat) (key v : Value), us[i]? = some key → qs[i]? = some v → ∃ k b, ps[i]? = some (k, b, v) ∧ key = Value.ref b
  | [], _, _, _, _, _, _, r, rv, _, _ => by
    simp only [RepAll] at r
    subst r
    cases rv
    exact ⟨[], .nil, by simp, fun i key v h => by simp at h⟩
  | x :: xs, [], _, _, _, _, _, _, _, r, rv => by
    simp only [RepAll] at r
    subst r
    cases rv
    exact ⟨[], .nil, by simp, fun i key v h h2 => by simp at h2⟩
  | x :: xs, y :: ys, _, _, _, _, ht, r1, rv1, r2, rv2 => by
    simp only [RepAll] at r1 r2
    obtain ⟨kv, vs, rfl, n1, k1, r1⟩ := r1
    obtain ⟨dv, ws, rfl, n2, k2, r2⟩ := r2
    cases rv1 with
    | @cons _ ku _ us q1 rv1 =>
      cases rv2 with
      | @cons _ du _ qs q2 rv2 =>
        obtain ⟨ps, h1, h2, h3⟩ := zip_kx hK (fun p hp => ht p (List.mem_cons_of_mem _ hp)) r1 rv1 r2 rv2
        obtain ⟨_, ktp⟩ := ht (x, y) List.mem_cons_self
        have hkr : ∃ b, ku = .ref b := by
          cases x with
          | tuple ks =>
            simp only [Rep] at k1
            obtain ⟨b, _, rfl, _⟩ := k1
            exact ⟨b, q1⟩
          | _ => simp [isTup] at ktp
        obtain ⟨b, rfl⟩ := hkr
        refine ⟨(nkD x, b, du) :: ps, .cons ⟨rfl, ⟨kv, q1, k1⟩, n2, dv, q2, k2⟩ h1, by simp only [List.length_cons, h2]; omega, fun i key v e1 e2 => ?_⟩
        cases i with
        | zero => cases e1; cases e2; exact ⟨_, b, rfl, rfl⟩
        | succ i => exact h3 i key v e1 e2
theorem zip_apart (n l1 l2 : Nat) (h1 : l1 < n) (h2 : l2 < n) : ZipApart (n + 4) (n + 2) (n + 3) n (n + 1) l1 l2 := by
  constructor <;> first | exact Nat.ne_of_lt (by omega) | exact Nat.ne_of_gt (by omega)
theorem zip_new {n b : Nat} (h : b < n) : b ∉ ([n + 4, n + 3, n, n + 1] : List Nat) := by
  simp only [List.mem_cons, List.not_mem_nil, or_false]
  omega
theorem call_dzip (hK : W.K = X.K) (hw : W.w = X.w) (hh : B.handled = none) (hu : B.units + 20 < cLine) (I : Inv X pins σ H s) {xs ys : List PyData} {v1 v2 : V} {u1 u2 : Value} (h1 : Rb W H A (.list xs) v1) (h2 : Rb W H A (.list ys) v2) (ru1 : RelV v1 u1) (ru2 : RelV v2 u2)
    (hd : dctD (List.zipWith (fun x y => PyData.tuple [x, y]) xs ys) [] = some kvs) {Q : VK} (q : ∀ v H', Same H H' → ResV W H H' A (.dict kvs) true v → Q v H') :
    wpAny (model X.prog X.w) B (call (.type "zip") [u1, u2]) (fun z s1 => wpAny (model X.prog X.w) B (call (.type "dict") [z]) (EP X pins σ Q) E s1) E s := by
  rw [zip_prs] at hd
  obtain ⟨prs, e0, ht⟩ := dctD_pairs hd
  have inj : ∀ {l m : List (PyData × PyData)}, l.map prD = m.map prD → l = m := by
    intro l
    induction l with
    | nil => intro m h; cases m with
      | nil => rfl
      | cons _ _ => cases h
    | cons p l ih => intro m h; cases m with
      | nil => cases h
      | cons q m =>
        rw [List.map_cons, List.map_cons] at h
        injection h with h1 h2
        unfold prD at h1
        injection h1 with h1
        injection h1 with h1 h3
        injection h3 with h3
        rw [ih h2]
        congr 1
        exact Prod.ext h1 h3
  have e0 := inj e0
  subst e0
  obtain ⟨l1, vs, rfl, sl1, z1, rr1⟩ := h1.list
  obtain ⟨l2, ws, rfl, sl2, z2, rr2⟩ := h2.list
  cases ru1
  cases ru2
  rw [hK] at sl1 sl2
  obtain ⟨us, rv1, pl1, _⟩ := I.list sl1
  obtain ⟨qs, rv2, pl2, _⟩ := I.list sl2
  obtain ⟨ps, g3, g4, g5⟩ := zip_kx (X := X) hK ht rr1 rv1 rr2 rv2
  have his := g3.is hK I fun p hp => (ht p hp).1
  have i1 := pl1.isList
  have i2 := pl2.isList
  have lt1 : l1 < s.heap.objs.size := by obtain ⟨o, e, _⟩ := i1; exact Heap.lt_size e
  have lt2 : l2 < s.heap.objs.size := by obtain ⟨o, e, _⟩ := i2; exact Heap.lt_size e
  refine PySem.call_zip_2 i1 i2 fun h' a1 a2 a3 a4 a5 a6 a7 => ?_
  have hlen : (xs.zip ys).length ≤ sizeLine := by
    rw [List.length_zip]
    have := rr1.length
    omega
  have hb : (h'.objs.size == sysModules) = false := by
    have h0 := I.big
    have h1 : sysModules < h'.objs.size := Nat.lt_of_lt_of_le h0 (by rw [a6]; omega)
    simp only [beq_eq_false_iff_ne]
    exact Nat.ne_of_gt h1
  obtain ⟨kx, g⟩ := dct_kx (a := h'.objs.size) hd g3 .nil (dicG_new hb) (by simpa using hlen)
  refine call_dict_pairsH (s := { s with heap := h' }) (knd := nestedKind X.prog X.w) (PairArg.zip (s.heap.objs.size + 4) (s.heap.objs.size + 2) (s.heap.objs.size + 3) s.heap.objs.size (s.heap.objs.size + 1) l1 l2 ?_ us.toArray qs.toArray) hh (by show B.units + 1 + 1 + 8 < cLine; omega) ⟨a1, a2, ⟨_, _, a3⟩, a4, a5, i1.at fun o e => a7 _ o e, i2.at fun o e => a7 _ o e⟩ ⟨by simpa using g4, fun i key v h => g5 i key v (by simpa using h.1) (by simpa using h.2)⟩ (fun h2 hk x hx => ?_) ?_ fun h2 tk dd hk => ?_
  · exact zip_apart _ _ _ lt1 lt2
  · refine nestedKind_stays.stays (fun b ob _ _ e _ => hk b ob ?_ ?_ (a7 b ob e)) (his x hx)
    · exact Nat.ne_of_lt (Nat.lt_of_lt_of_le (Heap.lt_size e) (by show s.heap.objs.size ≤ h'.objs.size; rw [a6]; exact Nat.le_add_right _ _))
    · exact zip_new (Heap.lt_size e)
  · have := kx_len g3
    rw [g4] at this
    simp only [List.size_toArray]
    rw [this]; exact hlen
  · have I' : L2.Inv X pins σ H { s with heap := h' } := I.kept (t' := s.toks) a7
    have hk' : ∀ b o, s.heap.get? b = some o → h2.get? b = some o := fun b o e => hk b o (zip_new (Heap.lt_size e)) (a7 b o e)
    obtain ⟨es, ep, I2, res⟩ := dic_made (tk := tk) (p := h'.objs.size) hw I hk' (by rw [a6]; omega) dd kx g
    exact ⟨.ref _, _, I2, rfl, q _ _ (same_upd (I.hok.fresh (by rw [a6]; omega))) res⟩
end
end M
namespace M
open PySem L2 PyProof.Rows
theorem ndB_iff {d : PyData} (h : ndB d = true) : ndD d := by
  cases d with
  | dict _ => cases h
  | _ => simp only [ndD]
/-- a table of the text with text keys, its values ints -/
structure DKp (X : Cx) (a : Addr) (kvs : List (PyData × PyData)) : Prop where
  str : ∀ k, keyIn kvs k = true → ∃ z, k = .str z
  kd : ∃ es n, KDict X.K X.w a es n
  look : ∀ z : Str, (∃ p u i, kvs.find? (fun p => PyData.eqv p.1 (.str z)) = some p ∧ PySem.W.nsIn X.K a z = some (some u) ∧ p.2 = .int i ∧ RelV (.int i) u) ∨ (kvs.find? (fun p => PyData.eqv p.1 (.str z)) = none ∧ PySem.W.nsIn X.K a z = some none)
mutual
theorem plain_of : ∀ {d : PyData}, d.canLay0 = true → d.plain = true
  | .none, _ => by simp [PyData.plain]
  | .bool _, _ => by simp [PyData.plain]
  | .int _, _ => by simp [PyData.plain]
  | .str _, _ => by simp [PyData.plain]
  | .list xs, h => by simp only [PyData.plain]; exact plainAll_of (by simpa only [PyData.canLay0] using h)
  | .tuple xs, h => by simp only [PyData.plain]; exact plainAll_of (by simpa only [PyData.canLay0] using h)
  | .dict kvs, h => by simp [PyData.canLay0] at h
theorem plainAll_of : ∀ {ds : List PyData}, PyData.canLayAll0 ds = true → PyData.plainAll ds = true
  | [], _ => by simp [PyData.plainAll]
  | d :: ds, h => by
    simp only [PyData.canLayAll0, Bool.and_eq_true] at h
    simp only [PyData.plainAll, Bool.and_eq_true]
    exact ⟨plain_of h.1, plainAll_of h.2⟩
end
section
variable {X : Cx} {W : Wd}
def rCmp (W : Wd) (op : CmpOp) : R2 := fun x y H Q => ∃ A d e k, Rb W H A d x ∧ Rb W H A e y ∧ cmpD op d e = some k ∧ Q (.bl k) H
theorem depth_list (ds : List PyData) : PyData.depth (.list ds) = PyData.depthAll ds + 1 := by simp only [PyData.depth]
def isNon : PyData → Bool
  | .none => true
  | _ => false
theorem any_find {α : Type} (p : α → Bool) : ∀ l : List α, l.any p = (l.find? p).isSome
  | [] => rfl
  | x :: r => by
    rw [List.any_cons, List.find?_cons]
    cases p x with
    | true => rfl
    | false => rw [Bool.false_or]; exact any_find p r
theorem op_cmp (hK : W.K = X.K) (hw : W.w = X.w) (hD : ∀ a kvs, W.DK a kvs → DKp X a kvs) (hu : X.A.units + 200 < cLine) (op : CmpOp) : OpR X (compareOp op) (rCmp W op) := by
  intro pins s σ H x y v u Q I rx ry h
  obtain ⟨A, d, e, k, hd, he, hp, q⟩ := h
  have reads : ∀ {d : PyData} {x : V} {v : Value}, Rb W H A d x → RelV x v → ndB d = true → ∃ as, Reads s.heap v d as ∧ d.canLay0 = true := fun {d x v} h r n => by
    obtain ⟨h1, h2⟩ := h.dp (ndB_iff n)
    rw [hK] at h1
    obtain ⟨as, h3⟩ := Dp.reads I d x v h1 r
    exact ⟨as, h3, h2⟩
  have eqs : eqOk d e = true → ndB d = true ∧ ndB e = true ∧ X.A.units + min d.depth e.depth < cLine := fun z => by
    unfold eqOk at z
    simp only [Bool.and_eq_true, decide_eq_true_eq] at z
    obtain ⟨z1, z2, z3⟩ := z
    refine ⟨z1, z2, ?_⟩
    have := Nat.min_le_left d.depth e.depth
    have := Nat.min_le_right d.depth e.depth
    omega
  have ords : ordOk d e = true → PySem.W.alike d e = true ∧ X.A.units + min d.depth e.depth < cLine := fun z => by
    unfold ordOk at z
    simp only [Bool.and_eq_true, decide_eq_true_eq] at z
    obtain ⟨z1, z3⟩ := z
    refine ⟨z1, ?_⟩
    have := Nat.min_le_left d.depth e.depth
    have := Nat.min_le_right d.depth e.depth
    omega
  have nonAll : ∀ {d : PyData} {x : V}, Rb W H A d x → (decide (x = V.non) = isNon d) := fun {d x} h => by
    cases d with
    | none => rw [h.non]; rfl
    | bool b => rw [h.bool]; rfl
    | int b => rw [h.int]; rfl
    | str b => rw [h.str.1]; rfl
    | list b => obtain ⟨a, _, rfl, _⟩ := h.list; rfl
    | tuple b => obtain ⟨a, _, rfl, _⟩ := h.tuple; rfl
    | dict b => obtain ⟨a, rfl⟩ := h.dictR; rfl
  cases op with
  | Eq =>
    simp only [cmpD] at hp
    split at hp
    · rename_i z
      cases hp
      obtain ⟨z1, z2, z3⟩ := eqs z
      obtain ⟨as, r1, c1⟩ := reads hd rx z1
      obtain ⟨bs, r2, c2⟩ := reads he ry z2
      exact SeqAt.compareEq_reads r1 r2 c1 c2 z3 ⟨.bl _, H, I, rfl, q⟩
    · cases d with
      | dict xs =>
        cases e with
        | dict ys =>
          simp only [dicEq] at hp
          split at hp
          · rename_i z
            cases hp
            rw [Bool.and_eq_true] at z
            have al : ∀ {zs : List (PyData × PyData)}, flatDic (.dict zs) = true → ∀ p ∈ zs, isTup p.1 = true ∧ keyB 8 p.1 = true ∧ flatD p.2 = true := fun {zs} h p hp => by
              unfold flatDic at h
              rw [List.all_eq_true] at h
              have := h p hp
              rw [Bool.and_eq_true, Bool.and_eq_true] at this
              exact ⟨this.1.1, this.1.2, this.2⟩
            have tk : ∀ {zs : List (PyData × PyData)}, flatDic (.dict zs) = true → tupK zs = true := fun {zs} h => by
              unfold tupK
              rw [List.all_eq_true]
              exact fun p hp => (al h p hp).1
            have dr : ∀ {zs : List (PyData × PyData)} {x : V}, flatDic (.dict zs) = true → Rb W H A (.dict zs) x → ∃ a, x = .ref a ∧ DicR W H A a zs := fun {zs x} h r => by
              obtain ⟨a, e1, ha | r⟩ := r.dict (spK_tup (tk h))
              · have := W.dn a zs ha
                rw [tk h] at this
                cases this
              · exact ⟨a, e1, r⟩
            obtain ⟨a, rfl, d1⟩ := dr z.1 hd
            obtain ⟨b, rfl, d2⟩ := dr z.2 he
            cases rx
            cases ry
            exact dic_eq hK hw hu I d1 d2 (al z.1) (al z.2) ⟨.bl _, H, I, rfl, q⟩
          · cases hp
        | _ => cases hp
      | _ => cases hp
  | NotEq =>
    simp only [cmpD] at hp
    split at hp
    · rename_i z
      cases hp
      obtain ⟨z1, z2, z3⟩ := eqs z
      obtain ⟨as, r1, c1⟩ := reads hd rx z1
      obtain ⟨bs, r2, c2⟩ := reads he ry z2
      exact SeqAt.compareNe_reads r1 r2 c1 c2 z3 ⟨.bl _, H, I, rfl, q⟩
    · cases hp
  | Lt =>
    cases d <;> cases e <;> simp only [cmpD, reduceCtorEq] at hp
    case tuple.tuple xs ys =>
      split at hp
      · rename_i z
        cases hp
        obtain ⟨z1, z3⟩ := ords z
        obtain ⟨as, r1, c1⟩ := reads hd rx rfl
        obtain ⟨bs, r2, c2⟩ := reads he ry rfl
        exact PySem.W.lt_data r1 r2 z1 (fun z => by cases z) z3 ⟨.bl _, H, I, rfl, q⟩
      · cases hp
    cases hp
    exact op_lt pins s σ H x y v u Q I rx ry ⟨_, _, hd.int, he.int, q⟩
  | LtE =>
    cases d <;> cases e <;> simp only [cmpD, reduceCtorEq] at hp
    case tuple.tuple xs ys =>
      split at hp
      · rename_i z
        cases hp
        obtain ⟨z1, z3⟩ := ords z
        obtain ⟨as, r1, c1⟩ := reads hd rx rfl
        obtain ⟨bs, r2, c2⟩ := reads he ry rfl
        exact PySem.W.le_data r1 r2 z1 (fun z => by cases z) z3 ⟨.bl _, H, I, rfl, q⟩
      · cases hp
    cases hp
    exact op_le pins s σ H x y v u Q I rx ry ⟨_, _, hd.int, he.int, q⟩
  | Gt =>
    cases d <;> cases e <;> simp only [cmpD, reduceCtorEq] at hp
    case tuple.tuple xs ys =>
      split at hp
      · rename_i z
        cases hp
        obtain ⟨z1, z3⟩ := ords z
        obtain ⟨as, r1, c1⟩ := reads hd rx rfl
        obtain ⟨bs, r2, c2⟩ := reads he ry rfl
        exact PySem.W.gt_data r1 r2 z1 (fun z => by cases z) z3 ⟨.bl _, H, I, rfl, q⟩
      · cases hp
    cases hp
    exact op_gt pins s σ H x y v u Q I rx ry ⟨_, _, hd.int, he.int, q⟩
  | GtE =>
    cases d <;> cases e <;> simp only [cmpD, reduceCtorEq] at hp
    case tuple.tuple xs ys =>
      split at hp
      · rename_i z
        cases hp
        obtain ⟨z1, z3⟩ := ords z
        obtain ⟨as, r1, c1⟩ := reads hd rx rfl
        obtain ⟨bs, r2, c2⟩ := reads he ry rfl
        exact PySem.W.ge_data r1 r2 z1 (fun z => by cases z) z3 ⟨.bl _, H, I, rfl, q⟩
      · cases hp
    cases hp
    exact op_ge pins s σ H x y v u Q I rx ry ⟨_, _, hd.int, he.int, q⟩
  | Is =>
    by_cases hb : ∃ a b, d = .bool a ∧ e = .bool b
    · obtain ⟨a, b, rfl, rfl⟩ := hb
      simp only [cmpD] at hp
      cases hp
      exact op_isBl pins s σ H x y v u Q I rx ry ⟨a, b, hd.bool, he.bool, q⟩
    have e1 : e = .none ∧ k = isNon d := by
      cases d <;> cases e <;> simp only [cmpD, reduceCtorEq] at hp <;> first | (cases hp; exact ⟨rfl, rfl⟩) | exact absurd ⟨_, _, rfl, rfl⟩ hb
    obtain ⟨rfl, rfl⟩ := e1
    refine op_isN pins s σ H x y v u Q I rx ry ⟨he.non, ?_⟩
    rw [nonAll hd]
    exact q
  | IsNot =>
    by_cases hb : ∃ a b, d = .bool a ∧ e = .bool b
    · obtain ⟨a, b, rfl, rfl⟩ := hb
      simp only [cmpD] at hp
      cases hp
      exact op_notBl pins s σ H x y v u Q I rx ry ⟨a, b, hd.bool, he.bool, q⟩
    have e1 : e = .none ∧ k = !isNon d := by
      cases d <;> cases e <;> simp only [cmpD, reduceCtorEq] at hp <;> first | (cases hp; exact ⟨rfl, rfl⟩) | exact absurd ⟨_, _, rfl, rfl⟩ hb
    obtain ⟨rfl, rfl⟩ := e1
    refine op_notN pins s σ H x y v u Q I rx ry ⟨he.non, ?_⟩
    rw [nonAll hd]
    exact q
  | In =>
    cases e with
    | list ds =>
      have hp' : (if ndB d = true ∧ d.depth ≤ 64 then some (ds.any fun z => PyData.eqv z d) else none) = some k := by
        rw [← hp]; cases d <;> rfl
      split at hp'
      · rename_i z
        cases hp'
        obtain ⟨as, r1, c1⟩ := reads hd rx z.1
        obtain ⟨bs, r2, c2⟩ := reads he ry rfl
        have hm : X.A.units + 1 + min (PyData.depthAll ds) d.depth < cLine := by
          have := Nat.min_le_right (PyData.depthAll ds) d.depth
          omega
        exact SeqAt.in_list_reads r2 r1 c2 c1 hm ⟨.bl _, H, I, rfl, q⟩
      · cases hp'
    | tuple ds =>
      have hp' : (if ndB d = true ∧ d.depth ≤ 64 then some (ds.any fun z => PyData.eqv z d) else none) = some k := by
        rw [← hp]; cases d <;> rfl
      split at hp'
      · rename_i z
        cases hp'
        obtain ⟨as, r1, c1⟩ := reads hd rx z.1
        obtain ⟨bs, r2, c2⟩ := reads he ry rfl
        have hm : X.A.units + 1 + min (PyData.depthAll ds) d.depth < cLine := by
          have := Nat.min_le_right (PyData.depthAll ds) d.depth
          omega
        exact PySem.SeqAt.in_tuple_data r2 r1 (plainAll_of (by simpa only [PyData.canLay0] using c2)) (plain_of c1) hm ⟨.bl _, H, I, rfl, q⟩
      · cases hp'
    | dict kvs =>
      have hp' : (if keyIn kvs d = true then some (hasD kvs d) else none) = some k := by
        rw [← hp]; cases d <;> rfl
      split at hp'
      · rename_i z
        cases hp'
        obtain ⟨a, rfl, ha | dr⟩ := he.dict (spK_in z)
        · obtain ⟨st, ⟨es, n, kd⟩, lk⟩ := hD a kvs ha
          obtain ⟨z', rfl⟩ := st d z
          unfold hasD at q
          rw [any_find] at q
          rcases lk z' with ⟨p, u', i, h1, h2, _⟩ | ⟨h1, h2⟩
          · rw [h1] at q
            exact op_in_kd kd pins s σ H x _ v u Q I rx ry ⟨z', some u', hd.str.1, rfl, h2, q⟩
          · rw [h1] at q
            exact op_in_kd kd pins s σ H x _ v u Q I rx ry ⟨z', none, hd.str.1, rfl, h2, q⟩
        · have rk : Rep W H A d x := hd.key (keyIn_of z).1
          cases ry
          obtain ⟨o, ov, f1, f2, _, _, g1, g2, _⟩ := dic_look (E := X.xe) (B := X.A) hK hw (by omega) I dr z rk rx
          rw [f2] at q
          exact g1 _ fun s' I' => ⟨.bl _, H, I', rfl, q⟩
      · cases hp'
    | _ => cases d <;> simp [cmpD] at hp
  | NotIn =>
    cases e with
    | list ds =>
      have hp' : (if ndB d = true ∧ d.depth ≤ 64 then some (!ds.any fun z => PyData.eqv z d) else none) = some k := by
        rw [← hp]; cases d <;> rfl
      split at hp'
      · rename_i z
        cases hp'
        obtain ⟨as, r1, c1⟩ := reads hd rx z.1
        obtain ⟨bs, r2, c2⟩ := reads he ry rfl
        have hm : X.A.units + 1 + min (PyData.depthAll ds) d.depth < cLine := by
          have := Nat.min_le_right (PyData.depthAll ds) d.depth
          omega
        exact SeqAt.notIn_list_reads r2 r1 c2 c1 hm ⟨.bl _, H, I, rfl, q⟩
      · cases hp'
    | tuple ds =>
      have hp' : (if ndB d = true ∧ d.depth ≤ 64 then some (!ds.any fun z => PyData.eqv z d) else none) = some k := by
        rw [← hp]; cases d <;> rfl
      split at hp'
      · rename_i z
        cases hp'
        obtain ⟨as, r1, c1⟩ := reads hd rx z.1
        obtain ⟨bs, r2, c2⟩ := reads he ry rfl
        have hm : X.A.units + 1 + min (PyData.depthAll ds) d.depth < cLine := by
          have := Nat.min_le_right (PyData.depthAll ds) d.depth
          omega
        exact PySem.SeqAt.notIn_tuple_data r2 r1 (plainAll_of (by simpa only [PyData.canLay0] using c2)) (plain_of c1) hm ⟨.bl _, H, I, rfl, q⟩
      · cases hp'
    | dict kvs =>
      have hp' : (if keyIn kvs d = true then some (!hasD kvs d) else none) = some k := by
        rw [← hp]; cases d <;> rfl
      split at hp'
      · rename_i z
        cases hp'
        obtain ⟨a, rfl, ha | dr⟩ := he.dict (spK_in z)
        · obtain ⟨st, ⟨es, n, kd⟩, lk⟩ := hD a kvs ha
          obtain ⟨z', rfl⟩ := st d z
          unfold hasD at q
          rw [any_find] at q
          rcases lk z' with ⟨p, u', i, h1, h2, _⟩ | ⟨h1, h2⟩
          · rw [h1] at q
            exact op_notIn_kd kd pins s σ H x _ v u Q I rx ry ⟨z', some u', hd.str.1, rfl, h2, q⟩
          · rw [h1] at q
            exact op_notIn_kd kd pins s σ H x _ v u Q I rx ry ⟨z', none, hd.str.1, rfl, h2, q⟩
        · have rk : Rep W H A d x := hd.key (keyIn_of z).1
          cases ry
          obtain ⟨o, ov, f1, f2, _, _, g1, g2, _⟩ := dic_look (E := X.xe) (B := X.A) hK hw (by omega) I dr z rk rx
          rw [f2] at q
          exact g2 _ fun s' I' => ⟨.bl _, H, I', rfl, q⟩
      · cases hp'
    | _ => cases d <;> simp [cmpD] at hp
/-! ### truth -/
theorem isEmpty_of_len {α β : Type} {xs : List α} {ys : List β} (h : xs.length = ys.length) : xs.isEmpty = ys.isEmpty := by
  cases xs <;> cases ys <;> simp_all
theorem truV_of {H : Hp} {A : Addr → Prop} {d : PyData} {x : V} {k : Bool} (h : Rb W H A d x) (e : truD d = some k) : TruV W.K x H k := by
  cases d with
  | none => cases e; rw [h.non]; rfl
  | bool b => cases e; rw [h.bool]; rfl
  | int b => cases e; rw [h.int]; rfl
  | str b =>
    cases e
    obtain ⟨rfl, _, z⟩ := h.str
    exact ⟨z, rfl⟩
  | list b =>
    cases e
    obtain ⟨a, vs, rfl, l, _, r⟩ := h.list
    exact .inl ⟨vs, l, by rw [isEmpty_of_len r.length]⟩
  | tuple b =>
    cases e
    obtain ⟨a, vs, rfl, l, _, r⟩ := h.tuple
    exact .inr (.inl ⟨vs, l.sq, by rw [isEmpty_of_len r.length]⟩)
  | dict b => cases e
/-! ### isinstance -/
def tyN : Ty → String
  | .int => "int"
  | .bool => "bool"
  | .str => "str"
  | .tuple => "tuple"
  | .list => "list"
def dTy : PyData → String
  | .none => "NoneType"
  | .bool _ => "bool"
  | .int _ => "int"
  | .str _ => "str"
  | .list _ => "list"
  | .tuple _ => "tuple"
  | .dict ((.bool _, _) :: _) => "tuple"
  | .dict _ => "dict"
theorem kit_all (t : Ty) (d : PyData) : kitB (dTy d) (tyN t) = some (isD t d) := by
  unfold dTy
  split <;> cases t <;> (try (simp only [tyN, isD]; decide +kernel))
  all_goals
    rename_i kvs hk
    match kvs, hk with
    | [], _ => simp only [tyN, isD]; decide +kernel
    | (k, z) :: r, hk => cases k <;> first | (exact absurd rfl (hk _ _ _)) | (simp only [tyN, isD]; decide +kernel)
/-- what the written part says of the error classes -/
structure XcOk (W : Wd) (K : PySem.W.Frag) : Prop where
  cl : ∀ c, c < W.nc → (PySem.W.clsIn K (W.ca c)).isSome = true
  ga : ∀ c, c < W.nc → PySem.W.findIn K (.ref (W.ca c)) "__getattribute__" = some (some (.builtin "BaseException.__getattribute__"))
  gt : ∀ c, c < W.nc → PySem.W.findIn K (.ref (W.ca c)) "__getattr__" = some none
  sb : ∀ c, c < W.nc → PySem.W.subIn K (.ref (W.ca c)) (.type "BaseException") = some true
  cc : ∀ c, c < W.nc → PySem.W.findIn K (.ref (W.ca c)) "__class__" = some (some (.builtin "object.__class__"))
  mo : ∀ c, c < W.nc → PySem.W.mroIn K (W.ca c) (.type "object") = some true
  ty : ∀ c, c < W.nc → ∀ t : Ty, PySem.W.kitOne K (.ref (W.ca c)) (.type (tyN t)) = some false
  ve : ∀ c, c < W.nc → PySem.W.kitOne K (.ref (W.ca c)) (.type "ValueError") = some true
  xx : ∀ c c', c < W.nc → c' < W.nc → PySem.W.kitOne K (.ref (W.ca c)) (.ref (W.ca c')) = some (subX c (some c'))
  xm : ∀ c c', c < W.nc → c' < W.nc → PySem.W.exmOne K (.ref (W.ca c)) (.ref (W.ca c')) = some (subX c (some c'))
  sp : 0 < W.nc → PySem.W.specialIn K (.builtin "object.__class__") "__get__" = some (some (.builtin "getset_descriptor.__get__"))
  tk : 0 < W.nc → PySem.W.takesIn K (.builtin "object.__class__") = some true
/-- an error lies there -/
def ExcA (W : Wd) (H : Hp) (a : Addr) (c : Nat) : Prop := c < W.nc ∧ ∃ d, H a = some (ExcO a (W.ca c) d) ∧ (d = none ∨ ∃ dx gs, d = some dx ∧ H dx = some (exd dx gs))
theorem exc_inst {pins : List (Addr × Obj)} {σ : St} {H : Hp} {s : Shared} {a : Addr} {c : Nat} (I : Inv X pins σ H s) (h : ExcA W H a c) : ∃ oe od, PySem.W.InstAt s.heap a oe (W.ca c) od := by
  obtain ⟨_, d, e, hd⟩ := h
  obtain ⟨⟨o, vs, h1, h2, h3, h4⟩, _, _⟩ := I.hok a _ e
  have no : PySem.W.notCls o = true := by
    obtain ⟨oc, od, oda, osl⟩ := o
    dsimp only at h4
    subst h4
    rfl
  rcases hd with rfl | ⟨dx, gs, rfl, ex⟩
  · exact ⟨o, none, h1, h2, no, by rw [h3]; trivial⟩
  · obtain ⟨⟨m, ⟨ob, _, _, hb, _⟩, _⟩, _, _⟩ := I.hok dx _ ex
    exact ⟨o, some ob, h1, h2, no, by rw [h3]; exact hb⟩
/-- isinstance of an error -/
theorem is_exc (hX : XcOk W X.K) {pins : List (Addr × Obj)} {σ : St} {H : Hp} {s : Shared} {a : Addr} {c : Nat} {cv : Value} {b : Bool} {Q : VK} (I : Inv X pins σ H s) (h : ExcA W H a c) (e : PySem.W.kitOne X.K (.ref (W.ca c)) cv = some b) (q : Q (.bl b) H) :
    wpAny (model X.prog X.w) X.A (call (.builtin "isinstance") [.ref a, cv]) (EP X pins σ Q) X.xe s := by
  obtain ⟨oe, od, J⟩ := exc_inst I h
  have hc := h.1
  have h0 : 0 < W.nc := Nat.lt_of_le_of_lt (Nat.zero_le c) hc
  exact PySem.W.kia_one (PySem.W.kitx_exc (hX.cl c hc) (hX.ga c hc) (hX.gt c hc) (hX.sb c hc) (hX.cc c hc) (hX.sp h0) (hX.tk h0) (hX.mo c hc)) I.kIn J e (fun z => nomatch z) fun tk => ⟨.bl b, H, I.tok tk, rfl, q⟩
theorem tyX_of (hK : W.K = X.K) (hD : ∀ a kvs, W.DK a kvs → DKp X a kvs) {H : Hp} {A : Addr → Prop} {d : PyData} {x : V} (h : Rb W H A d x) : TyX X.K H x (.type (dTy d)) ∨ (∃ a es ep, x = .ref a ∧ dTy d = "dict" ∧ H a = some (DicO a es ep)) ∨ ∃ a c, x = .ref a ∧ ExcA W H a c ∧ ∀ t, isD t d = false := by
  cases d with
  | none => rw [h.non]; exact .inl (.base .non)
  | bool b => rw [h.bool]; exact .inl (.base (.bl b))
  | int b => rw [h.int]; exact .inl (.base (.int b))
  | str b => rw [h.str.1]; exact .inl (.base (.str b))
  | list b =>
    obtain ⟨a, vs, rfl, l, _, r⟩ := h.list
    rw [hK] at l
    rcases l with (l | ⟨o, l⟩) | ⟨o, its, n, hk, hc, _⟩
    · exact .inl (.base (.lst l))
    · exact .inl (.base (.frz l))
    · exact .inl (.kList hk hc)
  | tuple b =>
    obtain ⟨a, vs, rfl, l, _, r⟩ := h.tuple
    have l := l.sq
    rw [hK] at l
    rcases l with (l | ⟨o, l⟩) | ⟨o, its, n, hk, hc, _⟩
    · exact .inl (.base (.tup l))
    · exact .inl (.fTuple l)
    · exact .inl (.kTuple hk hc)
  | dict b =>
    have go : spK b = false → dTy (.dict b) = "dict" := fun hs => by
      match b, hs with
      | [], _ => rfl
      | (k, z) :: r, hs => cases k <;> first | rfl | (cases hs)
    by_cases hs : spK b = false
    · obtain ⟨a, rfl, ha | ⟨es, ep, e, _⟩⟩ := h.dict hs
      · obtain ⟨_, ⟨es, n, kd⟩, _⟩ := hD a b ha
        rw [go hs]
        exact .inl (.kDict kd.at_ rfl)
      · exact .inr (.inl ⟨a, es, ep, rfl, go hs, e⟩)
    · rcases h with h | ⟨a, rfl, es, ep, e, g, _⟩
      · simp only [Rep] at h
        obtain ⟨a, rfl, ha | ⟨_, es, ep, e, g, _⟩ | ⟨n, c, d, hc, ha, h⟩ | ⟨vs, l, _, h, _⟩⟩ := h
        · exact absurd (W.ds a b ha) hs
        · exact absurd g.nsp hs
        · refine .inr (.inr ⟨a, c, rfl, ⟨hc, d, ha, ?_⟩, ?_⟩)
          · rcases h with ⟨rfl, _⟩ | ⟨dx, gs, e1, _, e2, _⟩
            · exact .inl rfl
            · exact .inr ⟨dx, gs, e1, e2⟩
          · have hb : ∃ z r, b = (.none, z) :: r := by
              rcases h with ⟨_, rfl⟩ | ⟨_, _, _, _, _, e3, _⟩
              · exact ⟨_, _, rfl⟩
              · match b, e3 with
                | (k, z) :: r, e3 =>
                  have e4 : k = .none := (List.cons.inj e3).1
                  exact ⟨z, r, by rw [e4]⟩
            obtain ⟨z, r, rfl⟩ := hb
            intro t
            cases t <;> rfl
        · have hb : ∃ z r, b = (.bool true, z) :: r := by
            match b, h with
            | (k, z) :: r, h =>
              have e4 : k = .bool true := (List.cons.inj h).1
              exact ⟨z, r, by rw [e4]⟩
          obtain ⟨z, r, rfl⟩ := hb
          have l := l.sq
          rw [hK] at l
          show TyX X.K H (.ref a) (.type "tuple") ∨ _
          rcases l with (l | ⟨o, l⟩) | ⟨o, its, n, hk, hc, _⟩
          · exact .inl (.base (.tup l))
          · exact .inl (.fTuple l)
          · exact .inl (.kTuple hk hc)
      · exact absurd g.nsp hs
def rIsiM (W : Wd) (t : Ty) : List V → Hp → VK → Prop := fun xs H Q => ∃ A d x, xs = [x, .ty (tyN t)] ∧ Rb W H A d x ∧ Q (.bl (isD t d)) H
theorem call_isiM (hX : XcOk W X.K) (hK : W.K = X.K) (hD : ∀ a kvs, W.DK a kvs → DKp X a kvs) (t : Ty) : CallR X (.builtin "isinstance") (rIsiM W t) := by
  intro pins s σ H xs us Q I r h
  obtain ⟨A, d, x, rfl, hx, q⟩ := h
  rcases tyX_of hK hD hx with ty | ⟨a, es, ep, rfl, e1, e2⟩ | ⟨a, c, rfl, ha, hf⟩
  · exact call_isi pins s σ H _ us Q I r ⟨x, .ty (tyN t), .type (dTy d), .type (tyN t), isD t d, rfl, .ty _, ty, kit_ty (kit_all t d), q⟩
  · obtain ⟨u1, u2, rfl, r1, r2⟩ := vals2 r
    cases r1
    cases r2
    obtain ⟨o, h1, h2, _⟩ := dic_raw I e2
    have k := kit_ty (K := X.K) (kit_all t d)
    rw [e1] at k
    exact PySem.W.kia_one PySem.W.kitx_dict I.kIn ⟨o, h1, h2.1⟩ k (fun z => nomatch z) fun tk => ⟨.bl _, H, I.tok tk, rfl, q⟩
  · obtain ⟨u1, u2, rfl, r1, r2⟩ := vals2 r
    cases r1
    cases r2
    rw [hf t] at q
    exact is_exc hX I ha (hX.ty c ha.1 t) q
/-! ### subscripts -/
theorem atI_rep {H : Hp} {A : Addr → Prop} {ds : List PyData} {vs : List V} {i : Int} {g : PyData} (r : RepAll W H A ds vs) (h : atI ds i = some g) : ∃ v, atI vs i = some v ∧ ndD g ∧ Rep W H A g v := by
  unfold atI at h ⊢
  rw [r.length]
  cases e : ixN ds.length i with
  | none => rw [e] at h; cases h
  | some j =>
    rw [e] at h
    exact r.get h
def rSubM (W : Wd) : R2 := fun x y H Q => ∃ A d e g, Rb W H A d x ∧ Rb W H A e y ∧ subD d e = some g ∧ ∀ v, Rep W H A g v → Q v H
theorem ix_sub (hK : W.K = X.K) (hw : W.w = X.w) (hu : X.A.units + 200 < cLine) (hD : ∀ a kvs, W.DK a kvs → DKp X a kvs) : IxR X (rSubM W) := by
  intro value slice pins s σ H x y v u Q I rx ry h hs
  obtain ⟨A, d, e, g, hd, he, hg, q⟩ := h
  by_cases hdic : isDic d = true
  · cases d <;> simp only [isDic, Bool.false_eq_true] at hdic
    rename_i kvs
    simp only [subD] at hg
    split at hg
    · rename_i kin
      obtain ⟨a, rfl, ha | dr⟩ := hd.dict (spK_in kin)
      · obtain ⟨st, ⟨es, n, kd⟩, lk⟩ := hD a kvs ha
        obtain ⟨z, rfl⟩ := st e kin
        unfold findD at hg
        rcases lk z with ⟨p, u', i, h1, h2, h3, h4⟩ | ⟨h1, h2⟩
        · rw [h1] at hg
          cases hg
          have e1 := he.str.1
          subst e1
          cases rx
          obtain ⟨t, rfl⟩ := ry
          exact tail_any (kd_type kd I) slot_dict_getitem.lookup (op_item_kd kd pins s σ H (.ref a) (.str z) _ _ Q I rfl ⟨t, rfl⟩ ⟨z, u', .int i, rfl, rfl, h2, h4, q _ (by show Rep W H A p.2 _; rw [h3]; simp only [Rep])⟩) hs
        · rw [h1] at hg
          cases hg
      · have rk : Rep W H A e y := he.key (keyIn_of kin).1
        cases rx
        obtain ⟨o, ov, f1, f2, _, f4, _, _, g3, _⟩ := dic_look (E := X.xe) (B := X.A) hK hw (by omega) I dr kin rk ry
        rw [f1] at hg
        obtain ⟨_, gv, gu, e1, r1, r2⟩ := f4 g hg
        obtain ⟨es, ep, e2, _⟩ := dr
        have ty : s.TypeIs (.ref a) "dict" := (dic_raw I e2).typeIs
        exact tail_any ty slot_dict_getitem.lookup (g3 _ gu e1 fun s' I' => ⟨gv, H, I', r1, q gv r2⟩) hs
    · cases hg
  cases d <;> cases e <;> simp only [subD, reduceCtorEq] at hg <;> (try (exact absurd rfl hdic))
  case list.int ds i =>
    obtain ⟨a, vs, rfl, l, z, r⟩ := hd.list
    rw [hK] at l
    obtain ⟨w, h1, _, h2⟩ := atI_rep r hg
    exact ix_list value slice pins s σ H _ y v u Q I rx ry ⟨a, vs, i, w, rfl, he.int, l, h1, q w h2⟩ hs
  case tuple.int ds i =>
    obtain ⟨a, vs, rfl, l, z, r⟩ := hd.tuple
    have l := l.sq
    rw [hK] at l
    obtain ⟨w, h1, _, h2⟩ := atI_rep r hg
    exact ix_tup value slice pins s σ H _ y v u Q I rx ry ⟨a, vs, i, w, rfl, he.int, l, h1, q w h2⟩ hs
/-! ### slices -/
theorem cut_rep {H : Hp} {A : Addr → Prop} {ds : List PyData} {vs : List V} (r : RepAll W H A ds vs) (lo hi : Option Int) : RepAll W H A (cutD ds lo hi) (cutV vs lo hi) := by
  unfold cutD cutV
  rw [r.length]
  exact (r.drop _).take _
def rSlM (W : Wd) : V → Option Int → Option Int → Hp → VK → Prop := fun x lo hi H Q => ∃ A d p, AvOk H A ∧ Rb W H A d x ∧ slcD d lo hi = some p ∧ ∀ v H', Same H H' → ResV W H H' A p.1 p.2 v → Q v H'
theorem sl_slc (hK : W.K = X.K) : SlR X (rSlM W) := by
  intro pins s σ H x v vl vu lo hi sl Q I rx hs pl pu h
  obtain ⟨A, d, p, hA, hd, hp, q⟩ := h
  cases d <;> simp only [slcD, reduceCtorEq] at hp
  case list ds =>
    cases hp
    obtain ⟨a, vs, rfl, l, z, r⟩ := hd.list
    rw [hK] at l
    exact sl_list pins s σ H _ v vl vu lo hi sl Q I rx hs pl pu ⟨a, vs, rfl, l, fun p hp => q _ _ (same_upd hp) (new_lst hp (Nat.le_trans (cutV_length vs lo hi) z) (cut_rep r lo hi))⟩
  case tuple ds =>
    cases hp
    obtain ⟨a, vs, rfl, l, z, r⟩ := hd.tuple
    have l' := l.sq
    rw [hK] at l'
    refine sl_tupA pins s σ H _ v vl vu lo hi sl Q I rx hs pl pu ⟨a, vs, rfl, l', fun hw => q _ H (Same.refl H) ?_, fun hw p hp => q _ _ (same_upd hp) (new_tup hA hp (Nat.le_trans (cutV_length vs lo hi) z) (cut_rep r lo hi))⟩
    show Rep W H A (.tuple (cutD ds lo hi)) (.ref a)
    have e : cutD ds lo hi = ds := by
      unfold cutD
      rw [← r.length, hw.1, hw.2, List.drop_zero, Nat.sub_zero, r.length, List.take_length]
    rw [e]
    simp only [Rep]
    exact ⟨a, vs, rfl, l, z, r⟩
end
end M
namespace M
open PySem L2 PyProof.Rows
def RbAll (W : Wd) (H : Hp) (A : Addr → Prop) : List PyData → List V → Prop
  | [], vs => vs = []
  | d :: ds, vs => ∃ v r, vs = v :: r ∧ Rb W H A d v ∧ RbAll W H A ds r
theorem RbAll.one {W : Wd} {H : Hp} {A : Addr → Prop} {d : PyData} {vs : List V} (h : RbAll W H A [d] vs) : ∃ v, vs = [v] ∧ Rb W H A d v := by
  obtain ⟨v, r, rfl, h1, h2⟩ := h
  cases h2
  exact ⟨v, rfl, h1⟩
theorem RbAll.two {W : Wd} {H : Hp} {A : Addr → Prop} {d e : PyData} {vs : List V} (h : RbAll W H A [d, e] vs) : ∃ v w, vs = [v, w] ∧ Rb W H A d v ∧ Rb W H A e w := by
  obtain ⟨v, r, rfl, h1, h2⟩ := h
  obtain ⟨w, rfl, h3⟩ := RbAll.one h2
  exact ⟨v, w, rfl, h1, h3⟩
def bltV : Blt → Value
  | .len => .builtin "len"
  | .abs => .builtin "abs"
  | .sum => .builtin "sum"
  | .all => .builtin "all"
  | .any => .builtin "any"
  | .min1 => .builtin "min"
  | .max1 => .builtin "max"
  | .min2 => .builtin "min"
  | .max2 => .builtin "max"
  | .srt => .builtin "sorted"
  | .lst => .type "list"
  | .tup => .type "tuple"
  | .int => .type "int"
  | .str => .type "str"
  | .repr => .builtin "repr"
  | .sset => .builtin "sorted"
  | .sit => .builtin "sorted"
  | .dzip => .type "dict"
  | .dct => .type "dict"
def rBlt (W : Wd) (b : Blt) : List V → Hp → VK → Prop := fun xs H Q => ∃ A ds p, AvOk H A ∧ RbAll W H A ds xs ∧ bltD b ds = some p ∧ ∀ v H', Same H H' → ResV W H H' A p.1 p.2 v → Q v H'
section
variable {X : Cx} {W : Wd}
theorem alike_ints1 (ns : List Int) : PySem.W.AlikeAll (ns.map PyData.int) := by
  refine ⟨fun x hx y hy => ?_, fun x hx => ?_⟩
  · obtain ⟨i, _, rfl⟩ := List.mem_map.mp hx
    obtain ⟨j, _, rfl⟩ := List.mem_map.mp hy
    simp [PySem.W.alike]
  · obtain ⟨i, _, rfl⟩ := List.mem_map.mp hx
    intro z; cases z
theorem intsD_map : ∀ {ds : List PyData} {ns : List Int}, intsD ds = some ns → ds = ns.map PyData.int
  | [], ns, h => by cases h; rfl
  | d :: ds, ns, h => by
    cases d with
    | int i =>
      simp only [intsD] at h
      cases q : intsD ds with
      | none => rw [q] at h; cases h
      | some ms =>
        rw [q] at h
        cases h
        rw [List.map_cons, ← intsD_map q]
    | _ => simp [intsD] at h
theorem reads_int {h : Heap} {v : Value} {i : Int} {as : List Addr} (r : Reads h v (.int i) as) : ∃ t, v = .int i t := by
  cases r
  exact ⟨_, rfl⟩
/-- the values and the data, item by item -/
theorem rep_zip {H : Hp} {A : Addr → Prop} : ∀ {ds : List PyData} {vs : List V}, RepAll W H A ds vs → ∀ p ∈ vs.zip ds, ndD p.2 ∧ Rep W H A p.2 p.1
  | [], _, h, p, hp => by
    simp only [RepAll] at h
    subst h
    simp at hp
  | d :: ds, _, h, p, hp => by
    simp only [RepAll] at h
    obtain ⟨v, r, rfl, n, h1, h2⟩ := h
    rw [List.zip_cons_cons] at hp
    rcases List.mem_cons.mp hp with e | e
    · subst e; exact ⟨n, h1⟩
    · exact rep_zip h2 p e
theorem rep_unzip {H : Hp} {A : Addr → Prop} : ∀ {l : List (V × PyData)}, (∀ p ∈ l, ndD p.2 ∧ Rep W H A p.2 p.1) → RepAll W H A (l.map (·.2)) (l.map (·.1))
  | [], _ => by simp [RepAll]
  | p :: l, h => RepAll.cons (h p List.mem_cons_self).1 (h p List.mem_cons_self).2 (rep_unzip fun q hq => h q (List.mem_cons_of_mem _ hq))
theorem each_of {R : Value → V × PyData → Prop} : ∀ {vs : List V} {us : List Value} {ds : List PyData}, Vals vs us → vs.length = ds.length → (∀ v u d, RelV v u → (v, d) ∈ vs.zip ds → R u (v, d)) → PySem.W.EachIs R us (vs.zip ds)
  | [], _, ds, r, hl, h => by
    cases r
    cases ds with
    | nil => exact .nil
    | cons _ _ => cases hl
  | v :: vs, _, ds, r, hl, h => by
    cases r with
    | cons r1 r2 =>
      cases ds with
      | nil => cases hl
      | cons d ds =>
        rw [List.zip_cons_cons] at h ⊢
        exact .cons (h _ _ _ r1 List.mem_cons_self) (each_of r2 (by simpa using hl) fun v u d r m => h v u d r (List.mem_cons_of_mem _ m))
theorem each_vals : ∀ {us : List Value} {l : List (V × PyData)}, PySem.W.EachIs (fun u (p : V × PyData) => RelV p.1 u) us l → Vals (l.map (·.1)) us
  | _, _, .nil => .nil
  | _, _, .cons r1 r2 => .cons r1 (each_vals r2)
theorem depth_mem : ∀ {ds : List PyData} {d : PyData}, d ∈ ds → d.depth ≤ PyData.depthAll ds
  | e :: ds, d, h => by
    simp only [PyData.depthAll]
    rcases List.mem_cons.mp h with z | z
    · subst z; exact Nat.le_max_left _ _
    · exact Nat.le_trans (depth_mem z) (Nat.le_max_right _ _)
theorem sortOk_of {xs : List PyData} (h : sortOk xs = true) : PySem.W.AllAlike xs ∧ PyData.depthAll xs ≤ 64 ∧ PySem.W.Sortable xs := by
  unfold sortOk at h
  simp only [Bool.and_eq_true, Bool.or_eq_true, decide_eq_true_eq] at h
  obtain ⟨h1, h2, h3⟩ := h
  refine ⟨fun d hd d' hd' => ?_, h2, ?_⟩
  · unfold alikeB at h1
    exact List.all_eq_true.mp (List.all_eq_true.mp h1 d hd) d' hd'
  · rcases h3 with h3 | h3
    · refine .inl fun d hd => ?_
      have := List.all_eq_true.mp h3 d hd
      split at this
      · exact ⟨_, _, rfl⟩
      · cases this
    · refine .inr fun d hd => ?_
      have := List.all_eq_true.mp h3 d hd
      cases d <;> simp_all
theorem call_srt (hK : W.K = X.K) (hu : X.A.units + 200 < cLine) : CallR X (.builtin "sorted") (fun xs H Q => ∃ A ys, ∃ v, xs = [v] ∧ Rb W H A (.list ys) v ∧ sortOk ys = true ∧ ∀ v H', Same H H' → ResV W H H' A (.list (ys.mergeSort leD)) true v → Q v H') := by
  intro pins s σ H xs us Q I r h
  obtain ⟨A, ys, v, rfl, hv, hz, q⟩ := h
  obtain ⟨a, vs, rfl, l, z, rr⟩ := hv.list
  rw [hK] at l
  obtain ⟨u, rfl, ru⟩ := vals1 r
  cases ru
  obtain ⟨its, rv, hl, _⟩ := I.list l
  obtain ⟨z1, z2, z3⟩ := sortOk_of hz
  have hlen := rr.length
  have hd := rep_zip rr
  have hmap : (vs.zip ys).map (·.2) = ys := List.map_snd_zip (by omega)
  have e1 : PySem.W.EachIs (fun u (p : V × PyData) => RelV p.1 u) its (vs.zip ys) := each_of rv hlen fun v u d r _ => r
  have e2 : PySem.W.EachIs (fun u (p : V × PyData) => ∃ as, Reads s.heap u p.2 as) its (vs.zip ys) := each_of rv hlen fun v u d r m => by
    obtain ⟨n, h1⟩ := hd _ m
    have h2 := (Rep.dp n h1).1
    rw [hK] at h2
    exact Dp.reads I d v u h2 r
  refine PySem.W.sorted_data hl.isList e1 e2 (by rw [hmap]; exact z1) (by rw [hmap]; exact z3) ?_ (fun b hb => ?_) fun out ho eo => ?_
  · rw [List.length_zip, hlen, Nat.min_self, ← hlen]; exact z
  · have : b.2 ∈ ys := by rw [← hmap]; exact List.mem_map.mpr ⟨b, hb, rfl⟩
    have := depth_mem this
    omega
  · obtain ⟨ep, he'⟩ := PyProof.Rows.sortedAll_at s.heap its out.toArray
    have hv' := each_vals eo
    have hmem : ∀ p ∈ (vs.zip ys).mergeSort (PySem.W.dataLe false (·.2)), ndD p.2 ∧ Rep W H A p.2 p.1 := fun p hp => hd p (List.mem_mergeSort.mp hp)
    have hr := rep_unzip hmem
    have hsort : ((vs.zip ys).mergeSort (PySem.W.dataLe false (·.2))).map (·.2) = ys.mergeSort leD := by
      have h1 := PySem.W.sort_maps (r := PySem.W.dataLe false (·.2)) (s := leD) (fun p : V × PyData => p.2) (l := vs.zip ys) (fun _ _ _ _ => rfl)
      rw [hmap] at h1
      exact h1
    rw [hsort] at hr
    have hlen' : (((vs.zip ys).mergeSort (PySem.W.dataLe false (·.2))).map (·.1)).length ≤ sizeLine := by
      rw [List.length_map, List.length_mergeSort, List.length_zip, hlen, Nat.min_self, ← hlen]; exact z
    have hf : H (s.heap.objs.size + 1) = none := I.hok.fresh (Nat.le_succ _)
    exact ⟨.ref _, upd H (s.heap.objs.size + 1) (.lst _), I.laid (t' := s.toks) (fun _ _ => PyProof.Rows.sortedAll_old) (Nat.le_succ _) ⟨hlen', out, ep, hv', he'⟩, rfl, q _ _ (same_upd hf) (new_lst hf hlen' hr)⟩
theorem strOk_of (x : String) : PyData.strOk (Str.ofString x) = true := by
  unfold PyData.strOk
  rw [Str.ofString_eq_toList]
  simp only [List.all_toArray, List.all_map, List.all_eq_true, Function.comp_apply, decide_eq_true_eq]
  intro c _
  have h := c.valid
  unfold UInt32.isValidChar Nat.isValidChar at h
  show c.val.toNat < 0x110000
  omega
theorem int_strOk {i : Int} (_ : i.natAbs.log2 < 1920) : PyData.strOk (Str.ofString (toString i)) = true := strOk_of _
theorem int_short {i : Int} (h : i.natAbs.log2 < 1920) : (Str.ofString (toString i)).length ≤ sizeLine := int_text_fits h
theorem sumT_raw {prog : Program} {w : World} {A : Around} {E : Value → Shared → Prop} {s : Shared} {t : Addr} {its : List Value} {ns : List Int} {Q : Value → Shared → Prop} (hh : A.handled = none) (hl : s.heap.IsTuple t its.toArray) (hi : IntsAre its ns)
    (h : ∀ h' tk t', (∀ b o, s.heap.get? b = some o → h'.get? b = some o) → Q (.int ns.sum t') { s with heap := h', toks := tk }) : wpAny (model prog w) A (call (.builtin "sum") [.ref t]) Q E s := by
  obtain ⟨xs, e⟩ := hi.allInts.items
  have hn : numsOf (intItems xs).toList = ns := by rw [← e]; exact hi.numsOf
  rw [nums_intItems] at hn
  rw [e] at hl
  refine PySem.W.ktm_sumG hh hl fun h' tk t' hk => ?_
  have := h h' tk t' hk
  rw [preSum_eq, List.take_of_length_le (by simp), hn]; exact this
theorem flat_tup {kvs : List (PyData × PyData)} (h : flatDic (.dict kvs) = true) : tupK kvs = true := by
  unfold flatDic at h
  rw [List.all_eq_true] at h
  unfold tupK
  rw [List.all_eq_true]
  intro p hp
  have := h p hp
  rw [Bool.and_eq_true, Bool.and_eq_true] at this
  exact this.1.1
mutual
theorem key_as : ∀ (n : Nat) (d : PyData) {h : Heap} {v : Value} {as : List Addr}, keyB n d = true → Reads h v d as → as = []
  | _, .int _, _, _, _, _, r => by cases r; rfl
  | _, .str _, _, _, _, _, r => by cases r; rfl
  | n + 1, .tuple ds, _, _, _, k, r => by
    cases r with
    | tuple _ _ _ r =>
      unfold keyB at k
      exact keys_as n ds k r
  | 0, .tuple _, _, _, _, k, _ => by cases k
  | n, .none, _, _, _, k, _ => by cases n <;> cases k
  | n, .bool _, _, _, _, k, _ => by cases n <;> cases k
  | n, .list _, _, _, _, k, _ => by cases n <;> cases k
  | n, .dict _, _, _, _, k, _ => by cases n <;> cases k
theorem keys_as : ∀ (n : Nat) (ds : List PyData) {h : Heap} {vs : List Value} {as : List Addr}, ds.all (keyB n) = true → ReadsAll h vs ds as → as = []
  | _, [], _, _, _, _, r => by cases r; rfl
  | n, d :: ds, _, _, _, k, r => by
    rw [List.all_cons, Bool.and_eq_true] at k
    cases r with
    | cons r1 r2 => rw [key_as n d k.1 r1, keys_as n ds k.2 r2]; rfl
end
theorem flat_as {d : PyData} {h : Heap} {v : Value} {as : List Addr} (k : flatD d = true) (r : Reads h v d as) : as = [] := by
  cases r <;> first | rfl | (cases k)
theorem ent_reads {X : Cx} {W : Wd} {pins : List (Addr × Obj)} {σ : St} {H : Hp} {s : Shared} {A : Addr → Prop} (hK : W.K = X.K) (I : Inv X pins σ H s) : ∀ {kvs : List (PyData × PyData)} {es : List DictEntry}, (∀ p ∈ kvs, keyB 8 p.1 = true ∧ flatD p.2 = true) → EntAll W H A kvs es → ReadsAll s.heap (es.map (·.key)) (kvs.map (·.1)) [] ∧ ReadsAll s.heap (es.map (·.val)) (kvs.map (·.2)) []
  | [], _, _, l => by
    simp only [EntAll] at l
    subst l
    exact ⟨.nil, .nil⟩
  | (k, d) :: r, _, hk, l => by
    simp only [EntAll, EntOne] at l
    obtain ⟨e, es, rfl, ⟨kv, dv, h1, h2, _, h4, h5, h6⟩, h7⟩ := l
    obtain ⟨q1, q2⟩ := hk _ List.mem_cons_self
    obtain ⟨i1, i2⟩ := ent_reads hK I (fun p hp => hk p (List.mem_cons_of_mem _ hp)) h7
    have go : ∀ {d : PyData} {v : V} {u : Value}, ndD d → Rep W H A d v → RelV v u → ∃ as, Reads s.heap u d as := fun {d v u} n r ru => by
      have h1 := (Rep.dp n r).1
      rw [hK] at h1
      exact Dp.reads I d v u h1 ru
    have nk : ndD k := by
      cases k with
      | dict _ => cases q1
      | _ => simp only [ndD]
    obtain ⟨as, r1⟩ := go nk h5 h1
    obtain ⟨bs, r2⟩ := go h4 h6 h2
    have e1 := key_as 8 k q1 r1
    have e2 := flat_as q2 r2
    subst e1 e2
    exact ⟨.cons r1 i1, .cons r2 i2⟩
theorem dic_reads {X : Cx} {W : Wd} {pins : List (Addr × Obj)} {σ : St} {H : Hp} {s : Shared} {A : Addr → Prop} (hK : W.K = X.K) (I : Inv X pins σ H s) {a : Addr} {kvs : List (PyData × PyData)} (dr : ∃ es ep, H a = some (DicO a es ep) ∧ DicG a kvs ∧ EntAll W H A kvs es) (hf : flatDic (.dict kvs) = true) : Reads s.heap (.ref a) (.dict kvs) ([a] ++ []) ∧ sysModules ∉ ([a] ++ []) := by
  obtain ⟨es, ep, e, g, l⟩ := dr
  obtain ⟨o, ho, hx, hd⟩ := dic_raw I e
  unfold flatDic at hf
  rw [List.all_eq_true] at hf
  obtain ⟨r1, r2⟩ := ent_reads hK I (fun p hp => by
    have := hf p hp
    rw [Bool.and_eq_true, Bool.and_eq_true] at this
    exact ⟨this.1.2, this.2⟩) l
  refine ⟨Reads.dict (as := []) ho hx.1 hd r1 r2, fun z => ?_⟩
  have z : sysModules = a := by simpa using z
  have := g.sm
  rw [z] at this
  simp at this
theorem call_blt (hK : W.K = X.K) (hw : W.w = X.w) (hc : X.calm = true) (hgu : X.A.guards = some []) (hun : X.A.units + 200 < cLine) (b : Blt) (hb : b ≠ .sset ∧ b ≠ .sit ∧ b ≠ .dzip) : CallR X (bltV b) (rBlt W b) := by
  intro pins s σ H xs us Q I r h
  obtain ⟨A, ds, p, hA, hx, hp, q⟩ := h
  have q0 : ∀ (g : PyData) (z : V), p = (g, false) → Rep W H A g z → Q z H := fun g z e r => by
    subst e
    exact q z H (Same.refl H) r
  cases b with
  | len =>
    match ds, hp, hx with
    | [.list ys], hp, hx =>
      cases hp
      obtain ⟨v, rfl, hv⟩ := hx.one
      obtain ⟨a, vs, rfl, l, z, rr⟩ := hv.list
      rw [hK] at l
      exact call_len_seq pins s σ H _ us Q I r ⟨a, vs, rfl, .inl l, q0 _ _ rfl (by simp only [Rep]; rw [rr.length])⟩
    | [.tuple ys], hp, hx =>
      cases hp
      obtain ⟨v, rfl, hv⟩ := hx.one
      obtain ⟨a, vs, rfl, l, z, rr⟩ := hv.tuple
      have l := l.sq
      rw [hK] at l
      exact call_len_seq pins s σ H _ us Q I r ⟨a, vs, rfl, .inr l, q0 _ _ rfl (by simp only [Rep]; rw [rr.length])⟩
    | [.str y], hp, hx =>
      cases hp
      obtain ⟨v, rfl, hv⟩ := hx.one
      obtain ⟨rfl, _, z⟩ := hv.str
      exact call_len_str pins s σ H _ us Q I r ⟨y, rfl, z, q0 _ _ rfl (by simp only [Rep])⟩
    | [.dict kvs], hp, hx =>
      simp only [bltD] at hp
      split at hp
      · rename_i z
        cases hp
        obtain ⟨v, rfl, hv⟩ := hx.one
        obtain ⟨a, rfl, ha | dr⟩ := hv.dict (spK_tup z)
        · have := W.dn a kvs ha
          rw [z] at this
          cases this
        · rw [Vals.ref1 r]
          exact call_dlen I dr (q0 _ _ rfl (by simp only [Rep]))
      · cases hp
  | abs =>
    match ds, hp, hx with
    | [.int i], hp, hx =>
      cases hp
      obtain ⟨v, rfl, hv⟩ := hx.one
      exact call_abs pins s σ H _ us Q I r ⟨i, by rw [hv.int], q0 _ _ rfl (by simp only [Rep])⟩
  | sum =>
    match ds, hp, hx with
    | [.list ys], hp, hx =>
      obtain ⟨v, rfl, hv⟩ := hx.one
      obtain ⟨a, vs, rfl, l, z, rr⟩ := hv.list
      rw [hK] at l
      simp only [bltD] at hp
      cases e : intsD ys with
      | none => rw [e] at hp; cases hp
      | some ns =>
        rw [e] at hp
        cases hp
        rw [rr.ints e] at l
        exact cr_sum hc pins s σ H _ us Q I r ⟨a, ns, rfl, l, q0 _ _ rfl (by simp only [Rep])⟩
    | [.tuple ys], hp, hx =>
      obtain ⟨v, rfl, hv⟩ := hx.one
      obtain ⟨a, vs, rfl, l, z, rr⟩ := hv.tuple
      have l := l.sq
      rw [hK] at l
      simp only [bltD] at hp
      cases e : intsD ys with
      | none => rw [e] at hp; cases hp
      | some ns =>
        rw [e] at hp
        cases hp
        rw [rr.ints e] at l
        obtain ⟨its, rv, hl, _⟩ := I.tuple l
        rw [Vals.ref1 r]
        exact sumT_raw (I.ok.hd hc) hl rv.ints fun h' tk t' hk => ⟨.int _, H, I.kept hk, ⟨_, rfl⟩, q0 _ _ rfl (by simp only [Rep])⟩
  | all =>
    match ds, hp, hx with
    | [.list ys], hp, hx =>
      obtain ⟨v, rfl, hv⟩ := hx.one
      obtain ⟨a, vs, rfl, l, z, rr⟩ := hv.list
      rw [hK] at l
      simp only [bltD] at hp
      cases e : boolsD ys with
      | none => rw [e] at hp; cases hp
      | some ns =>
        rw [e] at hp
        cases hp
        rw [rr.bools e] at l
        exact cr_all hc pins s σ H _ us Q I r ⟨a, ns, rfl, l, q0 _ _ rfl (by simp only [Rep])⟩
  | any =>
    match ds, hp, hx with
    | [.list ys], hp, hx =>
      obtain ⟨v, rfl, hv⟩ := hx.one
      obtain ⟨a, vs, rfl, l, z, rr⟩ := hv.list
      rw [hK] at l
      simp only [bltD] at hp
      cases e : boolsD ys with
      | none => rw [e] at hp; cases hp
      | some ns =>
        rw [e] at hp
        cases hp
        rw [rr.bools e] at l
        exact cr_any hc pins s σ H _ us Q I r ⟨a, ns, rfl, l, q0 _ _ rfl (by simp only [Rep])⟩
  | min2 =>
    match ds, hp, hx with
    | [.int i, .int j], hp, hx =>
      cases hp
      obtain ⟨v, w, rfl, h1, h2⟩ := hx.two
      exact call_min2 hc pins s σ H _ us Q I r ⟨i, j, by rw [h1.int, h2.int], q0 _ _ rfl (by simp only [Rep])⟩
  | max2 =>
    match ds, hp, hx with
    | [.int i, .int j], hp, hx =>
      cases hp
      obtain ⟨v, w, rfl, h1, h2⟩ := hx.two
      exact call_max2 hc pins s σ H _ us Q I r ⟨i, j, by rw [h1.int, h2.int], q0 _ _ rfl (by simp only [Rep])⟩
  | lst =>
    match ds, hp, hx with
    | [.list ys], hp, hx =>
      cases hp
      obtain ⟨v, rfl, hv⟩ := hx.one
      obtain ⟨a, vs, rfl, l, z, rr⟩ := hv.list
      rw [hK] at l
      exact call_list_of pins s σ H _ us Q I r ⟨a, vs, rfl, .inl l, fun p hp => q _ _ (same_upd hp) (new_lst hp z rr)⟩
    | [.tuple ys], hp, hx =>
      cases hp
      obtain ⟨v, rfl, hv⟩ := hx.one
      obtain ⟨a, vs, rfl, l, z, rr⟩ := hv.tuple
      have l := l.sq
      rw [hK] at l
      exact call_list_of pins s σ H _ us Q I r ⟨a, vs, rfl, .inr l, fun p hp => q _ _ (same_upd hp) (new_lst hp z rr)⟩
    | [.dict kvs], hp, hx =>
      simp only [bltD] at hp
      split at hp
      · rename_i z
        cases hp
        obtain ⟨v, rfl, hv⟩ := hx.one
        obtain ⟨a, rfl, ha | dr⟩ := hv.dict (spK_tup z)
        · have := W.dn a kvs ha
          rw [z] at this
          cases this
        · rw [Vals.ref1 r]
          exact call_dlist (I.ok.hd hc) I dr q
      · cases hp
  | tup =>
    match ds, hp, hx with
    | [.list ys], hp, hx =>
      cases hp
      obtain ⟨v, rfl, hv⟩ := hx.one
      obtain ⟨a, vs, rfl, l, z, rr⟩ := hv.list
      rw [hK] at l
      exact call_tuple_of pins s σ H _ us Q I r ⟨a, vs, rfl, .inl ⟨l, fun p hp => q _ _ (same_upd hp) (new_tup hA hp z rr)⟩⟩
    | [.tuple ys], hp, hx =>
      cases hp
      obtain ⟨v, rfl, hv⟩ := hx.one
      obtain ⟨a, vs, rfl, l, z, rr⟩ := hv.tuple
      have l' := l.sq
      rw [hK] at l'
      exact call_tuple_of pins s σ H _ us Q I r ⟨a, vs, rfl, .inr ⟨l', q0 _ _ rfl (by simp only [Rep]; exact ⟨a, vs, rfl, l, z, rr⟩)⟩⟩
  | sset => exact absurd rfl hb.1
  | sit => exact absurd rfl hb.2.1
  | dzip => exact absurd rfl hb.2.2
  | dct =>
    match ds, hp, hx with
    | [.list ys], hp, hx =>
      simp only [bltD, Option.map_eq_some_iff] at hp
      obtain ⟨kvs, hd, rfl⟩ := hp
      obtain ⟨v, rfl, hv⟩ := hx.one
      obtain ⟨u, rfl, ru⟩ := vals1 r
      exact call_dct hK hw (I.ok.hd hc) (by omega) I hv ru hd q
  | int =>
    match ds, hp, hx with
    | [.int i], hp, hx =>
      cases hp
      obtain ⟨v, rfl, hv⟩ := hx.one
      exact call_int1 pins s σ H _ us Q I r (.inl ⟨i, by rw [hv.int], q0 _ _ rfl (by simp only [Rep])⟩)
    | [.bool i], hp, hx =>
      cases hp
      obtain ⟨v, rfl, hv⟩ := hx.one
      exact call_int1 pins s σ H _ us Q I r (.inr ⟨i, by rw [hv.bool], q0 _ _ rfl (by simp only [Rep])⟩)
  | str =>
    match ds, hp, hx with
    | [.int i], hp, hx =>
      simp only [bltD] at hp
      split at hp
      · rename_i z
        cases hp
        obtain ⟨v, rfl, hv⟩ := hx.one
        exact call_str_int pins s σ H _ us Q I r ⟨i, by rw [hv.int], z, q0 _ _ rfl (by simp only [Rep]; exact ⟨trivial, int_strOk z, int_short z⟩)⟩
      · cases hp
  | repr =>
    match ds, hp, hx with
    | [d], hp, hx =>
      simp only [bltD] at hp
      split at hp
      · rename_i z
        cases hp
        obtain ⟨v, rfl, hv⟩ := hx.one
        unfold reprOk at z
        simp only [Bool.and_eq_true, decide_eq_true_eq] at z
        obtain ⟨z1, z2, z3, z4, z5⟩ := z
        obtain ⟨u, rfl, ru⟩ := vals1 r
        have hQ : ∀ s', L2.Inv X pins σ H s' → ∀ t, EP X pins σ Q (.str d.shown t) s' := fun s' I' t => ⟨.str d.shown, H, I', ⟨t, rfl⟩, q0 _ _ rfl (by simp only [Rep]; exact ⟨trivial, z5, z3⟩)⟩
        have hr : ∃ as, Reads s.heap u d as ∧ (d.hasDict = true → sysModules ∉ as) := by
          rw [Bool.or_eq_true] at z1
          rcases z1 with z1 | z1
          · have nd : ndD d := by
              cases d with
              | dict kvs => simp [PyData.canLay0] at z1
              | _ => simp only [ndD]
            have h1 := (hv.dp nd).1
            rw [hK] at h1
            obtain ⟨as, h1⟩ := Dp.reads I d v u h1 ru
            exact ⟨as, h1, PyData.noDict_hsm (PyData.hasDict_of_canLay d z1)⟩
          · cases d with
            | dict kvs =>
              have tk := flat_tup z1
              obtain ⟨a, rfl, ha | dr⟩ := hv.dict (spK_tup tk)
              · exact absurd (W.dn a kvs ha) (by rw [tk]; exact Bool.noConfusion)
              · cases ru
                obtain ⟨r1, r2⟩ := dic_reads hK I dr z1
                exact ⟨_, r1, fun _ => r2⟩
            | _ => cases z1
        obtain ⟨as, hr, hsm⟩ := hr
        have ref : ∀ {a : Addr} (hr : Reads s.heap (.ref a) d as), wpAny (model X.prog X.w) X.A (call (.builtin "repr") [.ref a]) (EP X pins σ Q) X.xe s := fun {a} hr =>
          repr_of_reads' hr z2 hsm hgu (by omega) (fun _ _ e => e) (fun h' u tk hk => hQ _ (I.kept hk) u) z3
        cases hr with
        | none => simp only [PyData.shown] at hQ; exact PySem.P.repr_of_none (hQ _ (I.tok _) _)
        | bool b => simp only [PyData.shown] at hQ; exact PySem.P.repr_of_bool (hQ _ (I.tok _) _)
        | int i t => simp only [PyData.shown] at hQ; exact PySem.P.repr_of_int (by simpa [PyData.showable] using z2) (hQ _ (I.tok _) _)
        | str x t => simp only [PyData.shown] at hQ z3; exact PySem.P.repr_of_str (hQ _ (I.tok _) _) z3
        | list h1 h2 h3 h4 => exact ref (.list h1 h2 h3 h4)
        | tuple h1 h2 h3 h4 => exact ref (.tuple h1 h2 h3 h4)
        | dict h1 h2 h3 h4 h5 => exact ref (.dict h1 h2 h3 h4 h5)
      · cases hp
  | srt =>
    match ds, hp, hx with
    | [.list ys], hp, hx =>
      simp only [bltD] at hp
      split at hp
      · rename_i z
        cases hp
        obtain ⟨v, rfl, hv⟩ := hx.one
        exact call_srt hK hun pins s σ H _ us Q I r ⟨A, ys, v, rfl, hv, z, q⟩
      · cases hp
  | min1 =>
    match ds, hp, hx with
    | [.list ys], hp, hx =>
      obtain ⟨v, rfl, hv⟩ := hx.one
      obtain ⟨a, vs, rfl, l, z, rr⟩ := hv.list
      rw [hK] at l
      simp only [bltD] at hp
      cases e : intsD ys with
      | none => rw [e] at hp; cases hp
      | some ns =>
        rw [e] at hp
        cases ns with
        | nil => cases hp
        | cons n ns =>
          cases hp
          obtain ⟨its, rv, hl, _⟩ := I.list l
          rw [Vals.ref1 r]
          have hda := (RepAll.dp rr).1
          rw [hK, intsD_map e] at hda
          obtain ⟨as, hra⟩ := Dp.readsAll I _ _ _ hda rv
          refine PySem.W.min_list_data (I.ok.hd hc) hl.isList (by simpa using hra) (alike_ints1 (n :: ns)) ?_ fun i v h' tk bs _ hm hk => ?_
          · have := PySem.W.depth_ints (n :: ns)
            show _ + PyData.depthAll ((n :: ns).map PyData.int) < _
            omega
          · rw [PySem.W.minD_ints] at hm
            obtain ⟨t, rfl⟩ := reads_int hm
            exact ⟨.int _, H, I.kept hk, ⟨_, rfl⟩, q0 _ _ rfl (by simp only [Rep])⟩
    | [.tuple ys], hp, hx =>
      obtain ⟨v, rfl, hv⟩ := hx.one
      obtain ⟨a, vs, rfl, l, z, rr⟩ := hv.tuple
      have l := l.sq
      rw [hK] at l
      simp only [bltD] at hp
      cases e : intsD ys with
      | none => rw [e] at hp; cases hp
      | some ns =>
        rw [e] at hp
        cases ns with
        | nil => cases hp
        | cons n ns =>
          cases hp
          obtain ⟨its, rv, hl, _⟩ := I.tuple l
          rw [Vals.ref1 r]
          have hda := (RepAll.dp rr).1
          rw [hK, intsD_map e] at hda
          obtain ⟨as, hra⟩ := Dp.readsAll I _ _ _ hda rv
          refine PySem.W.min_tuple_data (I.ok.hd hc) hl (by simpa using hra) (alike_ints1 (n :: ns)) ?_ fun i v h' tk bs _ hm hk => ?_
          · have := PySem.W.depth_ints (n :: ns)
            show _ + PyData.depthAll ((n :: ns).map PyData.int) < _
            omega
          · rw [PySem.W.minD_ints] at hm
            obtain ⟨t, rfl⟩ := reads_int hm
            exact ⟨.int _, H, I.kept hk, ⟨_, rfl⟩, q0 _ _ rfl (by simp only [Rep])⟩
  | max1 =>
    match ds, hp, hx with
    | [.list ys], hp, hx =>
      obtain ⟨v, rfl, hv⟩ := hx.one
      obtain ⟨a, vs, rfl, l, z, rr⟩ := hv.list
      rw [hK] at l
      simp only [bltD] at hp
      cases e : intsD ys with
      | none => rw [e] at hp; cases hp
      | some ns =>
        rw [e] at hp
        cases ns with
        | nil => cases hp
        | cons n ns =>
          cases hp
          obtain ⟨its, rv, hl, _⟩ := I.list l
          rw [Vals.ref1 r]
          have hda := (RepAll.dp rr).1
          rw [hK, intsD_map e] at hda
          obtain ⟨as, hra⟩ := Dp.readsAll I _ _ _ hda rv
          refine PySem.W.max_list_data (I.ok.hd hc) hl.isList (by simpa using hra) (alike_ints1 (n :: ns)) ?_ fun i v h' tk bs _ hm hk => ?_
          · have := PySem.W.depth_ints (n :: ns)
            show _ + PyData.depthAll ((n :: ns).map PyData.int) < _
            omega
          · rw [PySem.W.maxD_ints] at hm
            obtain ⟨t, rfl⟩ := reads_int hm
            exact ⟨.int _, H, I.kept hk, ⟨_, rfl⟩, q0 _ _ rfl (by simp only [Rep])⟩
    | [.tuple ys], hp, hx =>
      obtain ⟨v, rfl, hv⟩ := hx.one
      obtain ⟨a, vs, rfl, l, z, rr⟩ := hv.tuple
      have l := l.sq
      rw [hK] at l
      simp only [bltD] at hp
      cases e : intsD ys with
      | none => rw [e] at hp; cases hp
      | some ns =>
        rw [e] at hp
        cases ns with
        | nil => cases hp
        | cons n ns =>
          cases hp
          obtain ⟨its, rv, hl, _⟩ := I.tuple l
          rw [Vals.ref1 r]
          have hda := (RepAll.dp rr).1
          rw [hK, intsD_map e] at hda
          obtain ⟨as, hra⟩ := Dp.readsAll I _ _ _ hda rv
          refine PySem.W.max_tuple_data (I.ok.hd hc) hl (by simpa using hra) (alike_ints1 (n :: ns)) ?_ fun i v h' tk bs _ hm hk => ?_
          · have := PySem.W.depth_ints (n :: ns)
            show _ + PyData.depthAll ((n :: ns).map PyData.int) < _
            omega
          · rw [PySem.W.maxD_ints] at hm
            obtain ⟨t, rfl⟩ := reads_int hm
            exact ⟨.int _, H, I.kept hk, ⟨_, rfl⟩, q0 _ _ rfl (by simp only [Rep])⟩
end
/-! ### sorted(set(..)) of pairs -/
theorem uniq {α : Type} {r : α → α → Prop} (ir : ∀ x, ¬ r x x) (asy : ∀ x y, r x y → ¬ r y x) : ∀ {l m : List α}, l.Pairwise r → m.Pairwise r → (∀ x, x ∈ l ↔ x ∈ m) → l = m
  | [], [], _, _, _ => rfl
  | [], y :: m, _, _, h => absurd ((h y).mpr List.mem_cons_self) (by simp)
  | x :: l, [], _, _, h => absurd ((h x).mp List.mem_cons_self) (by simp)
  | x :: l, y :: m, h1, h2, h => by
    obtain ⟨a1, a2⟩ := List.pairwise_cons.mp h1
    obtain ⟨b1, b2⟩ := List.pairwise_cons.mp h2
    have e : x = y := by
      rcases List.mem_cons.mp ((h x).mp List.mem_cons_self) with e | e
      · exact e
      · rcases List.mem_cons.mp ((h y).mpr List.mem_cons_self) with e' | e'
        · exact e'.symm
        · exact absurd (b1 x e) (asy _ _ (a1 y e'))
    subst e
    congr 1
    refine uniq ir asy a2 b2 fun z => ⟨fun hz => ?_, fun hz => ?_⟩
    · rcases List.mem_cons.mp ((h z).mp (List.mem_cons_of_mem _ hz)) with e | e
      · subst e; exact absurd (a1 z hz) (ir z)
      · exact e
    · rcases List.mem_cons.mp ((h z).mpr (List.mem_cons_of_mem _ hz)) with e | e
      · subst e; exact absurd (b1 z hz) (ir z)
      · exact e
abbrev PLt (p q : Int × Int) : Prop := p.1 < q.1 ∨ (p.1 = q.1 ∧ p.2 < q.2)
theorem pIns_mem (p x : Int × Int) : ∀ l, x ∈ pIns p l ↔ x = p ∨ x ∈ l
  | [] => by simp [pIns]
  | q :: r => by
    unfold pIns
    split
    · simp [List.mem_cons]
    · split
      · rename_i e
        subst e
        simp only [List.mem_cons]
        constructor
        · rintro (e | e)
          · exact .inl e
          · exact .inr (.inr e)
        · rintro (e | e | e)
          · exact .inl e
          · exact .inl e
          · exact .inr e
      · simp only [List.mem_cons, pIns_mem p x r]
        constructor
        · rintro (e | e | e)
          · exact .inr (.inl e)
          · exact .inl e
          · exact .inr (.inr e)
        · rintro (e | e | e)
          · exact .inr (.inl e)
          · exact .inl e
          · exact .inr (.inr e)
theorem pIns_srt (p : Int × Int) : ∀ {l}, l.Pairwise PLt → (pIns p l).Pairwise PLt
  | [], _ => by simp [pIns]
  | q :: r, h => by
    obtain ⟨a1, a2⟩ := List.pairwise_cons.mp h
    unfold pIns
    split
    · rename_i e
      have e : PLt p q := of_decide_eq_true e
      refine List.pairwise_cons.mpr ⟨fun x hx => ?_, h⟩
      rcases List.mem_cons.mp hx with z | z
      · subst z; exact e
      · have := a1 x z
        simp only [PLt] at *
        omega
    · rename_i e
      have e : ¬ PLt p q := fun z => e (decide_eq_true z)
      split
      · exact h
      · rename_i n
        refine List.pairwise_cons.mpr ⟨fun x hx => ?_, pIns_srt p a2⟩
        rcases (pIns_mem p x r).mp hx with z | z
        · subst z
          simp only [PLt] at *
          have : ¬ (x.1 = q.1 ∧ x.2 = q.2) := fun z => n (Prod.ext z.1 z.2)
          omega
        · exact a1 x z
theorem pSort_mem (x : Int × Int) : ∀ l, x ∈ pSort l ↔ x ∈ l
  | [] => by simp [pSort]
  | p :: r => by
    unfold pSort
    rw [pIns_mem, pSort_mem x r, List.mem_cons]
theorem pSort_srt : ∀ l, (pSort l).Pairwise PLt
  | [] => by simp [pSort]
  | p :: r => pIns_srt p (pSort_srt r)
def lp (p : Int × Int) : List Int := [p.1, p.2]
theorem lp_inj {p q : Int × Int} (h : lp p = lp q) : p = q := by
  unfold lp at h
  injection h with h1 h2
  injection h2 with h2 _
  exact Prod.ext h1 h2
/-- a bound of all numbers in pairs -/
def pMax : List (Int × Int) → Int
  | [] => 1
  | p :: r => max (max p.1 p.2) (pMax r) + 1
theorem pMax_pos : ∀ l, 0 < pMax l
  | [] => by simp [pMax]
  | p :: r => by
    have := pMax_pos r
    simp only [pMax]
    omega
theorem pMax_lt : ∀ {l : List (Int × Int)} {p}, p ∈ l → p.1 < pMax l ∧ p.2 < pMax l
  | q :: r, p, h => by
    simp only [pMax]
    rcases List.mem_cons.mp h with e | e
    · subst e; omega
    · have := pMax_lt e
      omega
theorem pairs_nonneg : ∀ {ds : List PyData} {ps : List (Int × Int)}, pairsD ds = some ps → ∀ p ∈ ps, 0 ≤ p.1 ∧ 0 ≤ p.2
  | [], _, h, p, hp => by cases h; cases hp
  | d :: ds, ps, h, p, hp => by
    unfold pairsD at h
    split at h
    · cases h; cases hp
    · rename_i i j r heq
      injection heq with e1 e2
      subst e2
      split at h
      · rename_i hz
        cases q : pairsD ds with
        | none => rw [q] at h; cases h
        | some qs =>
          rw [q] at h
          cases h
          rcases List.mem_cons.mp hp with e | e
          · subst e; exact hz
          · exact pairs_nonneg q p e
      · cases h
    · cases h
section
variable {W : Wd} {H : Hp} {A : Addr → Prop}
theorem pairs_ks : ∀ {ds : List PyData} {vs : List V} {ps : List (Int × Int)}, RepAll W H A ds vs → pairsD ds = some ps →
    ∃ ks : List (Addr × List Int), vs = ks.map (fun p => V.ref p.1) ∧ ks.map (·.2) = ps.map lp ∧ ∀ q ∈ ks, ∃ p, q.2 = lp p ∧ Rep W H A (pD p) (.ref q.1)
  | [], _, _, h, e => by
    cases e
    simp only [RepAll] at h
    exact ⟨[], h, rfl, fun q hq => nomatch hq⟩
  | d :: ds, _, ps, h, e => by
    simp only [RepAll] at h
    obtain ⟨v, r, rfl, n, h1, h2⟩ := h
    unfold pairsD at e
    split at e
    · rename_i z; cases z
    · rename_i i j r' heq
      injection heq with e1 e2
      subst e1 e2
      split at e
      · cases q : pairsD ds with
        | none => rw [q] at e; cases e
        | some qs =>
          rw [q] at e
          cases e
          obtain ⟨ks, k1, k2, k3⟩ := pairs_ks h2 q
          have h1' := h1
          simp only [Rep] at h1
          obtain ⟨a, vs, rfl, _⟩ := h1
          refine ⟨(a, [i, j]) :: ks, by rw [k1]; rfl, by rw [List.map_cons, k2]; rfl, fun q hq => ?_⟩
          rcases List.mem_cons.mp hq with e | e
          · subst e
            exact ⟨(i, j), rfl, h1'⟩
          · exact k3 q e
      · cases e
    · cases e
theorem rep_pair {p : Int × Int} {a : Addr} (h : Rep W H A (pD p) (.ref a)) : SqT W.K H a ((lp p).map V.int) := by
  unfold pD at h
  simp only [Rep] at h
  obtain ⟨b, vs, e, l, _, r⟩ := h
  cases e
  have : vs = (lp p).map V.int := r.ints (by simp [intsD, lp])
  rw [← this]
  exact l.sq
theorem seqT_upd {K : PySem.W.Frag} {H H' : Hp} {a : Addr} {xs : List V} (s : Same H H') (h : SqT K H a xs) : SqT K H' a xs := by
  rcases h with (h | ⟨o, h⟩) | h
  · exact .inl (.inl (s _ _ h))
  · exact .inl (.inr ⟨o, s _ _ h⟩)
  · exact .inr h
theorem code_lt {B : Int} {p q : Int × Int} (hp : 0 ≤ p.1 ∧ p.1 < B ∧ 0 ≤ p.2 ∧ p.2 < B) (hq : 0 ≤ q.1 ∧ q.1 < B ∧ 0 ≤ q.2 ∧ q.2 < B) (h : TS.code B (lp p) ≤ TS.code B (lp q)) (ne : p ≠ q) : PLt p q := by
  have e : ∀ r : Int × Int, TS.code B (lp r) = r.1 * B + r.2 := fun r => by
    show r.1 * B ^ 1 + (r.2 * B ^ 0 + 0) = _
    simp [Int.pow_succ]
  rw [e, e] at h
  simp only [PLt]
  rcases Int.lt_trichotomy p.1 q.1 with z | z | z
  · exact .inl z
  · right
    refine ⟨z, ?_⟩
    rw [z] at h
    have : ¬ p.2 = q.2 := fun y => ne (Prod.ext z y)
    omega
  · exfalso
    have : (q.1 + 1) * B ≤ p.1 * B := Int.mul_le_mul_of_nonneg_right (by omega) (by omega)
    rw [Int.add_mul] at this
    omega
/-- what the two calls ask -/
theorem sset_read {X : Cx} (hK : W.K = X.K) (hA : AvOk H A) {v : V} {xs : List PyData} {ps : List (Int × Int)} {Q : VK} (hv : Rb W H A (.list xs) v) (hp : pairsD xs = some ps) (hz : xs.length < 64)
    (q : ∀ v H', Same H H' → ResV W H H' A (.list ((pSort ps).map pD)) true v → Q v H') :
    rSetOfT X.K X.prog X.w [v] H (fun z H1 => rSortedT X.K X.prog X.w [z] H1 Q) := by
  obtain ⟨l, vs, rfl, hl, hlen, r⟩ := hv.list
  rw [hK] at hl
  obtain ⟨ks, rfl, k2, k3⟩ := pairs_ks r hp
  have nn := pairs_nonneg hp
  have memk : ∀ q ∈ ks, ∃ p ∈ ps, q.2 = lp p ∧ Rep W H A (pD p) (.ref q.1) := fun q hq => by
    obtain ⟨p, e, h⟩ := k3 q hq
    have : q.2 ∈ ps.map lp := by rw [← k2]; exact List.mem_map.mpr ⟨q, hq, rfl⟩
    obtain ⟨p', hp', e'⟩ := List.mem_map.mp this
    have : p' = p := lp_inj (e'.trans e)
    subst this
    exact ⟨p', hp', e, h⟩
  have klen : ks.length < 64 := by
    have e := r.length
    rw [List.length_map] at e
    omega
  refine ⟨l, ks, rfl, hl, fun q hq => ?_, klen, fun a L ha hsub hall => ?_⟩
  · obtain ⟨p, _, e, h⟩ := memk q hq
    rw [e, ← hK]
    exact rep_pair h
  · have s1 : Same H (upd H a (SetTO X.prog X.w a L)) := same_upd ha
    refine ⟨a, L, 2, pMax ps, rfl, upd_same, fun q hq => ?_, by decide, fun q hq => ?_, fun L' p pm nd few pw hpn => ?_⟩
    · obtain ⟨p, _, e, h⟩ := memk q (hsub q hq)
      rw [e, ← hK]
      exact seqT_upd s1 (rep_pair h)
    · obtain ⟨p, hp', e, h⟩ := memk q (hsub q hq)
      rw [e]
      refine ⟨rfl, fun m hm => ?_⟩
      have b := pMax_lt hp'
      have n := nn p hp'
      unfold lp at hm
      simp only [List.mem_cons, List.not_mem_nil, or_false] at hm
      rcases hm with rfl | rfl
      · exact ⟨n.1, b.1⟩
      · exact ⟨n.2, b.2⟩
    · have hH : H p = none := s1.free hpn
      have s2 : Same H (upd (upd H a (SetTO X.prog X.w a L)) p (.lst (L'.map fun q => V.ref q.1))) := s1.trans (same_upd hpn)
      refine q _ _ s2 ⟨p, rfl, hH, L'.map (fun q => V.ref q.1), upd_same, ?_, ?_⟩
      · rw [List.length_map, sizeLine_eq]; omega
      · -- the pairs of L'
        have mem' : ∀ q ∈ L', q ∈ ks := fun q hq => hsub q (pm.mem_iff.mp hq)
        have hpair : ∀ q ∈ L', ∃ p ∈ ps, q.2 = lp p ∧ Rep W H A (pD p) (.ref q.1) := fun q hq => memk q (mem' q hq)
        have hpp : ∃ pp : List (Int × Int), L'.map (·.2) = pp.map lp ∧ (∀ x, x ∈ pp → x ∈ ps) ∧ RepAll W H A (pp.map pD) (L'.map fun q => V.ref q.1) := by
          clear pm nd few pw mem' q s2
          induction L' with
          | nil => exact ⟨[], rfl, (fun x hx => nomatch hx), by simp [RepAll]⟩
          | cons q L' ih =>
            obtain ⟨pp, i1, i2, i3⟩ := ih (fun q hq => hpair q (List.mem_cons_of_mem _ hq))
            obtain ⟨p, p1, p2, p3⟩ := hpair q List.mem_cons_self
            refine ⟨p :: pp, by rw [List.map_cons, List.map_cons, i1, p2], fun x hx => ?_, ?_⟩
            · rcases List.mem_cons.mp hx with e | e
              · subst e; exact p1
              · exact i2 x e
            · rw [List.map_cons, List.map_cons]
              exact RepAll.cons (by simp [pD, ndD]) p3 i3
        obtain ⟨pp, e1, e2, e3⟩ := hpp
        have ndp : pp.Nodup := by
          have : (pp.map lp).Nodup := by rw [← e1]; exact nd
          exact List.Pairwise.of_map lp (fun a b h e => h (by rw [e])) this
        have pwp : pp.Pairwise (fun x y => TS.code (pMax ps) (lp x) ≤ TS.code (pMax ps) (lp y)) := by
          have h1 : (L'.map (·.2)).Pairwise (fun x y => TS.code (pMax ps) x ≤ TS.code (pMax ps) y) := (List.pairwise_map (f := fun q : Addr × List Int => q.2) (R := fun x y => TS.code (pMax ps) x ≤ TS.code (pMax ps) y)).mpr pw
          rw [e1] at h1
          exact (List.pairwise_map (f := lp) (R := fun x y => TS.code (pMax ps) x ≤ TS.code (pMax ps) y)).mp h1
        have bd : ∀ x ∈ pp, 0 ≤ x.1 ∧ x.1 < pMax ps ∧ 0 ≤ x.2 ∧ x.2 < pMax ps := fun x hx => by
          have b := pMax_lt (e2 x hx)
          have n := nn x (e2 x hx)
          omega
        have srt : pp.Pairwise PLt := by
          have both := List.Pairwise.and pwp ndp
          exact List.Pairwise.imp_of_mem (fun {x y} hx hy h => code_lt (bd x hx) (bd y hy) h.1 h.2) both
        have key : pp = pSort ps := by
          refine uniq (fun x => by simp only [PLt]; omega) (fun x y h => by simp only [PLt] at *; omega) srt (pSort_srt ps) fun x => ?_
          rw [pSort_mem]
          refine ⟨e2 x, fun hx => ?_⟩
          have h1 : lp x ∈ ks.map (·.2) := by rw [k2]; exact List.mem_map.mpr ⟨x, hx, rfl⟩
          obtain ⟨q, hq, eq⟩ := List.mem_map.mp h1
          have h2 := hall q hq
          obtain ⟨q', hq', eq'⟩ := List.mem_map.mp h2
          have h3 : q'.2 ∈ L'.map (·.2) := List.mem_map.mpr ⟨q', pm.mem_iff.mpr hq', rfl⟩
          rw [e1] at h3
          obtain ⟨y, hy, ey⟩ := List.mem_map.mp h3
          have : y = x := lp_inj (ey.trans (eq'.trans eq))
          rw [← this]
          exact hy
        rw [← key]
        exact e3.tr (Same.tr1 s2 hH)
end
end M
/-! M, fifth part: expressions. -/
namespace M
open PySem L2 PyProof.Rows
/-- an exception as it lies -/
def XOk (W : Wd) (H : Hp) (A : Addr → Prop) (x : Exn) (cls : Value) (d : Option Addr) : Prop := x.c < W.nc ∧ cls = .ref (W.ca x.c) ∧ ExF W H A (excK x.c x.fs) x.c d
theorem XOk.tr {W : Wd} {H H' : Hp} {A A' : Addr → Prop} {x : Exn} {cls : Value} {d : Option Addr} (t : Tr H H' A A') (h : XOk W H A x cls d) : XOk W H' A' x cls d := ⟨h.1, h.2.1, h.2.2.tr t⟩
def PostX (W : Wd) (Z : L2.WX) (T : Addr → Prop) (env : Env) (σ : St) (H : Hp) (x : Exn × Env) : Prop :=
  ∀ cls d H', Step env σ H x.2 σ H' → Rel W T x.2 σ H' → XOk W H' (Av T x.2 σ) x.1 cls d → Z cls d σ H'
def PostE (W : Wd) (Z : L2.WX) (T : Addr → Prop) (env : Env) (σ : St) (H : Hp) (r : RE (EV × Env)) (Q : VK) : Prop :=
  match r with
  | .ok p => ∀ v H', Step env σ H p.2 σ H' → Rel W (Tw T p.1 v) p.2 σ H' → VOk W T H H' p.2 σ p.1 v → Q v H'
  | .exc x => PostX W Z T env σ H x
  | .stuck => False
def tE (C : CallT) (G : List PyData) (W : Wd) (Z : L2.WX) (m : ME) : TE := fun σ H Q => ∃ T env, Rel W T env σ H ∧ PostE W Z T env σ H (ev C G m env) Q
/-- what may be read of a value -/
def Hold (W : Wd) (T : Addr → Prop) (env : Env) (σ : St) (H : Hp) (w : EV) (v : V) : Prop := ∀ d, rdv env w = .ok d → Rb W H (Av T env σ) d v
section
variable {W : Wd} {Z : L2.WX} {T T1 T2 : Addr → Prop} {env env1 env2 env' : Env} {σ : St} {H H0 H1 H2 H' : Hp} {w : EV} {v : V} {C : CallT} {G : List PyData}
theorem PostX.pre {x : Exn × Env} (S : Step env σ H env1 σ H1) (hT : ∀ a, T a → T1 a) (h : PostX W Z T env σ H x) : PostX W Z T1 env1 σ H1 x :=
  fun cls d H' s r k => h cls d H' (S.trans s) (r.less hT) (k.tr ⟨fun _ _ _ e => e, fun a n _ q => n (q.elim (fun z => .inl (hT a z)) .inr)⟩)
theorem VOk.pre (S : Step env σ H env1 σ H1) (h : VOk W T H1 H' env' σ w v) : VOk W T H H' env' σ w v := by
  cases w with
  | va d fr =>
    cases fr with
    | false => exact h
    | true =>
      obtain ⟨a, e, n, z, o⟩ := h
      refine ⟨a, e, n, ?_, o⟩
      by_cases q : H a = none
      · exact q
      · exact absurd z (S.dom a q)
  | sl i => exact h
theorem PostE.pre {r : RE (EV × Env)} {Q : VK} (S : Step env σ H env1 σ H1) (h : PostE W Z T env σ H r Q) : PostE W Z T env1 σ H1 r Q := by
  cases r with
  | ok p => exact fun v H' s r k => h v H' (S.trans s) r (k.pre S)
  | exc x => exact PostX.pre S (fun _ z => z) h
  | stuck => exact h
theorem tE_mono {m : ME} {Q Q' : VK} (h : tE C G W Z m σ H Q) (q : ∀ v H', Q v H' → Q' v H') : tE C G W Z m σ H Q' := by
  obtain ⟨T, env, R, h⟩ := h
  refine ⟨T, env, R, ?_⟩
  cases e : ev C G m env with
  | ok p => rw [e] at h; exact fun v H' s r k => q _ _ (h v H' s r k)
  | exc x => rw [e] at h; exact h
  | stuck => rw [e] at h; exact h
theorem Rep.less {A A' : Addr → Prop} {d : PyData} (h : Rep W H A d v) (k : ∀ a, A' a → A a) : Rep W H A' d v := Rep.tr ⟨fun _ _ _ e => e, fun a n _ q => n (k a q)⟩ h
theorem OwnAt.less {A A' : Addr → Prop} {d : PyData} {a : Addr} (h : OwnAt W H A d a) (k : ∀ a, A' a → A a) : OwnAt W H A' d a := OwnAt.tr ⟨fun _ _ _ e => e, fun a n _ q => n (k a q)⟩ h fun _ e => e
theorem av_less (h : ∀ a, T a → T1 a) : ∀ a, Av T env σ a → Av T1 env σ a := fun a q => q.elim (fun z => .inl (h a z)) .inr
/-- a value waits while the state goes on -/
theorem VOk.step (R1 : Rel W (Tw T w v) env σ H) (h : VOk W T H0 H env σ w v) (S : Step env σ H env' σ H') : VOk W T H0 H' env' σ w v := by
  cases w with
  | va d fr =>
    cases fr with
    | false => exact Rep.tr (S.tr (T := T) (T' := T) fun _ z => .inl z) h
    | true =>
      obtain ⟨a, e, n, z, o⟩ := h
      subst e
      have pa := R1.prot a (.inr rfl)
      refine ⟨a, rfl, n, z, o.tr ⟨fun b ob nb e => S.keep b ob e fun q => nb (.inl (.inr q)), fun b nb e q => ?_⟩ fun ob e => S.keep a ob e pa.1⟩
      rcases q with (q | q) | q
      · exact nb (.inl (.inl q))
      · rcases S.own b q with y | y
        · exact nb (.inl (.inr y))
        · exact e y
      · exact nb (.inr q)
  | sl i => exact h
theorem VOk.hold (hT1 : ∀ a, T a → T1 a) (R : Rel W T2 env σ H) (hT2 : ∀ a, T a → T2 a) (h : VOk W T1 H0 H env σ w v) : Hold W T env σ H w v := by
  intro d e
  cases w with
  | va d' fr =>
    cases e
    cases fr with
    | false => exact .inl (Rep.less h (av_less hT1))
    | true =>
      obtain ⟨a, e, _, _, o⟩ := h
      exact .inr ⟨a, e, o.less fun b q => .inl (av_less hT1 b q)⟩
  | sl i =>
    simp only [rdv] at e
    split at e
    · rename_i d' k q
      cases e
      obtain ⟨v', e1, e2⟩ := R.slot i d k q
      have h : σ[i]? = some (some v) := h
      rw [h] at e1
      cases e1
      cases k with
      | sh => exact .inl (Rep.less e2 (av_less hT2))
      | ow => obtain ⟨a, e, o⟩ := e2; exact .inr ⟨a, e, o.less (av_less hT2)⟩
      | rf => obtain ⟨a, e, o⟩ := e2; exact .inr ⟨a, e, o.less (av_less hT2)⟩
      | ln => obtain ⟨a, e, o⟩ := e2; exact .inr ⟨a, e, o.less (av_less hT2)⟩
    · cases e
theorem tw_sub : ∀ a, T a → Tw T w v a := fun a h => Tw_sub h
/-- an operation's end -/
theorem fin_op {d : PyData} {fr : Bool} (R : Rel W T env2 σ H2) (S : Step env σ H env2 σ H2) (s : Same H2 H') (r : ResV W H2 H' (Av T env2 σ) d fr v) :
    Step env σ H env2 σ H' ∧ Rel W (Tw T (.va d fr) v) env2 σ H' ∧ VOk W T H H' env2 σ (.va d fr) v := by
  refine ⟨S.trans (Step.same s), ?_⟩
  cases fr with
  | false => exact ⟨R.same s, r⟩
  | true =>
    obtain ⟨a, e, hn, o⟩ := r
    subst e
    refine ⟨(R.more (p := a) s hn o.some).less fun b q => ?_, a, rfl, fun t => (R.prot a t).2 hn, ?_, o⟩
    · rcases q with q | q
      · exact .inl q
      · cases q; exact .inr rfl
    · by_cases q : H a = none
      · exact q
      · exact absurd hn (S.dom a q)
theorem avOk (R : Rel W T env σ H) : AvOk H (Av T env σ) := fun a h => R.av h
/-- .. put to use -/
theorem PostE.op {d : PyData} {fr : Bool} {Q : VK} (h : PostE W Z T env σ H (.ok (.va d fr, env2)) Q) (R : Rel W T env2 σ H2) (S : Step env σ H env2 σ H2) (s : Same H2 H') (r : ResV W H2 H' (Av T env2 σ) d fr v) : Q v H' :=
  let ⟨a, b, c⟩ := fin_op R S s r
  h v H' a b c
theorem one_ok {ma : ME} {f : EV → Env → RE (EV × Env)} {Q : VK} (R : Rel W T env σ H) (h : PostE W Z T env σ H (M.R.bind (ev C G ma env) fun p => f p.1 p.2) Q) :
    tE C G W Z ma σ H (fun x H1 => ∃ w env1, Step env σ H env1 σ H1 ∧ Rel W (Tw T w x) env1 σ H1 ∧ VOk W T H H1 env1 σ w x ∧ PostE W Z T env σ H (f w env1) Q) := by
  refine ⟨T, env, R, ?_⟩
  cases e : ev C G ma env with
  | ok p =>
    rw [e] at h
    exact fun v H1 S R1 V => ⟨p.1, p.2, S, R1, V, h⟩
  | exc x => rw [e] at h; exact h
  | stuck => rw [e] at h; exact h
theorem two_ok {ma mb : ME} {f : EV → EV → Env → RE (EV × Env)} {Q : VK} (R : Rel W T env σ H) (h : PostE W Z T env σ H (M.R.bind (ev C G ma env) fun p => M.R.bind (ev C G mb p.2) fun q => f p.1 q.1 q.2) Q) :
    tE C G W Z ma σ H (fun x H1 => tE C G W Z mb σ H1 fun y H2 => ∃ w1 w2 env2, Step env σ H env2 σ H2 ∧ Rel W T env2 σ H2 ∧ Hold W T env2 σ H2 w1 x ∧ Hold W T env2 σ H2 w2 y ∧ PostE W Z T env σ H (f w1 w2 env2) Q) := by
  refine tE_mono (one_ok (f := fun w env1 => M.R.bind (ev C G mb env1) fun q => f w q.1 q.2) R h) fun x H1 h => ?_
  obtain ⟨w1, env1, S1, R1, V1, h⟩ := h
  refine ⟨Tw T w1 x, env1, R1, ?_⟩
  cases e : ev C G mb env1 with
  | ok p =>
    rw [e] at h
    refine fun y H2 S2 R2 V2 => ⟨w1, p.1, p.2, S1.trans S2, R2.less fun a z => Tw_sub (Tw_sub z), ?_, ?_, h⟩
    · exact (V1.step R1 S2).hold (fun _ z => z) R2 (fun a z => Tw_sub (Tw_sub z))
    · exact V2.hold (fun _ z => Tw_sub z) R2 (fun a z => Tw_sub (Tw_sub z))
  | exc x => rw [e] at h; exact PostX.pre S1 (fun _ z => Tw_sub z) h
  | stuck => rw [e] at h; exact h
end
theorem pe_imp {X : Cx} {e : Expr} {t t' : TE} (h : PE X e t) (i : ∀ σ H Q, t' σ H Q → t σ H Q) : PE X e t' := ⟨fun pins s σ H Q I q => h.run pins s σ H Q I (i _ _ _ q)⟩
theorem pt_imp {X : Cx} {e : Expr} {t t' : TT} (h : PT X e t) (i : ∀ σ H Q, t' σ H Q → t σ H Q) : PT X e t' := ⟨fun pins s σ H Q I q => h.run pins s σ H Q I (i _ _ _ q)⟩
/-! ### tests -/
def PostT (W : Wd) (Z : L2.WX) (T : Addr → Prop) (env : Env) (σ : St) (H : Hp) (r : RE (Bool × Env)) (Q : Bool → Hp → Prop) : Prop :=
  match r with
  | .ok p => ∀ H', Step env σ H p.2 σ H' → Rel W T p.2 σ H' → Q p.1 H'
  | .exc x => PostX W Z T env σ H x
  | .stuck => False
def tT (C : CallT) (G : List PyData) (W : Wd) (Z : L2.WX) (m : ME) : TT := fun σ H Q => ∃ T env, Rel W T env σ H ∧ PostT W Z T env σ H (evT C G m env) Q
section
variable {W : Wd} {Z : L2.WX} {T T1 T2 : Addr → Prop} {env env1 env2 env' : Env} {σ : St} {H H0 H1 H2 H' : Hp} {w : EV} {v : V} {C : CallT} {G : List PyData} {m ma mb : ME}
theorem PostT.pre {r : RE (Bool × Env)} {Q : Bool → Hp → Prop} (S : Step env σ H env1 σ H1) (h : PostT W Z T env σ H r Q) : PostT W Z T env1 σ H1 r Q := by
  cases r with
  | ok p => exact fun H' s r => h H' (S.trans s) r
  | exc x => exact PostX.pre S (fun _ z => z) h
  | stuck => exact h
theorem tT_mono {Q Q' : Bool → Hp → Prop} (h : tT C G W Z m σ H Q) (q : ∀ v H', Q v H' → Q' v H') : tT C G W Z m σ H Q' := by
  obtain ⟨T, env, R, h⟩ := h
  refine ⟨T, env, R, ?_⟩
  cases e : evT C G m env with
  | ok p => rw [e] at h; exact fun H' s r => q _ _ (h H' s r)
  | exc x => rw [e] at h; exact h
  | stuck => rw [e] at h; exact h
theorem truW_hold (h : Hold W T env σ H w v) {k : Bool} (e : truW env w = .ok k) : TruV W.K v H k := by
  unfold truW at e
  cases q : rdv env w with
  | ok d =>
    have e' : R.ofO (truD d) = (.ok k : RE Bool) := by
      rw [q] at e
      exact e
    cases z : truD d with
    | none => rw [z] at e'; cases e'
    | some k' =>
      rw [z] at e'
      cases e'
      exact truV_of (h d q) z
  | exc x => rw [q] at e; cases e
  | stuck => rw [q] at e; cases e
theorem truW_noexc {x : Exn × Env} (e : truW env w = .exc x) : False := by
  unfold truW at e
  cases w with
  | va d fr =>
    have e' : R.ofO (truD d) = (.exc x : RE Bool) := e
    cases z : truD d <;> (rw [z] at e'; cases e')
  | sl i =>
    cases q : rdv env (.sl i) with
    | ok d =>
      rw [q] at e
      have e' : R.ofO (truD d) = (.exc x : RE Bool) := e
      cases z : truD d <;> (rw [z] at e'; cases e')
    | exc y =>
      simp only [rdv] at q
      split at q <;> cases q
    | stuck => rw [q] at e; cases e
theorem post_rd {α : Type} {f : PyData → RE α} {P : RE α → Prop} (h : P (M.R.bind (rdv env w) f)) (n : ¬ P .stuck) : ∃ d, rdv env w = .ok d ∧ P (f d) := by
  cases e : rdv env w with
  | ok d => rw [e] at h; exact ⟨d, rfl, h⟩
  | exc x => cases w <;> simp only [rdv] at e <;> (try split at e) <;> cases e
  | stuck => rw [e] at h; exact (n h).elim
theorem post_of {α β : Type} {o : Option β} {f : β → RE α} {P : RE α → Prop} (h : P (M.R.bind (M.R.ofO o) f)) (n : ¬ P .stuck) : ∃ d, o = some d ∧ P (f d) := by
  cases e : o with
  | some d => rw [e] at h; exact ⟨d, rfl, h⟩
  | none => rw [e] at h; exact (n h).elim
theorem post_tru {α : Type} {f : Bool → RE α} {P : RE α → Prop} (h : P (M.R.bind (truW env w) f)) (n : ¬ P .stuck) : ∃ d, truW env w = .ok d ∧ P (f d) := by
  cases e : truW env w with
  | ok d => rw [e] at h; exact ⟨d, rfl, h⟩
  | exc x => exact (truW_noexc e).elim
  | stuck => rw [e] at h; exact (n h).elim
/-- a test by its value -/
theorem tT_val {Q : Bool → Hp → Prop} (h : tT C G W Z m σ H Q) : tE C G W Z m σ H (fun x H' => ∃ k, TruV W.K x H' k ∧ Q k H') := by
  obtain ⟨T, env, R, h⟩ := h
  refine ⟨T, env, R, ?_⟩
  unfold evT at h
  cases e : ev C G m env with
  | ok p =>
    rw [e] at h
    have h : PostT W Z T env σ H (M.R.bind (truW p.2 p.1) fun k => .ok (k, p.2)) Q := h
    cases q : truW p.2 p.1 with
    | ok k =>
      rw [q] at h
      exact fun v H' S R' V => ⟨k, truW_hold (V.hold (fun _ z => z) R' fun a z => Tw_sub z) q, h H' S (R'.less fun a z => Tw_sub z)⟩
    | exc x => exact (truW_noexc q).elim
    | stuck => rw [q] at h; exact h.elim
  | exc x => rw [e] at h; exact h
  | stuck => rw [e] at h; exact h
end
end M
/-! M: a def's promise where no guard stands around the call. -/
namespace M
open PySem PySem.Spec L2 PyProof.Rows
structure FnG (P : Program) (w : World) (K : PySem.W.Frag) (mg : Str → Option Value) (base : Heap) (cx : CXT) (k : Nat) (f : Addr) (fd : FuncData) (ps : List Str) (sp : Sp) : Prop where
  len : ∀ vs H Q E, sp vs H Q E → vs.length = ps.length
  run : ∀ (A : Around) (out : List PySem.Env) (s : Shared) (H : Hp) (as : Args) (us : List Value) (vs : List V) (Q : VK) (E : XK), A.guards = some [] → Room k A → Env0 P w K mg base A out s H → BindsTo s fd as (ps.zip us) → Vals vs us → sp vs H Q E → codeAny (model P w) A (.call (.ref f) as) (CR cx out P w H s Q E) s
section
variable {P : Program} {w : World} {K : PySem.W.Frag} {mg : Str → Option Value} {base : Heap} {x qual : Str} {params : Arguments} {body : List Stmt} {scope : Scope} {dvs : List V} {kws : List (Str × V)} {f : Addr} {fd : FuncData} {cx : CXT} {N ps : List Str} {k : Nat} {sp : Sp}
theorem fnG_of (F : FunD K x qual params body scope dvs kws f fd) (S : FnScope N ps scope) (ln : ∀ vs H Q E, sp vs H Q E → vs.length = ps.length)
    (hbody : ∀ (cdv : Value) (A : Around) (out : List PySem.Env) (s : Shared) (H : Hp) (vs : List V) (Q : VK) (E : XK), A.guards = some [] → Room k (A.deeper (envOfC qual scope s.heap.objs.size f cdv)) → sp vs H Q E →
      ∃ t, PSs (cxOf cx P w K mg base N qual scope f cdv A out s H E) body t ∧ t { nx := fun _ H1 => Q .non H1, rt := Q } (L2.start N vs) H) : FnG P w K mg base cx (k + 1) f fd ps sp := by
  obtain ⟨oc, od, dV, kV, doc, pm, an, cdv, ct, osl, rfl, at_, code, _, _⟩ := F.ex
  refine ⟨ln, fun A out s H as us vs Q E hgu room e0 bind rel want => ?_⟩
  have Kin : K.In s.heap := e0.mod.kin.keeps fun b o e => (e0.bs b o e).1
  have kinds : ∀ y ∈ ps.zip us, scope.names.lookup y.1 = some .local ∨ (scope.names.lookup y.1 = some .cell ∧ ((cellsFrom (s.heap.objs.size + 1) scope.names []).lookup y.1).isSome = true) := by
    rintro ⟨a, v⟩ mem
    exact (S.par a (List.of_mem_zip mem).1).imp id fun q => ⟨q, PySem.W.cellsFrom_some _ _ _ (.inl q)⟩
  refine codeAny_call_function room.depth (Kin _ _ at_) rfl S.co S.gen rfl (PySem.W.codeRec_of Kin code) (bind _ _ _ _ ?_)
  refine wpAny_newFunctionEnv_cells S.kind kinds fun env ee s1 inn => ?_
  cases ee
  refine ⟨(e0.mod.nolimit.keeps fun b o e => (e0.bs b o e).1).keeps inn.toInCall.keep, codeAny_func ?_⟩
  obtain ⟨t, walk, read⟩ := hbody cdv A out s H vs Q E hgu (room.deeper _) want
  refine wpAny_mono (walk.run [] s1 (L2.start N vs) H _ (inv_start S room.hd e0 (ln _ _ _ _ want) rel inn) read) (fun fl s2 end_ => ?_) fun _ _ z => z
  have done_ : ∀ {σ2 : St} {H2 : Hp} {v : V} {u : Value}, Inv (cxOf cx P w K mg base N qual scope f cdv A out s H E) [] σ2 H2 s2 → RelV v u → Q v H2 → CE out P w H s Q u s2 := fun J r q => ⟨_, _, J.os, J.bare, J.base, J.hok, r, q⟩
  match fl, end_ with
  | .ret u, ⟨v, σ2, H2, J, r, q⟩ => exact done_ J r q
  | .next, ⟨σ2, H2, J, q⟩ => exact done_ (v := V.non) (u := Value.none) J rfl q
  | .brk, ⟨_, _, _, q⟩ => exact q.elim
  | .cont, ⟨_, _, _, q⟩ => exact q.elim
end
theorem runG {X : Cx} {pins : List (Addr × Obj)} {σ : St} {H : Hp} {s : Shared} {Q : VK} {us : List Value} {vs : List V} {E : XK} {cx : CXT} {k : Nat} {f : Addr} {fd : FuncData} {ps : List Str} {sp : Sp} (F : FnG X.prog X.w X.K X.mg X.base cx k f fd ps sp) (hgu : X.A.guards = some []) (room : Room k X.A) (bind : Binds X.K fd ps []) (pass : ∀ (e : Value) (s2 : Shared), cx X.stack H s E e s2 → X.xe e s2)
    (I : Inv X pins σ H s) (rel : Vals vs us) (want : sp vs H Q E) : wpAny (model X.prog X.w) X.A (call (.ref f) us) (EP X pins σ Q) X.xe s := by
  have ll : us.length = ps.length := by rw [← rel.length]; exact F.len _ _ _ _ want
  have bt := bind s us I.kIn (by rw [List.append_nil]; exact ll)
  rw [List.append_nil] at bt
  refine wpAny_call (codeAny_mono (F.run X.A X.stack s H ⟨us, []⟩ us vs Q E hgu room I.env0 bt rel want) fun r s2 got => ?_)
  match r, got with
  | .error e, got => exact pass e s2 got
  | .ok (.ret u), got => exact I.after got
  | .ok .next, got => exact got.elim
  | .ok .brk, got => exact got.elim
  | .ok .cont, got => exact got.elim
end M
namespace M
open PySem L2 PyProof.Rows
def bltNames : List Str := ["len", "abs", "sum", "all", "any", "min", "max", "list", "tuple", "isinstance", "sorted", "set", "range", "enumerate", "zip", "int", "bool", "str", "repr", "dict"]
/-- the parameters' slots behind a call -/
def putA : List Arg → List PyData → Env
  | [], _ => []
  | .v d :: r, ds => some (d, .sh) :: putA r ds
  | .r _ :: r, d :: ds => some (d, .rf) :: putA r ds
  | .r d :: r, [] => some (d, .rf) :: putA r []
/-- what a def promises, by what the small interpreter says of it -/
def spF (W : Wd) (C : CallT) (f : Nat) (refs : List Bool) : Sp := fun vs H Q E => ∃ T args, args.map isR = refs ∧ Rel W T (args.map slotOf) (vs.map some) H ∧
  match C f args with
  | .ok r => ∀ v H', Step (args.map slotOf) (vs.map some) H (putA args r.rs) (vs.map some) H' → Rel W (Tw T (.va r.d r.fr) v) (putA args r.rs) (vs.map some) H' → VOk W T H H' (putA args r.rs) (vs.map some) (.va r.d r.fr) v → Q v H'
  | .exc x => ∀ cls d H', (∀ a o, H a = some o → ¬ Ownd (args.map slotOf) (vs.map some) a → H' a = some o) → XOk W H' (Av T (args.map slotOf) (vs.map some)) x cls d → E cls d H'
  | .stuck => False
structure Gd (nm : Nm) (C : CallT) (G : List PyData) (W : Wd) (k : Nat) (Z : L2.WX) (X : Cx) : Prop where
  calm : X.calm = true
  nd : X.N.Nodup
  room : Room k X.A
  gu : X.A.guards = some []
  K : W.K = X.K
  w : W.w = X.w
  dk : ∀ a kvs, W.DK a kvs → DKp X a kvs
  xc : XcOk W X.K
  nc : nm.cls.length = W.nc
  tk : Takes X Z
  po : PassesOwn (model X.prog X.w) X.A X.env X.xe
  fns : ∀ (f : Nat) x refs, nm.fns[f]? = some (x, refs) → ∃ fa fd ps, X.mg x = some (.ref fa) ∧ PySem.W.keepIn X.K (.ref fa) = true ∧ Binds X.K fd ps [] ∧ FnG X.prog X.w X.K X.mg X.base (CX X.prog X.w) k fa fd ps (spF W C f refs)
  gls : ∀ (j : Nat) x, nm.gls[j]? = some x → ∃ d u v, G[j]? = some d ∧ X.mg x = some u ∧ RelV v u ∧ ∀ H A, Rep W H A d v
  clg : ∀ (c : Nat) x b, nm.cls[c]? = some (x, b) → X.mg x = some (.ref (W.ca c))
  vgl : X.mg "ValueError" = none
  cls : ∀ (c : Nat) x, nm.cls[c]? = some (x, false) → X.mg x = some (.ref (W.ca c)) ∧ PySem.W.excIn X.K (W.ca c) He.veBase "ValueError.__new__" = true ∧ PySem.W.keepIn X.K (.ref (W.ca c)) = true ∧ Raises X (.ref (W.ca c))
  blt : ∀ x ∈ bltNames, X.mg x = none
section
variable {nm : Nm} {C : CallT} {G : List PyData} {W : Wd} {k : Nat} {Z : L2.WX} {X : Cx}
theorem Gd.units (g : Gd nm C G W k Z X) : X.A.units + 200 < cLine := by
  have := g.room.un
  omega
/-- a comprehension's block -/
theorem Gd.blk (g : Gd nm C G W k Z X) (s : Shared) (H : Hp) (scope : Scope) (cl : List (Str × Addr)) (c : Addr) (fp : List Addr) : Gd nm C G W k (fun _ _ _ _ => False) (X.blk s H scope (compEnvC scope cl c X.env) fp) :=
  { calm := g.calm, nd := g.nd, room := g.room, gu := g.gu, K := g.K, w := g.w, dk := fun a kvs h => let q := g.dk a kvs h; ⟨q.str, q.kd, q.look⟩, xc := g.xc, nc := g.nc, clg := g.clg, vgl := g.vgl, tk := fun u s' h => by obtain ⟨_, _, _, _, _, _, _, _, _, _, _, _, _, _, _, _, q⟩ := h; exact q.elim, po := PassesOwn.never,
    fns := g.fns, gls := g.gls, cls := fun c x h => let q := g.cls c x h; ⟨q.1, q.2.1, q.2.2.1, q.2.2.2⟩, blt := g.blt }
variable {a b c e : Expr} {pos : Pos} {ma mb mc m : ME}
theorem pm_bin (g : Gd nm C G W k Z X) (op : Operator) (ha : PE X a (tE C G W Z ma)) (hb : PE X b (tE C G W Z mb)) : PE X (.BinOp a op b pos) (tE C G W Z (.bin op ma mb)) := by
  refine pe_imp (pe_op (op_bin g.K op) ha hb) fun σ H Q ⟨T, env, rl, h⟩ => ?_
  simp only [ev] at h
  refine tE_mono (two_ok (f := fun x y env => rdv env x >>= fun d => rdv env y >>= fun e => M.R.ofO (binD op d e) >>= fun p => .ok (.va p.1 p.2, env)) rl h) fun x H1 h => tE_mono h fun y H2 h => ?_
  obtain ⟨w1, w2, env2, S, R2, h1, h2, h⟩ := h
  obtain ⟨d, e1, h⟩ := post_rd (P := fun r => PostE W Z T env σ H r Q) h id
  obtain ⟨e, e2, h⟩ := post_rd (P := fun r => PostE W Z T env σ H r Q) h id
  obtain ⟨p, e3, h⟩ := post_of (P := fun r => PostE W Z T env σ H r Q) h id
  exact ⟨Av T env2 σ, d, e, p, avOk R2, h1 d e1, h2 e e2, e3, fun v H' s r => PostE.op h R2 S s r⟩
end
end M
namespace M
open PySem L2 PyProof.Rows
section
variable {W : Wd} {Z : L2.WX} {T T1 T2 : Addr → Prop} {env env1 env2 env' : Env} {σ : St} {H H0 H1 H2 H' : Hp} {w : EV} {v : V} {C : CallT} {G : List PyData} {m ma mb mc : ME} {α : Type} {P : RE α → Prop}
theorem one_gen {f : EV → Env → RE α} (rl : Rel W T env σ H) (hX : ∀ x, P (.exc x) → PostX W Z T env σ H x) (hS : ¬ P .stuck) (h : P (M.R.bind (ev C G ma env) fun p => f p.1 p.2)) :
    tE C G W Z ma σ H (fun x H1 => ∃ w env1, Step env σ H env1 σ H1 ∧ Rel W (Tw T w x) env1 σ H1 ∧ VOk W T H H1 env1 σ w x ∧ P (f w env1)) := by
  refine ⟨T, env, rl, ?_⟩
  cases e : ev C G ma env with
  | ok p =>
    rw [e] at h
    exact fun v H1 S R1 V => ⟨p.1, p.2, S, R1, V, h⟩
  | exc x => rw [e] at h; exact hX x h
  | stuck => rw [e] at h; exact (hS h).elim
theorem two_gen {f : EV → EV → Env → RE α} (rl : Rel W T env σ H) (hX : ∀ x, P (.exc x) → PostX W Z T env σ H x) (hS : ¬ P .stuck) (h : P (M.R.bind (ev C G ma env) fun p => M.R.bind (ev C G mb p.2) fun q => f p.1 q.1 q.2)) :
    tE C G W Z ma σ H (fun x H1 => tE C G W Z mb σ H1 fun y H2 => ∃ w1 w2 env2, Step env σ H env2 σ H2 ∧ Rel W T env2 σ H2 ∧ Hold W T env2 σ H2 w1 x ∧ Hold W T env2 σ H2 w2 y ∧ P (f w1 w2 env2)) := by
  refine tE_mono (one_gen (f := fun w env1 => M.R.bind (ev C G mb env1) fun q => f w q.1 q.2) rl hX hS h) fun x H1 h => ?_
  obtain ⟨w1, env1, S1, R1, V1, h⟩ := h
  refine ⟨Tw T w1 x, env1, R1, ?_⟩
  cases e : ev C G mb env1 with
  | ok p =>
    rw [e] at h
    refine fun y H2 S2 R2 V2 => ⟨w1, p.1, p.2, S1.trans S2, R2.less fun a z => Tw_sub (Tw_sub z), ?_, ?_, h⟩
    · exact (V1.step R1 S2).hold (fun _ z => z) R2 (fun a z => Tw_sub (Tw_sub z))
    · exact V2.hold (fun _ z => Tw_sub z) R2 (fun a z => Tw_sub (Tw_sub z))
  | exc x => rw [e] at h; exact PostX.pre S1 (fun _ z => Tw_sub z) (hX x h)
  | stuck => rw [e] at h; exact (hS h).elim
theorem test_gen {f : Bool → Env → RE α} (rl : Rel W T env σ H) (hX : ∀ x, P (.exc x) → PostX W Z T env σ H x) (hS : ¬ P .stuck) (h : P (M.R.bind (ev C G mc env) fun p => M.R.bind (truW p.2 p.1) fun k => f k p.2)) :
    tT C G W Z mc σ H (fun k H1 => ∃ env1, Step env σ H env1 σ H1 ∧ Rel W T env1 σ H1 ∧ P (f k env1)) := by
  refine ⟨T, env, rl, ?_⟩
  unfold evT
  cases e : ev C G mc env with
  | ok p =>
    rw [e] at h
    have h : P (M.R.bind (truW p.2 p.1) fun k => f k p.2) := h
    obtain ⟨k, e2, h⟩ := post_tru h hS
    show PostT W Z T env σ H (M.R.bind (truW p.2 p.1) fun k => .ok (k, p.2)) _
    rw [e2]
    exact fun H1 S R1 => ⟨p.2, S, R1, h⟩
  | exc x => rw [e] at h; exact hX x h
  | stuck => rw [e] at h; exact (hS h).elim
end
section
variable {nm : Nm} {C : CallT} {G : List PyData} {W : Wd} {k : Nat} {Z : L2.WX} {X : Cx} {a b c e : Expr} {pos : Pos} {ma mb mc m : ME}
theorem pm_var {i : Nat} {x : Str} (hN : X.N[i]? = some x) (hv : Vis X.env.scope x) (h1 : (x == ("__debug__" : Str)) = false) (h2 : (x == ("__classdict__" : Str)) = false) : PE X (.Name x pos) (tE C G W Z (.var i)) := by
  refine pe_imp (pe_var hN hv h1 h2) fun σ H Q ⟨T, env, rl, h⟩ => ?_
  simp only [ev] at h
  split at h
  · rename_i d q
    obtain ⟨v, e1, e2⟩ := rl.slot i d .sh q
    exact ⟨v, e1, h v H .refl rl e2⟩
  · rename_i d k n q
    obtain ⟨v, e1, e2⟩ := rl.slot i _ _ q
    exact ⟨v, e1, h v H .refl rl e1⟩
  · exact h.elim
theorem rep_cst {c : Const} {d : PyData} (h : cstO c = some d) : (∃ v, (∀ (X : Cx) j pos, PE X (.Constant c j pos) (tC v)) ∧ ∀ W H A, Rep W H A d v) := by
  cases c with
  | none => cases h; exact ⟨.non, fun _ _ _ => pe_non, fun _ _ _ => by simp only [Rep]⟩
  | bool b => cases h; exact ⟨.bl b, fun _ _ _ => pe_bl, fun _ _ _ => by simp only [Rep]⟩
  | int b => cases h; exact ⟨.int b, fun _ _ _ => pe_int, fun _ _ _ => by simp only [Rep]⟩
  | str x =>
    simp only [cstO] at h
    split at h
    · rename_i q
      cases h
      rw [Bool.and_eq_true, decide_eq_true_eq] at q
      exact ⟨.str x, fun _ _ _ => pe_str, fun _ _ _ => by simp only [Rep]; exact ⟨trivial, q⟩⟩
    · cases h
  | _ => cases h
theorem pm_cst {c : Const} {d : PyData} {j : Nat} (h : cstO c = some d) : PE X (.Constant c j pos) (tE C G W Z (.cst d)) := by
  obtain ⟨v, h1, h2⟩ := rep_cst h
  refine pe_imp (h1 X j pos) fun σ H Q ⟨T, env, rl, h⟩ => ?_
  simp only [ev] at h
  exact h v H .refl rl (h2 _ _ _)
theorem pm_glo (g : Gd nm C G W k Z X) {j : Nat} {x : Str} (hj : nm.gls[j]? = some x) (hg : Gl X x) (h1 : (x == ("__debug__" : Str)) = false) : PE X (.Name x pos) (tE C G W Z (.glo j)) := by
  obtain ⟨d, u, v, e1, e2, e3, e4⟩ := g.gls j x hj
  refine pe_imp (pe_glob hg e2 e3 h1) fun σ H Q ⟨T, env, rl, h⟩ => ?_
  simp only [ev, e1] at h
  exact h v H .refl rl (e4 _ _)
theorem pm_neg (ha : PE X a (tE C G W Z ma)) : PE X (.UnaryOp .USub a pos) (tE C G W Z (.neg ma)) := by
  refine pe_imp (pe_un un_neg ha) fun σ H Q ⟨T, env, rl, h⟩ => ?_
  simp only [ev] at h
  refine tE_mono (one_gen (P := fun r => PostE W Z T env σ H r Q) (f := fun x env => rdv env x >>= fun d => match d with | .int i => .ok (.va (.int (-i)) false, env) | _ => .stuck) rl (fun _ h => h) id h) fun x H1 h => ?_
  obtain ⟨w, env1, S, R1, V, h⟩ := h
  obtain ⟨d, e1, h⟩ := post_rd (P := fun r => PostE W Z T env σ H r Q) h id
  have hd := (V.hold (fun _ z => z) R1 fun a z => Tw_sub z) d e1
  cases d with
  | int i => exact ⟨i, hd.int, PostE.op h (R1.less fun a z => Tw_sub z) S (Same.refl H1) (by show Rep _ _ _ _ _; simp only [Rep])⟩
  | _ => exact h.elim
theorem pm_not (g : Gd nm C G W k Z X) (ha : PE X a (tE C G W Z ma)) : PE X (.UnaryOp .Not a pos) (tE C G W Z (.not ma)) := by
  refine pe_imp (pe_notT ha) fun σ H Q ⟨T, env, rl, h⟩ => ?_
  simp only [ev] at h
  refine tE_mono (one_gen (P := fun r => PostE W Z T env σ H r Q) (f := fun x env => truW env x >>= fun k => .ok (.va (.bool (!k)) false, env)) rl (fun _ h => h) id h) fun x H1 h => ?_
  obtain ⟨w, env1, S, R1, V, h⟩ := h
  obtain ⟨k, e1, h⟩ := post_tru (P := fun r => PostE W Z T env σ H r Q) h id
  have hd := truW_hold (V.hold (fun _ z => z) R1 fun a z => Tw_sub z) e1
  rw [g.K] at hd
  exact ⟨k, hd, PostE.op h (R1.less fun a z => Tw_sub z) S (Same.refl H1) (by show Rep _ _ _ _ _; simp only [Rep])⟩
theorem pm_and (g : Gd nm C G W k Z X) {rest : List Expr} (ha : PE X a (tE C G W Z ma)) (hb : PE X (.BoolOp .And (b :: rest) pos) (tE C G W Z mb)) : PE X (.BoolOp .And (a :: b :: rest) pos) (tE C G W Z (.and ma mb)) := by
  refine pe_imp (pe_andT ha hb) fun σ H Q ⟨T, env, rl, h⟩ => ?_
  simp only [ev] at h
  refine tE_mono (one_gen (P := fun r => PostE W Z T env σ H r Q) (f := fun x env => truW env x >>= fun k => if k = true then ev C G mb env else .ok (x, env)) rl (fun _ h => h) id h) fun x H1 h => ?_
  obtain ⟨w, env1, S, R1, V, h⟩ := h
  obtain ⟨k, e1, h⟩ := post_tru (P := fun r => PostE W Z T env σ H r Q) h id
  have hd := truW_hold (V.hold (fun _ z => z) R1 fun a z => Tw_sub z) e1
  rw [g.K] at hd
  refine ⟨k, hd, ?_⟩
  cases k with
  | true => exact ⟨T, env1, R1.less fun a z => Tw_sub z, PostE.pre S h⟩
  | false => exact h x H1 S R1 V
theorem pm_or (g : Gd nm C G W k Z X) {rest : List Expr} (ha : PE X a (tE C G W Z ma)) (hb : PE X (.BoolOp .Or (b :: rest) pos) (tE C G W Z mb)) : PE X (.BoolOp .Or (a :: b :: rest) pos) (tE C G W Z (.or ma mb)) := by
  refine pe_imp (pe_orT ha hb) fun σ H Q ⟨T, env, rl, h⟩ => ?_
  simp only [ev] at h
  refine tE_mono (one_gen (P := fun r => PostE W Z T env σ H r Q) (f := fun x env => truW env x >>= fun k => if k = true then .ok (x, env) else ev C G mb env) rl (fun _ h => h) id h) fun x H1 h => ?_
  obtain ⟨w, env1, S, R1, V, h⟩ := h
  obtain ⟨k, e1, h⟩ := post_tru (P := fun r => PostE W Z T env σ H r Q) h id
  have hd := truW_hold (V.hold (fun _ z => z) R1 fun a z => Tw_sub z) e1
  rw [g.K] at hd
  refine ⟨k, hd, ?_⟩
  cases k with
  | false => exact ⟨T, env1, R1.less fun a z => Tw_sub z, PostE.pre S h⟩
  | true => exact h x H1 S R1 V
theorem pm_cmp (g : Gd nm C G W k Z X) (op : CmpOp) (hm : behindInMarks op b = false) (ha : PE X a (tE C G W Z ma)) (hb : PE X b (tE C G W Z mb)) : PE X (.Compare a [op] [b] pos) (tE C G W Z (.cmp op ma mb)) := by
  refine pe_imp (pe_cmpR (op_cmp g.K g.w g.dk g.units op) ha hb hm) fun σ H Q ⟨T, env, rl, h⟩ => ?_
  simp only [ev] at h
  refine tE_mono (two_gen (P := fun r => PostE W Z T env σ H r Q) (f := fun x y env => rdv env x >>= fun d => rdv env y >>= fun e => M.R.ofO (cmpD op d e) >>= fun k => .ok (.va (.bool k) false, env)) rl (fun _ h => h) id h) fun x H1 h => tE_mono h fun y H2 h => ?_
  obtain ⟨w1, w2, env2, S, R2, h1, h2, h⟩ := h
  obtain ⟨d, e1, h⟩ := post_rd (P := fun r => PostE W Z T env σ H r Q) h id
  obtain ⟨e, e2, h⟩ := post_rd (P := fun r => PostE W Z T env σ H r Q) h id
  obtain ⟨p, e3, h⟩ := post_of (P := fun r => PostE W Z T env σ H r Q) h id
  exact ⟨Av T env2 σ, d, e, p, h1 d e1, h2 e e2, e3, PostE.op h R2 S (Same.refl H2) (by show Rep _ _ _ _ _; simp only [Rep])⟩
theorem pm_isi (g : Gd nm C G W k Z X) {t : Ty} {y : Str} {p q : Pos} (hg : Gl X "isinstance") (hy : Gl X y) (ht : tyO y = some t) (ha : PE X a (tE C G W Z ma)) (hst : starEach [a, .Name y p] X.env = (false, eval a X.env) :: starEach [.Name y p] X.env) : PE X (.Call (.Name "isinstance" q) [a, .Name y p] [] pos) (tE C G W Z (.isi ma t)) := by
  have hb : PE X (.Name y p) (tC (.ty (tyN t))) := by
    unfold tyO at ht
    split at ht
    · rename_i e; subst e; cases ht; exact pe_bltn hy (g.blt _ (by decide)) (by decide +kernel) rfl
    · split at ht
      · rename_i e; subst e; cases ht; exact pe_bltn hy (g.blt _ (by decide)) (by decide +kernel) rfl
      · split at ht
        · rename_i e; subst e; cases ht; exact pe_bltn hy (g.blt _ (by decide)) (by decide +kernel) rfl
        · split at ht
          · rename_i e; subst e; cases ht; exact pe_bltn hy (g.blt _ (by decide)) (by decide +kernel) rfl
          · split at ht
            · rename_i e; subst e; cases ht; exact pe_bltn hy (g.blt _ (by decide)) (by decide +kernel) rfl
            · cases ht
  refine pe_imp (pe_callB (call_isiM g.xc g.K g.dk t) hg (g.blt _ (by decide)) (by decide +kernel) (pa_cons ha (pa_cons hb pa_nil) hst) (by decide) (by decide) hst) fun σ H Q ⟨T, env, rl, h⟩ => ?_
  simp only [ev] at h
  refine tE_mono (one_gen (P := fun r => PostE W Z T env σ H r Q) (f := fun x env => rdv env x >>= fun d => .ok (.va (.bool (isD t d)) false, env)) rl (fun _ h => h) id h) fun x H1 h => ?_
  obtain ⟨w, env1, S, R1, V, h⟩ := h
  obtain ⟨d, e1, h⟩ := post_rd (P := fun r => PostE W Z T env σ H r Q) h id
  have hd := (V.hold (fun _ z => z) R1 fun a z => Tw_sub z) d e1
  exact ⟨Av T env1 σ, d, x, rfl, hd, PostE.op h (R1.less fun a z => Tw_sub z) S (Same.refl H1) (by show Rep _ _ _ _ _; simp only [Rep])⟩
theorem pm_sub (g : Gd nm C G W k Z X) (hs : PlainIx b) (ha : PE X a (tE C G W Z ma)) (hb : PE X b (tE C G W Z mb)) : PE X (.Subscript a b pos) (tE C G W Z (.sub ma mb)) := by
  refine pe_imp (pe_ix (ix_sub g.K g.w g.units g.dk) ha hb hs) fun σ H Q ⟨T, env, rl, h⟩ => ?_
  simp only [ev] at h
  refine tE_mono (two_gen (P := fun r => PostE W Z T env σ H r Q) (f := fun x y env => rdv env x >>= fun d => rdv env y >>= fun e => M.R.ofO (subD d e) >>= fun k => .ok (.va k false, env)) rl (fun _ h => h) id h) fun x H1 h => tE_mono h fun y H2 h => ?_
  obtain ⟨w1, w2, env2, S, R2, h1, h2, h⟩ := h
  obtain ⟨d, e1, h⟩ := post_rd (P := fun r => PostE W Z T env σ H r Q) h id
  obtain ⟨e, e2, h⟩ := post_rd (P := fun r => PostE W Z T env σ H r Q) h id
  obtain ⟨p, e3, h⟩ := post_of (P := fun r => PostE W Z T env σ H r Q) h id
  exact ⟨Av T env2 σ, d, e, p, h1 d e1, h2 e e2, e3, fun v r => PostE.op h R2 S (Same.refl H2) r⟩
/-! ### tests -/
theorem pt_of (g : Gd nm C G W k Z X) (ha : PE X a (tE C G W Z ma)) (he : ∀ whole, isTrue a X.env whole = (do let v ← whole; standAt a.pos; holding [v] (truthy v))) : PT X a (tT C G W Z ma) := by
  refine pt_imp (pt_truth ha he) fun σ H Q h => ?_
  have q := tT_val h
  rw [g.K] at q
  exact q
theorem pt_cmpM (g : Gd nm C G W k Z X) (op : CmpOp) (hm : behindInMarks op b = false) (ha : PE X a (tE C G W Z ma)) (hb : PE X b (tE C G W Z mb)) : PT X (.Compare a [op] [b] pos) (tT C G W Z (.cmp op ma mb)) := by
  refine pt_imp (pt_cmpR (op_cmp g.K g.w g.dk g.units op) ha hb hm) fun σ H Q ⟨T, env, rl, h⟩ => ?_
  unfold evT at h
  simp only [ev] at h
  show tE C G W Z ma σ H fun x H1 => tE C G W Z mb σ H1 fun y H2 => rCmp W op x y H2 (fun x H' => ∃ k, x = .bl k ∧ Q k H')
  have h : PostT W Z T env σ H (M.R.bind (ev C G ma env) fun p => M.R.bind (ev C G mb p.2) fun q => (rdv q.2 p.1 >>= fun d => rdv q.2 q.1 >>= fun e => M.R.ofO (cmpD op d e) >>= fun k => .ok (k, q.2))) Q := by
    cases e1 : ev C G ma env with
    | ok p =>
      rw [e1] at h
      show PostT W Z T env σ H (M.R.bind (ev C G mb p.2) fun q => (rdv q.2 p.1 >>= fun d => rdv q.2 q.1 >>= fun e => M.R.ofO (cmpD op d e) >>= fun k => .ok (k, q.2))) Q
      cases e2 : ev C G mb p.2 with
      | ok q =>
        simp only [bind, M.R.bind, e2] at h ⊢
        cases e3 : rdv q.2 p.1 with
        | ok d =>
          simp only [e3] at h ⊢
          cases e4 : rdv q.2 q.1 with
          | ok e =>
            simp only [e4] at h ⊢
            cases e5 : cmpD op d e with
            | some k =>
              simp only [e5, M.R.ofO, truW, rdv, truD, bind, M.R.bind] at h ⊢
              exact h
            | none => simp only [e5, M.R.ofO] at h ⊢; exact h
          | exc x => simp only [e4] at h ⊢; exact h
          | stuck => simp only [e4] at h ⊢; exact h
        | exc x => simp only [e3] at h ⊢; exact h
        | stuck => simp only [e3] at h ⊢; exact h
      | exc x => simp only [bind, M.R.bind, e2] at h ⊢; exact h
      | stuck => simp only [bind, M.R.bind, e2] at h ⊢; exact h
    | exc x => rw [e1] at h; exact h
    | stuck => rw [e1] at h; exact h
  refine tE_mono (two_gen (P := fun r => PostT W Z T env σ H r Q) (f := fun x y env => rdv env x >>= fun d => rdv env y >>= fun e => M.R.ofO (cmpD op d e) >>= fun k => .ok (k, env)) rl (fun _ h => h) id h) fun x H1 h => tE_mono h fun y H2 h => ?_
  obtain ⟨w1, w2, env2, S, R2, h1, h2, h⟩ := h
  obtain ⟨d, e1, h⟩ := post_rd (P := fun r => PostT W Z T env σ H r Q) h id
  obtain ⟨e, e2, h⟩ := post_rd (P := fun r => PostT W Z T env σ H r Q) h id
  obtain ⟨p, e3, h⟩ := post_of (P := fun r => PostT W Z T env σ H r Q) h id
  exact ⟨Av T env2 σ, d, e, p, h1 d e1, h2 e e2, e3, p, rfl, h H2 S R2⟩
end
end M
namespace M
open PySem L2 PyProof.Rows
/-! ### tests: and, or, not, chains -/
section
variable {C : CallT} {G : List PyData} {ma mb mc : ME} {env : Env}
theorem evT_and : evT C G (.and ma mb) env = (evT C G ma env >>= fun p => if p.1 = true then evT C G mb p.2 else .ok (false, p.2)) := by
  unfold evT
  simp only [ev]
  cases e1 : ev C G ma env with
  | ok p =>
    show (M.R.bind (M.R.bind (truW p.2 p.1) fun k => if k = true then ev C G mb p.2 else .ok (p.1, p.2)) fun p => M.R.bind (truW p.2 p.1) fun k => .ok (k, p.2)) = (M.R.bind (M.R.bind (truW p.2 p.1) fun k => .ok (k, p.2)) fun p => if p.1 = true then (M.R.bind (ev C G mb p.2) fun p => M.R.bind (truW p.2 p.1) fun k => .ok (k, p.2)) else .ok (false, p.2))
    cases e2 : truW p.2 p.1 with
    | ok k =>
      cases k with
      | true => rfl
      | false => simp only [M.R.bind, Bool.false_eq_true, if_false, e2]
    | exc x => rfl
    | stuck => rfl
  | exc x => rfl
  | stuck => rfl
theorem evT_or : evT C G (.or ma mb) env = (evT C G ma env >>= fun p => if p.1 = true then .ok (true, p.2) else evT C G mb p.2) := by
  unfold evT
  simp only [ev]
  cases e1 : ev C G ma env with
  | ok p =>
    show (M.R.bind (M.R.bind (truW p.2 p.1) fun k => if k = true then .ok (p.1, p.2) else ev C G mb p.2) fun p => M.R.bind (truW p.2 p.1) fun k => .ok (k, p.2)) = (M.R.bind (M.R.bind (truW p.2 p.1) fun k => .ok (k, p.2)) fun p => if p.1 = true then .ok (true, p.2) else (M.R.bind (ev C G mb p.2) fun p => M.R.bind (truW p.2 p.1) fun k => .ok (k, p.2)))
    cases e2 : truW p.2 p.1 with
    | ok k =>
      cases k with
      | true => simp only [M.R.bind, if_true, e2]
      | false => rfl
    | exc x => rfl
    | stuck => rfl
  | exc x => rfl
  | stuck => rfl
theorem evT_not : evT C G (.not ma) env = (evT C G ma env >>= fun p => .ok (!p.1, p.2)) := by
  unfold evT
  simp only [ev]
  cases e1 : ev C G ma env with
  | ok p =>
    show (M.R.bind (M.R.bind (truW p.2 p.1) fun k => .ok (.va (.bool (!k)) false, p.2)) fun p => M.R.bind (truW p.2 p.1) fun k => .ok (k, p.2)) = (M.R.bind (M.R.bind (truW p.2 p.1) fun k => .ok (k, p.2)) fun p => .ok (!p.1, p.2))
    cases e2 : truW p.2 p.1 with
    | ok k => rfl
    | exc x => rfl
    | stuck => rfl
  | exc x => rfl
  | stuck => rfl
end
section
variable {W : Wd} {Z : L2.WX} {T T1 T2 : Addr → Prop} {env env1 env2 env' : Env} {σ : St} {H H0 H1 H2 H' : Hp} {w : EV} {v : V} {C : CallT} {G : List PyData} {m ma mb mc : ME} {α : Type} {P : RE α → Prop}
theorem tT_gen {f : Bool × Env → RE α} (rl : Rel W T env σ H) (hX : ∀ x, P (.exc x) → PostX W Z T env σ H x) (hS : ¬ P .stuck) (h : P (M.R.bind (evT C G mc env) f)) :
    tT C G W Z mc σ H (fun k H1 => ∃ env1, Step env σ H env1 σ H1 ∧ Rel W T env1 σ H1 ∧ P (f (k, env1))) := by
  refine ⟨T, env, rl, ?_⟩
  cases e : evT C G mc env with
  | ok p => rw [e] at h; exact fun H1 S R1 => ⟨p.2, S, R1, h⟩
  | exc x => rw [e] at h; exact hX x h
  | stuck => rw [e] at h; exact (hS h).elim
end
section
variable {nm : Nm} {C : CallT} {G : List PyData} {W : Wd} {k : Nat} {Z : L2.WX} {X : Cx} {a b c e : Expr} {pos : Pos} {ma mb mc m : ME}
theorem pw_imp {e : Expr} {t t' : TT} (h : PW X e t) (i : ∀ σ H Q, t' σ H Q → t σ H Q) : PW X e t' := ⟨fun wh pins s σ H Q I q => h.run wh pins s σ H Q I (i _ _ _ q)⟩
theorem pw_andM {rest : List Expr} (ha : PT X a (tT C G W Z ma)) (hb : PW X (.BoolOp .And (b :: rest) pos) (tT C G W Z mb)) : PW X (.BoolOp .And (a :: b :: rest) pos) (tT C G W Z (.and ma mb)) := by
  refine pw_imp (pw_and ha hb) fun σ H Q ⟨T, env, rl, h⟩ => ?_
  rw [evT_and] at h
  refine tT_mono (tT_gen (P := fun r => PostT W Z T env σ H r Q) rl (fun _ h => h) id h) fun k H1 h => ?_
  obtain ⟨env1, S, R1, h⟩ := h
  cases k with
  | true => exact ⟨T, env1, R1, PostT.pre S h⟩
  | false => exact h H1 S R1
theorem pw_orM {rest : List Expr} (ha : PT X a (tT C G W Z ma)) (hb : PW X (.BoolOp .Or (b :: rest) pos) (tT C G W Z mb)) : PW X (.BoolOp .Or (a :: b :: rest) pos) (tT C G W Z (.or ma mb)) := by
  refine pw_imp (pw_or ha hb) fun σ H Q ⟨T, env, rl, h⟩ => ?_
  rw [evT_or] at h
  refine tT_mono (tT_gen (P := fun r => PostT W Z T env σ H r Q) rl (fun _ h => h) id h) fun k H1 h => ?_
  obtain ⟨env1, S, R1, h⟩ := h
  cases k with
  | false => exact ⟨T, env1, R1, PostT.pre S h⟩
  | true => exact h H1 S R1
theorem pt_notM (ha : PT X a (tT C G W Z ma)) : PT X (.UnaryOp .Not a pos) (tT C G W Z (.not ma)) := by
  refine pt_imp (pt_not ha) fun σ H Q ⟨T, env, rl, h⟩ => ?_
  rw [evT_not] at h
  refine tT_mono (tT_gen (P := fun r => PostT W Z T env σ H r Q) rl (fun _ h => h) id h) fun k H1 h => ?_
  obtain ⟨env1, S, R1, h⟩ := h
  exact h H1 S R1
theorem pm_ife (hc : PT X c (tT C G W Z mc)) (ha : PE X a (tE C G W Z ma)) (hb : PE X b (tE C G W Z mb)) : PE X (.IfExp c a b pos) (tE C G W Z (.ife mc ma mb)) := by
  refine pe_imp (pe_ifExp hc ha hb) fun σ H Q ⟨T, env, rl, h⟩ => ?_
  simp only [ev] at h
  refine tT_mono (test_gen (P := fun r => PostE W Z T env σ H r Q) (f := fun k env => if k = true then ev C G ma env else ev C G mb env) rl (fun _ h => h) id h) fun k H1 h => ?_
  obtain ⟨env1, S, R1, h⟩ := h
  cases k with
  | true => exact ⟨T, env1, R1, PostE.pre S h⟩
  | false => exact ⟨T, env1, R1, PostE.pre S h⟩
end
/-! ### freezing -/
section
variable {W : Wd} {Z : L2.WX} {T T1 T2 : Addr → Prop} {env env1 env2 env' : Env} {σ : St} {H H0 H1 H2 H' : Hp} {w : EV} {v : V} {d : PyData}
theorem own_rep {A : Addr → Prop} {a : Addr} (h : OwnAt W H A d a) {A' : Addr → Prop} (k : ∀ b, A' b → A b) (n : ¬ A' a) : Rep W H A' d (.ref a) := by
  cases d with
  | list ds =>
    obtain ⟨vs, e, z, r⟩ := h
    simp only [Rep]
    exact ⟨a, vs, rfl, .inl ⟨n, .inl e⟩, z, r.tr ⟨fun _ _ _ e => e, fun b m _ q => m (k b q)⟩⟩
  | dict kvs =>
    obtain ⟨es, ep, e, g, l⟩ := h
    simp only [Rep]
    exact ⟨a, rfl, .inr (.inl ⟨n, es, ep, e, g, l.tr ⟨fun _ _ _ e => e, fun b m _ q => m (k b q)⟩⟩)⟩
  | _ => exact h.elim
theorem getElem?_set_ne' {α : Type} {l : List α} {i j : Nat} {x : α} (h : i ≠ j) : (l.set i x)[j]? = l[j]? := List.getElem?_set_ne h
theorem getElem?_set_eq' {α : Type} {l : List α} {i : Nat} {x y : α} (h : l[i]? = some y) : (l.set i x)[i]? = some x := List.getElem?_set_self (List.getElem?_eq_some_iff.mp h).1
/-- one slot's own list becomes shared -/
theorem owns_set_sh {i : Nat} {d d0 : PyData} {k0 : Own} (e : env[i]? = some (some (d0, k0))) {j : Nat} {b : Addr} (h : Owns (env.set i (some (d, .sh))) σ j b) : j ≠ i ∧ Owns env σ j b := by
  obtain ⟨d', k', e1, nk, e2⟩ := h
  by_cases hj : i = j
  · subst hj
    rw [getElem?_set_eq' e] at e1
    cases e1
    exact absurd rfl nk
  · rw [getElem?_set_ne' hj] at e1
    exact ⟨fun z => hj z.symm, d', k', e1, nk, e2⟩
theorem fz_ok (R1 : Rel W (Tw T w v) env σ H) (V : VOk W T H0 H env σ w v) (e : fzv env w = .ok (d, env')) : Step env σ H env' σ H ∧ Rel W T env' σ H ∧ Rep W H (Av T env' σ) d v := by
  cases w with
  | va d' fr =>
    cases e
    refine ⟨.refl, R1.less fun a z => Tw_sub z, ?_⟩
    cases fr with
    | false => exact V
    | true =>
      obtain ⟨a, rfl, n, _, o⟩ := V
      exact own_rep o (fun b q => .inl q) fun q => q.elim n (R1.prot a (.inr rfl)).1
  | sl i =>
    have V : σ[i]? = some (some v) := V
    simp only [fzv] at e
    split at e
    · rename_i d' q
      cases e
      obtain ⟨v', e1, e2⟩ := R1.slot i d .ow q
      rw [V] at e1
      cases e1
      obtain ⟨a, rfl, o⟩ := e2
      have oa : Owns env σ i a := ⟨d, .ow, q, by decide, V⟩
      have less : ∀ b, Av T (env.set i (some (d, .sh))) σ b → Av T env σ b := fun b z => z.elim .inl fun ⟨j, hj⟩ => .inr ⟨j, (owns_set_sh q hj).2⟩
      have na : ¬ Av T (env.set i (some (d, .sh))) σ a := fun z => by
        rcases z with z | ⟨j, hj⟩
        · exact (R1.prot a z).1 ⟨i, oa⟩
        · obtain ⟨nj, oj⟩ := owns_set_sh q hj
          exact nj (R1.inj j i a oj oa)
      refine ⟨⟨fun _ _ e _ => e, fun b ⟨j, hj⟩ => .inl ⟨j, (owns_set_sh q hj).2⟩, fun _ z => z, fun j d' k' hk e => ?_, fun _ _ _ _ _ _ e => e⟩, ⟨by rw [List.length_set]; exact R1.len, fun j d' k' e => ?_, fun j j' b h1 h2 => R1.inj j j' b (owns_set_sh q h1).2 (owns_set_sh q h2).2, fun b z => ⟨fun ⟨j, hj⟩ => (R1.prot b z).1 ⟨j, (owns_set_sh q hj).2⟩, (R1.prot b z).2⟩⟩, own_rep o less na⟩
      · by_cases hj : i = j
        · subst hj
          rw [q] at e
          cases e
          rcases hk with h | h <;> cases h
        · exact ⟨d', by rw [getElem?_set_ne' hj]; exact e, rfl, fun _ => rfl⟩
      · by_cases hj : i = j
        · subst hj
          rw [getElem?_set_eq' q] at e
          cases e
          exact ⟨.ref a, V, own_rep o less na⟩
        · rw [getElem?_set_ne' hj] at e
          obtain ⟨v', e1, e2⟩ := R1.slot j d' k' e
          exact ⟨v', e1, e2.tr ⟨fun _ _ _ e => e, fun b n _ q => n (less b q)⟩ fun _ _ _ _ e => e⟩
    · rename_i d' q
      cases e
      obtain ⟨v', e1, e2⟩ := R1.slot i d .sh q
      rw [V] at e1
      cases e1
      exact ⟨.refl, R1.less fun a z => Tw_sub z, e2⟩
    · cases e
theorem post_fz {α : Type} {f : PyData × Env → RE α} {P : RE α → Prop} (h : P (M.R.bind (fzv env w) f)) (n : ¬ P .stuck) : ∃ p, fzv env w = .ok p ∧ P (f p) := by
  cases e : fzv env w with
  | ok d => rw [e] at h; exact ⟨d, rfl, h⟩
  | exc x => cases w <;> simp only [fzv] at e <;> (try split at e) <;> cases e
  | stuck => rw [e] at h; exact (n h).elim
theorem fzn_ok {p : PyData × Env} (h : fzn env w = .ok p) : fzv env w = .ok p ∧ ndD p.1 := by
  unfold fzn at h
  split at h
  · rename_i d env' e
    split at h
    · rename_i hn
      cases h
      exact ⟨e, ndB_iff hn⟩
    · cases h
  · cases h
  · cases h
theorem post_fzn {α : Type} {f : PyData × Env → RE α} {P : RE α → Prop} (h : P (M.R.bind (fzn env w) f)) (n : ¬ P .stuck) : ∃ p, fzv env w = .ok p ∧ ndD p.1 ∧ P (f p) := by
  cases e : fzn env w with
  | ok d => rw [e] at h; exact ⟨d, (fzn_ok e).1, (fzn_ok e).2, h⟩
  | exc x =>
    unfold fzn at e
    split at e
    · split at e <;> cases e
    · rename_i x' q
      cases w <;> simp only [fzv] at q <;> (try split at q) <;> cases q
    · cases e
  | stuck => rw [e] at h; exact (n h).elim
end
end M
namespace M
open PySem L2 PyProof.Rows
/-- a value that waits, kept apart no more -/
def HoldS (W : Wd) (T : Addr → Prop) (env : Env) (σ : St) (H : Hp) : EV → V → Prop
  | .va d _, v => Rep W H (Av T env σ) d v
  | .sl i, v => σ[i]? = some (some v)
def HoldL (W : Wd) (T : Addr → Prop) (env : Env) (σ : St) (H : Hp) : List EV → List V → Prop
  | [], vs => vs = []
  | w :: ws, vs => ∃ v r, vs = v :: r ∧ HoldS W T env σ H w v ∧ HoldL W T env σ H ws r
def PostL (W : Wd) (Z : L2.WX) (T : Addr → Prop) (env : Env) (σ : St) (H : Hp) (r : RE (List EV × Env)) (Q : List V → Hp → Prop) : Prop :=
  match r with
  | .ok p => ∀ vs H', Step env σ H p.2 σ H' → Rel W T p.2 σ H' → HoldL W T p.2 σ H' p.1 vs → Q vs H'
  | .exc x => PostX W Z T env σ H x
  | .stuck => False
def tLE (C : CallT) (G : List PyData) (W : Wd) (Z : L2.WX) (ms : List ME) : TA := fun σ H Q => ∃ T env, Rel W T env σ H ∧ PostL W Z T env σ H (evE C G ms env) Q
def PostA (W : Wd) (Z : L2.WX) (T : Addr → Prop) (env : Env) (σ : St) (H : Hp) (r : RE (List PyData × Env)) (Q : List V → Hp → Prop) : Prop :=
  match r with
  | .ok p => ∀ vs H', Step env σ H p.2 σ H' → Rel W T p.2 σ H' → RepAll W H' (Av T p.2 σ) p.1 vs → Q vs H'
  | .exc x => PostX W Z T env σ H x
  | .stuck => False
def tLA (C : CallT) (G : List PyData) (W : Wd) (Z : L2.WX) (ms : List ME) : TA := fun σ H Q => ∃ T env, Rel W T env σ H ∧ PostA W Z T env σ H (evA C G ms env) Q
def ArgL (W : Wd) (T : Addr → Prop) (env : Env) (σ : St) (H : Hp) : List (Sum Nat PyData) → List V → Prop
  | [], vs => vs = []
  | .inr d :: as, vs => ∃ v r, vs = v :: r ∧ Rep W H (Av T env σ) d v ∧ ArgL W T env σ H as r
  | .inl i :: as, vs => ∃ v r, vs = v :: r ∧ σ[i]? = some (some v) ∧ ArgL W T env σ H as r
def PostG (W : Wd) (Z : L2.WX) (T : Addr → Prop) (env : Env) (σ : St) (H : Hp) (r : RE (List (Sum Nat PyData) × Env)) (Q : List V → Hp → Prop) : Prop :=
  match r with
  | .ok p => ∀ vs H', Step env σ H p.2 σ H' → Rel W T p.2 σ H' → ArgL W T p.2 σ H' p.1 vs → Q vs H'
  | .exc x => PostX W Z T env σ H x
  | .stuck => False
def tLG (C : CallT) (G : List PyData) (W : Wd) (Z : L2.WX) (ms : List ME) : TA := fun σ H Q => ∃ T env, Rel W T env σ H ∧ PostG W Z T env σ H (evG C G ms env) Q
theorem pa_imp {X : Cx} {es : List Expr} {t t' : TA} (h : PA X es t) (i : ∀ σ H Q, t' σ H Q → t σ H Q) : PA X es t' := ⟨fun pos pins s σ H Q I q => h.run pos pins s σ H Q I (i _ _ _ q)⟩
section
variable {W : Wd} {Z : L2.WX} {T T1 T2 : Addr → Prop} {env env1 env2 env' : Env} {σ : St} {H H0 H1 H2 H' : Hp} {w : EV} {v : V} {C : CallT} {G : List PyData} {m : ME} {ms : List ME}
theorem Rb.less {A A' : Addr → Prop} {d : PyData} (h : Rb W H A d v) (k : ∀ a, A' a → A a) : Rb W H A' d v := by
  rcases h with h | ⟨a, e, h⟩
  · exact .inl (Rep.less h k)
  · exact .inr ⟨a, e, h.less k⟩
theorem Hold.less (h : Hold W T1 env σ H w v) (k : ∀ a, T a → T1 a) : Hold W T env σ H w v := fun d e => (h d e).less (av_less k)
theorem HoldS.less (h : HoldS W T1 env σ H w v) (k : ∀ a, T a → T1 a) : HoldS W T env σ H w v := by
  cases w with
  | va d fr => exact Rep.less (show Rep W H (Av T1 env σ) d v from h) (av_less k)
  | sl i => exact h
theorem VOk.holdS (R : Rel W T2 env σ H) (hT : ∀ a, Tw T w v a → T2 a) (h : VOk W T H0 H env σ w v) : HoldS W T env σ H w v := by
  cases w with
  | va d fr =>
    cases fr with
    | false => exact h
    | true =>
      obtain ⟨a, rfl, n, _, o⟩ := h
      exact own_rep o (fun b q => .inl q) fun q => q.elim n (R.prot a (hT a (.inr rfl))).1
  | sl i => exact h
theorem HoldS.hold (R : Rel W T env σ H) (h : HoldS W T env σ H w v) : Hold W T env σ H w v := by
  cases w with
  | va d fr => exact fun d' e => by cases e; exact .inl h
  | sl i => exact VOk.hold (T1 := T) (H0 := H) (fun _ z => z) R (fun _ z => z) h
theorem HoldS.step (h : HoldS W T env σ H w v) (S : Step env σ H env' σ H') : HoldS W T env' σ H' w v := by
  cases w with
  | va d fr => exact Rep.tr (S.tr (T := T) (T' := T) fun _ z => .inl z) (show Rep W H (Av T env σ) d v from h)
  | sl i => exact h
theorem HoldL.less (k : ∀ a, T a → T1 a) : ∀ {ws : List EV} {vs : List V}, HoldL W T1 env σ H ws vs → HoldL W T env σ H ws vs
  | [], _, h => h
  | w :: ws, _, h => by
    obtain ⟨v, r, e, h1, h2⟩ := h
    exact ⟨v, r, e, h1.less k, HoldL.less k h2⟩
theorem HoldL.rd (R : Rel W T env σ H) : ∀ {ws : List EV} {vs : List V} {ds : List PyData}, HoldL W T env σ H ws vs → rdAll env ws = .ok ds → RbAll W H (Av T env σ) ds vs
  | [], _, _, h, e => by cases e; exact h
  | w :: ws, _, ds, h, e => by
    obtain ⟨v, r, e1, h1, h2⟩ := h
    unfold rdAll at e
    cases q1 : rdv env w with
    | ok d =>
      cases q2 : rdAll env ws with
      | ok es =>
        simp only [bind, M.R.bind, q1, q2] at e
        cases e
        exact ⟨v, r, e1, h1.hold R d q1, HoldL.rd R h2 q2⟩
      | exc x => simp only [bind, M.R.bind, q1, q2] at e; cases e
      | stuck => simp only [bind, M.R.bind, q1, q2] at e; cases e
    | exc x => simp only [bind, M.R.bind, q1] at e; cases e
    | stuck => simp only [bind, M.R.bind, q1] at e; cases e
theorem rdAll_noexc : ∀ {ws : List EV} {x : Exn × Env}, rdAll env ws = .exc x → False
  | [], _, e => by cases e
  | w :: ws, x, e => by
    unfold rdAll at e
    cases q1 : rdv env w with
    | ok d =>
      cases q2 : rdAll env ws with
      | ok es => simp only [bind, M.R.bind, q1, q2] at e; cases e
      | exc y => exact rdAll_noexc q2
      | stuck => simp only [bind, M.R.bind, q1, q2] at e; cases e
    | exc y => cases w <;> simp only [rdv] at q1 <;> (try split at q1) <;> cases q1
    | stuck => simp only [bind, M.R.bind, q1] at e; cases e
theorem post_rdAll {ws : List EV} {α : Type} {f : List PyData → RE α} {P : RE α → Prop} (h : P (M.R.bind (rdAll env ws) f)) (n : ¬ P .stuck) : ∃ d, rdAll env ws = .ok d ∧ P (f d) := by
  cases e : rdAll env ws with
  | ok d => rw [e] at h; exact ⟨d, rfl, h⟩
  | exc x => exact (rdAll_noexc e).elim
  | stuck => rw [e] at h; exact (n h).elim
theorem ArgL.step (S : Step env σ H env' σ H') : ∀ {as : List (Sum Nat PyData)} {vs : List V}, ArgL W T env σ H as vs → ArgL W T env' σ H' as vs
  | [], _, h => h
  | .inr d :: as, _, h => by
    obtain ⟨v, r, e, h1, h2⟩ := h
    exact ⟨v, r, e, Rep.tr (S.tr (T := T) (T' := T) fun _ z => .inl z) h1, ArgL.step S h2⟩
  | .inl i :: as, _, h => by
    obtain ⟨v, r, e, h1, h2⟩ := h
    exact ⟨v, r, e, h1, ArgL.step S h2⟩
end
section
variable {nm : Nm} {C : CallT} {G : List PyData} {W : Wd} {k : Nat} {Z : L2.WX} {X : Cx} {a b c e : Expr} {es : List Expr} {pos : Pos} {ma mb mc m : ME} {ms : List ME}
theorem pl_nil : PA X [] (tLE C G W Z []) := pa_imp pa_nil fun σ H Q ⟨T, env, rl, h⟩ => by
  simp only [evE] at h
  exact h [] H .refl rl rfl
theorem pl_cons (he : PE X e (tE C G W Z m)) (hes : PA X es (tLE C G W Z ms)) (hs : starEach (e :: es) X.env = (false, eval e X.env) :: starEach es X.env) : PA X (e :: es) (tLE C G W Z (m :: ms)) := by
  refine pa_imp (pa_cons he hes hs) fun σ H Q ⟨T, env, rl, h⟩ => ?_
  simp only [evE] at h
  refine tE_mono (one_gen (P := fun r => PostL W Z T env σ H r Q) (f := fun w env => evE C G ms env >>= fun q => .ok (w :: q.1, q.2)) rl (fun _ h => h) id h) fun x H1 h => ?_
  obtain ⟨w, env1, S, R1, V, h⟩ := h
  refine ⟨Tw T w x, env1, R1, ?_⟩
  cases e1 : evE C G ms env1 with
  | ok q =>
    simp only [bind, M.R.bind, e1] at h
    refine fun vs H2 S2 R2 hl => h (x :: vs) H2 (S.trans S2) (R2.less fun a z => Tw_sub z) ⟨x, vs, rfl, ?_, hl.less fun a z => Tw_sub z⟩
    exact (V.step R1 S2).holdS R2 (fun _ z => z)
  | exc y => simp only [bind, M.R.bind, e1] at h; exact PostX.pre S (fun _ z => Tw_sub z) h
  | stuck => simp only [bind, M.R.bind, e1] at h; exact h
theorem pl_nilA : PA X [] (tLA C G W Z []) := pa_imp pa_nil fun σ H Q ⟨T, env, rl, h⟩ => by
  simp only [evA] at h
  exact h [] H .refl rl (by simp only [RepAll])
theorem pl_consA (he : PE X e (tE C G W Z m)) (hes : PA X es (tLA C G W Z ms)) (hs : starEach (e :: es) X.env = (false, eval e X.env) :: starEach es X.env) : PA X (e :: es) (tLA C G W Z (m :: ms)) := by
  refine pa_imp (pa_cons he hes hs) fun σ H Q ⟨T, env, rl, h⟩ => ?_
  simp only [evA] at h
  refine tE_mono (one_gen (P := fun r => PostA W Z T env σ H r Q) (f := fun w env => fzn env w >>= fun p => evA C G ms p.2 >>= fun q => .ok (p.1 :: q.1, q.2)) rl (fun _ h => h) id h) fun x H1 h => ?_
  obtain ⟨w, env1, S, R1, V, h⟩ := h
  obtain ⟨p, e1, n1, h⟩ := post_fzn (P := fun r => PostA W Z T env σ H r Q) h id
  obtain ⟨S1, R2, r1⟩ := fz_ok R1 V (show fzv env1 w = .ok (p.1, p.2) from e1)
  refine ⟨T, p.2, R2, ?_⟩
  cases e2 : evA C G ms p.2 with
  | ok q =>
    simp only [bind, M.R.bind, e2] at h
    exact fun vs H2 S2 R3 hl => h (x :: vs) H2 ((S.trans S1).trans S2) R3 (RepAll.cons n1 (Rep.tr (S2.tr (T := T) (T' := T) fun _ z => .inl z) r1) hl)
  | exc y => simp only [bind, M.R.bind, e2] at h; exact PostX.pre (S.trans S1) (fun _ z => z) h
  | stuck => simp only [bind, M.R.bind, e2] at h; exact h
theorem pl_nilG : PA X [] (tLG C G W Z []) := pa_imp pa_nil fun σ H Q ⟨T, env, rl, h⟩ => by
  simp only [evG] at h
  exact h [] H .refl rl rfl
theorem evG_val {env : Env} (hm : ∀ i, m ≠ .ref i) : evG C G (m :: ms) env = (ev C G m env >>= fun p => fzv p.2 p.1 >>= fun p => evG C G ms p.2 >>= fun q => .ok (.inr p.1 :: q.1, q.2)) := by
  cases m with
  | ref i => exact absurd rfl (hm i)
  | _ => simp only [evG]
theorem pl_consG (hm : ∀ i, m ≠ .ref i) (he : PE X e (tE C G W Z m)) (hes : PA X es (tLG C G W Z ms)) (hs : starEach (e :: es) X.env = (false, eval e X.env) :: starEach es X.env) : PA X (e :: es) (tLG C G W Z (m :: ms)) := by
  refine pa_imp (pa_cons he hes hs) fun σ H Q ⟨T, env, rl, h⟩ => ?_
  rw [evG_val hm] at h
  refine tE_mono (one_gen (P := fun r => PostG W Z T env σ H r Q) (f := fun w env => fzv env w >>= fun p => evG C G ms p.2 >>= fun q => .ok (.inr p.1 :: q.1, q.2)) rl (fun _ h => h) id h) fun x H1 h => ?_
  obtain ⟨w, env1, S, R1, V, h⟩ := h
  obtain ⟨p, e1, h⟩ := post_fz (P := fun r => PostG W Z T env σ H r Q) h id
  obtain ⟨S1, R2, r1⟩ := fz_ok R1 V (show fzv env1 w = .ok (p.1, p.2) from e1)
  refine ⟨T, p.2, R2, ?_⟩
  cases e2 : evG C G ms p.2 with
  | ok q =>
    simp only [bind, M.R.bind, e2] at h
    exact fun vs H2 S2 R3 hl => h (x :: vs) H2 ((S.trans S1).trans S2) R3 ⟨x, vs, rfl, Rep.tr (S2.tr (T := T) (T' := T) fun _ z => .inl z) r1, hl⟩
  | exc y => simp only [bind, M.R.bind, e2] at h; exact PostX.pre (S.trans S1) (fun _ z => z) h
  | stuck => simp only [bind, M.R.bind, e2] at h; exact h
theorem pl_consR {i : Nat} (he : PE X e (tVar i)) (hes : PA X es (tLG C G W Z ms)) (hs : starEach (e :: es) X.env = (false, eval e X.env) :: starEach es X.env) : PA X (e :: es) (tLG C G W Z (.ref i :: ms)) := by
  refine pa_imp (pa_cons he hes hs) fun σ H Q ⟨T, env, rl, h⟩ => ?_
  simp only [evG] at h
  split at h
  · rename_i ho
    have : ∃ d k, env[i]? = some (some (d, k)) := by
      unfold ownS at ho
      split at ho
      · rename_i d q; exact ⟨_, _, q⟩
      · rename_i d q; exact ⟨_, _, q⟩
      · cases ho
    obtain ⟨d, k, q⟩ := this
    obtain ⟨v, e1, _⟩ := rl.slot i d k q
    refine ⟨v, e1, T, env, rl, ?_⟩
    cases e2 : evG C G ms env with
    | ok q =>
      simp only [bind, M.R.bind, e2] at h
      exact fun vs H2 S2 R3 hl => h (v :: vs) H2 S2 R3 ⟨v, vs, rfl, e1, hl⟩
    | exc y => simp only [bind, M.R.bind, e2] at h; exact h
    | stuck => simp only [bind, M.R.bind, e2] at h; exact h
  · exact h.elim
/-! ### displays, built-ins -/
theorem pm_tup {x1 : Nat} (h : PA X es (tLA C G W Z ms)) : PE X (.Tuple es x1 pos) (tE C G W Z (.tup ms)) := by
  refine pe_imp (pe_tup h) fun σ H Q ⟨T, env, rl, h⟩ => ?_
  simp only [ev] at h
  refine ⟨T, env, rl, ?_⟩
  cases e1 : evA C G ms env with
  | ok p =>
    simp only [bind, M.R.bind, e1] at h
    split at h
    · rename_i hz
      refine fun vs H1 S R1 r => ⟨by rw [r.length]; exact hz, fun p hp => ?_⟩
      exact PostE.op h R1 S (same_upd hp) (new_tup (avOk R1) hp (by rw [r.length]; exact hz) r)
    · exact h.elim
  | exc y => simp only [bind, M.R.bind, e1] at h; exact h
  | stuck => simp only [bind, M.R.bind, e1] at h; exact h
theorem pm_lst (h : PA X es (tLA C G W Z ms)) : PE X (.List es pos) (tE C G W Z (.lst ms)) := by
  refine pe_imp (pe_lst h) fun σ H Q ⟨T, env, rl, h⟩ => ?_
  simp only [ev] at h
  refine ⟨T, env, rl, ?_⟩
  cases e1 : evA C G ms env with
  | ok p =>
    simp only [bind, M.R.bind, e1] at h
    split at h
    · rename_i hz
      refine fun vs H1 S R1 r => ⟨by rw [r.length]; exact hz, fun p hp => ?_⟩
      exact PostE.op h R1 S (same_upd hp) (new_lst hp (by rw [r.length]; exact hz) r)
    · exact h.elim
  | exc y => simp only [bind, M.R.bind, e1] at h; exact h
  | stuck => simp only [bind, M.R.bind, e1] at h; exact h
theorem tLE_blt {bl : Blt} {Q : VK} {σ : St} {H : Hp} (h : tE C G W Z (.blt bl ms) σ H Q) : tLE C G W Z ms σ H (fun vs H1 => rBlt W bl vs H1 Q) := by
  obtain ⟨T, env, rl, h⟩ := h
  simp only [ev] at h
  refine ⟨T, env, rl, ?_⟩
  cases e1 : evE C G ms env with
  | ok p =>
    rw [e1] at h
    have h : PostE W Z T env σ H (rdAll p.2 p.1 >>= fun ds => M.R.ofO (bltD bl ds) >>= fun q => .ok (.va q.1 q.2, p.2)) Q := h
    obtain ⟨ds, e2, h⟩ := post_rdAll (P := fun r => PostE W Z T env σ H r Q) h id
    obtain ⟨q, e3, h⟩ := post_of (P := fun r => PostE W Z T env σ H r Q) h id
    exact fun vs H1 S R1 hl => ⟨Av T p.2 σ, ds, q, avOk R1, hl.rd R1 e2, e3, fun v H' s r => PostE.op h R1 S s r⟩
  | exc y => rw [e1] at h; exact h
  | stuck => rw [e1] at h; exact h
theorem pm_sset (g : Gd nm C G W k Z X) {p q q2 : Pos} (hg : Gl X "sorted") (hg2 : Gl X "set") (he : PE X e (tE C G W Z m)) (hst : starEach [e] X.env = (false, eval e X.env) :: starEach [] X.env) :
    PE X (.Call (.Name "sorted" p) [.Call (.Name "set" q) [e] [] q2] [] pos) (tE C G W Z (.blt .sset [m])) := by
  refine pe_imp (pe_callB (cr_sortedT g.calm) hg (g.blt _ (by decide)) (by decide +kernel) (pa_cons (pe_callTy (cr_setOfT g.calm (by have := g.units; omega)) hg2 (g.blt _ (by decide)) (by decide +kernel) (pa_cons he pa_nil hst) (by decide) (by decide) hst) pa_nil)) fun σ H Q h => ?_
  obtain ⟨T, env, rl, h⟩ := h
  simp only [ev, evE] at h
  show tE C G W Z m σ H fun x H1 => rSetOfT X.K X.prog X.w [x] H1 fun z H2 => rSortedT X.K X.prog X.w [z] H2 Q
  refine ⟨T, env, rl, ?_⟩
  cases e1 : ev C G m env with
  | ok p =>
    rw [e1] at h
    have h : PostE W Z T env σ H (rdAll p.2 [p.1] >>= fun ds => M.R.ofO (bltD .sset ds) >>= fun q => .ok (.va q.1 q.2, p.2)) Q := h
    obtain ⟨ds, e2, h⟩ := post_rdAll (P := fun r => PostE W Z T env σ H r Q) h id
    obtain ⟨q, e3, h⟩ := post_of (P := fun r => PostE W Z T env σ H r Q) h id
    intro x H1 S R1 V
    have R0 := R1.less (T' := T) fun a z => Tw_sub z
    have hl : HoldL W T p.2 σ H1 [p.1] [x] := ⟨x, [], rfl, V.holdS R1 (fun _ z => z), rfl⟩
    have hr := hl.rd R0 e2
    match ds, e3, hr with
    | [.list xs], e3, hr =>
      obtain ⟨v, ev, hv⟩ := hr.one
      cases ev
      simp only [bltD] at e3
      split at e3
      · rename_i hz
        cases e4 : pairsD xs with
        | none => rw [e4] at e3; cases e3
        | some ps =>
          rw [e4] at e3
          cases e3
          exact sset_read g.K (avOk R0) hv e4 hz fun v H' s r => PostE.op h R0 S s r
      · cases e3
  | exc y => rw [e1] at h; exact h
  | stuck => rw [e1] at h; exact h
end
end M
namespace M
open PySem L2 PyProof.Rows
/-! ### t[::-1] of tuples -/
section
variable {prog : Program} {w : World} {A : Around} {E : Value → Shared → Prop} {s : Shared}
theorem places_rev (n : Nat) : Builtin.Slice.slicePlaces ((n : Int) - 1) (-1) (-1) = n := by
  unfold Builtin.Slice.slicePlaces
  rw [if_neg (by decide), show (- -1 : Int) = 1 by decide, Int.ediv_one]
  split <;> omega
theorem sliceApplied_rev {sl : Addr} {vl vu vs : Value} {n : Nat} {Q : Int × Int × Nat → Shared → Prop} (hs : s.heap.IsSliceOf sl vl vu vs) (pl : IsPart vl none) (pu : IsPart vu none) (ps : IsPart vs (some (-1)))
    (h : Q ((n : Int) - 1, -1, n) s) : wpAny (model prog w) A (Builtin.Slice.sliceApplied (.ref sl) (pure (n : Int))) Q E s := by
  obtain ⟨os, hos, hcs, hds⟩ := id hs
  unfold Builtin.Slice.sliceApplied Builtin.Slice.sliceFields
  refine wpAny_bind (wpAny_bind (wpAny_field hos hds (x := vl) rfl (wpAny_bind (wpAny_field hos hds (x := vu) rfl (wpAny_bind (wpAny_field hos hds (x := vs) rfl (wpAny_pure ?_)))))))
  refine wpAny_bind (HT.slicePart_ ps ?_)
  show wpAny _ _ (if ((-1 : Int) == 0) = true then _ else _) _ _ s
  rw [if_neg (by decide)]
  refine wpAny_bind (HT.slicePart_ pl (wpAny_bind (HT.slicePart_ pu (wpAny_bind (wpAny_pure ?_)))))
  show wpAny _ _ (pure ((n : Int) - 1, (-1 : Int), Builtin.Slice.slicePlaces ((n : Int) - 1) (-1) (-1))) _ _ s
  rw [places_rev]
  exact wpAny_pure h
theorem fm_congr {α β : Type} {f g : α → Option β} : ∀ {l : List α}, (∀ x ∈ l, f x = g x) → l.filterMap f = l.filterMap g
  | [], _ => rfl
  | x :: l, h => by
    have i := fm_congr fun y hy => h y (List.mem_cons_of_mem x hy)
    rw [List.filterMap_cons, List.filterMap_cons, h x List.mem_cons_self, i]
theorem pick_rev (xs : Array Value) : ((List.range xs.size).filterMap fun (m : Nat) => xs[(((xs.size : Int) - 1) + (m : Int) * -1).toNat]?).toArray = xs.toList.reverse.toArray := by
  congr 1
  have e : (List.range xs.size).filterMap (fun (m : Nat) => xs[(((xs.size : Int) - 1) + (m : Int) * -1).toNat]?) = (List.range xs.size).filterMap fun m => xs[xs.size - 1 - m]? := by
    refine fm_congr fun m hm => ?_
    have := List.mem_range.mp hm
    rw [show (((xs.size : Int) - 1) + (m : Int) * -1).toNat = xs.size - 1 - m by omega]
  rw [e]
  have e2 : (List.range xs.size).filterMap (fun m => xs[xs.size - 1 - m]?) = ((List.range xs.size).map fun k => xs.size - 1 - k).filterMap (xs[·]?) := by
    rw [List.filterMap_map]; rfl
  rw [e2, PySem.W.krv_range, List.filterMap_reverse, PySem.W.krv_all]
theorem getItem_tuple_rev {t sl : Addr} {items : Array Value} {vl vu vs : Value} {Q : Value → Shared → Prop} (ht : IsTup s.heap t items) (hs : s.heap.IsSliceOf sl vl vu vs) (pl : IsPart vl none) (pu : IsPart vu none) (ps : IsPart vs (some (-1)))
    (h : Q (.ref s.heap.objs.size) { s with heap := s.heap.push { cls := .type "tuple", data := .seq items.toList.reverse.toArray } })
    (hsz : items.size ≤ sizeLine) : wpAny (model prog w) A (getItem (.ref t) (.ref sl)) Q E s := by
  have htake : sizeOk (.seq items.toList.reverse.toArray) := by
    show items.toList.reverse.toArray.size ≤ sizeLine
    rw [List.size_toArray, List.length_reverse, Array.length_toList]
    exact hsz
  obtain ⟨os, hos, hcs, hds⟩ := id hs
  have hTs : s.TypeIs (.ref sl) "slice" := ⟨os, hos, hcs⟩
  unfold getItem
  try with_reducible refine wpAny_holding ?_
  first | refine wpAny_bind (wpAny_pure ?_) | skip
  refine wpAny_bind (wpAny_sequenceKey ht.typeIs (by decide) ?_)
  refine wpAny_bind (wpAny_callSpecial?_slot (name := Str.ofString "__getitem__") ht.typeIs PyProof.Rows.slot_tuple_getitem
    (wpAny_call_entry PyProof.Rows.slot_tuple_getitem ht.typeIs entry_tuple_getitem ?_ (args_tuple_getitem _ _)))
  show wpAny _ _ (Builtin.Tuple.tupleItemsOf (.ref t) >>= _) _ _ s
  refine wpAny_bind (tupleItemsOf_ ht ?_)
  refine wpAny_bind (wpAny_typeOf hTs ?_)
  rw [if_pos (by decide)]
  refine wpAny_bind (sliceApplied_rev hs pl pu ps ?_)
  have hno : ¬ ((((items.size : Int) - 1) == 0 && (-1 : Int) == 1 && items.size == items.size) = true) := by
    intro q
    rw [Bool.and_eq_true, Bool.and_eq_true] at q
    exact absurd q.1.2 (by decide)
  show wpAny _ _ (if ((((items.size : Int) - 1) == 0 && (-1 : Int) == 1 && items.size == items.size) = true) then _ else _) _ _ s
  rw [if_neg hno, pick_rev]
  first
    | exact wpAny_bind (m := Builtin.Tuple.tupleExact _) (wpAny_newObj_type (wpAny_pure ⟨_, rfl, wpAny_pure h⟩) htake)
    | exact wpAny_bind (m := Builtin.Tuple.tupleExact _) (wpAny_newObj_type (wpAny_bind (wpAny_pure (wpAny_pure ⟨_, rfl, wpAny_pure h⟩))) htake)
    | exact wpAny_bind (wpAny_bind (m := Builtin.Tuple.tupleExact _) (wpAny_newObj_type (wpAny_pure (wpAny_pure ⟨_, rfl, wpAny_pure h⟩)) htake))
    | exact wpAny_bind (wpAny_bind (m := Builtin.Tuple.tupleExact _) (wpAny_newObj_type (wpAny_pure ⟨_, rfl, wpAny_pure h⟩) htake))
end
def tRev2 (K : PySem.W.Frag) (te : TE) : TE := fun σ H Q => te σ H fun x H1 => (∃ a xs, x = .ref a ∧ SqL K H1 a xs ∧ ∀ p, H1 p = none → Q (.ref p) (upd H1 p (.lst xs.reverse))) ∨ (∃ a xs, x = .ref a ∧ SqT K H1 a xs ∧ ∀ p, H1 p = none → Q (.ref p) (upd H1 p (.tup xs.reverse)))
theorem pe_rev2 {X : Cx} {e : Expr} {te : TE} {k : Nat} {p1 p2 p3 pos : Pos} (he : PE X e te) : PE X (.Subscript e (.Slice none none (some (.UnaryOp .USub (.Constant (.int 1) k p1) p2)) p3) pos) (tRev2 X.K te) := by
  refine ⟨fun pins s σ H Q I h => ?_⟩
  refine Subscript_ (thn (he.run pins s σ H _ I h) fun v s1 ⟨x, H1, I1, r1, q1⟩ => ?_)
  have hst : PO X (some (.UnaryOp .USub (.Constant (.int 1) k p1) p2)) (tPart (tUn (rU fun i => .int (-i)) (tC (.int 1)))) := po_some (pe_un un_neg pe_int)
  refine wpAny_Slice (thn (po_none.run pins s1 σ H1 (fun o H2 => o = none ∧ H2 = H1) I1 ⟨rfl, rfl⟩) fun vl s2 ⟨l, H2, I2, pl, el, e2⟩ => ?_)
  subst el e2
  refine thn (po_none.run pins s2 σ H2 (fun o H3 => o = none ∧ H3 = H2) I2 ⟨rfl, rfl⟩) fun vu s3 ⟨u, H3, I3, pu, eu, e3⟩ => ?_
  subst eu e3
  refine thn (hst.run pins s3 σ H3 (fun o H4 => o = some (-1) ∧ H4 = H3) I3 ⟨1, rfl, -1, rfl, rfl, rfl⟩) fun vs s4 ⟨o, H4, I4, ps, eo, e4⟩ => ?_
  subst eo e4
  have I5 : Inv X pins σ H4 { s4 with heap := s4.heap.push { cls := .type "slice", data := .fields #[vl, vu, vs] } } := I4.kept (t' := s4.toks) fun b ob q => Heap.get?_push_of_some _ q
  rcases q1 with q1 | q1
  · obtain ⟨a, xs, ex, hx, q⟩ := q1
    subst ex
    cases r1
    obtain ⟨its, r, ht, hz⟩ := I5.list hx
    have hlen := r.length
    show wpAny (model X.prog X.w) X.A (subscriptTail e (.Slice none none (some (.UnaryOp .USub (.Constant (.int 1) k p1) p2)) p3) (.ref a) (.ref s4.heap.objs.size)) (EP X pins σ Q) X.xe { s4 with heap := s4.heap.push { cls := .type "slice", data := .fields #[vl, vu, vs] } }
    refine tail_any (ops := [.ref a, .ref s4.heap.objs.size]) ht.isList.typeIs (PySem.slot_list_getitem.lookup) ?_ (by with_unfolding_all rfl)
    refine wpAny_getItem_list_slice ht.isList (Heap.IsSliceOf.new _ vl vu vs) pl pu ps (by decide) ?_ (by rw [List.size_toArray]; omega)
    rw [PySem.W.krv_pick]
    refine ⟨.ref _, _, I5.laid (t' := s4.toks) (o := .lst xs.reverse) (fun b ob q => Heap.get?_push_of_some _ q) (Nat.le_refl _) ?_, rfl, q _ (I5.hok.fresh (Nat.le_refl _))⟩
    exact ⟨by rw [List.length_reverse]; exact hz, _, 0, r.reverse, Heap.get?_push_size _ rfl⟩
  · obtain ⟨a, xs, ex, hx, q⟩ := q1
    subst ex
    cases r1
    obtain ⟨its, r, ht, hz⟩ := I5.tuple hx
    have hlen := r.length
    show wpAny (model X.prog X.w) X.A (subscriptTail e (.Slice none none (some (.UnaryOp .USub (.Constant (.int 1) k p1) p2)) p3) (.ref a) (.ref s4.heap.objs.size)) (EP X pins σ Q) X.xe { s4 with heap := s4.heap.push { cls := .type "slice", data := .fields #[vl, vu, vs] } }
    refine tail_any (ops := [.ref a, .ref s4.heap.objs.size]) ht.typeIs (PyProof.Rows.slot_tuple_getitem.lookup) ?_ (by with_unfolding_all rfl)
    refine getItem_tuple_rev ht (Heap.IsSliceOf.new _ vl vu vs) pl pu ps ?_ (by rw [List.size_toArray]; omega)
    refine ⟨.ref _, _, I5.laid (t' := s4.toks) (o := .tup xs.reverse) (fun b ob q => Heap.get?_push_of_some _ q) (Nat.le_refl _) ?_, rfl, q _ (I5.hok.fresh (Nat.le_refl _))⟩
    exact ⟨by rw [List.length_reverse]; exact hz, _, r.reverse, IsTup.new _ _⟩
end M
namespace M
open PySem L2 PyProof.Rows
/-! ### slices -/
def PostO (W : Wd) (Z : L2.WX) (T : Addr → Prop) (env : Env) (σ : St) (H : Hp) (r : RE (Option Int × Env)) (Q : Option Int → Hp → Prop) : Prop :=
  match r with
  | .ok p => ∀ H', Step env σ H p.2 σ H' → Rel W T p.2 σ H' → Q p.1 H'
  | .exc x => PostX W Z T env σ H x
  | .stuck => False
def tO (C : CallT) (G : List PyData) (W : Wd) (Z : L2.WX) (m : Option ME) : TO := fun σ H Q => ∃ T env, Rel W T env σ H ∧ PostO W Z T env σ H (evO C G m env) Q
theorem po_imp {X : Cx} {e : Option Expr} {t t' : TO} (h : PO X e t) (i : ∀ σ H Q, t' σ H Q → t σ H Q) : PO X e t' := ⟨fun pins s σ H Q I q => h.run pins s σ H Q I (i _ _ _ q)⟩
section
variable {nm : Nm} {C : CallT} {G : List PyData} {W : Wd} {k : Nat} {Z : L2.WX} {X : Cx} {a b c e : Expr} {es : List Expr} {pos p2 : Pos} {ma mb mc m : ME} {ms : List ME} {lo hi : Option Expr} {ml mh : Option ME}
theorem po_noneM : PO X none (tO C G W Z none) := po_imp po_none fun σ H Q ⟨T, env, rl, h⟩ => by
  simp only [evO] at h
  exact h H .refl rl
theorem po_someM (ha : PE X a (tE C G W Z ma)) : PO X (some a) (tO C G W Z (some ma)) := by
  refine po_imp (po_some ha) fun σ H Q ⟨T, env, rl, h⟩ => ?_
  simp only [evO] at h
  refine tE_mono (one_gen (P := fun r => PostO W Z T env σ H r Q) (f := fun x env => rdv env x >>= fun d => match d with | .int i => .ok (some i, env) | _ => .stuck) rl (fun _ h => h) id h) fun x H1 h => ?_
  obtain ⟨w, env1, S, R1, V, h⟩ := h
  obtain ⟨d, e1, h⟩ := post_rd (P := fun r => PostO W Z T env σ H r Q) h id
  have hd := (V.hold (fun _ z => z) R1 fun a z => Tw_sub z) d e1
  cases d with
  | int i => exact ⟨i, hd.int, h H1 S (R1.less fun a z => Tw_sub z)⟩
  | _ => exact h.elim
theorem pm_slc (g : Gd nm C G W k Z X) (ha : PE X a (tE C G W Z ma)) (hl : PO X lo (tO C G W Z ml)) (hh : PO X hi (tO C G W Z mh)) : PE X (.Subscript a (.Slice lo hi none p2) pos) (tE C G W Z (.slc ma ml mh)) := by
  refine pe_imp (pe_slice (sl_slc g.K) ha hl hh) fun σ H Q ⟨T, env, rl, h⟩ => ?_
  simp only [ev] at h
  refine tE_mono (one_gen (P := fun r => PostE W Z T env σ H r Q) (f := fun x env => evO C G ml env >>= fun l => evO C G mh l.2 >>= fun h => rdv h.2 x >>= fun d => M.R.ofO (slcD d l.1 h.1) >>= fun p => .ok (.va p.1 p.2, h.2)) rl (fun _ h => h) id h) fun x H1 h => ?_
  obtain ⟨w, env1, S, R1, V, h⟩ := h
  refine ⟨Tw T w x, env1, R1, ?_⟩
  cases e1 : evO C G ml env1 with
  | ok l =>
    rw [e1] at h
    intro H2 S2 R2
    refine ⟨Tw T w x, l.2, R2, ?_⟩
    have h : PostE W Z T env σ H (evO C G mh l.2 >>= fun h => rdv h.2 w >>= fun d => M.R.ofO (slcD d l.1 h.1) >>= fun p => .ok (.va p.1 p.2, h.2)) Q := h
    cases e2 : evO C G mh l.2 with
    | ok u =>
      rw [e2] at h
      intro H3 S3 R3
      have h : PostE W Z T env σ H (rdv u.2 w >>= fun d => M.R.ofO (slcD d l.1 u.1) >>= fun p => .ok (.va p.1 p.2, u.2)) Q := h
      obtain ⟨d, e3, h⟩ := post_rd (P := fun r => PostE W Z T env σ H r Q) h id
      obtain ⟨p, e4, h⟩ := post_of (P := fun r => PostE W Z T env σ H r Q) h id
      have hd := (((V.step R1 S2).step R2 S3).hold (fun _ z => z) R3 fun a z => Tw_sub z) d e3
      have R0 := R3.less (T' := T) fun a z => Tw_sub z
      exact ⟨Av T u.2 σ, d, p, avOk R0, hd, e4, fun v H' s r => PostE.op h R0 ((S.trans S2).trans S3) s r⟩
    | exc y => rw [e2] at h; exact PostX.pre (S.trans S2) (fun _ z => Tw_sub z) h
    | stuck => rw [e2] at h; exact h
  | exc y => rw [e1] at h; exact PostX.pre S (fun _ z => Tw_sub z) h
  | stuck => rw [e1] at h; exact h
/-! ### chains -/
theorem chn_read {op op' : CmpOp} {Q : VK} {σ : St} {H : Hp} (hK : W.K = X.K) (h : tE C G W Z (.chn op op' ma mb mc) σ H Q) :
    tE C G W Z ma σ H fun x H1 => tE C G W Z mb σ H1 fun y H2 => rCmp W op x y H2 fun z H3 => ∃ k, z = .bl k ∧ (if k = true then tE C G W Z mc σ H3 fun w' H4 => rCmp W op' y w' H4 Q else Q (.bl false) H3) := by
  obtain ⟨T, env, rl, h⟩ := h
  simp only [ev] at h
  refine tE_mono (one_gen (P := fun r => PostE W Z T env σ H r Q) (f := fun x env => ev C G mb env >>= fun y => rdv y.2 x >>= fun d => rdv y.2 y.1 >>= fun e => M.R.ofO (cmpD op d e) >>= fun k => if k = true then ev C G mc y.2 >>= fun z => rdv z.2 y.1 >>= fun e => rdv z.2 z.1 >>= fun g => M.R.ofO (cmpD op' e g) >>= fun k => .ok (.va (.bool k) false, z.2) else .ok (.va (.bool false) false, y.2)) rl (fun _ h => h) id h) fun x H1 h => ?_
  obtain ⟨w, env1, S, R1, V, h⟩ := h
  refine ⟨Tw T w x, env1, R1, ?_⟩
  cases e1 : ev C G mb env1 with
  | ok y =>
    rw [e1] at h
    intro v2 H2 S2 R2 V2
    have h : PostE W Z T env σ H (rdv y.2 w >>= fun d => rdv y.2 y.1 >>= fun e => M.R.ofO (cmpD op d e) >>= fun k => if k = true then ev C G mc y.2 >>= fun z => rdv z.2 y.1 >>= fun e => rdv z.2 z.1 >>= fun g => M.R.ofO (cmpD op' e g) >>= fun k => .ok (.va (.bool k) false, z.2) else .ok (.va (.bool false) false, y.2)) Q := h
    obtain ⟨d, e2, h⟩ := post_rd (P := fun r => PostE W Z T env σ H r Q) h id
    obtain ⟨e, e3, h⟩ := post_rd (P := fun r => PostE W Z T env σ H r Q) h id
    obtain ⟨k, e4, h⟩ := post_of (P := fun r => PostE W Z T env σ H r Q) h id
    have hd := ((V.step R1 S2).hold (T := T) (fun _ z => z) R2 fun a z => Tw_sub (Tw_sub z)) d e2
    have he := (V2.hold (T := T) (fun _ z => Tw_sub z) R2 fun a z => Tw_sub (Tw_sub z)) e e3
    refine ⟨Av T y.2 σ, d, e, k, hd, he, e4, k, rfl, ?_⟩
    cases k with
    | false => exact PostE.op h (R2.less fun a z => Tw_sub (Tw_sub z)) (S.trans S2) (Same.refl H2) (by show Rep _ _ _ _ _; simp only [Rep])
    | true =>
      have h : PostE W Z T env σ H (ev C G mc y.2 >>= fun z => rdv z.2 y.1 >>= fun e => rdv z.2 z.1 >>= fun g => M.R.ofO (cmpD op' e g) >>= fun k => .ok (.va (.bool k) false, z.2)) Q := h
      refine ⟨Tw (Tw T w x) y.1 v2, y.2, R2, ?_⟩
      cases e5 : ev C G mc y.2 with
      | ok z =>
        rw [e5] at h
        intro v3 H3 S3 R3 V3
        have h : PostE W Z T env σ H (rdv z.2 y.1 >>= fun e => rdv z.2 z.1 >>= fun g => M.R.ofO (cmpD op' e g) >>= fun k => .ok (.va (.bool k) false, z.2)) Q := h
        obtain ⟨d', e6, h⟩ := post_rd (P := fun r => PostE W Z T env σ H r Q) h id
        obtain ⟨e', e7, h⟩ := post_rd (P := fun r => PostE W Z T env σ H r Q) h id
        obtain ⟨k', e8, h⟩ := post_of (P := fun r => PostE W Z T env σ H r Q) h id
        have hd' := ((V2.step R2 S3).hold (T := T) (fun _ z => Tw_sub z) R3 fun a z => Tw_sub (Tw_sub (Tw_sub z))) d' e6
        have he' := (V3.hold (T := T) (fun _ z => Tw_sub (Tw_sub z)) R3 fun a z => Tw_sub (Tw_sub (Tw_sub z))) e' e7
        exact ⟨Av T z.2 σ, d', e', k', hd', he', e8, PostE.op h (R3.less fun a z => Tw_sub (Tw_sub (Tw_sub z))) ((S.trans S2).trans S3) (Same.refl H3) (by show Rep _ _ _ _ _; simp only [Rep])⟩
      | exc u => rw [e5] at h; exact PostX.pre (S.trans S2) (fun _ z => Tw_sub (Tw_sub z)) h
      | stuck => rw [e5] at h; exact h
  | exc y => rw [e1] at h; exact PostX.pre S (fun _ z => Tw_sub z) h
  | stuck => rw [e1] at h; exact h
theorem pm_chn (g : Gd nm C G W k Z X) (op op' : CmpOp) (hm : lastMarks [op, op'] [b, c] = false) (ha : PE X a (tE C G W Z ma)) (hb : PE X b (tE C G W Z mb)) (hc : PE X c (tE C G W Z mc)) : PE X (.Compare a [op, op'] [b, c] pos) (tE C G W Z (.chn op op' ma mb mc)) :=
  pe_imp (pe_chain (op_cmp g.K g.w g.dk g.units op) (op_cmp g.K g.w g.dk g.units op') ha hb hc hm) fun σ H Q h => chn_read g.K h
theorem pt_chnM (g : Gd nm C G W k Z X) (op op' : CmpOp) (hm : lastMarks [op, op'] [b, c] = false) (ha : PE X a (tE C G W Z ma)) (hb : PE X b (tE C G W Z mb)) (hc : PE X c (tE C G W Z mc)) : PT X (.Compare a [op, op'] [b, c] pos) (tT C G W Z (.chn op op' ma mb mc)) := by
  refine pt_imp (pt_chain (op_cmp g.K g.w g.dk g.units op) (op_cmp g.K g.w g.dk g.units op') ha hb hc hm) fun σ H Q h => chn_read (X := X) g.K ?_
  obtain ⟨T, env, rl, h⟩ := h
  refine ⟨T, env, rl, ?_⟩
  unfold evT at h
  -- the value is a truth: its test is itself
  have key : ∀ p, ev C G (.chn op op' ma mb mc) env = .ok p → ∃ k, p.1 = .va (.bool k) false := fun p e => by
    simp only [ev] at e
    cases e1 : ev C G ma env with
    | ok x =>
      simp only [bind, M.R.bind, e1] at e
      cases e2 : ev C G mb x.2 with
      | ok y =>
        simp only [e2] at e
        cases e3 : rdv y.2 x.1 with
        | ok d =>
          simp only [e3] at e
          cases e4 : rdv y.2 y.1 with
          | ok d' =>
            simp only [e4] at e
            cases e5 : cmpD op d d' with
            | some k =>
              simp only [e5, M.R.ofO] at e
              cases k with
              | false =>
                simp only [Bool.false_eq_true, if_false] at e
                cases e
                exact ⟨false, rfl⟩
              | true =>
                simp only [if_true] at e
                cases e6 : ev C G mc y.2 with
                | ok z =>
                  simp only [e6] at e
                  cases e7 : rdv z.2 y.1 with
                  | ok d2 =>
                    simp only [e7] at e
                    cases e8 : rdv z.2 z.1 with
                    | ok d3 =>
                      simp only [e8] at e
                      cases e9 : cmpD op' d2 d3 with
                      | some k2 =>
                        simp only [e9] at e
                        cases e
                        exact ⟨k2, rfl⟩
                      | none => simp only [e9] at e; cases e
                    | exc _ => simp only [e8] at e; cases e
                    | stuck => simp only [e8] at e; cases e
                  | exc _ => simp only [e7] at e; cases e
                  | stuck => simp only [e7] at e; cases e
                | exc _ => simp only [e6] at e; cases e
                | stuck => simp only [e6] at e; cases e
            | none => simp only [e5, M.R.ofO] at e; cases e
          | exc _ => simp only [e4] at e; cases e
          | stuck => simp only [e4] at e; cases e
        | exc _ => simp only [e3] at e; cases e
        | stuck => simp only [e3] at e; cases e
      | exc _ => simp only [e2] at e; cases e
      | stuck => simp only [e2] at e; cases e
    | exc _ => simp only [bind, M.R.bind, e1] at e; cases e
    | stuck => simp only [bind, M.R.bind, e1] at e; cases e
  cases e : ev C G (.chn op op' ma mb mc) env with
  | ok p =>
    obtain ⟨kk, hk⟩ := key p e
    obtain ⟨w, env'⟩ := p
    cases hk
    rw [e] at h
    intro v H' S R' V
    have V : Rep W H' (Av T env' σ) (.bool kk) v := V
    simp only [Rep] at V
    exact ⟨kk, V, h H' S R'⟩
  | exc x => rw [e] at h; exact h
  | stuck => rw [e] at h; exact h
theorem RepAll.reverse {H : Hp} {A : Addr → Prop} : ∀ {ds : List PyData} {vs : List V}, RepAll W H A ds vs → RepAll W H A ds.reverse vs.reverse
  | [], _, h => by
    simp only [RepAll] at h
    subst h
    simp [RepAll]
  | d :: ds, _, h => by
    simp only [RepAll] at h
    obtain ⟨v, r, rfl, n, h1, h2⟩ := h
    rw [List.reverse_cons, List.reverse_cons]
    exact (RepAll.reverse h2).append (RepAll.one n h1)
theorem pm_rev (g : Gd nm C G W k Z X) {kk : Nat} {q1 q2 q3 : Pos} (ha : PE X a (tE C G W Z ma)) : PE X (.Subscript a (.Slice none none (some (.UnaryOp .USub (.Constant (.int 1) kk q1) q2)) q3) pos) (tE C G W Z (.rev ma)) := by
  refine pe_imp (pe_rev2 ha) fun σ H Q ⟨T, env, rl, h⟩ => ?_
  simp only [ev] at h
  refine tE_mono (one_gen (P := fun r => PostE W Z T env σ H r Q) (f := fun x env => rdv env x >>= fun d => M.R.ofO (revD d) >>= fun p => .ok (.va p.1 p.2, env)) rl (fun _ h => h) id h) fun x H1 h => ?_
  obtain ⟨w, env1, S, R1, V, h⟩ := h
  obtain ⟨d, e1, h⟩ := post_rd (P := fun r => PostE W Z T env σ H r Q) h id
  obtain ⟨p, e2, h⟩ := post_of (P := fun r => PostE W Z T env σ H r Q) h id
  have hd := (V.hold (fun _ z => z) R1 fun a z => Tw_sub z) d e1
  cases d with
  | list ds =>
    simp only [revD] at e2
    cases e2
    obtain ⟨a, vs, rfl, l, z, r⟩ := hd.list
    rw [g.K] at l
    exact .inl ⟨a, vs, rfl, l, fun p hp => PostE.op h (R1.less fun a z => Tw_sub z) S (same_upd hp) (new_lst hp (by rw [List.length_reverse]; exact z) r.reverse)⟩
  | tuple ds =>
    simp only [revD] at e2
    cases e2
    obtain ⟨a, vs, rfl, l, z, r⟩ := hd.tuple
    have l := l.sq
    rw [g.K] at l
    have R2 := R1.less fun a z => Tw_sub z
    exact .inr ⟨a, vs, rfl, l, fun p hp => PostE.op h R2 S (same_upd hp) (new_tup (avOk R2) hp (by rw [List.length_reverse]; exact z) r.reverse)⟩
  | _ => simp [revD] at e2
/-- l.index(x), whatever holds l -/
theorem mt_idx (hK : W.K = X.K) (hu : X.A.units + 200 < cLine) : MtR X "list.index" (fun x xs H Q => ∃ A d e i y, xs = [y] ∧ Rb W H A d x ∧ Rb W H A e y ∧ idxD d e = some i ∧ Q (.int i) H) := by
  intro pins s σ H x xs v us Q I rx rxs h
  obtain ⟨A, dl, d, i, y, rfl, hl, hy, hi, q⟩ := h
  cases dl with
  | list ds =>
    simp only [idxD] at hi
    split at hi
    · rename_i hz
      obtain ⟨sd, hdep⟩ := hz
      rw [Option.map_eq_some_iff] at hi
      obtain ⟨j, hj0, rfl⟩ := hi
      obtain ⟨a, vs, rfl, hs, hlen, r⟩ := hl.list
      have nd : ndD d := by
        cases d with
        | dict kvs => simp [PyData.canLay0] at sd
        | _ => simp only [ndD]
      have hyd := (hy.dp nd).1
      obtain ⟨ha, hxs⟩ := RepAll.dp r
      rw [hK] at hs ha hyd
      cases rx
      cases rxs with
      | cons ry rt =>
        rename_i uy ut
        cases rt
        obtain ⟨bs, r1⟩ := Dp.reads I d y uy hyd ry
        have hroom : X.A.units + 1 + min (PyData.depthAll ds) d.depth < cLine := by
          have := Nat.min_le_right (PyData.depthAll ds) d.depth
          omega
        obtain ⟨its, rv, ⟨⟨cls, dd, data, sls⟩, n, ho, hc, hdn, hdt⟩, hlen⟩ := I.list hs
        simp only at hc hdt
        subst hc hdt
        obtain ⟨as, h4⟩ := Dp.readsAll I ds _ its ha rv
        have hn : its.length = ds.length := SeqAt.ReadsAll.length ds its as h4
        have hmap : its.map (SeqAt.readOf s.heap) = ds := SeqAt.readsAll_map ds its as hxs h4
        have hvl := rv.length
        have hsl := sizeLine_eq
        rw [List.findIdx?_eq_some_iff_getElem] at hj0
        obtain ⟨hjd, hzj, hno⟩ := hj0
        have hjl : j < its.length := by omega
        have hj : j < its.toArray.size := by simpa using hjl
        have at_ : ∀ (m : Nat) (hm : m < its.toArray.size) (hmd : m < ds.length), SeqAt.readOf s.heap its.toArray[m] = ds[m] := by
          intro m hm hmd
          have hml : m < its.length := by simpa using hm
          have : (its.map (SeqAt.readOf s.heap))[m]? = some ds[m] := by rw [hmap]; exact List.getElem?_eq_getElem hmd
          rw [List.getElem?_map, List.getElem?_eq_getElem hml] at this
          have e1 : SeqAt.readOf s.heap its[m] = ds[m] := Option.some.inj this
          simpa using e1
        refine call_meets PySem.F.slot_list_index ⟨_, ho, rfl⟩ PySem.F.entry_list_index (PySem.F.args_list_index_2 _ _)
          (SeqAt.list_indexAt a its.toArray n dd sls uy (fun u => PyData.eqv (SeqAt.readOf s.heap u) d) j hj (by omega) ?_ ?_) ⟨ho, SeqAt.items_eqAt (vs := its.toArray) (show ReadsAll s.heap its.toArray.toList ds as from h4) r1 hxs sd hroom, ?_⟩
        · show PyData.eqv (SeqAt.readOf s.heap its.toArray[j]) d = true
          rw [at_ j hj hjd]
          exact hzj
        · intro m hm hmj
          have hmd : m < ds.length := by omega
          show PyData.eqv (SeqAt.readOf s.heap its.toArray[m]) d = false
          rw [at_ m hm hmd]
          have := hno m hmj
          simpa using this
        · exact ⟨.int (j : Nat), H, I.tok _, ⟨_, rfl⟩, q⟩
    · cases hi
  | _ => simp [idxD] at hi
theorem tyV_list {H : Hp} {A : Addr → Prop} {d : PyData} {x : V} (hK : W.K = X.K) (h : Rb W H A d x) (hd : isD .list d = true) : tyV X.K "list" x H := by
  cases d with
  | list ds =>
    obtain ⟨a, vs, rfl, l, z, r⟩ := h.list
    rw [hK] at l
    exact Or.inl ⟨rfl, vs, l⟩
  | _ => simp [isD] at hd
theorem pm_idx (g : Gd nm C G W k Z X) {o e : Expr} {mo me : ME} {apos cpos : Pos} (hst : ∀ v p, e ≠ .Starred v p) (hb : attributeBase o "index" X.env (eval o X.env) = eval o X.env) (hl : (apos.endLine == cpos.line) = true) (ho : PE X o (tE C G W Z mo)) (he : PE X e (tE C G W Z me)) (hse : starEach [e] X.env = (false, eval e X.env) :: starEach [] X.env) :
    PE X (.Call (.Attribute o "index" apos) [e] [] cpos) (tE C G W Z (.idx mo me)) := by
  refine pe_imp (pe_bm PySem.F.plainAttrs_list PySem.F.slot_list_index PySem.F.type_list_index (mt_idx g.K g.units) ho (pa_cons he pa_nil hse) hb (by rw [hse]; rfl) hl hse rfl) fun σ H Q ⟨T, env, rl, h⟩ => ?_
  simp only [ev] at h
  refine tE_mono (one_gen (P := fun r => PostE W Z T env σ H r Q) (f := fun x env => rdv env x >>= fun d => if isD .list d = true then (ev C G me env >>= fun q => rdv q.2 x >>= fun d => rdv q.2 q.1 >>= fun e => M.R.ofO (idxD d e) >>= fun i => .ok (.va (.int i) false, q.2)) else .stuck) rl (fun _ h => h) id h) fun x H1 h => ?_
  obtain ⟨w, env1, S, R1, V, h⟩ := h
  obtain ⟨d, e1, h⟩ := post_rd (P := fun r => PostE W Z T env σ H r Q) h id
  have hd := (V.hold (fun _ z => z) R1 fun a z => Tw_sub z) d e1
  split at h
  · rename_i hi
    refine ⟨tyV_list g.K hd hi, ?_⟩
    show tE C G W Z me σ H1 fun y H2 => _
    refine ⟨Tw T w x, env1, R1, ?_⟩
    cases e2 : ev C G me env1 with
    | ok p =>
      rw [e2] at h
      have h : PostE W Z T env σ H (rdv p.2 w >>= fun d => rdv p.2 p.1 >>= fun e => M.R.ofO (idxD d e) >>= fun i => .ok (.va (.int i) false, p.2)) Q := h
      refine fun y H2 S2 R2 V2 => ?_
      obtain ⟨d2, e3, h⟩ := post_rd (P := fun r => PostE W Z T env σ H r Q) h id
      obtain ⟨d3, e4, h⟩ := post_rd (P := fun r => PostE W Z T env σ H r Q) h id
      obtain ⟨i, e5, h⟩ := post_of (P := fun r => PostE W Z T env σ H r Q) h id
      have R0 := R2.less (T' := T) fun a z => Tw_sub (Tw_sub z)
      have h1 := ((V.step R1 S2).hold (fun _ z => z) R2 (fun a z => Tw_sub (Tw_sub z))) d2 e3
      have h2 := (V2.hold (fun _ z => Tw_sub z) R2 (fun a z => Tw_sub (Tw_sub z))) d3 e4
      exact ⟨Av T p.2 σ, d2, d3, i, y, rfl, h1, h2, e5, PostE.op h R0 (S.trans S2) (Same.refl H2) (by show Rep _ _ _ _ _; simp only [Rep])⟩
    | exc y => rw [e2] at h; exact PostX.pre S (fun _ z => Tw_sub z) h
    | stuck => rw [e2] at h; exact h.elim
  · exact h.elim
end
end M
namespace M
open PySem L2 PyProof.Rows
/-! ### calls of the text's own defs -/
def isRefM : ME → Bool
  | .ref _ => true
  | _ => false
def isInl : Sum Nat PyData → Bool
  | .inl _ => true
  | .inr _ => false
section
variable {C : CallT} {G : List PyData} {env env' : Env}
theorem evG_kinds : ∀ {ms : List ME} {env env' : Env} {as : List (Sum Nat PyData)}, evG C G ms env = .ok (as, env') → as.map isInl = ms.map isRefM
  | [], _, _, _, h => by
    simp only [evG] at h
    cases h
    rfl
  | m :: ms, env, env', as, h => by
    by_cases hm : ∃ i, m = .ref i
    · obtain ⟨i, rfl⟩ := hm
      simp only [evG] at h
      split at h
      · cases e : evG C G ms env with
        | ok p =>
          simp only [bind, M.R.bind, e] at h
          cases h
          rw [List.map_cons, List.map_cons, evG_kinds e]
          rfl
        | exc x => simp only [bind, M.R.bind, e] at h; cases h
        | stuck => simp only [bind, M.R.bind, e] at h; cases h
      · cases h
    · rw [evG_val fun i z => hm ⟨i, z⟩] at h
      cases e1 : ev C G m env with
      | ok p =>
        simp only [bind, M.R.bind, e1] at h
        cases e2 : fzv p.2 p.1 with
        | ok q =>
          simp only [e2] at h
          cases e3 : evG C G ms q.2 with
          | ok r =>
            simp only [e3] at h
            cases h
            rw [List.map_cons, List.map_cons, evG_kinds e3]
            cases m with
            | ref i => exact absurd ⟨i, rfl⟩ hm
            | _ => rfl
          | exc x => simp only [e3] at h; cases h
          | stuck => simp only [e3] at h; cases h
        | exc x => simp only [e2] at h; cases h
        | stuck => simp only [e2] at h; cases h
      | exc x => simp only [bind, M.R.bind, e1] at h; cases h
      | stuck => simp only [bind, M.R.bind, e1] at h; cases h
theorem argsAt_kinds : ∀ {as : List (Sum Nat PyData)} {args : List Arg}, argsAt env as = some args → args.map isR = as.map isInl
  | [], _, h => by cases h; rfl
  | .inr d :: as, args, h => by
    simp only [argsAt] at h
    cases e : argsAt env as with
    | none => rw [e] at h; cases h
    | some r =>
      rw [e] at h
      cases h
      show isR (.v d) :: r.map isR = isInl (.inr d) :: as.map isInl
      rw [argsAt_kinds e]
      rfl
  | .inl i :: as, args, h => by
    simp only [argsAt] at h
    split at h
    · cases e : argsAt env as with
      | none => rw [e] at h; cases h
      | some r =>
        rw [e] at h
        cases h
        rename_i d _
        show isR (.r d) :: r.map isR = isInl (.inl i) :: as.map isInl
        rw [argsAt_kinds e]
        rfl
    · cases e : argsAt env as with
      | none => rw [e] at h; cases h
      | some r =>
        rw [e] at h
        cases h
        rename_i d _
        show isR (.r d) :: r.map isR = isInl (.inl i) :: as.map isInl
        rw [argsAt_kinds e]
        rfl
    · cases h
/-- argument j -/
theorem argsAt_get : ∀ {as : List (Sum Nat PyData)} {args : List Arg} {j : Nat}, argsAt env as = some args → (∀ d, as[j]? = some (.inr d) → args[j]? = some (.v d)) ∧ (∀ i, as[j]? = some (.inl i) → ∃ d k, env[i]? = some (some (d, k)) ∧ (k = .ow ∨ k = .rf) ∧ args[j]? = some (.r d)) ∧ (as[j]? = none → args[j]? = none)
  | [], _, j, h => by
    cases h
    exact ⟨fun d e => by simp at e, fun i e => by simp at e, fun _ => by simp⟩
  | x :: as, args, j, h => by
    have key : ∃ y r, args = y :: r ∧ argsAt env as = some r ∧ ((∃ d, x = .inr d ∧ y = .v d) ∨ ∃ i d k, x = .inl i ∧ y = .r d ∧ env[i]? = some (some (d, k)) ∧ (k = .ow ∨ k = .rf)) := by
      cases x with
      | inr d =>
        simp only [argsAt] at h
        cases e : argsAt env as with
        | none => rw [e] at h; cases h
        | some r => rw [e] at h; cases h; exact ⟨_, r, rfl, rfl, .inl ⟨d, rfl, rfl⟩⟩
      | inl i =>
        simp only [argsAt] at h
        split at h
        · rename_i d q
          cases e : argsAt env as with
          | none => rw [e] at h; cases h
          | some r => rw [e] at h; cases h; exact ⟨_, r, rfl, rfl, .inr ⟨i, d, .ow, rfl, rfl, q, .inl rfl⟩⟩
        · rename_i d q
          cases e : argsAt env as with
          | none => rw [e] at h; cases h
          | some r => rw [e] at h; cases h; exact ⟨_, r, rfl, rfl, .inr ⟨i, d, .rf, rfl, rfl, q, .inr rfl⟩⟩
        · cases h
    obtain ⟨y, r, rfl, er, hxy⟩ := key
    cases j with
    | zero =>
      rcases hxy with ⟨d, rfl, rfl⟩ | ⟨i, d, k, rfl, rfl, q, hk⟩
      · exact ⟨fun d' e => by cases Option.some.inj e; rfl, (fun i e => by cases Option.some.inj e), fun e => by simp at e⟩
      · exact ⟨(fun d' e => by cases Option.some.inj e), fun i' e => by cases Option.some.inj e; exact ⟨d, k, q, hk, rfl⟩, fun e => by simp at e⟩
    | succ j => exact argsAt_get (j := j) er
theorem refs_get : ∀ {as : List (Sum Nat PyData)} {t i : Nat}, (refsOf as)[t]? = some i → ∃ j : Nat, as[j]? = some (.inl i)
  | .inl x :: as, 0, i, h => by cases Option.some.inj h; exact ⟨0, rfl⟩
  | .inl x :: as, t + 1, i, h => by
    obtain ⟨j, e⟩ := refs_get (as := as) (t := t) h
    exact ⟨j + 1, e⟩
  | .inr x :: as, t, i, h => by
    obtain ⟨j, e⟩ := refs_get (as := as) (t := t) h
    exact ⟨j + 1, e⟩
theorem refs_mem : ∀ {as : List (Sum Nat PyData)} {j i : Nat}, as[j]? = some (.inl i) → i ∈ refsOf as
  | .inl x :: as, 0, i, h => by cases Option.some.inj h; exact List.mem_cons_self
  | .inl x :: as, j + 1, i, h => List.mem_cons_of_mem _ (refs_mem (as := as) (j := j) h)
  | .inr x :: as, 0, i, h => by cases Option.some.inj h
  | .inr x :: as, j + 1, i, h => refs_mem (as := as) (j := j) h
theorem refs_inj : ∀ {as : List (Sum Nat PyData)} {j j' i : Nat}, (refsOf as).Nodup → as[j]? = some (.inl i) → as[j']? = some (.inl i) → j = j'
  | .inl x :: as, 0, 0, i, _, _, _ => rfl
  | .inl x :: as, 0, j' + 1, i, n, h, h' => by
    cases Option.some.inj h
    exact absurd (refs_mem (as := as) (j := j') h') (List.nodup_cons.mp n).1
  | .inl x :: as, j + 1, 0, i, n, h, h' => by
    cases Option.some.inj h'
    exact absurd (refs_mem (as := as) (j := j) h) (List.nodup_cons.mp n).1
  | .inl x :: as, j + 1, j' + 1, i, n, h, h' => congrArg (· + 1) (refs_inj (as := as) (j := j) (j' := j') (List.nodup_cons.mp n).2 h h')
  | .inr x :: as, 0, _, i, _, h, _ => by cases Option.some.inj h
  | .inr x :: as, _ + 1, 0, i, _, _, h' => by cases Option.some.inj h'
  | .inr x :: as, j + 1, j' + 1, i, n, h, h' => congrArg (· + 1) (refs_inj (as := as) (j := j) (j' := j') n h h')
theorem putRefs_spec : ∀ {is : List Nat} {ds : List PyData} {env env' : Env}, putRefs env is ds = some env' → is.Nodup → env'.length = env.length ∧ is.length = ds.length ∧ (∀ i, i ∉ is → env'[i]? = env[i]?) ∧
    ∀ (t i : Nat), is[t]? = some i → ∃ d0 d k, ds[t]? = some d ∧ env[i]? = some (some (d0, k)) ∧ env'[i]? = some (some (d, k))
  | [], [], env, env', h, _ => by
    cases h
    exact ⟨rfl, rfl, fun _ _ => rfl, fun t i e => by simp at e⟩
  | i :: is, d :: ds, env, env', h, n => by
    simp only [putRefs] at h
    split at h
    · rename_i d0 k q
      obtain ⟨n1, n2⟩ := List.nodup_cons.mp n
      obtain ⟨h1, h2, h3, h4⟩ := putRefs_spec h n2
      refine ⟨by rw [h1, List.length_set], by simp [h2], fun j hj => ?_, fun t j e => ?_⟩
      · rw [List.mem_cons, not_or] at hj
        rw [h3 j hj.2, getElem?_set_ne' (fun z => hj.1 z.symm)]
      · cases t with
        | zero =>
          cases Option.some.inj e
          exact ⟨d0, d, k, rfl, q, by rw [h3 i n1, getElem?_set_eq' q]⟩
        | succ t =>
          obtain ⟨d1, d2, k2, g1, g2, g3⟩ := h4 t j e
          have hne : i ≠ j := fun z => by
            subst z
            exact n1 (List.mem_of_getElem? (show is[t]? = some i from e))
          rw [getElem?_set_ne' hne] at g2
          exact ⟨d1, d2, k2, g1, g2, g3⟩
    · cases h
  | [], _ :: _, _, _, h, _ => by simp [putRefs] at h
  | _ :: _, [], _, _, h, _ => by simp [putRefs] at h
/-- the slots of the parameters, by place -/
theorem putA_get : ∀ {as : List (Sum Nat PyData)} {args : List Arg} {ds : List PyData} {j : Nat} {d : PyData} {k : Own}, argsAt env as = some args → (putA args ds)[j]? = some (some (d, k)) → (k = .sh ∧ as[j]? = some (.inr d)) ∨ (k = .rf ∧ ∃ i, as[j]? = some (.inl i))
  | [], _, _, j, d, k, h, e => by cases h; simp [putA] at e
  | x :: as, args, ds, j, d, k, h, e => by
    have key : ∃ y r, args = y :: r ∧ argsAt env as = some r ∧ ((∃ d, x = .inr d ∧ y = .v d) ∨ ∃ i d, x = .inl i ∧ y = .r d) := by
      cases x with
      | inr d =>
        simp only [argsAt] at h
        cases e : argsAt env as with
        | none => rw [e] at h; cases h
        | some r => rw [e] at h; cases h; exact ⟨_, r, rfl, rfl, .inl ⟨d, rfl, rfl⟩⟩
      | inl i =>
        simp only [argsAt] at h
        split at h
        · cases e : argsAt env as with
          | none => rw [e] at h; cases h
          | some r => rw [e] at h; cases h; exact ⟨_, r, rfl, rfl, .inr ⟨i, _, rfl, rfl⟩⟩
        · cases e : argsAt env as with
          | none => rw [e] at h; cases h
          | some r => rw [e] at h; cases h; exact ⟨_, r, rfl, rfl, .inr ⟨i, _, rfl, rfl⟩⟩
        · cases h
    obtain ⟨y, r, rfl, er, hxy⟩ := key
    rcases hxy with ⟨d', rfl, rfl⟩ | ⟨i, d', rfl, rfl⟩
    · simp only [putA] at e
      cases j with
      | zero => cases e; exact .inl ⟨rfl, rfl⟩
      | succ j => exact putA_get (j := j) er e
    · cases ds with
      | nil =>
        simp only [putA] at e
        cases j with
        | zero => cases e; exact .inr ⟨rfl, i, rfl⟩
        | succ j => exact putA_get (j := j) er e
      | cons d1 ds =>
        simp only [putA] at e
        cases j with
        | zero => cases e; exact .inr ⟨rfl, i, rfl⟩
        | succ j => exact putA_get (j := j) er e
theorem putA_ref : ∀ {as : List (Sum Nat PyData)} {args : List Arg} {ds : List PyData} {t i : Nat} {d : PyData}, argsAt env as = some args → (refsOf as)[t]? = some i → ds[t]? = some d → ∃ j : Nat, as[j]? = some (.inl i) ∧ (putA args ds)[j]? = some (some (d, .rf))
  | x :: as, args, ds, t, i, d, h, e, ed => by
    cases x with
    | inr d' =>
      simp only [argsAt] at h
      cases q : argsAt env as with
      | none => rw [q] at h; cases h
      | some r =>
        rw [q] at h
        cases h
        obtain ⟨j, h1, h2⟩ := putA_ref (as := as) q e ed
        exact ⟨j + 1, h1, by simp only [putA]; exact h2⟩
    | inl i' =>
      have key : ∃ d' r, args = .r d' :: r ∧ argsAt env as = some r := by
        simp only [argsAt] at h
        split at h
        · cases e : argsAt env as with
          | none => rw [e] at h; cases h
          | some r => rw [e] at h; cases h; exact ⟨_, r, rfl, rfl⟩
        · cases e : argsAt env as with
          | none => rw [e] at h; cases h
          | some r => rw [e] at h; cases h; exact ⟨_, r, rfl, rfl⟩
        · cases h
      obtain ⟨d', r, rfl, q⟩ := key
      cases ds with
      | nil => simp at ed
      | cons d1 ds =>
        cases t with
        | zero =>
          cases Option.some.inj e
          cases Option.some.inj ed
          exact ⟨0, rfl, rfl⟩
        | succ t =>
          obtain ⟨j, h1, h2⟩ := putA_ref (as := as) q e ed
          exact ⟨j + 1, h1, by simp only [putA]; exact h2⟩
end
section
variable {W : Wd} {T : Addr → Prop} {env : Env} {σ : St} {H : Hp}
theorem ArgL.get : ∀ {as : List (Sum Nat PyData)} {vs : List V} {j : Nat}, ArgL W T env σ H as vs → (∀ d, as[j]? = some (.inr d) → ∃ v, vs[j]? = some v ∧ Rep W H (Av T env σ) d v) ∧ (∀ i, as[j]? = some (.inl i) → ∃ v, vs[j]? = some v ∧ σ[i]? = some (some v))
  | [], _, j, h => ⟨fun d e => by simp at e, fun i e => by simp at e⟩
  | .inr d :: as, _, j, h => by
    obtain ⟨v, r, rfl, h1, h2⟩ := h
    cases j with
    | zero => exact ⟨fun d' e => by cases Option.some.inj e; exact ⟨v, rfl, h1⟩, (fun i e => by cases Option.some.inj e)⟩
    | succ j => exact ArgL.get (j := j) h2
  | .inl i :: as, _, j, h => by
    obtain ⟨v, r, rfl, h1, h2⟩ := h
    cases j with
    | zero => exact ⟨(fun i e => by cases Option.some.inj e), fun d' e => by cases Option.some.inj e; exact ⟨v, rfl, h1⟩⟩
    | succ j => exact ArgL.get (j := j) h2
theorem ArgL.length : ∀ {as : List (Sum Nat PyData)} {vs : List V}, ArgL W T env σ H as vs → vs.length = as.length
  | [], _, h => by rw [show _ = [] from h]; rfl
  | .inr d :: as, _, h => by
    obtain ⟨v, r, rfl, h1, h2⟩ := h
    rw [List.length_cons, List.length_cons, ArgL.length h2]
  | .inl d :: as, _, h => by
    obtain ⟨v, r, rfl, h1, h2⟩ := h
    rw [List.length_cons, List.length_cons, ArgL.length h2]
theorem getElem?_map_some {α : Type} {l : List α} {j : Nat} {v : α} : (l.map some)[j]? = some (some v) ↔ l[j]? = some v := by
  rw [List.getElem?_map]
  cases l[j]? <;> simp
theorem slot_get {args : List Arg} {j : Nat} {d : PyData} {k : Own} : (args.map slotOf)[j]? = some (some (d, k)) ↔ (k = .sh ∧ args[j]? = some (.v d)) ∨ (k = .rf ∧ args[j]? = some (.r d)) := by
  rw [List.getElem?_map]
  cases args[j]? with
  | none => simp
  | some x => cases x <;> simp [slotOf] <;> constructor <;> (rintro ⟨rfl, rfl⟩; exact ⟨rfl, rfl⟩)
end
section
variable {nm : Nm} {C : CallT} {G : List PyData} {W : Wd} {k : Nat} {Z : L2.WX} {X : Cx} {ms : List ME}
/-- behind a call whose arguments stand: σ may have more places than the frame has -/
def PostE1 (W : Wd) (Z : L2.WX) (T : Addr → Prop) (env : Env) (σ0 σ : St) (H : Hp) (r : RE (EV × Env)) (Q : VK) : Prop :=
  match r with
  | .ok p => ∀ v H', Step env σ0 H p.2 σ H' → Rel W (Tw T p.1 v) p.2 σ H' → VOk W T H H' p.2 σ p.1 v → Q v H'
  | .exc x => σ = σ0 ∧ PostX W Z T env σ0 H x
  | .stuck => False
theorem call_mid {f : Nat} {refs : List Bool} {σ0 σ : St} {H H1 : Hp} {Q : VK} {T : Addr → Prop} {env env1 : Env} {as : List (Sum Nat PyData)} {vs : List V} (hr : as.map isInl = refs) (h : PostE1 W Z T env σ0 σ H (callAt C f as env1) Q) (S : Step env σ0 H env1 σ H1) (R1 : Rel W T env1 σ H1) (hl : ArgL W T env1 σ H1 as vs) : spF W C f refs vs H1 Q (WE Z σ0) := by
  unfold callAt at h
  split at h
  · rename_i nd
    split at h
    · exact h.elim
    · rename_i args ea
      have hk : args.map isR = refs := by rw [argsAt_kinds ea, hr]
      -- what the callee owns stands in slots of ours
      have own0 : ∀ {E : Env} {j : Nat} {a : Addr}, (∀ d k, E[j]? = some (some (d, k)) → k ≠ .sh → k = .rf ∧ ∃ i, as[j]? = some (.inl i)) → Owns E (vs.map some) j a → ∃ i, as[j]? = some (.inl i) ∧ Owns env1 σ i a := fun {E j a} hE ⟨d, k, q1, q2, q3⟩ => by
        obtain ⟨_, i, hi⟩ := hE d k q1 q2
        obtain ⟨v, hv, hs⟩ := (hl.get (j := j)).2 i hi
        obtain ⟨d', k', g1, g2, _⟩ := (argsAt_get (j := j) ea).2.1 i hi
        rw [getElem?_map_some] at q3
        rw [q3] at hv
        cases hv
        exact ⟨i, hi, d', k', g1, by rcases g2 with z | z <;> (rw [z]; decide), hs⟩
      have k0 : ∀ {j : Nat} d k, (args.map slotOf)[j]? = some (some (d, k)) → k ≠ .sh → k = .rf ∧ ∃ i, as[j]? = some (.inl i) := fun {j} d k q n => by
        rcases slot_get.mp q with ⟨z, _⟩ | ⟨z, q⟩
        · exact absurd z n
        · refine ⟨z, ?_⟩
          cases hj : as[j]? with
          | none => rw [(argsAt_get (j := j) ea).2.2 hj] at q; cases q
          | some x =>
            cases x with
            | inl i => exact ⟨i, rfl⟩
            | inr d' => rw [(argsAt_get (j := j) ea).1 d' hj] at q; cases q
      let B : Addr → Prop := fun a => ∃ i, i ∈ refsOf as ∧ Owns env1 σ i a
      let T' : Addr → Prop := fun a => Av T env1 σ a ∧ ¬ B a
      have o0 : ∀ a, Ownd (args.map slotOf) (vs.map some) a → B a := fun a ⟨j, hj⟩ => by
        obtain ⟨i, hi, ho⟩ := own0 (fun d k => k0 d k) hj
        exact ⟨i, refs_mem hi, ho⟩
      have less0 : ∀ a, Av T' (args.map slotOf) (vs.map some) a → Av T env1 σ a := fun a z => by
        rcases z with z | z
        · exact z.1
        · obtain ⟨i, _, ho⟩ := o0 a z
          exact .inr ⟨i, ho⟩
      have hlen : args.length = vs.length := by
        have e1 := congrArg List.length (argsAt_kinds ea)
        rw [List.length_map, List.length_map] at e1
        rw [e1, hl.length]
      refine ⟨T', args, hk, ⟨by rw [List.length_map, List.length_map]; exact hlen, fun j d k q => ?_, fun j j' a h1 h2 => ?_, fun a z => ⟨fun q => z.2 (o0 a q), R1.av z.1⟩⟩, ?_⟩
      · rcases slot_get.mp q with ⟨rfl, q'⟩ | ⟨rfl, q'⟩
        · cases hj : as[j]? with
          | none => rw [(argsAt_get (j := j) ea).2.2 hj] at q'; cases q'
          | some x =>
            cases x with
            | inl i => obtain ⟨_, _, _, _, z⟩ := (argsAt_get (j := j) ea).2.1 i hj; rw [z] at q'; cases q'
            | inr d' =>
              rw [(argsAt_get (j := j) ea).1 d' hj] at q'
              cases q'
              obtain ⟨v, hv, hrp⟩ := (hl.get (j := j)).1 d hj
              exact ⟨v, getElem?_map_some.mpr hv, Rep.less hrp less0⟩
        · obtain ⟨_, i, hi⟩ := k0 d .rf q (by decide)
          obtain ⟨d', k', g1, g2, g3⟩ := (argsAt_get (j := j) ea).2.1 i hi
          rw [g3] at q'
          cases q'
          obtain ⟨v, hv, hs⟩ := (hl.get (j := j)).2 i hi
          obtain ⟨v', hv', so⟩ := R1.slot i d k' g1
          rw [hs] at hv'
          cases hv'
          refine ⟨v, getElem?_map_some.mpr hv, ?_⟩
          rcases g2 with rfl | rfl
          · obtain ⟨a, ea, o⟩ := so
            exact ⟨a, ea, o.less less0⟩
          · obtain ⟨a, ea, o⟩ := so
            exact ⟨a, ea, o.less less0⟩
      · obtain ⟨i, hi, ho⟩ := own0 (fun d k => k0 d k) h1
        obtain ⟨i', hi', ho'⟩ := own0 (fun d k => k0 d k) h2
        have := R1.inj i i' a ho ho'
        subst this
        exact refs_inj nd hi hi'
      · cases ec : C f args with
        | stuck => simp only [ec] at h; exact h
        | exc x =>
          simp only [ec] at h
          split at h
          · rename_i hn
            obtain ⟨e0, h⟩ := h
            subst e0
            intro cls d H' keep xo
            have same : Same H1 H' := fun a o e => keep a o e fun q => by
              obtain ⟨i, hi, _⟩ := o0 a q
              rw [hn] at hi
              cases hi
            refine h cls d H' (S.trans (Step.same same)) (R1.same same) (xo.tr ⟨fun _ _ _ e => e, fun a n _ q => n (.inl ⟨q, fun ⟨i, hi, _⟩ => ?_⟩)⟩)
            rw [hn] at hi
            cases hi
          · exact h.elim
        | ok r =>
          simp only [ec] at h
          split at h
          · rename_i env' ep
            obtain ⟨pl, plen, pout, pin⟩ := putRefs_spec ep nd
            intro v H' Sc Rc Vc
            have kA : ∀ {j : Nat} d k, (putA args r.rs)[j]? = some (some (d, k)) → k ≠ .sh → k = .rf ∧ ∃ i, as[j]? = some (.inl i) := fun {j} d k q n => by
              rcases putA_get ea q with ⟨z, _⟩ | z
              · exact absurd z n
              · exact z
            -- the slots behind the call
            have slotE : ∀ {i : Nat} {d : PyData} {k : Own}, env'[i]? = some (some (d, k)) → (i ∉ refsOf as ∧ env1[i]? = some (some (d, k))) ∨ (i ∈ refsOf as ∧ (∃ d0, env1[i]? = some (some (d0, k))) ∧ (k = .ow ∨ k = .rf) ∧ ∃ j : Nat, as[j]? = some (.inl i) ∧ (putA args r.rs)[j]? = some (some (d, .rf))) := fun {i d k} q => by
              by_cases hi : i ∈ refsOf as
              · obtain ⟨t, ht, et⟩ := List.mem_iff_getElem.mp hi
                have et' : (refsOf as)[t]? = some i := by rw [List.getElem?_eq_getElem ht, et]
                obtain ⟨d0, d1, k1, g1, g2, g3⟩ := pin t i et'
                rw [q] at g3
                cases g3
                obtain ⟨j, hj1, hj2⟩ := putA_ref ea et' g1
                obtain ⟨d', k', y1, y2, y3⟩ := (argsAt_get (j := j) ea).2.1 i hj1
                rw [g2] at y1
                cases y1
                exact .inr ⟨hi, ⟨_, g2⟩, y2, j, hj1, hj2⟩
              · rw [pout i hi] at q
                exact .inl ⟨hi, q⟩
            have own' : ∀ {i : Nat} {a : Addr}, Owns env' σ i a → Owns env1 σ i a := fun {i a} ⟨d, k, q1, q2, q3⟩ => by
              rcases slotE q1 with ⟨_, z⟩ | ⟨_, ⟨d0, z⟩, _⟩
              · exact ⟨d, k, z, q2, q3⟩
              · exact ⟨d0, k, z, q2, q3⟩
            have oA : ∀ a, B a → Ownd (putA args r.rs) (vs.map some) a := fun a ⟨i, hi, d, k, q1, q2, q3⟩ => by
              obtain ⟨t, ht, et⟩ := List.mem_iff_getElem.mp hi
              have et' : (refsOf as)[t]? = some i := by rw [List.getElem?_eq_getElem ht, et]
              obtain ⟨d0, d1, k1, g1, g2, g3⟩ := pin t i et'
              obtain ⟨j, hj1, hj2⟩ := putA_ref ea et' g1
              obtain ⟨w, hw, hs⟩ := (hl.get (j := j)).2 i hj1
              rw [q3] at hs
              cases hs
              exact ⟨j, d1, .rf, hj2, by decide, getElem?_map_some.mpr hw⟩
            have avA : ∀ a, Av T env1 σ a → Av T' (putA args r.rs) (vs.map some) a := fun a z => by
              by_cases hb : B a
              · exact .inr (oA a hb)
              · exact .inl ⟨z, hb⟩
            have avE : ∀ a, Av T env' σ a → Av T' (putA args r.rs) (vs.map some) a := fun a z => avA a (z.elim .inl fun ⟨i, hi⟩ => .inr ⟨i, own' hi⟩)
            have domc := Sc.dom
            have Sq : Step env1 σ H1 env' σ H' := by
              refine ⟨fun a o e n => Sc.keep a o e fun q => ?_, fun a ⟨i, hi⟩ => .inl ⟨i, own' hi⟩, domc, fun i d k hk e => ?_, fun i d a o e es eo => Sc.keep a o eo fun q => ?_⟩
              rotate_left 2
              · obtain ⟨i', hi', ho⟩ := o0 a q
                have hii := R1.inj i' i a ho ⟨d, .ln, e, by decide, es⟩
                subst hii
                obtain ⟨t, ht, et⟩ := List.mem_iff_getElem.mp hi'
                have et' : (refsOf as)[t]? = some i' := by rw [List.getElem?_eq_getElem ht, et]
                obtain ⟨d0, d1, k1, g1, g2, g3⟩ := pin t i' et'
                obtain ⟨j, hj1, _⟩ := putA_ref ea et' g1
                obtain ⟨d', k', y1, y2, y3⟩ := (argsAt_get (j := j) ea).2.1 i' hj1
                rw [e] at y1
                cases y1
                rcases y2 with y2 | y2 <;> cases y2
              · obtain ⟨i, _, ho⟩ := o0 a q
                exact n ⟨i, ho⟩
              · by_cases hi : i ∈ refsOf as
                · obtain ⟨t, ht, et⟩ := List.mem_iff_getElem.mp hi
                  have et' : (refsOf as)[t]? = some i := by rw [List.getElem?_eq_getElem ht, et]
                  obtain ⟨d0, d1, k1, g1, g2, g3⟩ := pin t i et'
                  obtain ⟨j, hj1, _⟩ := putA_ref ea et' g1
                  obtain ⟨d', k', y1, y2, y3⟩ := (argsAt_get (j := j) ea).2.1 i hj1
                  rw [e] at g2 y1
                  cases g2
                  cases y1
                  refine ⟨d1, g3, rfl, fun z => ?_⟩
                  rw [z] at y2
                  rcases y2 with y2 | y2 <;> cases y2
                · exact ⟨d, by rw [pout i hi]; exact e, rfl, fun _ => rfl⟩
            have fresh : ∀ a, (∃ d, EV.va r.d r.fr = .va d true ∧ v = .ref a) → H1 a = none ∧ H' a ≠ none := fun a ⟨d, e, ev⟩ => by
              cases hf : r.fr with
              | false => rw [hf] at e; cases e
              | true =>
                rw [hf] at Vc
                obtain ⟨b, eb, _, hn, o⟩ := Vc
                rw [ev] at eb
                cases eb
                exact ⟨hn, o.some⟩
            have twc : ∀ a, Tw T (.va r.d r.fr) v a → T a ∨ ∃ d, EV.va r.d r.fr = .va d true ∧ v = .ref a := fun a z => by
              cases hf : r.fr with
              | false => rw [hf] at z; exact .inl z
              | true => rw [hf] at z; exact z.elim .inl fun y => .inr ⟨r.d, rfl, y⟩
            have twA : ∀ a, Av (Tw T (.va r.d r.fr) v) env' σ a → Av (Tw T' (.va r.d r.fr) v) (putA args r.rs) (vs.map some) a := fun a z => by
              rcases z with z | z
              · rcases twc a z with y | y
                · rcases avE a (.inl y) with q | q
                  · exact .inl (Tw_sub q)
                  · exact .inr q
                · left
                  cases hf : r.fr with
                  | false => rw [hf] at y; obtain ⟨_, y, _⟩ := y; cases y
                  | true => exact .inr (by obtain ⟨_, _, y⟩ := y; exact y)
              · rcases avE a (.inr z) with q | q
                · exact .inl (Tw_sub q)
                · exact .inr q
            have tr1 : Tr H1 H' (Av T env1 σ) (Av (Tw T (.va r.d r.fr) v) env' σ) := ⟨fun a o n e => Sq.keep a o e fun q => n (.inr q), fun a n e q => by
              rcases q with q | ⟨i, hi⟩
              · rcases twc a q with y | y
                · exact n (.inl y)
                · exact e (fresh a y).1
              · exact n (.inr ⟨i, own' hi⟩)⟩
            refine h v H' (S.trans Sq) ⟨by rw [pl]; exact R1.len, fun i d k q => ?_, fun i j a h1 h2 => R1.inj i j a (own' h1) (own' h2), fun a z => ?_⟩ ?_
            · rcases slotE q with ⟨hi, q1⟩ | ⟨hi, ⟨d0, q1⟩, hkk, j, hj1, hj2⟩
              · obtain ⟨v0, e0, so⟩ := R1.slot i d k q1
                refine ⟨v0, e0, so.tr tr1 fun a ea nk o e => Sc.keep a o e fun q => ?_⟩
                obtain ⟨i', hi', ho'⟩ := o0 a q
                subst ea
                have := R1.inj i i' a ⟨d, k, q1, nk, e0⟩ ho'
                subst this
                exact hi hi'
              · obtain ⟨v0, e0, so⟩ := Rc.slot j d .rf hj2
                rw [getElem?_map_some] at e0
                obtain ⟨w, hw, hs⟩ := (hl.get (j := j)).2 i hj1
                rw [e0] at hw
                cases hw
                obtain ⟨a, ea, o⟩ := so
                refine ⟨v0, hs, ?_⟩
                rcases hkk with rfl | rfl
                · exact ⟨a, ea, o.less twA⟩
                · exact ⟨a, ea, o.less twA⟩
            · rcases twc a z with y | y
              · exact ⟨fun ⟨i, hi⟩ => (R1.prot a y).1 ⟨i, own' hi⟩, domc a (R1.prot a y).2⟩
              · obtain ⟨y1, y2⟩ := fresh a y
                exact ⟨fun ⟨i, hi⟩ => R1.av (.inr ⟨i, own' hi⟩) y1, y2⟩
            · cases hf : r.fr with
              | false =>
                rw [hf] at Vc
                exact Rep.less (show Rep W H' (Av T' (putA args r.rs) (vs.map some)) r.d v from Vc) avE
              | true =>
                rw [hf] at Vc
                obtain ⟨b, eb, _, hn, o⟩ := Vc
                refine ⟨b, eb, fun t => (R1.prot b t).2 hn, ?_, o.less fun c z => z.elim (fun y => .inl (avE c y)) .inr⟩
                by_cases q : H b = none
                · exact q
                · exact absurd hn (S.dom b q)
          · exact h.elim
  · exact h.elim
/-- from a call's reading to the def's promise -/
theorem call_read {f : Nat} {refs : List Bool} {σ : St} {H : Hp} {Q : VK} (hr : ms.map isRefM = refs) (h : tE C G W Z (.call f ms) σ H Q) : tLG C G W Z ms σ H (fun vs H1 => spF W C f refs vs H1 Q (WE Z σ)) := by
  obtain ⟨T, env, rl, h⟩ := h
  simp only [ev] at h
  refine ⟨T, env, rl, ?_⟩
  cases e1 : evG C G ms env with
  | exc y => rw [e1] at h; exact h
  | stuck => rw [e1] at h; exact h
  | ok p =>
    obtain ⟨as, env1⟩ := p
    rw [e1] at h
    have h : PostE W Z T env σ H (callAt C f as env1) Q := h
    intro vs H1 S R1 hl
    refine call_mid (T := T) (env := env) (env1 := env1) (H := H) ((evG_kinds e1).trans hr) ?_ S R1 hl
    cases e : callAt C f as env1 with
    | ok p => rw [e] at h; exact h
    | exc x => rw [e] at h; exact ⟨rfl, h⟩
    | stuck => rw [e] at h; exact h
/-- calls of the text's own defs -/
theorem pe_callG0 {x : Str} {p pos : Pos} {f : Addr} {fd : FuncData} {ps : List Str} {sp : Sp} {E : L2.St → XK} {cx : CXT} (F : FnG X.prog X.w X.K X.mg X.base cx k f fd ps sp) (gu : X.A.guards = some []) (hr : Room k X.A) (hg : Gl X x) (hm : X.mg x = some (.ref f)) (hk : PySem.W.keepIn X.K (.ref f) = true) (hb : Binds X.K fd ps []) (hx : ∀ σ, PassesAt cx X σ (E σ))
    (hdb : (x == ("__debug__" : Str)) = false) : PE X (.Call (.Name x p) [] [] pos) (tCallS sp E tNil) :=
  ⟨fun pins s σ H Q I h => wpAny_Call_Name_kw (ld_glob I hg hm (PySem.W.callWith_K0 I.kIn hk (runG (us := []) F gu hr hb (fun e s2 c => hx σ pins H s e s2 I c) I .nil h)) hdb)⟩
theorem pe_callG {x : Str} {p pos : Pos} {f : Addr} {fd : FuncData} {ps : List Str} {sp : Sp} {E : L2.St → XK} {cx : CXT} {e : Expr} {es : List Expr} {t : TA} (F : FnG X.prog X.w X.K X.mg X.base cx k f fd ps sp) (gu : X.A.guards = some []) (hr : Room k X.A) (hg : Gl X x) (hm : X.mg x = some (.ref f)) (hk : PySem.W.keepIn X.K (.ref f) = true) (hb : Binds X.K fd ps []) (hx : ∀ σ, PassesAt cx X σ (E σ))
    (ha : PA X (e :: es) t) (hdb : (x == ("__debug__" : Str)) = false) (he : starEach (e :: es) X.env = (false, eval e X.env) :: starEach es X.env) (hpl : (backTo pos (starEach es X.env)).any (·.1) = false) : PE X (.Call (.Name x p) (e :: es) [] pos) (tCallS sp E t) :=
  ⟨fun pins s σ H Q I h => wpAny_Call_Name_kw (ld_glob I hg hm (PySem.W.callWith_K (h₀ := X.base) I.ok.mod.kin hk (thn (ha.run pos pins s σ H _ I h) fun us s1 ⟨vs, H1, I1, r, q⟩ => ⟨I1.kIn, runG F gu hr hb (fun e s2 c => hx σ pins H1 s1 e s2 I1 c) I1 r q⟩) he hpl) hdb)⟩
theorem pm_call0 (g : Gd nm C G W k Z X) {f : Nat} {x : Str} {p pos : Pos} (hf : nm.fns[f]? = some (x, [])) (hg : Gl X x) (hdb : (x == ("__debug__" : Str)) = false) : PE X (.Call (.Name x p) [] [] pos) (tE C G W Z (.call f [])) := by
  obtain ⟨fa, fd, ps, h1, h2, h3, h4⟩ := g.fns f x [] hf
  refine pe_imp (pe_callG0 h4 g.gu g.room hg h1 h2 h3 (fun σ => passAt g.tk σ) hdb) fun σ H Q h => ?_
  obtain ⟨T, env, rl, h⟩ := call_read (refs := []) rfl h
  simp only [evG] at h
  exact h [] H .refl rl rfl
theorem pm_call (g : Gd nm C G W k Z X) {f : Nat} {x : Str} {refs : List Bool} {p pos : Pos} {e : Expr} {es : List Expr} (hf : nm.fns[f]? = some (x, refs)) (hr : ms.map isRefM = refs) (hg : Gl X x) (hdb : (x == ("__debug__" : Str)) = false) (ha : PA X (e :: es) (tLG C G W Z ms))
    (he : starEach (e :: es) X.env = (false, eval e X.env) :: starEach es X.env) (hpl : (backTo pos (starEach es X.env)).any (·.1) = false) : PE X (.Call (.Name x p) (e :: es) [] pos) (tE C G W Z (.call f ms)) := by
  obtain ⟨fa, fd, ps, h1, h2, h3, h4⟩ := g.fns f x refs hf
  exact pe_imp (pe_callG h4 g.gu g.room hg h1 h2 h3 (fun σ => passAt g.tk σ) ha hdb he hpl) fun σ H Q h => call_read hr h
end
end M
/-! M: enumerate over lists and tuples. -/
namespace M
open PySem L2 PyProof.Rows
open AutoSeq1 (wpAny_loadPart')
theorem meets_enum_newT (l : Addr) (items : Array Value) (n : Nat) (dct : Option Addr) (sl : Array (Option Value)) :
    Meets (Builtin.«enumerate.__new__» ⟨[.type "enumerate", .ref l], []⟩) (fun _ R s => s.heap.get? l = some { cls := .type "tuple", dict := dct, data := .seq items n, slots := sl } ∧
      R (.ok (.ret (.ref (s.heap.push { cls := .type "tuple_iterator", data := .fields #[.ref l, .int 0 0] }).objs.size)))
        { s with heap := (s.heap.push { cls := .type "tuple_iterator", data := .fields #[.ref l, .int 0 0] }).push { cls := .type "enumerate", data := .fields #[.none, .bool false, .ref s.heap.objs.size, rawInt 0, .none, .none] } }) :=
  .of_wp fun prog w A R s h => by
    obtain ⟨hp, g, d, tk, os⟩ := s; obtain ⟨hl, h⟩ := h
    have hsub := sub_enumerate
    have hL : Heap.IsTuple (Shared.heap ⟨hp, g, d, tk, os⟩) l items := ⟨_, hl, rfl, n, rfl⟩
    have q1 : ∀ {A' : Around} {E : Value → Shared → Prop} {Q : Value → Shared → Prop}, Q (.ref hp.objs.size) ⟨hp.push { cls := .type "tuple_iterator", data := .fields #[.ref l, .int 0 0] }, g, d, tk, os⟩ → wpAny (model prog w) A' (pyIter (.ref l)) Q E ⟨hp, g, d, tk, os⟩ :=
      fun q => (begins_tuple l items).iter prog w _ _ ⟨hp, g, d, tk, os⟩ _ hL q
    wp_walk using wpAny_loadPart' hl
    refine wpAny_stack_any fun st => wpAny_pure ?_
    split
    · rename_i c _ _ _ _ _
      cases (c == Value.type "enumerate")
      · wp_walk using wpAny_loadPart' hl, q1
        exact ⟨_, rfl, h⟩
      · wp_walk using wpAny_loadPart' hl, q1
        exact ⟨_, rfl, h⟩
    · wp_walk using wpAny_loadPart' hl, q1
      exact ⟨_, rfl, h⟩
section
variable {prog : Program} {w : World} {A : Around} {E : Value → Shared → Prop} {s : Shared}
theorem call_enum_tuple {l : Addr} {items : Array Value} {Q : Value → Shared → Prop} (hL : s.heap.IsTuple l items)
    (h : ∀ h', IsEnum h' (s.heap.objs.size + 1) s.heap.objs.size 0 .none → h'.IsTupleIter s.heap.objs.size l 0 → h'.objs.size = s.heap.objs.size + 2 →
      (∀ b o, s.heap.get? b = some o → h'.get? b = some o) → Q (.ref (s.heap.objs.size + 1)) { s with heap := h' }) :
    wpAny (model prog w) A (call (.type "enumerate") [.ref l]) Q E s := by
  obtain ⟨⟨c, dct, dt, sl⟩, hl, hc, n, hd⟩ := hL
  replace hc : c = .type "tuple" := hc
  replace hd : dt = .seq items n := hd
  subst hc hd
  refine callType_new PySem.F.called_enumerate (by decide) (PySem.F.typeCall_enumerate_1 _) (PySem.F.newCall_enumerate_1 _) (fun obj => PySem.F.args_object_init_2 obj _) PySem.F.entry_enumerate_new
    (meets_enum_newT l items n dct sl) ⟨hl, ?_⟩
  have hz : (s.heap.push { cls := .type "tuple_iterator", data := .fields #[.ref l, .int 0 0] }).objs.size = s.heap.objs.size + 1 := Heap.size_push ..
  show _ ∧ _
  rw [hz]
  have he : IsEnum ((s.heap.push { cls := .type "tuple_iterator", data := .fields #[.ref l, .int 0 0] }).push
      { cls := .type "enumerate", data := .fields #[.none, .bool false, .ref s.heap.objs.size, rawInt 0, .none, .none] }) (s.heap.objs.size + 1) s.heap.objs.size 0 .none := by
    have := Heap.get?_push_size (s.heap.push { cls := .type "tuple_iterator", data := .fields #[.ref l, .int 0 0] })
      (o := { cls := .type "enumerate", data := .fields #[.none, .bool false, .ref s.heap.objs.size, rawInt 0, .none, .none] }) rfl
    rw [hz] at this; exact this
  refine ⟨⟨_, he, rfl⟩, h _ he ⟨_, Heap.get?_push_of_some _ (Heap.get?_push_size _ rfl), rfl, rfl⟩ (by rw [Heap.size_push, hz]) fun b o x => Heap.get?_push_of_some _ (Heap.get?_push_of_some _ x)⟩
end
/-- the tuple at a, each item in a new pair -/
def IteT (K : PySem.W.Frag) (a : Addr) : It :=
  ⟨fun i H => ∃ (xs : List V) (x : V), SqT K H a xs ∧ xs[i]? = some x, fun i H v H' => ∃ T x, v = .ref T ∧ H T = none ∧ H' = upd H T (.tup [.int (i : Nat), x]) ∧ ∀ xs, SqT K H a xs → xs[i]? = some x, fun i H => ∃ xs : List V, SqT K H a xs ∧ xs.length ≤ i⟩
theorem turn_enumT {P : Program} {w : World} {K : PySem.W.Frag} {elts : List Expr} {kk : Nat} {tpos : Pos} (a e it : Addr) :
    Turn P w K (.Tuple elts kk tpos) (IteT K a) [e, it] e (fun i h => (∃ old, IsEnum h e it ((i : Nat) : Int) old) ∧ h.IsTupleIter it a i ∧ e ≠ it ∧ a ≠ it ∧ a ≠ e) where
  mem := by simp
  obj := fun i h st b hb => by
    obtain ⟨⟨old, he⟩, ⟨o, ho, hc, hd⟩, _⟩ := st
    have e' : b = e ∨ b = it := by simpa using hb
    rcases e' with z | z
    · rw [z]; exact ⟨_, he, fun v q => nomatch q⟩
    · rw [z]; exact ⟨o, ho, fun v q => by rw [hd] at q; cases q⟩
  keep := fun i h h' st k => let ⟨⟨old, he⟩, hi, hne⟩ := st; ⟨⟨old, k e (by simp) _ he⟩, hi.at fun o q => k it (by simp) o q, hne⟩
  item := by
    intro X hP hw hK hc i pins s σ H E I hf st hg
    subst hP hw hK
    obtain ⟨⟨old, he⟩, hit, hne, hai, hae⟩ := st
    obtain ⟨xs, x, hq, hx⟩ := hg
    obtain ⟨its, rv, p, hz⟩ := I.tuple hq
    obtain ⟨u, hu, ru⟩ := rv.get hx
    have hel : e < s.heap.objs.size := Heap.lt_size he
    have hil : it < s.heap.objs.size := by obtain ⟨_, q, _⟩ := hit; exact Heap.lt_size q
    have hlt : i < its.toArray.size := by
      have := List.getElem?_eq_some_iff.mp hu
      obtain ⟨h1, _⟩ := this
      simpa using h1
    have hef : e ∉ [it, a] := by
      simp only [List.mem_cons, List.not_mem_nil, or_false, not_or]
      exact ⟨hne, Ne.symm hae⟩
    refine wpAny_pyNext_enum_itemD (Draws.tuple (prog := X.prog) (w := X.w) (A := X.A.in1) (I.ok.hd hc) it a hai its.toArray) he ⟨hit, p⟩ hlt hne hef fun x' h' tk hP ho hst hT hsz hk => ?_
    have hx' : x' = u := by
      have hu' : its.toArray[i]? = some u := by simpa using hu
      rw [hu'] at hP
      exact (Option.some.inj hP).symm
    subst hx'
    obtain ⟨hit', hp'⟩ := hst
    refine ⟨_, rfl, wpAny_letOwnedTupleGo_enum (s := { s with heap := h', toks := tk + 1 }) ho fun h'' he' sb => ?_⟩
    have hT2 : h''.get? s.heap.objs.size = some { cls := .type "tuple", data := .seq #[.int i tk, x'] } := (sb.2 _ (Nat.ne_of_gt hel)).trans hT
    have new : ObjOk X.prog X.w (upd H s.heap.objs.size (.tup [.int (i : Nat), x])) h'' s.heap.objs.size (.tup [.int (i : Nat), x]) :=
      ⟨by show 2 ≤ sizeLine; decide, [.int i tk, x'], .cons ⟨_, rfl⟩ (.cons ru .nil), ⟨_, hT2, rfl, _, rfl⟩⟩
    have I1 : Inv X pins σ (upd H s.heap.objs.size (.tup [.int (i : Nat), x])) { s with heap := h'', toks := tk + 1 } :=
      I.turnedNew (ch := [e, it]) (fun b ob hb q => (sb.2 b (fun z => hb (by simp [z]))).trans (hk b ob (fun z => hb (by simp [z])) (fun z => hb (by simp [z])) q)) hf (Nat.le_refl _) new
    refine ⟨.ref s.heap.objs.size, _, I1, rfl, ⟨_, x, rfl, I.hok.fresh (Nat.le_refl _), rfl, fun ys hy => by rw [I.tuple_inj hy hq]; exact hx⟩, ⟨⟨x', ?_⟩, hit'.at fun o q => (sb.2 it (Ne.symm hne)).trans q, hne, hai, hae⟩, fun b hb => ?_⟩
    · have e1 : ((i + 1 : Nat) : Int) = (i : Int) + 1 := by omega
      rw [e1]; exact he'
    · have hb' : b < s.heap.objs.size := by
        have e' : b = e ∨ b = it := by simpa using hb
        rcases e' with z | z
        · rw [z]; exact hel
        · rw [z]; exact hil
      rw [upd_ne (Nat.ne_of_lt hb')]
      exact (hf b hb).1
  done := by
    intro X hP hw hK hc i pins s σ H E I hf st hg
    subst hP hw hK
    obtain ⟨⟨old, he⟩, hit, hne, hai, hae⟩ := st
    obtain ⟨xs, hq, hx⟩ := hg
    obtain ⟨its, rv, p, hz⟩ := I.tuple hq
    obtain ⟨f0, f1, f2, f3, f4, f5⟩ := hf it (by simp)
    have hl := rv.length
    have hT : s.TypeIs (.ref e) "enumerate" := ⟨_, he, rfl⟩
    unfold pyNext
    refine wpAny_bind (wpAny_attempt (wpAny_callSpecial?_slot (name := Str.ofString "__next__") hT PySem.F.slot_enumerate_next
      (wpAny_call_entry PySem.F.slot_enumerate_next hT PySem.F.entry_enumerate_next ?_ (PySem.F.args_enumerate_next_1 _))))
    show wpAny _ _ (field (.ref e) 2 >>= _) _ _ _
    refine wpAny_bind (wpAny_field he rfl (x := .ref it) rfl ?_)
    refine wpAny_bind (wpAny_nextOf_tuple_end (A := X.A.in1) (I.ok.hd hc) hit p (by simp; omega) fun h' x he' hx' => ?_)
    obtain ⟨o, ho, hc'⟩ := hx'
    refine wpAny_bind (wpAny_isInstance (T := "StopIteration") (b := true) ⟨o, ho, hc'⟩ isSubtype_stop ?_)
    exact wpAny_pure ⟨rfl, I.turned (t' := s.toks) (fun b o hb q => he' b o hb q) f0 f1 f3 f4 f5⟩
  self := fun A i s Q E st h => let ⟨⟨_, he⟩, _⟩ := st; wpAny_pyIter_enum he h
def iEnumA (K : PySem.W.Frag) (ta : TA) : TI := fun σ H R => ta σ H fun vs H1 => ∃ a xs, vs = [.ref a] ∧ ((SqL K H1 a xs ∧ R (Ite K a) H1) ∨ (SqT K H1 a xs ∧ R (IteT K a) H1))
theorem pi_enumA {X : Cx} {e : Expr} {ta : TA} {p pos tpos : Pos} {elts : List Expr} {kk : Nat} (hg : Gl X "enumerate") (hm : X.mg "enumerate" = none) (ha : PA X [e] ta) (hs : starEach [e] X.env = [(false, eval e X.env)]) :
    PI X (.Tuple elts kk tpos) (.Call (.Name "enumerate" p) [e] [] pos) (iEnumA X.K ta) := by
  refine ⟨fun pins s σ H R I h => ?_⟩
  refine Call_ (ld_blt I hg hm boot_enumerate (PyProof.Rows.callWith_type1 (thn (ha.run pos pins s σ H _ I h) fun us s1 ⟨vs, H1, I1, r1, q1⟩ => ?_) hs rfl))
  obtain ⟨a, xs, ex, q⟩ := q1
  subst ex
  cases r1 with
  | cons r rr =>
    cases rr
    cases r
    have fp : ∀ {h' : Heap} (b : Addr), b ∈ [s1.heap.objs.size + 1, s1.heap.objs.size] → FpOk X pins H1 b := fun {h'} b hb => by
      have e' : b = s1.heap.objs.size + 1 ∨ b = s1.heap.objs.size := by simpa using hb
      have hle : s1.heap.objs.size ≤ b := by
        rcases e' with z | z
        · rw [z]; exact Nat.le_add_right _ _
        · rw [z]; exact Nat.le_refl _
      exact I1.fpOk hle (I1.hok.fresh hle)
    rcases q with ⟨hq, q⟩ | ⟨hq, q⟩
    · obtain ⟨its, rv, p', hz⟩ := I1.list hq
      refine call_enumerate_list p'.isList fun h' he hit hsz hk => wpAny_pyIter_enum he ?_
      have I2 : Inv X pins σ H1 { s1 with heap := h' } := I1.kept (t' := s1.toks) hk
      exact ⟨s1.heap.objs.size + 1, [s1.heap.objs.size + 1, s1.heap.objs.size], _, _, H1, rfl, I2, turn_enum a (s1.heap.objs.size + 1) s1.heap.objs.size, ⟨⟨.none, he⟩, hit, Nat.succ_ne_self _⟩, fun b hb => fp (h' := h') b hb, q⟩
    · obtain ⟨its, rv, p', hz⟩ := I1.tuple hq
      have hal : a < s1.heap.objs.size := by obtain ⟨_, q, _⟩ := p'; exact Heap.lt_size q
      refine call_enum_tuple p' fun h' he hit hsz hk => wpAny_pyIter_enum he ?_
      have I2 : Inv X pins σ H1 { s1 with heap := h' } := I1.kept (t' := s1.toks) hk
      exact ⟨s1.heap.objs.size + 1, [s1.heap.objs.size + 1, s1.heap.objs.size], _, _, H1, rfl, I2, turn_enumT a (s1.heap.objs.size + 1) s1.heap.objs.size, ⟨⟨.none, he⟩, hit, Nat.succ_ne_self _, Nat.ne_of_lt hal, Nat.ne_of_lt (Nat.lt_succ_of_lt hal)⟩, fun b hb => fp (h' := h') b hb, q⟩
end M
/-! M: dicts walked. -/
namespace M
open PySem L2 PyProof.Rows
/-- the keys of the dict at d, in their order; the pairs, each a new tuple -/
def ItD (d : Addr) (es : List DictEntry) (ep : Nat) : It :=
  ⟨fun i H => H d = some (DicO d es ep) ∧ i < es.length, fun i H x H' => H' = H ∧ (∃ h : Heap, h.DictRaw d es.toArray ep) ∧ ∃ e, es[i]? = some e ∧ RelV x e.key, fun i H => H d = some (DicO d es ep) ∧ es.length ≤ i⟩
def ItP (d : Addr) (es : List DictEntry) (ep : Nat) : It :=
  ⟨fun i H => H d = some (DicO d es ep) ∧ i < es.length ∧ ∃ e x y, es[i]? = some e ∧ RelV x e.key ∧ RelV y e.val, fun i H x H' => (∃ h : Heap, h.DictRaw d es.toArray ep) ∧ ∃ T e k v, es[i]? = some e ∧ RelV k e.key ∧ RelV v e.val ∧ x = .ref T ∧ H T = none ∧ H' = upd H T (.tup [k, v]), fun i H => H d = some (DicO d es ep) ∧ es.length ≤ i⟩
section
variable {P : Program} {w : World} {K : PySem.W.Frag} {tg : Expr} {d : Addr} {es : List DictEntry} {ep : Nat}
theorem turn_dk (it : Addr) (hv : ∀ e ∈ es, ∃ x, RelV x e.key) : Turn P w K tg (ItD d es ep) [it] it (fun i h => h.IsKeyIter it d i es.length ep) where
  mem := by simp
  obj := fun i h st b hb => by
    have e : b = it := by simpa using hb
    subst e
    obtain ⟨oi, e, c, dd⟩ := st
    exact ⟨oi, e, fun v z => by rw [dd] at z; cases z⟩
  keep := fun i h h' st k => st.at fun oi e => k it (by simp) oi e
  item := by
    intro X hP hw hK hc i pins s σ H E I hf st hg
    subst hP hw hK
    obtain ⟨hd, hi⟩ := hg
    obtain ⟨f0, f1, f2, f3, f4, f5⟩ := hf it (by simp)
    have hr := dic_raw I hd
    refine wpAny_pyNext_keys_item_raw (es := es.toArray) (by simpa using st) hr (by simpa using hi) fun h' st' sb => ?_
    have I1 : Inv X pins σ H { s with heap := h' } := I.turned (t' := s.toks) (fun b ob hb e => (sb.2 b hb).trans e) f0 f1 f3 f4 f5
    obtain ⟨oi, e, c, dd⟩ := id st'
    obtain ⟨x, rx⟩ := hv es[i] (List.getElem_mem hi)
    refine ⟨_, rfl, go_of (s := { s with heap := h' }) e c dd (by decide) ⟨x, H, I1, ?_, ⟨rfl, ⟨_, hr⟩, es[i], List.getElem?_eq_getElem hi, rx⟩, ?_, fun b hb => (hf b hb).1⟩⟩
    · simpa using rx
    · simpa using st'
  done := by
    intro X hP hw hK hc i pins s σ H E I hf st hg
    subst hP hw hK
    obtain ⟨hd, hi⟩ := hg
    obtain ⟨f0, f1, f2, f3, f4, f5⟩ := hf it (by simp)
    exact wpAny_pyNext_keys_end_raw (es := es.toArray) (I.ok.hd hc) (by simpa using st) (dic_raw I hd) (by simpa using hi) fun h' eb => ⟨rfl, I.turned (t' := s.toks) (fun b ob hb e => eb b ob hb e) f0 f1 f3 f4 f5⟩
  self := fun A i s Q E st h => wpAny_pyIter_keyiter st h
theorem turn_dp {elts : List Expr} {kk : Nat} {tpos : Pos} (it : Addr) : Turn P w K (.Tuple elts kk tpos) (ItP d es ep) [it] it (fun i h => ∃ ok ov, IsItemIter h it d i es.length ep ok ov) where
  mem := by simp
  obj := fun i h st b hb => by
    have e : b = it := by simpa using hb
    subst e
    obtain ⟨ok, ov, e⟩ := st
    exact ⟨_, e, fun v z => nomatch z⟩
  keep := fun i h h' st k => let ⟨ok, ov, e⟩ := st; ⟨ok, ov, k it (by simp) _ e⟩
  item := by
    intro X hP hw hK hc i pins s σ H E I hf st hg
    subst hP hw hK
    obtain ⟨hd, hi, e, x, y, ee, rx, ry⟩ := hg
    have hr := dic_raw I hd
    obtain ⟨ok, ov, he⟩ := st
    have hlt : it < s.heap.objs.size := Heap.lt_size he
    have hei : es[i] = e := by rw [List.getElem?_eq_getElem hi] at ee; exact Option.some.inj ee
    refine wpAny_pyNext_items_item_raw (es := es.toArray) (by simpa using he) hr (by simpa using hi) fun h' ho hT hz hk => ?_
    refine ⟨_, rfl, wpAny_letOwnedTupleGo_items (s := { s with heap := h' }) ho fun h'' he' sb => ?_⟩
    have hT2 : h''.get? s.heap.objs.size = some { cls := .type "tuple", data := .seq #[e.key, e.val] } := by
      refine (sb.2 _ (Nat.ne_of_gt hlt)).trans ?_
      rw [← hei]
      simpa using hT
    have new : ObjOk X.prog X.w (upd H s.heap.objs.size (.tup [x, y])) h'' s.heap.objs.size (.tup [x, y]) :=
      ⟨by show 2 ≤ sizeLine; decide, [e.key, e.val], .cons rx (.cons ry .nil), ⟨_, hT2, rfl, _, rfl⟩⟩
    have I1 : Inv X pins σ (upd H s.heap.objs.size (.tup [x, y])) { s with heap := h'' } :=
      I.turnedNew (t' := s.toks) (ch := [it]) (fun b ob hb e => (sb.2 b (by simpa using hb)).trans (hk b ob (by simpa using hb) e)) hf (Nat.le_refl _) new
    refine ⟨.ref s.heap.objs.size, _, I1, rfl, ⟨⟨_, hr⟩, _, e, x, y, ee, rx, ry, rfl, I.hok.fresh (Nat.le_refl _), rfl⟩, ⟨_, _, by simpa using he'⟩, fun b hb => ?_⟩
    have e : b = it := by simpa using hb
    rw [e, upd_ne (Nat.ne_of_lt hlt)]
    exact (hf it (by simp)).1
  done := by
    intro X hP hw hK hc i pins s σ H E I hf st hg
    subst hP hw hK
    obtain ⟨hd, hi⟩ := hg
    obtain ⟨f0, f1, f2, f3, f4, f5⟩ := hf it (by simp)
    obtain ⟨ok, ov, he⟩ := st
    exact wpAny_pyNext_items_end_raw (es := es.toArray) (I.ok.hd hc) (by simpa using he) (dic_raw I hd) (by simpa using hi) fun h' eb => ⟨rfl, I.turned (t' := s.toks) (fun b ob hb e => eb b ob hb e) f0 f1 f3 f4 f5⟩
  self := fun A i s Q E st h => let ⟨_, _, e⟩ := st; PySem.W.kcp_self e h
end
section
variable {X : Cx} {tg e : Expr} {td : TE} {apos cpos : Pos}
/-- for x in (a list, a tuple, a dict) -/
def iSeq (K : PySem.W.Frag) (td : TE) : TI := fun σ H R => td σ H fun x H1 => ∃ a, x = .ref a ∧ (((∃ xs, SqL K H1 a xs) ∧ R (Itl K a) H1) ∨ ((∃ xs, SqT K H1 a xs) ∧ R (Itt K a) H1) ∨ ∃ es ep, H1 a = some (DicO a es ep) ∧ (a == sysModules) = false ∧ (∀ e ∈ es, ∃ x, RelV x e.key) ∧ R (ItD a es ep) H1)
theorem pi_seqD (he : PE X e td) : PI X tg e (iSeq X.K td) := by
  refine ⟨fun pins s σ H R I h => ?_⟩
  refine thn (he.run pins s σ H _ I h) fun v s1 ⟨x, H1, I1, r1, q1⟩ => ?_
  obtain ⟨a, e, q1⟩ := q1
  subst e
  cases r1
  rcases q1 with ⟨⟨xs, hq⟩, q⟩ | ⟨⟨xs, hq⟩, q⟩ | ⟨es, ep, hd, hs, hv, q⟩
  · obtain ⟨its, rv, p, hz⟩ := I1.list hq
    refine wpAny_pyIter_list p.isList ?_
    refine ⟨s1.heap.objs.size, [s1.heap.objs.size], _, _, H1, rfl, I1.kept (t' := s1.toks) fun b o e => Heap.get?_push_of_some _ e, turn_list a _, ⟨_, Heap.get?_push_size _ rfl, rfl, rfl⟩, fun b hb => ?_, q⟩
    have e : b = s1.heap.objs.size := by simpa using hb
    subst e
    exact I1.fpOk (Nat.le_refl _) (I1.hok.fresh (Nat.le_refl _))
  · obtain ⟨its, rv, p, hz⟩ := I1.tuple hq
    refine wpAny_pyIter_tuple (show s1.heap.IsTuple a its.toArray from p) ?_
    refine ⟨s1.heap.objs.size, [s1.heap.objs.size], _, _, H1, rfl, I1.kept (t' := s1.toks) fun b o e => Heap.get?_push_of_some _ e, turn_tuple a _, ⟨_, Heap.get?_push_size _ rfl, rfl, rfl⟩, fun b hb => ?_, q⟩
    have e : b = s1.heap.objs.size := by simpa using hb
    subst e
    exact I1.fpOk (Nat.le_refl _) (I1.hok.fresh (Nat.le_refl _))
  · have hr := dic_raw I1 hd
    exact wpAny_pyIter_dict_raw hs hr (pi_one (tk := s1.toks) I1 _ (turn_dk _ hv) ⟨_, Heap.get?_push_size _ rfl, rfl, by simp⟩ q)
def iPrs (td : TE) : TI := fun σ H R => td σ H fun x H1 => ∃ a es ep, x = .ref a ∧ H1 a = some (DicO a es ep) ∧ (a == sysModules) = false ∧ R (ItP a es ep) H1
theorem pi_prs {elts : List Expr} {kk : Nat} {tpos : Pos} (he : PE X e td) (hbase : attributeBase e "items" X.env (eval e X.env) = eval e X.env) (hline : (apos.endLine == cpos.line) = true) :
    PI X (.Tuple elts kk tpos) (.Call (.Attribute e "items" apos) [] [] cpos) (iPrs td) := by
  refine ⟨fun pins s σ H R I h => ?_⟩
  refine wpAny_Call_method (T := "dict") (id := "dict.items") hbase rfl hline PySem.F.plainAttrs_dict PySem.F.slot_dict_items PySem.F.type_dict_items (thn (he.run pins s σ H _ I h) fun u s1 ⟨x, H1, I1, rx, d, es, ep, ex, hd, hs, q⟩ => ?_)
  subst ex
  obtain rfl : u = Value.ref d := rx
  have hr := dic_raw I1 hd
  refine ⟨hr.typeIs, fun b eb => ?_, ?_⟩
  · cases eb
    obtain ⟨o, h1, h2, _⟩ := hr
    exact ⟨o, h1, h2.2.1⟩
  have I2 : Inv X pins σ H1 { s1 with heap := s1.heap.push { cls := .type "dict_items", data := .fields #[.ref d] } } := I1.kept (t' := s1.toks) fun b ob q => Heap.get?_push_of_some _ q
  have fin : wpAny (model X.prog X.w) X.A (pyIter (.ref s1.heap.objs.size)) (PIE X pins σ (.Tuple elts kk tpos) R) X.xe { s1 with heap := s1.heap.push { cls := .type "dict_items", data := .fields #[.ref d] } } :=
    wpAny_pyIter_items_raw (d := d) ⟨_, Heap.get?_push_size _ rfl, rfl, rfl⟩ (hr.push _) (pi_one (tk := s1.toks) I2 _ (turn_dp _) ⟨.none, .none, by simp only [List.size_toArray]; exact Heap.get?_push_size _ rfl⟩ q)
  show wpAny _ _ (callWith cpos (.builtin "dict.items") [.ref d] [] []) _ X.xe s1
  exact method_meetsIn PySem.F.slot_dict_items PySem.F.entry_dict_items rfl (PySem.evalArgs_none ⟨rfl, hr.typeIs, PySem.F.args_dict_items_1 _, _, meets_dict_items_raw d hs, ⟨_, _, hr⟩, fin⟩)
end
end M
namespace M
open PySem L2 PyProof.Rows
/-! ### what is walked -/
/-- the dicts that are walked stay what they are -/
def StayL (H1 H : Hp) (ds : List PyData) (vs : List V) : Prop := ∀ (j : Nat) (kvs : List (PyData × PyData)) (b : Addr) (o : HO), ds[j]? = some (.dict kvs) → tupK kvs = true → vs[j]? = some (.ref b) → H1 b = some o → H b = some o
structure Wk (W : Wd) (H1 : Hp) (J : It) (ds : List PyData) (vs : List V) (items : List PyData) : Prop where
  go : ∀ (i : Nat) H A, RbAll W H A ds vs → StayL H1 H ds vs → i < items.length → J.go i H
  stop : ∀ (i : Nat) H A, RbAll W H A ds vs → StayL H1 H ds vs → items.length ≤ i → J.stop i H
  yld : ∀ (i : Nat) H A x H' d, AvOk H A → RbAll W H A ds vs → StayL H1 H ds vs → items[i]? = some d → J.yld i H x H' → Same H H' ∧ ndD d ∧ Rep W H' A d x
def iM (C : CallT) (G : List PyData) (W : Wd) (Z : L2.WX) (k : IK) (ms : List ME) : TI := fun σ H R => tLE C G W Z ms σ H fun vs H1 => ∃ A ds items, AvOk H1 A ∧ RbAll W H1 A ds vs ∧ itemsD k ds = some items ∧ ∀ J, Wk W H1 J ds vs items → R J H1
theorem pi_imp {X : Cx} {tg e : Expr} {t t' : TI} (h : PI X tg e t) (i : ∀ σ H R, t' σ H R → t σ H R) : PI X tg e t' := ⟨fun pins s σ H R I q => h.run pins s σ H R I (i _ _ _ q)⟩
section
variable {W : Wd} {K : PySem.W.Frag} {H1 : Hp}
theorem wk_list {a : Addr} {ds : List PyData} (hK : W.K = K) : Wk W H1 (Itl K a) [.list ds] [.ref a] ds := by
  refine ⟨fun i H A h _ hi => ?_, fun i H A h _ hi => ?_, fun i H A x H' d hA h _ hd hy => ?_⟩
  · obtain ⟨v, e, h⟩ := h.one
    cases e
    obtain ⟨b, vs, e, l, _, r⟩ := h.list
    cases e
    rw [hK] at l
    obtain ⟨v, hv, _⟩ := r.get (List.getElem?_eq_getElem hi)
    exact ⟨vs, v, l, hv⟩
  · obtain ⟨v, e, h⟩ := h.one
    cases e
    obtain ⟨b, vs, e, l, _, r⟩ := h.list
    cases e
    rw [hK] at l
    exact ⟨vs, l, by rw [r.length]; exact hi⟩
  · obtain ⟨v, e, h⟩ := h.one
    cases e
    obtain ⟨b, vs, e, l, _, r⟩ := h.list
    cases e
    rw [hK] at l
    obtain ⟨eH, hy⟩ := hy
    subst eH
    obtain ⟨v, hv, n, rp⟩ := r.get hd
    have := hy vs l
    rw [hv] at this
    cases this
    exact ⟨Same.refl _, n, rp⟩
theorem wk_tup {a : Addr} {ds : List PyData} (hK : W.K = K) : Wk W H1 (Itt K a) [.tuple ds] [.ref a] ds := by
  refine ⟨fun i H A h _ hi => ?_, fun i H A h _ hi => ?_, fun i H A x H' d hA h _ hd hy => ?_⟩
  · obtain ⟨v, e, h⟩ := h.one
    cases e
    obtain ⟨b, vs, e, l, _, r⟩ := h.tuple
    cases e
    have l := l.sq
    rw [hK] at l
    obtain ⟨v, hv, _⟩ := r.get (List.getElem?_eq_getElem hi)
    exact ⟨vs, v, l, hv⟩
  · obtain ⟨v, e, h⟩ := h.one
    cases e
    obtain ⟨b, vs, e, l, _, r⟩ := h.tuple
    cases e
    have l := l.sq
    rw [hK] at l
    exact ⟨vs, l, by rw [r.length]; exact hi⟩
  · obtain ⟨v, e, h⟩ := h.one
    cases e
    obtain ⟨b, vs, e, l, _, r⟩ := h.tuple
    cases e
    have l := l.sq
    rw [hK] at l
    obtain ⟨eH, hy⟩ := hy
    subst eH
    obtain ⟨v, hv, n, rp⟩ := r.get hd
    have := hy vs l
    rw [hv] at this
    cases this
    exact ⟨Same.refl _, n, rp⟩
theorem wk_rng {lo : Int} {n : Nat} {ds : List PyData} {vs : List V} : Wk W H1 (Itr lo n) ds vs ((List.range n).map fun (i : Nat) => .int (lo + i)) := by
  refine ⟨fun i H A h _ hi => ?_, fun i H A h _ hi => ?_, fun i H A x H' d hA h _ hd hy => ?_⟩
  · rw [List.length_map, List.length_range] at hi
    exact hi
  · rw [List.length_map, List.length_range] at hi
    exact hi
  · obtain ⟨eH, hy⟩ := hy
    subst eH
    rw [List.getElem?_map] at hd
    cases e : (List.range n)[i]? with
    | none => rw [e] at hd; cases hd
    | some j =>
      rw [e] at hd
      cases hd
      have : j = i := by
        have := List.getElem?_eq_some_iff.mp e
        obtain ⟨h1, h2⟩ := this
        rw [List.getElem_range] at h2
        exact h2.symm
      subst this
      exact ⟨Same.refl _, by simp only [ndD], by simp only [Rep]; exact hy⟩
theorem pair_new {H : Hp} {A : Addr → Prop} {t : Addr} {x y : V} {d e : PyData} (hA : AvOk H A) (ht : H t = none) (n1 : ndD d) (r1 : Rep W H A d x) (n2 : ndD e) (r2 : Rep W H A e y) : Same H (upd H t (.tup [x, y])) ∧ ndD (.tuple [d, e]) ∧ Rep W (upd H t (.tup [x, y])) A (.tuple [d, e]) (.ref t) :=
  ⟨same_upd ht, by simp only [ndD], new_tup hA ht (by show 2 ≤ sizeLine; rw [sizeLine_eq]; decide) (RepAll.cons n1 r1 (RepAll.one n2 r2))⟩
theorem zipIdx_get {α : Type} {xs : List α} {i : Nat} : xs.zipIdx[i]? = (xs[i]?).map fun x => (x, i) := by
  rw [List.getElem?_zipIdx]
  cases xs[i]? <;> simp
theorem wk_enum {a : Addr} {ds : List PyData} (hK : W.K = K) : Wk W H1 (Ite K a) [.list ds] [.ref a] (ds.zipIdx.map fun p => .tuple [.int (p.2 : Int), p.1]) := by
  refine ⟨fun i H A h _ hi => ?_, fun i H A h _ hi => ?_, fun i H A x H' d hA h _ hd hy => ?_⟩
  · obtain ⟨v, e, h⟩ := h.one
    cases e
    obtain ⟨b, vs, e, l, _, r⟩ := h.list
    cases e
    rw [hK] at l
    rw [List.length_map, List.length_zipIdx] at hi
    obtain ⟨v, hv, _⟩ := r.get (List.getElem?_eq_getElem hi)
    exact ⟨vs, v, l, hv⟩
  · obtain ⟨v, e, h⟩ := h.one
    cases e
    obtain ⟨b, vs, e, l, _, r⟩ := h.list
    cases e
    rw [hK] at l
    rw [List.length_map, List.length_zipIdx] at hi
    exact ⟨vs, l, by rw [r.length]; exact hi⟩
  · obtain ⟨v, e, h⟩ := h.one
    cases e
    obtain ⟨b, vs, e, l, _, r⟩ := h.list
    cases e
    rw [hK] at l
    obtain ⟨t, y, rfl, ht, rfl, hy⟩ := hy
    rw [List.getElem?_map, zipIdx_get] at hd
    cases e : ds[i]? with
    | none => rw [e] at hd; cases hd
    | some g =>
      rw [e] at hd
      cases hd
      obtain ⟨v, hv, n, rp⟩ := r.get e
      have := hy vs l
      rw [hv] at this
      cases this
      exact pair_new hA ht (by simp only [ndD]) (by simp only [Rep]) n rp
theorem wk_enumT {a : Addr} {ds : List PyData} (hK : W.K = K) : Wk W H1 (IteT K a) [.tuple ds] [.ref a] (ds.zipIdx.map fun p => .tuple [.int (p.2 : Int), p.1]) := by
  refine ⟨fun i H A h _ hi => ?_, fun i H A h _ hi => ?_, fun i H A x H' d hA h _ hd hy => ?_⟩
  · obtain ⟨v, e, h⟩ := h.one
    cases e
    obtain ⟨b, vs, e, l, _, r⟩ := h.tuple
    cases e
    have l := l.sq
    rw [hK] at l
    rw [List.length_map, List.length_zipIdx] at hi
    obtain ⟨v, hv, _⟩ := r.get (List.getElem?_eq_getElem hi)
    exact ⟨vs, v, l, hv⟩
  · obtain ⟨v, e, h⟩ := h.one
    cases e
    obtain ⟨b, vs, e, l, _, r⟩ := h.tuple
    cases e
    have l := l.sq
    rw [hK] at l
    rw [List.length_map, List.length_zipIdx] at hi
    exact ⟨vs, l, by rw [r.length]; exact hi⟩
  · obtain ⟨v, e, h⟩ := h.one
    cases e
    obtain ⟨b, vs, e, l, _, r⟩ := h.tuple
    cases e
    have l := l.sq
    rw [hK] at l
    obtain ⟨t, y, rfl, ht, rfl, hy⟩ := hy
    rw [List.getElem?_map, zipIdx_get] at hd
    cases e : ds[i]? with
    | none => rw [e] at hd; cases hd
    | some g =>
      rw [e] at hd
      cases hd
      obtain ⟨v, hv, n, rp⟩ := r.get e
      have := hy vs l
      rw [hv] at this
      cases this
      exact pair_new hA ht (by simp only [ndD]) (by simp only [Rep]) n rp
theorem wk_zip {a b : Addr} {ds es : List PyData} (hK : W.K = K) : Wk W H1 (Itz K a b) [.list ds, .list es] [.ref a, .ref b] (List.zipWith (fun x y => .tuple [x, y]) ds es) := by
  refine ⟨fun i H A h _ hi => ?_, fun i H A h _ hi => ?_, fun i H A x H' d hA h _ hd hy => ?_⟩
  · obtain ⟨v, w, e, h1, h2⟩ := h.two
    cases e
    obtain ⟨_, vs, e, l, _, r⟩ := h1.list
    cases e
    obtain ⟨_, ws, e, l2, _, r2⟩ := h2.list
    cases e
    rw [hK] at l l2
    rw [List.length_zipWith] at hi
    obtain ⟨v, hv, _⟩ := r.get (List.getElem?_eq_getElem (show i < ds.length by omega))
    obtain ⟨w, hw, _⟩ := r2.get (List.getElem?_eq_getElem (show i < es.length by omega))
    exact ⟨vs, ws, v, w, l, l2, hv, hw⟩
  · obtain ⟨v, w, e, h1, h2⟩ := h.two
    cases e
    obtain ⟨_, vs, e, l, _, r⟩ := h1.list
    cases e
    obtain ⟨_, ws, e, l2, _, r2⟩ := h2.list
    cases e
    rw [hK] at l l2
    rw [List.length_zipWith] at hi
    exact ⟨vs, ws, l, l2, by rw [r.length, r2.length]; omega⟩
  · obtain ⟨v, w, e, h1, h2⟩ := h.two
    cases e
    obtain ⟨_, vs, e, l, _, r⟩ := h1.list
    cases e
    obtain ⟨_, ws, e, l2, _, r2⟩ := h2.list
    cases e
    rw [hK] at l l2
    obtain ⟨t, y1, y2, rfl, ht, rfl, g1, g2⟩ := hy
    rw [List.getElem?_zipWith] at hd
    cases e1 : ds[i]? with
    | none => rw [e1] at hd; cases hd
    | some d1 =>
      cases e2 : es[i]? with
      | none => rw [e1, e2] at hd; cases hd
      | some d2 =>
        rw [e1, e2] at hd
        cases hd
        obtain ⟨v, hv, n, rp⟩ := r.get e1
        obtain ⟨w, hw, n2, rp2⟩ := r2.get e2
        have q1 := g1 vs l
        have q2 := g2 ws l2
        rw [hv] at q1
        rw [hw] at q2
        cases q1
        cases q2
        exact pair_new hA ht n rp n2 rp2
theorem wk_zipT {a b : Addr} {ds es : List PyData} (hK : W.K = K) : Wk W H1 (RZ.ItzT K a b) [.tuple ds, .tuple es] [.ref a, .ref b] (List.zipWith (fun x y => .tuple [x, y]) ds es) := by
  refine ⟨fun i H A h _ hi => ?_, fun i H A h _ hi => ?_, fun i H A x H' d hA h _ hd hy => ?_⟩
  · obtain ⟨v, w, e, h1, h2⟩ := h.two
    cases e
    obtain ⟨_, vs, e, l, _, r⟩ := h1.tuple
    cases e
    obtain ⟨_, ws, e, l2, _, r2⟩ := h2.tuple
    cases e
    have l := l.sq
    have l2 := l2.sq
    rw [hK] at l l2
    rw [List.length_zipWith] at hi
    obtain ⟨v, hv, _⟩ := r.get (List.getElem?_eq_getElem (show i < ds.length by omega))
    obtain ⟨w, hw, _⟩ := r2.get (List.getElem?_eq_getElem (show i < es.length by omega))
    exact ⟨vs, ws, v, w, l, l2, hv, hw⟩
  · obtain ⟨v, w, e, h1, h2⟩ := h.two
    cases e
    obtain ⟨_, vs, e, l, _, r⟩ := h1.tuple
    cases e
    obtain ⟨_, ws, e, l2, _, r2⟩ := h2.tuple
    cases e
    have l := l.sq
    have l2 := l2.sq
    rw [hK] at l l2
    rw [List.length_zipWith] at hi
    exact ⟨vs, ws, l, l2, by rw [r.length, r2.length]; omega⟩
  · obtain ⟨v, w, e, h1, h2⟩ := h.two
    cases e
    obtain ⟨_, vs, e, l, _, r⟩ := h1.tuple
    cases e
    obtain ⟨_, ws, e, l2, _, r2⟩ := h2.tuple
    cases e
    have l := l.sq
    have l2 := l2.sq
    rw [hK] at l l2
    obtain ⟨t, y1, y2, rfl, ht, rfl, g1, g2⟩ := hy
    rw [List.getElem?_zipWith] at hd
    cases e1 : ds[i]? with
    | none => rw [e1] at hd; cases hd
    | some d1 =>
      cases e2 : es[i]? with
      | none => rw [e1, e2] at hd; cases hd
      | some d2 =>
        rw [e1, e2] at hd
        cases hd
        obtain ⟨v, hv, n, rp⟩ := r.get e1
        obtain ⟨w, hw, n2, rp2⟩ := r2.get e2
        have q1 := g1 vs l
        have q2 := g2 ws l2
        rw [hv] at q1
        rw [hw] at q2
        cases q1
        cases q2
        exact pair_new hA ht n rp n2 rp2
theorem wk_dk {a : Addr} {kvs : List (PyData × PyData)} {es : List DictEntry} {ep : Nat} (ht : tupK kvs = true) (hd : H1 a = some (DicO a es ep)) (hl : es.length = kvs.length) : Wk W H1 (ItD a es ep) [.dict kvs] [.ref a] (kvs.map (·.1)) := by
  have sta : ∀ {H}, StayL H1 H [.dict kvs] [.ref a] → H a = some (DicO a es ep) := fun {H} s => s 0 kvs a _ rfl ht rfl hd
  refine ⟨fun i H A h s hi => ⟨sta s, by rw [List.length_map] at hi; omega⟩, fun i H A h s hi => ⟨sta s, by rw [List.length_map] at hi; omega⟩, fun i H A x H' d hA h s hg hy => ?_⟩
  obtain ⟨eH, ⟨hp, raw⟩, e, ee, rx⟩ := hy
  subst eH
  obtain ⟨v, e0, h⟩ := h.one
  cases e0
  obtain ⟨b, eb, hk | ⟨es', ep', e1, g, l⟩⟩ := h.dict (spK_tup ht)
  · have := W.dn b kvs hk
    rw [ht] at this
    cases this
  cases eb
  rw [sta s] at e1
  obtain ⟨q1, _⟩ := dicO_inj raw (Option.some.inj e1)
  subst q1
  rw [List.getElem?_map, Option.map_eq_some_iff] at hg
  obtain ⟨⟨k, d'⟩, hkv, rfl⟩ := hg
  obtain ⟨e', ee', eo⟩ := l.get hkv
  rw [ee] at ee'
  cases ee'
  simp only [EntOne] at eo
  obtain ⟨kv, dv, r1, r2, _, n, q1, q2⟩ := eo
  rw [relV_inj rx r1]
  exact ⟨Same.refl _, key_nd (g.key (k, d') (List.mem_of_getElem? hkv)), q1⟩
theorem wk_dp {a : Addr} {kvs : List (PyData × PyData)} {es : List DictEntry} {ep : Nat} {A0 : Addr → Prop} (ht : tupK kvs = true) (hd : H1 a = some (DicO a es ep)) (hl : EntAll W H1 A0 kvs es) : Wk W H1 (ItP a es ep) [.dict kvs] [.ref a] (kvs.map fun p => .tuple [p.1, p.2]) := by
  have sta : ∀ {H}, StayL H1 H [.dict kvs] [.ref a] → H a = some (DicO a es ep) := fun {H} s => s 0 kvs a _ rfl ht rfl hd
  have hlen := hl.length
  refine ⟨fun i H A h s hi => ⟨sta s, by rw [List.length_map] at hi; omega, ?_⟩, fun i H A h s hi => ⟨sta s, by rw [List.length_map] at hi; omega⟩, fun i H A x H' d hA h s hg hy => ?_⟩
  · rw [List.length_map] at hi
    obtain ⟨e, ee, eo⟩ := hl.get (i := i) (p := kvs[i]) (List.getElem?_eq_getElem hi)
    rw [show kvs[i] = (kvs[i].1, kvs[i].2) from rfl] at eo
    simp only [EntOne] at eo
    obtain ⟨kv, dv, r1, r2, _⟩ := eo
    exact ⟨e, kv, dv, ee, r1, r2⟩
  obtain ⟨⟨hp, raw⟩, T, e, k', v', ee, rk, rv, rfl, hn, rfl⟩ := hy
  obtain ⟨v, e0, h⟩ := h.one
  cases e0
  obtain ⟨b, eb, hk | ⟨es', ep', e1, g, l⟩⟩ := h.dict (spK_tup ht)
  · have := W.dn b kvs hk
    rw [ht] at this
    cases this
  cases eb
  rw [sta s] at e1
  obtain ⟨q1, _⟩ := dicO_inj raw (Option.some.inj e1)
  subst q1
  rw [List.getElem?_map, Option.map_eq_some_iff] at hg
  obtain ⟨⟨k, d'⟩, hkv, rfl⟩ := hg
  obtain ⟨e', ee', eo⟩ := l.get hkv
  rw [ee] at ee'
  cases ee'
  simp only [EntOne] at eo
  obtain ⟨kv, dv, r1, r2, _, n, q1, q2⟩ := eo
  rw [relV_inj rk r1, relV_inj rv r2]
  exact pair_new hA hn (key_nd (g.key (k, d') (List.mem_of_getElem? hkv))) q1 n q2
end
section
variable {nm : Nm} {C : CallT} {G : List PyData} {W : Wd} {k : Nat} {Z : L2.WX} {X : Cx} {tg a b c e : Expr} {pos p : Pos} {ma mb mc m : ME}
theorem tLE_mono {ms : List ME} {σ : St} {H : Hp} {Q Q' : List V → Hp → Prop} (h : tLE C G W Z ms σ H Q) (q : ∀ v H', Q v H' → Q' v H') : tLE C G W Z ms σ H Q' := by
  obtain ⟨T, env, R, h⟩ := h
  refine ⟨T, env, R, ?_⟩
  cases e : evE C G ms env with
  | ok p => rw [e] at h; exact fun v H' s r k => q _ _ (h v H' s r k)
  | exc x => rw [e] at h; exact h
  | stuck => rw [e] at h; exact h
/-- one value, as a list of one -/
theorem tLE_one {σ : St} {H : Hp} {Q : List V → Hp → Prop} (h : tLE C G W Z [m] σ H Q) : tE C G W Z m σ H (fun x H1 => Q [x] H1) := by
  obtain ⟨T, env, rl, h⟩ := h
  refine ⟨T, env, rl, ?_⟩
  simp only [evE] at h
  cases e : ev C G m env with
  | ok p =>
    rw [e] at h
    exact fun v H' S R1 V => h [v] H' S (R1.less fun a z => Tw_sub z) ⟨v, [], rfl, V.holdS R1 (fun _ z => z), rfl⟩
  | exc x => rw [e] at h; exact h
  | stuck => rw [e] at h; exact h
theorem pi_ex (g : Gd nm C G W k Z X) (ha : PE X a (tE C G W Z ma)) : PI X tg a (iM C G W Z .ex [ma]) := by
  refine pi_imp (pi_seqD ha) fun σ H R h => tE_mono (tLE_one h) fun x H1 h => ?_
  obtain ⟨A, ds, items, hA, hr, hi, h⟩ := h
  match ds, hi, hr with
  | [.list xs], hi, hr =>
    cases hi
    obtain ⟨v, e, hv⟩ := hr.one
    cases e
    obtain ⟨a, vs, rfl, l, _, _⟩ := hv.list
    rw [g.K] at l
    exact ⟨a, rfl, .inl ⟨⟨vs, l⟩, h _ (wk_list g.K)⟩⟩
  | [.tuple xs], hi, hr =>
    cases hi
    obtain ⟨v, e, hv⟩ := hr.one
    cases e
    obtain ⟨a, vs, rfl, l, _, _⟩ := hv.tuple
    have l := l.sq
    rw [g.K] at l
    exact ⟨a, rfl, .inr (.inl ⟨⟨vs, l⟩, h _ (wk_tup g.K)⟩)⟩
  | [.dict kvs], hi, hr =>
    simp only [itemsD] at hi
    split at hi
    · rename_i ht
      cases hi
      obtain ⟨v, e, hv⟩ := hr.one
      cases e
      obtain ⟨a, rfl, hk | ⟨es, ep, e1, g1, l⟩⟩ := hv.dict (spK_tup ht)
      · have := W.dn a kvs hk
        rw [ht] at this
        cases this
      refine ⟨a, rfl, .inr (.inr ⟨es, ep, e1, g1.sm, fun e he => ?_, h _ (wk_dk ht e1 l.length)⟩)⟩
      obtain ⟨vs, rv, _⟩ := ent_keys l g1.key
      obtain ⟨j, hj, ej⟩ := List.getElem_of_mem he
      have : (es.map (·.key))[j]? = some e.key := by rw [List.getElem?_map, List.getElem?_eq_getElem hj, ej]; rfl
      have hjv : j < vs.length := by rw [rv.length, List.length_map]; exact hj
      obtain ⟨u, hu, ru⟩ := rv.get (List.getElem?_eq_getElem hjv)
      rw [this] at hu
      cases hu
      exact ⟨_, ru⟩
    · cases hi
theorem pi_it (g : Gd nm C G W k Z X) {elts : List Expr} {kk : Nat} {tpos apos cpos : Pos} (ha : PE X a (tE C G W Z ma)) (hbase : attributeBase a "items" X.env (eval a X.env) = eval a X.env) (hline : (apos.endLine == cpos.line) = true) : PI X (.Tuple elts kk tpos) (.Call (.Attribute a "items" apos) [] [] cpos) (iM C G W Z .it [ma]) := by
  refine pi_imp (pi_prs ha hbase hline) fun σ H R h => tE_mono (tLE_one h) fun x H1 h => ?_
  obtain ⟨A, ds, items, hA, hr, hi, h⟩ := h
  match ds, hi, hr with
  | [.dict kvs], hi, hr =>
    simp only [itemsD] at hi
    split at hi
    · rename_i ht
      cases hi
      obtain ⟨v, e, hv⟩ := hr.one
      cases e
      obtain ⟨a, rfl, hk | ⟨es, ep, e1, g1, l⟩⟩ := hv.dict (spK_tup ht)
      · have := W.dn a kvs hk
        rw [ht] at this
        cases this
      exact ⟨a, es, ep, rfl, e1, g1.sm, h _ (wk_dp ht e1 l)⟩
    · cases hi
theorem pi_r1 (g : Gd nm C G W k Z X) (hg : Gl X "range") (ha : PA X [a] (tLE C G W Z [ma])) (hs : starEach [a] X.env = [(false, eval a X.env)]) : PI X tg (.Call (.Name "range" p) [a] [] pos) (iM C G W Z .r1 [ma]) := by
  refine pi_imp (pi_range1 hg (g.blt _ (by decide)) ha hs) fun σ H R h => tLE_mono h fun vs H1 h => ?_
  obtain ⟨A, ds, items, hA, hr, hi, h⟩ := h
  match ds, hi, hr with
  | [.int n], hi, hr =>
    simp only [itemsD] at hi
    split at hi
    · rename_i hz
      cases hi
      obtain ⟨v, e, hv⟩ := hr.one
      have := hv.int
      subst this
      have hz := (rgB_iff n).mp hz
      refine ⟨n, e, by omega, by omega, h _ ?_⟩
      have := wk_rng (W := W) (H1 := H1) (lo := 0) (n := n.toNat) (ds := [.int n]) (vs := vs)
      simpa using this
    · cases hi
theorem pi_r2 (g : Gd nm C G W k Z X) (hg : Gl X "range") (ha : PA X [a, b] (tLE C G W Z [ma, mb])) (hs : starEach [a, b] X.env = [(false, eval a X.env), (false, eval b X.env)]) (hs2 : starEach [b] X.env = [(false, eval b X.env)]) : PI X tg (.Call (.Name "range" p) [a, b] [] pos) (iM C G W Z .r2 [ma, mb]) := by
  refine pi_imp (pi_range2 hg (g.blt _ (by decide)) ha hs hs2) fun σ H R h => tLE_mono h fun vs H1 h => ?_
  obtain ⟨A, ds, items, hA, hr, hi, h⟩ := h
  match ds, hi, hr with
  | [.int n, .int m], hi, hr =>
    simp only [itemsD] at hi
    split at hi
    · rename_i hz
      cases hi
      obtain ⟨v, w, e, hv, hw⟩ := hr.two
      have := hv.int
      subst this
      have := hw.int
      subst this
      have hz1 := (rsB_iff n).mp hz.1
      have hz2 := (rsB_iff m).mp hz.2
      exact ⟨n, m, e, ⟨by omega, by omega, by omega, by omega⟩, h _ wk_rng⟩
    · cases hi
theorem pi_en (g : Gd nm C G W k Z X) {elts : List Expr} {kk : Nat} {tpos : Pos} (hg : Gl X "enumerate") (ha : PA X [a] (tLE C G W Z [ma])) (hs : starEach [a] X.env = [(false, eval a X.env)]) : PI X (.Tuple elts kk tpos) (.Call (.Name "enumerate" p) [a] [] pos) (iM C G W Z .en [ma]) := by
  refine pi_imp (pi_enumA hg (g.blt _ (by decide)) ha hs) fun σ H R h => tLE_mono h fun vs H1 h => ?_
  obtain ⟨A, ds, items, hA, hr, hi, h⟩ := h
  match ds, hi, hr with
  | [.list xs], hi, hr =>
    cases hi
    obtain ⟨v, e, hv⟩ := hr.one
    subst e
    obtain ⟨a, vs, rfl, l, _, _⟩ := hv.list
    rw [g.K] at l
    exact ⟨a, vs, rfl, .inl ⟨l, h _ (wk_enum g.K)⟩⟩
  | [.tuple xs], hi, hr =>
    cases hi
    obtain ⟨v, e, hv⟩ := hr.one
    subst e
    obtain ⟨a, vs, rfl, l, _, _⟩ := hv.tuple
    have l := l.sq
    rw [g.K] at l
    exact ⟨a, vs, rfl, .inr ⟨l, h _ (wk_enumT g.K)⟩⟩
theorem pi_zp (g : Gd nm C G W k Z X) {elts : List Expr} {kk : Nat} {tpos : Pos} (hg : Gl X "zip") (ha : PA X [a, b] (tLE C G W Z [ma, mb])) (hs : starEach [a, b] X.env = (false, eval a X.env) :: starEach [b] X.env) (hpl : (backTo pos (starEach [b] X.env)).any (·.1) = false) : PI X (.Tuple elts kk tpos) (.Call (.Name "zip" p) [a, b] [] pos) (iM C G W Z .zp [ma, mb]) := by
  refine pi_imp (RZ.pi_zipA hg (g.blt _ (by decide)) ha hs hpl) fun σ H R h => tLE_mono h fun vs H1 h => ?_
  obtain ⟨A, ds, items, hA, hr, hi, h⟩ := h
  match ds, hi, hr with
  | [.list xs, .list ys], hi, hr =>
    cases hi
    obtain ⟨v, w, e, hv, hw⟩ := hr.two
    subst e
    obtain ⟨a, vs, rfl, l, _, _⟩ := hv.list
    obtain ⟨b, ws, rfl, l2, _, _⟩ := hw.list
    rw [g.K] at l l2
    exact ⟨a, b, vs, ws, rfl, .inl ⟨l, l2, h _ (wk_zip g.K)⟩⟩
  | [.tuple xs, .tuple ys], hi, hr =>
    cases hi
    obtain ⟨v, w, e, hv, hw⟩ := hr.two
    subst e
    obtain ⟨a, vs, rfl, l, _, _⟩ := hv.tuple
    obtain ⟨b, ws, rfl, l2, _, _⟩ := hw.tuple
    have l := l.sq
    have l2 := l2.sq
    rw [g.K] at l l2
    exact ⟨a, b, vs, ws, rfl, .inr ⟨l, l2, h _ (wk_zipT g.K)⟩⟩
end
end M
namespace M
open PySem L2 PyProof.Rows
/-! ### storing into a slot -/
section
variable {W : Wd} {T : Addr → Prop} {env env0 env' : Env} {σ : St} {H H0 : Hp} {v : V} {d : PyData} {i : Nat}
theorem setS_inv {k : Own} (e : setS i d k env = some env') : (∃ o, env[i]? = some o ∧ ∀ d k, o = some (d, k) → ¬ Fixd k) ∧ env' = env.set i (some (d, k)) := by
  unfold setS at e
  split at e
  · rename_i h
    cases e
    refine ⟨?_, rfl⟩
    unfold freeS at h
    split at h
    · cases h
    · cases h
    · rename_i o n1 n2 q
      refine ⟨o, q, fun d k e hk => ?_⟩
      subst e
      rcases hk with rfl | rfl
      · exact n1 d rfl
      · exact n2 d rfl
    · cases h
  · cases e
theorem owns_set {k : Own} (hi : i < σ.length) (he : i < env.length) {j : Nat} {a : Addr} (h : Owns (env.set i (some (d, k))) (σ.set i (some v)) j a) : (j = i ∧ k ≠ .sh ∧ v = .ref a) ∨ (j ≠ i ∧ Owns env σ j a) := by
  obtain ⟨d', k', q1, q2, q3⟩ := h
  by_cases hj : i = j
  · subst hj
    rw [List.getElem?_set_self he] at q1
    rw [List.getElem?_set_self hi] at q3
    cases q1
    cases q3
    exact .inl ⟨rfl, q2, rfl⟩
  · rw [List.getElem?_set_ne hj] at q1 q3
    exact .inr ⟨fun z => hj z.symm, d', k', q1, q2, q3⟩
theorem setS_ok {fr : Bool} (S : Step env0 σ H0 env σ H) (R1 : Rel W (Tw T (.va d fr) v) env σ H) (V : VOk W T H0 H env σ (.va d fr) v) (e : setS i d (if fr = true then .ow else .sh) env = some env') :
    Step env0 σ H0 env' (σ.set i (some v)) H ∧ Rel W T env' (σ.set i (some v)) H := by
  obtain ⟨⟨o, eo, no⟩, rfl⟩ := setS_inv e
  have he : i < env.length := (List.getElem?_eq_some_iff.mp eo).1
  have hi : i < σ.length := by rw [← R1.len]; exact he
  -- a newly owned place is the fresh one
  have fresh : ∀ a, (if fr = true then Own.ow else Own.sh) ≠ .sh → v = .ref a → fr = true ∧ ¬ T a ∧ H0 a = none ∧ Tw T (.va d fr) v a ∧ OwnAt W H (fun b => Av T env σ b ∨ b = a) d a := fun a hk hv => by
    cases fr with
    | false => exact absurd rfl hk
    | true =>
      obtain ⟨b, eb, n, z, o⟩ := V
      rw [hv] at eb
      cases eb
      exact ⟨rfl, n, z, .inr hv, o⟩
  refine ⟨⟨S.keep, fun a ⟨j, hj⟩ => ?_, S.dom, fun j d0 k0 hk e0 => ?_, S.lnk⟩, ⟨by rw [List.length_set, List.length_set]; exact R1.len, fun j d0 k0 q => ?_, fun j j' a h1 h2 => ?_, fun a t => ⟨fun ⟨j, hj⟩ => ?_, (R1.prot a (Tw_sub t)).2⟩⟩⟩
  · rcases owns_set hi he hj with ⟨_, hk, hv⟩ | ⟨_, ho⟩
    · exact .inr (fresh a hk hv).2.2.1
    · exact S.own a ⟨j, ho⟩
  · obtain ⟨d1, e1, s1, l1⟩ := S.fix j d0 k0 hk e0
    have hne : i ≠ j := fun z => by
      subst z
      rw [eo] at e1
      cases e1
      exact no _ _ rfl hk
    exact ⟨d1, by rw [List.getElem?_set_ne hne]; exact e1, by rw [List.getElem?_set_ne hne], l1⟩
  · by_cases hj : i = j
    · subst hj
      rw [List.getElem?_set_self he] at q
      cases q
      refine ⟨v, List.getElem?_set_self hi, ?_⟩
      cases fr with
      | false =>
        refine Rep.less (show Rep W H (Av T env σ) d v from V) fun a z => z.elim .inl fun ⟨j, hj⟩ => ?_
        rcases owns_set hi he hj with ⟨_, hk, _⟩ | ⟨_, ho⟩
        · exact absurd rfl hk
        · exact .inr ⟨j, ho⟩
      | true =>
        obtain ⟨a, ea, n, z, o⟩ := V
        refine ⟨a, ea, o.less fun b q => ?_⟩
        rcases q with q | ⟨j, hj⟩
        · exact .inl (.inl q)
        · rcases owns_set hi he hj with ⟨_, _, hv⟩ | ⟨_, ho⟩
          · rw [ea] at hv
            cases hv
            exact .inr rfl
          · exact .inl (.inr ⟨j, ho⟩)
    · rw [List.getElem?_set_ne hj] at q
      obtain ⟨v0, e0, so⟩ := R1.slot j d0 k0 q
      refine ⟨v0, by rw [List.getElem?_set_ne hj]; exact e0, so.tr ⟨fun _ _ _ e => e, fun a n _ z => n ?_⟩ fun _ _ _ _ e => e⟩
      rcases z with z | ⟨j', hj'⟩
      · exact .inl (Tw_sub z)
      · rcases owns_set hi he hj' with ⟨_, hk, hv⟩ | ⟨_, ho⟩
        · exact .inl (fresh a hk hv).2.2.2.1
        · exact .inr ⟨j', ho⟩
  · rcases owns_set hi he h1 with ⟨e1, hk, hv⟩ | ⟨n1, o1⟩
    · rcases owns_set hi he h2 with ⟨e2, _, _⟩ | ⟨n2, o2⟩
      · rw [e1, e2]
      · exact absurd ⟨j', o2⟩ (R1.prot a (fresh a hk hv).2.2.2.1).1
    · rcases owns_set hi he h2 with ⟨e2, hk, hv⟩ | ⟨n2, o2⟩
      · exact absurd ⟨j, o1⟩ (R1.prot a (fresh a hk hv).2.2.2.1).1
      · exact R1.inj j j' a o1 o2
  · rcases owns_set hi he hj with ⟨_, hk, hv⟩ | ⟨_, ho⟩
    · exact (fresh a hk hv).2.1 t
    · exact (R1.prot a (Tw_sub t)).1 ⟨j, ho⟩
end
/-! ### targets -/
structure Only (vs : List Nat) (σ σ' : St) : Prop where
  len : σ'.length = σ.length
  out : ∀ i, i ∉ vs → σ'[i]? = σ[i]?
theorem Only.refl {vs : List Nat} {σ : St} : Only vs σ σ := ⟨rfl, fun _ _ => rfl⟩
theorem Only.trans {vs ws : List Nat} {σ σ1 σ2 : St} (a : Only vs σ σ1) (b : Only ws σ1 σ2) : Only (vs ++ ws) σ σ2 :=
  ⟨b.len.trans a.len, fun i h => by
    rw [List.mem_append, not_or] at h
    exact (b.out i h.2).trans (a.out i h.1)⟩
mutual
def gOf (K : PySem.W.Frag) : MT → TG
  | .nm i => gName i
  | .tp ts => gTup K ts.length (gOfs K ts)
def gOfs (K : PySem.W.Frag) : List MT → TGs
  | [] => gNil
  | t :: ts => gCons (gOf K t) (gOfs K ts)
end
/-- data beside values, errors among them -/
def RepL (W : Wd) (H : Hp) (A : Addr → Prop) : List PyData → List V → Prop
  | [], vs => vs = []
  | d :: ds, vs => ∃ v r, vs = v :: r ∧ Rep W H A d v ∧ RepL W H A ds r
theorem RepL.of {W : Wd} {H : Hp} {A : Addr → Prop} : ∀ {ds : List PyData} {vs : List V}, RepAll W H A ds vs → RepL W H A ds vs
  | [], _, h => by
    simp only [RepAll] at h
    exact h
  | d :: ds, _, h => by
    simp only [RepAll] at h
    obtain ⟨v, r, e, _, h1, h2⟩ := h
    exact ⟨v, r, e, h1, RepL.of h2⟩
theorem RepL.tr {W : Wd} {H H' : Hp} {A A' : Addr → Prop} (t : Tr H H' A A') : ∀ {ds : List PyData} {vs : List V}, RepL W H A ds vs → RepL W H' A' ds vs
  | [], _, h => h
  | d :: ds, _, h => by
    obtain ⟨v, r, e, h1, h2⟩ := h
    exact ⟨v, r, e, Rep.tr t h1, RepL.tr t h2⟩
theorem RepL.length {W : Wd} {H : Hp} {A : Addr → Prop} : ∀ {ds : List PyData} {vs : List V}, RepL W H A ds vs → vs.length = ds.length
  | [], _, h => by
    have h : _ = [] := h
    rw [h]
    rfl
  | d :: ds, _, h => by
    obtain ⟨v, r, e, h1, h2⟩ := h
    rw [e, List.length_cons, List.length_cons, RepL.length h2]
theorem ValAll.repL {W : Wd} {H : Hp} {A : Addr → Prop} : ∀ {kvs : List (PyData × PyData)} {vs : List V}, ValAll W H A kvs vs → RepL W H A (kvs.map (·.2)) vs
  | [], _, h => by
    simp only [ValAll] at h
    exact h
  | (k, d) :: r, _, h => by
    simp only [ValAll, ValOne] at h
    obtain ⟨v, vs, e, h1, h2⟩ := h
    exact ⟨v, vs, e, h1, ValAll.repL h2⟩
theorem RepL.valAll {W : Wd} {H : Hp} {A : Addr → Prop} (k : PyData) : ∀ {ds : List PyData} {vs : List V}, RepL W H A ds vs → ValAll W H A (ds.map fun d => (k, d)) vs
  | [], _, h => by
    have h : _ = [] := h
    simpa only [List.map_nil, ValAll] using h
  | d :: ds, _, h => by
    obtain ⟨v, r, e, h1, h2⟩ := h
    simp only [List.map_cons, ValAll, ValOne]
    exact ⟨v, r, e, h1, RepL.valAll k h2⟩
theorem xt_inv {W : Wd} {H : Hp} {A : Addr → Prop} {kvs : List (PyData × PyData)} {ds : List PyData} {v : V} (h : Rep W H A (.dict kvs) v) (e : xtOf kvs = some ds) : ∃ a vs, v = .ref a ∧ TpA W.K H A a vs ∧ RepL W H A ds vs := by
  match kvs, e with
  | (.bool true, .none) :: r, e =>
    cases e
    simp only [Rep] at h
    obtain ⟨a, ea, h | ⟨_, es, ep, _, g, _⟩ | ⟨_, c, d, _, _, h | ⟨_, _, _, _, _, h, _⟩⟩ | ⟨vs, h1, _, _, h4⟩⟩ := h
    · exact Bool.noConfusion (W.ds a _ h)
    · exact Bool.noConfusion g.nsp
    · cases h.2
    · exact absurd (List.cons.inj h).1 (by intro z; cases z)
    · simp only [ValAll] at h4
      obtain ⟨v0, vs0, e0, _, h4⟩ := h4
      cases e0
      exact ⟨a, vs, ea, h1, h4.repL⟩
section
variable {W : Wd} {T : Addr → Prop} {H : Hp}
mutual
theorem bindT_ok : ∀ {t : MT} {d : PyData} {env env' : Env} {σ : St} {v : V} {Q : St → Hp → Prop}, Rel W T env σ H → Rep W H (Av T env σ) d v → bindT t d env = some env' → (∀ σ', Step env σ H env' σ' H → Rel W T env' σ' H → Only t.vars σ σ' → Q σ' H) → gOf W.K t v σ H Q
  | .nm i, d, env, env', σ, v, Q, rl, hr, e, q => by
    simp only [bindT] at e
    simp only [gOf]
    obtain ⟨h1, h2⟩ := setS_ok (fr := false) (T := T) (H0 := H) (env0 := env) (v := v) .refl rl hr e
    exact q _ h1 h2 ⟨List.length_set .., fun j hj => List.getElem?_set_ne (fun z => hj (by simp only [MT.vars, List.mem_singleton]; exact z.symm))⟩
  | .tp ts, d, env, env', σ, v, Q, rl, hr, e, q => by
    cases d with
    | tuple ds =>
      simp only [bindT] at e
      simp only [Rep] at hr
      obtain ⟨a, vs, rfl, l, z, r⟩ := hr
      simp only [gOf]
      have hl := bindTs_len e
      exact ⟨a, vs, rfl, l.sq, by rw [r.length, hl], bindTs_ok rl (RepL.of r) e (by simpa only [MT.vars] using q)⟩
    | dict kvs =>
      simp only [bindT] at e
      cases e1 : xtOf kvs with
      | none => rw [e1] at e; cases e
      | some ds =>
        rw [e1] at e
        obtain ⟨a, vs, rfl, l, r⟩ := xt_inv hr e1
        simp only [gOf]
        have hl := bindTs_len e
        exact ⟨a, vs, rfl, l.sq, by rw [r.length, hl], bindTs_ok rl r e (by simpa only [MT.vars] using q)⟩
    | _ => simp [bindT] at e
theorem bindTs_ok : ∀ {ts : List MT} {ds : List PyData} {env env' : Env} {σ : St} {vs : List V} {Q : St → Hp → Prop}, Rel W T env σ H → RepL W H (Av T env σ) ds vs → bindTs ts ds env = some env' → (∀ σ', Step env σ H env' σ' H → Rel W T env' σ' H → Only (MT.varsL ts) σ σ' → Q σ' H) → gOfs W.K ts vs σ H Q
  | [], ds, env, env', σ, vs, Q, rl, hr, e, q => by
    cases ds with
    | nil =>
      simp only [bindTs] at e
      cases e
      have hr : vs = [] := hr
      subst hr
      simp only [gOfs]
      exact ⟨rfl, q σ .refl rl .refl⟩
    | cons d ds => simp [bindTs] at e
  | t :: ts, ds, env, env', σ, vs, Q, rl, hr, e, q => by
    cases ds with
    | nil => simp [bindTs] at e
    | cons d ds =>
      simp only [bindTs] at e
      cases e1 : bindT t d env with
      | none => rw [e1] at e; cases e
      | some env1 =>
        rw [e1] at e
        obtain ⟨v, r, rfl, h1, h2⟩ := hr
        simp only [gOfs]
        refine ⟨v, r, rfl, bindT_ok rl h1 e1 fun σ1 S1 R1 o1 => bindTs_ok R1 (h2.tr (S1.tr (T := T) (T' := T) fun _ z => .inl z)) e fun σ2 S2 R2 o2 => q σ2 (S1.trans S2) R2 ?_⟩
        simp only [MT.varsL]
        exact o1.trans o2
theorem bindTs_len : ∀ {ts : List MT} {ds : List PyData} {env env' : Env}, bindTs ts ds env = some env' → ds.length = ts.length
  | [], ds, _, _, e => by
    cases ds with
    | nil => rfl
    | cons d ds => simp [bindTs] at e
  | t :: ts, ds, env, _, e => by
    cases ds with
    | nil => simp [bindTs] at e
    | cons d ds =>
      simp only [bindTs] at e
      cases e1 : bindT t d env with
      | none => rw [e1] at e; cases e
      | some env1 =>
        rw [e1] at e
        rw [List.length_cons, List.length_cons, bindTs_len e]
end
end
/-! ### the syntax of targets -/
theorem mapO_cons {α β : Type} {f : α → Option β} {x : α} {r : List α} {ys : List β} (h : mapO f (x :: r) = some ys) : ∃ y zs, f x = some y ∧ mapO f r = some zs ∧ ys = y :: zs := by
  simp only [mapO] at h
  cases e : f x with
  | none => rw [e] at h; cases h
  | some y =>
    rw [e] at h
    cases e2 : mapO f r with
    | none => simp [e2] at h
    | some zs => simp [e2] at h; exact ⟨y, zs, rfl, rfl, h.symm⟩
theorem mapO_len {α β : Type} {f : α → Option β} : ∀ {l : List α} {ys : List β}, mapO f l = some ys → ys.length = l.length
  | [], _, h => by cases h; rfl
  | x :: r, _, h => by
    obtain ⟨y, zs, _, h2, rfl⟩ := mapO_cons h
    rw [List.length_cons, List.length_cons, mapO_len h2]
/-- what may be stored into in X -/
def StOk (rs : Scope) (X : Cx) : Prop := ∀ x, stB rs x = true → Loc X.env.scope x ∧ (X.fn x = true ∨ X.env.scope.names.lookup x = some .local)
theorem okName_of {x : Str} (h : okName x = true) : (x == ("__debug__" : Str)) = false ∧ (x == ("__classdict__" : Str)) = false := by
  unfold okName at h
  simp only [Bool.and_eq_true, Bool.not_eq_true'] at h
  exact h
theorem cTg_form {N : List Str} {rs : Scope} {n : Nat} {e : Expr} {t : MT} (h : cTg N rs n e = some t) : (∃ x p, e = .Name x p) ∨ ∃ es k p, e = .Tuple es k p := by
  cases n with
  | zero => cases h
  | succ n =>
    unfold cTg at h
    split at h
    · exact .inl ⟨_, _, rfl⟩
    · exact .inr ⟨_, _, _, rfl⟩
    · cases h
theorem assign_each {N : List Str} {rs : Scope} {n : Nat} {e : Expr} {t : MT} (h : cTg N rs n e = some t) (es : List Expr) (env : PySem.Env) : assignEach (e :: es) env = (false, assign e env) :: assignEach es env := by
  rcases cTg_form h with ⟨x, p, rfl⟩ | ⟨es', k, p, rfl⟩ <;> rfl
theorem assign_eachs {N : List Str} {rs : Scope} {n : Nat} {env : PySem.Env} : ∀ {es : List Expr} {ts : List MT}, mapO (cTg N rs n) es = some ts → (assignEach es env).length = es.length ∧ (assignEach es env).findIdx? (·.1) = none
  | [], ts, h => ⟨rfl, rfl⟩
  | e :: es, ts, h => by
    obtain ⟨t, zs, h1, h2, rfl⟩ := mapO_cons h
    obtain ⟨i1, i2⟩ := assign_eachs (env := env) h2
    rw [assign_each h1]
    refine ⟨by rw [List.length_cons, List.length_cons, i1], ?_⟩
    rw [List.findIdx?_cons]
    simp [i2]
theorem pg_of {X : Cx} {rs : Scope} (hc : X.calm = true) (hN : X.N.Nodup) (hS : StOk rs X) : ∀ (n : Nat) {e : Expr} {t : MT}, cTg X.N rs n e = some t → PG X e (gOf X.K t)
  | 0, e, t, h => by cases h
  | n + 1, e, t, h => by
    unfold cTg at h
    split at h
    · rename_i x p
      split at h
      · rename_i q
        cases q2 : ixOf x X.N with
        | none => rw [q2] at h; cases h
        | some i =>
          rw [q2] at h
          cases h
          rw [Bool.and_eq_true] at q
          obtain ⟨h1, h2⟩ := hS x q.1
          simp only [gOf]
          exact pg_name hN (ixOf_get q2) h1 h2
      · cases h
    · rename_i es k p
      cases q : mapO (cTg X.N rs n) es with
      | none => rw [q] at h; cases h
      | some ts =>
        rw [q] at h
        cases h
        simp only [gOf]
        rw [mapO_len q]
        have pgs : ∀ {es : List Expr} {ts : List MT}, mapO (cTg X.N rs n) es = some ts → PGs X es (gOfs X.K ts) := fun {es} => by
          induction es with
          | nil => intro ts h; cases h; simp only [gOfs]; exact pgs_nil
          | cons e es ih =>
            intro ts h
            obtain ⟨t, zs, h1, h2, rfl⟩ := mapO_cons h
            simp only [gOfs]
            exact pgs_cons (pg_of hc hN hS n h1) (ih h2) (by rw [assign_each h1]; rfl)
        exact pg_tup hc (pgs q) (assign_eachs q).1 (assign_eachs q).2
    · cases h
end M
namespace M
open PySem L2 PyProof.Rows
/-! ### slots lent to a loop, and given back -/
theorem lend1_get (env : Env) (i j : Nat) : (∃ d k, env[i]? = some (some (d, k)) ∧ (k = .ow ∨ k = .rf) ∧ (lend1 env i)[j]? = if j = i then some (some (d, .ln)) else env[j]?) ∨ ((∀ d k, env[i]? = some (some (d, k)) → k = .sh ∨ k = .ln) ∧ lend1 env i = env) := by
  unfold lend1
  split
  · rename_i d q
    refine .inl ⟨d, .ow, q, .inl rfl, ?_⟩
    split
    · rename_i h; subst h; exact getElem?_set_eq' q
    · rename_i h; exact getElem?_set_ne' (fun z => h z.symm)
  · rename_i d q
    refine .inl ⟨d, .rf, q, .inr rfl, ?_⟩
    split
    · rename_i h; subst h; exact getElem?_set_eq' q
    · rename_i h; exact getElem?_set_ne' (fun z => h z.symm)
  · rename_i n1 n2
    refine .inr ⟨fun d k e => ?_, rfl⟩
    cases k with
    | ow => exact absurd e (n1 d)
    | rf => exact absurd e (n2 d)
    | sh => exact .inl rfl
    | ln => exact .inr rfl
/-- the slots of L become lent, the others stay -/
theorem lendE_get (env : Env) : ∀ (L : List Nat) (j : Nat), (j ∉ L → (lendE env L)[j]? = env[j]?) ∧ (j ∈ L → (∀ d k, env[j]? = some (some (d, k)) → k ≠ .sh → (lendE env L)[j]? = some (some (d, .ln))) ∧ ((∀ d k, env[j]? = some (some (d, k)) → k = .sh) → (lendE env L)[j]? = env[j]?))
  | [], j => ⟨fun _ => rfl, fun h => nomatch h⟩
  | i :: L, j => by
    have ih := lendE_get env L j
    have ihi := lendE_get env L i
    refine ⟨fun h => ?_, fun h => ⟨fun d k e hk => ?_, fun hsh => ?_⟩⟩
    · rw [List.mem_cons, not_or] at h
      show (lend1 (lendE env L) i)[j]? = _
      rcases lend1_get (lendE env L) i j with ⟨d, k, _, _, e⟩ | ⟨_, e⟩
      · rw [e, if_neg h.1]
        exact ih.1 h.2
      · rw [e]
        exact ih.1 h.2
    · show (lend1 (lendE env L) i)[j]? = _
      have cur : (lendE env L)[j]? = some (some (d, k)) ∨ (lendE env L)[j]? = some (some (d, .ln)) := by
        by_cases hj : j ∈ L
        · exact .inr ((ih.2 hj).1 d k e hk)
        · exact .inl ((ih.1 hj).trans e)
      rcases lend1_get (lendE env L) i j with ⟨d', k', e1, _, e2⟩ | ⟨n, e2⟩
      · rw [e2]
        split
        · rename_i hji
          subst hji
          rw [e1] at cur
          rcases cur with z | z <;> (cases z; rfl)
        · rename_i hji
          rcases List.mem_cons.mp h with z | z
          · exact absurd z hji
          · exact (ih.2 z).1 d k e hk
      · rw [e2]
        rcases List.mem_cons.mp h with z | z
        · subst z
          rcases cur with y | y
          · rcases n d k y with q | q
            · exact absurd q hk
            · rw [y, q]
          · exact y
        · exact (ih.2 z).1 d k e hk
    · show (lend1 (lendE env L) i)[j]? = _
      have cur : (lendE env L)[j]? = env[j]? := by
        by_cases hj : j ∈ L
        · exact (ih.2 hj).2 hsh
        · exact ih.1 hj
      rcases lend1_get (lendE env L) i j with ⟨d', k', e1, hk', e2⟩ | ⟨n, e2⟩
      · rw [e2]
        split
        · rename_i hji
          subst hji
          rw [cur] at e1
          have := hsh d' k' e1
          subst this
          rcases hk' with z | z <;> cases z
        · exact cur
      · rw [e2]; exact cur
theorem lendE_len (env : Env) : ∀ L : List Nat, (lendE env L).length = env.length
  | [] => rfl
  | i :: L => by
    show (lend1 (lendE env L) i).length = _
    unfold lend1
    split
    · rw [List.length_set, lendE_len env L]
    · rw [List.length_set, lendE_len env L]
    · exact lendE_len env L
theorem backE_len (env0 env : Env) : ∀ L : List Nat, (backE env0 env L).length = env.length
  | [] => rfl
  | i :: L => by
    show ((backE env0 env L).set i _).length = _
    rw [List.length_set, backE_len env0 env L]
theorem backE_get (env0 env : Env) : ∀ (L : List Nat) (j : Nat), (j ∉ L → (backE env0 env L)[j]? = env[j]?) ∧ (j ∈ L → j < env.length → (backE env0 env L)[j]? = some (env0[j]?.join))
  | [], j => ⟨fun _ => rfl, (fun h => nomatch h)⟩
  | i :: L, j => by
    obtain ⟨h1, h2⟩ := backE_get env0 env L j
    refine ⟨fun h => ?_, fun h hl => ?_⟩
    · rw [List.mem_cons, not_or] at h
      show ((backE env0 env L).set i _)[j]? = _
      rw [List.getElem?_set_ne (fun z => h.1 z.symm)]
      exact h1 h.2
    · show ((backE env0 env L).set i _)[j]? = _
      by_cases hj : i = j
      · subst hj
        rw [List.getElem?_set_self (by rw [backE_len]; exact hl)]
      · rw [List.getElem?_set_ne hj]
        rcases List.mem_cons.mp h with z | z
        · exact absurd z.symm hj
        · exact h2 z hl
theorem wipeE_len (env : Env) : ∀ L : List Nat, (wipeE env L).length = env.length
  | [] => rfl
  | i :: L => by
    show ((wipeE env L).set i none).length = _
    rw [List.length_set, wipeE_len env L]
theorem wipeE_get (env : Env) : ∀ (L : List Nat) (j : Nat), (j ∉ L → (wipeE env L)[j]? = env[j]?) ∧ (j ∈ L → ∀ x, (wipeE env L)[j]? ≠ some (some x))
  | [], j => ⟨fun _ => rfl, (fun h => nomatch h)⟩
  | i :: L, j => by
    obtain ⟨h1, h2⟩ := wipeE_get env L j
    refine ⟨fun h => ?_, fun h x e => ?_⟩
    · rw [List.mem_cons, not_or] at h
      show ((wipeE env L).set i none)[j]? = _
      rw [List.getElem?_set_ne (fun z => h.1 z.symm)]
      exact h1 h.2
    · have e : ((wipeE env L).set i none)[j]? = some (some x) := e
      by_cases hj : i = j
      · subst hj
        rw [List.getElem?_set] at e
        simp at e
      · rw [List.getElem?_set_ne hj] at e
        rcases List.mem_cons.mp h with z | z
        · exact absurd z.symm hj
        · exact h2 z x e
theorem wipe_get (σ : St) : ∀ (L : List Nat) (j : Nat), j ∉ L → (wipe σ L)[j]? = σ[j]?
  | [], j, _ => rfl
  | i :: L, j, h => by
    rw [List.mem_cons, not_or] at h
    show ((wipe σ L).set i none)[j]? = _
    rw [List.getElem?_set_ne (fun z => h.1 z.symm)]
    exact wipe_get σ L j h.2
section
variable {W : Wd} {T T2 : Addr → Prop} {env1 env2 : Env} {σ1 σ2 : St} {H1 H2 : Hp} {L : List Nat}
theorem lend_kind {j : Nat} {d : PyData} {k : Own} (h : (lendE env1 L)[j]? = some (some (d, k))) : ∃ k0, env1[j]? = some (some (d, k0)) ∧ (k0 = .sh ↔ k = .sh) ∧ (j ∉ L → k0 = k) := by
  by_cases hj : j ∈ L
  · have q := (lendE_get env1 L j).2 hj
    by_cases hs : ∀ d k, env1[j]? = some (some (d, k)) → k = .sh
    · rw [q.2 hs] at h
      exact ⟨k, h, Iff.rfl, fun _ => rfl⟩
    · have hs' : ∃ d0 k0, env1[j]? = some (some (d0, k0)) ∧ k0 ≠ .sh := by
        cases e : env1[j]? with
        | none => exact absurd (fun d k e' => by rw [e] at e'; cases e') hs
        | some o =>
          cases o with
          | none => exact absurd (fun d k e' => by rw [e] at e'; cases e') hs
          | some p =>
            obtain ⟨d0, k0⟩ := p
            by_cases hk : k0 = .sh
            · exact absurd (fun d k e' => by rw [e] at e'; cases e'; exact hk) hs
            · exact ⟨d0, k0, rfl, hk⟩
      obtain ⟨d0, k0, e0, hk0⟩ := hs'
      rw [q.1 d0 k0 e0 hk0] at h
      cases h
      exact ⟨k0, e0, ⟨fun z => absurd z hk0, fun z => by cases z⟩, fun z => absurd hj z⟩
  · rw [(lendE_get env1 L j).1 hj] at h
    exact ⟨k, h, Iff.rfl, fun _ => rfl⟩
theorem lend_owns {j : Nat} {a : Addr} : Owns (lendE env1 L) σ1 j a ↔ Owns env1 σ1 j a := by
  constructor
  · rintro ⟨d, k, q1, q2, q3⟩
    obtain ⟨k0, e0, hk, _⟩ := lend_kind q1
    exact ⟨d, k0, e0, fun z => q2 (hk.mp z), q3⟩
  · rintro ⟨d, k, q1, q2, q3⟩
    by_cases hj : j ∈ L
    · exact ⟨d, .ln, ((lendE_get env1 L j).2 hj).1 d k q1 q2, by decide, q3⟩
    · exact ⟨d, k, by rw [(lendE_get env1 L j).1 hj]; exact q1, q2, q3⟩
theorem lend_ownd {a : Addr} : Ownd (lendE env1 L) σ1 a ↔ Ownd env1 σ1 a := ⟨fun ⟨j, h⟩ => ⟨j, lend_owns.mp h⟩, fun ⟨j, h⟩ => ⟨j, lend_owns.mpr h⟩⟩
theorem lend_av {a : Addr} : Av T (lendE env1 L) σ1 a ↔ Av T env1 σ1 a := or_congr Iff.rfl lend_ownd
theorem SlotOk.kind {H : Hp} {A : Addr → Prop} {d : PyData} {k k' : Own} {v : V} (h : SlotOk W H A d k v) (e : k = .sh ↔ k' = .sh) : SlotOk W H A d k' v := by
  cases k <;> cases k' <;> first | exact h | (exfalso; have := e.mp rfl; cases this) | (exfalso; have := e.mpr rfl; cases this)
theorem SlotOk.less {H : Hp} {A A' : Addr → Prop} {d : PyData} {k : Own} {v : V} (h : SlotOk W H A d k v) (i : ∀ a, A' a → A a) : SlotOk W H A' d k v := h.tr ⟨fun _ _ _ e => e, fun a n _ q => n (i a q)⟩ fun _ _ _ _ e => e
theorem lend_rel (R : Rel W T env1 σ1 H1) : Rel W T (lendE env1 L) σ1 H1 :=
  ⟨by rw [lendE_len]; exact R.len, fun j d k q => by
    obtain ⟨k0, e0, hk, _⟩ := lend_kind q
    obtain ⟨v, e1, so⟩ := R.slot j d k0 e0
    exact ⟨v, e1, (so.kind hk).less fun a z => lend_av.mp z⟩, fun i j a h1 h2 => R.inj i j a (lend_owns.mp h1) (lend_owns.mp h2), fun a t => ⟨fun z => (R.prot a t).1 (lend_ownd.mp z), (R.prot a t).2⟩⟩
/-- given back -/
theorem unlend_ok (hL : ∀ j ∈ L, ∃ d k, env1[j]? = some (some (d, k)) ∧ k ≠ .sh) (S : Step (lendE env1 L) σ1 H1 env2 σ2 H2) (R2 : Rel W T2 env2 σ2 H2) :
    Step env1 σ1 H1 (backE env1 env2 L) σ2 H2 ∧ Rel W T2 (backE env1 env2 L) σ2 H2 ∧ (∀ j a, Owns (backE env1 env2 L) σ2 j a ↔ Owns env2 σ2 j a) := by
  -- a lent slot is still there
  have stay : ∀ j ∈ L, ∃ d k, env1[j]? = some (some (d, k)) ∧ k ≠ .sh ∧ env2[j]? = some (some (d, .ln)) ∧ σ2[j]? = σ1[j]? ∧ (backE env1 env2 L)[j]? = some (some (d, k)) := fun j hj => by
    obtain ⟨d, k, e, hk⟩ := hL j hj
    obtain ⟨d', e2, s2, l2⟩ := S.fix j d .ln (.inr rfl) (((lendE_get env1 L j).2 hj).1 d k e hk)
    have := l2 rfl
    subst this
    refine ⟨d', k, e, hk, e2, s2, ?_⟩
    rw [(backE_get env1 env2 L j).2 hj (List.getElem?_eq_some_iff.mp e2).1, e]
    rfl
  have own : ∀ j a, Owns (backE env1 env2 L) σ2 j a ↔ Owns env2 σ2 j a := fun j a => by
    by_cases hj : j ∈ L
    · obtain ⟨d, k, e, hk, e2, s2, eb⟩ := stay j hj
      constructor
      · rintro ⟨d', k', q1, q2, q3⟩
        exact ⟨d, .ln, e2, by decide, q3⟩
      · rintro ⟨d', k', q1, q2, q3⟩
        exact ⟨d, k, eb, hk, q3⟩
    · constructor
      · rintro ⟨d', k', q1, q2, q3⟩
        rw [(backE_get env1 env2 L j).1 hj] at q1
        exact ⟨d', k', q1, q2, q3⟩
      · rintro ⟨d', k', q1, q2, q3⟩
        exact ⟨d', k', by rw [(backE_get env1 env2 L j).1 hj]; exact q1, q2, q3⟩
  have ownd : ∀ a, Ownd (backE env1 env2 L) σ2 a ↔ Ownd env2 σ2 a := fun a => ⟨fun ⟨j, h⟩ => ⟨j, (own j a).mp h⟩, fun ⟨j, h⟩ => ⟨j, (own j a).mpr h⟩⟩
  refine ⟨⟨fun a o e n => S.keep a o e fun z => n (lend_ownd.mp z), fun a z => (S.own a ((ownd a).mp z)).imp lend_ownd.mp id, S.dom, fun j d k hk e => ?_, fun j d a o e es eo => S.lnk j d a o (by
    by_cases hj : j ∈ L
    · exact ((lendE_get env1 L j).2 hj).1 d .ln e (by decide)
    · rw [(lendE_get env1 L j).1 hj]; exact e) es eo⟩, ⟨by rw [backE_len]; exact R2.len, fun j d k q => ?_, fun i j a h1 h2 => R2.inj i j a ((own i a).mp h1) ((own j a).mp h2), fun a t => ⟨fun z => (R2.prot a t).1 ((ownd a).mp z), (R2.prot a t).2⟩⟩, own⟩
  · by_cases hj : j ∈ L
    · obtain ⟨d', k', e', _, _, s2, eb⟩ := stay j hj
      rw [e] at e'
      cases e'
      exact ⟨d, eb, s2, fun _ => rfl⟩
    · obtain ⟨d', e', s', l'⟩ := S.fix j d k hk (by rw [(lendE_get env1 L j).1 hj]; exact e)
      exact ⟨d', by rw [(backE_get env1 env2 L j).1 hj]; exact e', s', l'⟩
  · by_cases hj : j ∈ L
    · obtain ⟨d', k', e', hk', e2, s2, eb⟩ := stay j hj
      rw [eb] at q
      cases q
      obtain ⟨v, ev, so⟩ := R2.slot j d .ln e2
      exact ⟨v, ev, (so.kind ⟨fun z => (by cases z), fun z => absurd z hk'⟩).less fun a z => z.imp id (ownd a).mp⟩
    · rw [(backE_get env1 env2 L j).1 hj] at q
      obtain ⟨v, ev, so⟩ := R2.slot j d k q
      exact ⟨v, ev, so.less fun a z => z.imp id (ownd a).mp⟩
end
/-! ### a comprehension's own slots -/
section
variable {W : Wd} {T T2 : Addr → Prop} {e0 env2 : Env} {σ : St} {H1 H2 : Hp} {vs : List Nat}
/-- what the hidden slots own -/
def hid (e0 : Env) (σ : St) (vs : List Nat) : Addr → Prop := fun a => ∃ i, i ∈ vs ∧ Owns e0 σ i a
theorem wipe_owns {j : Nat} {a : Addr} (h : Owns (wipeE e0 vs) (wipe σ vs) j a) : j ∉ vs ∧ Owns e0 σ j a := by
  obtain ⟨d, k, q1, q2, q3⟩ := h
  by_cases hj : j ∈ vs
  · exact absurd q1 ((wipeE_get e0 vs j).2 hj _)
  · rw [(wipeE_get e0 vs j).1 hj] at q1
    rw [wipe_get σ vs j hj] at q3
    exact ⟨hj, d, k, q1, q2, q3⟩
theorem wipe_rel (R : Rel W T e0 σ H1) : Rel W (fun a => T a ∨ hid e0 σ vs a) (wipeE e0 vs) (wipe σ vs) H1 := by
  have less : ∀ a, Av (fun a => T a ∨ hid e0 σ vs a) (wipeE e0 vs) (wipe σ vs) a → Av T e0 σ a := fun a z => by
    rcases z with (z | ⟨i, _, z⟩) | ⟨j, z⟩
    · exact .inl z
    · exact .inr ⟨i, z⟩
    · exact .inr ⟨j, (wipe_owns z).2⟩
  refine ⟨by rw [wipeE_len, wipe_length]; exact R.len, fun j d k q => ?_, fun i j a h1 h2 => R.inj i j a (wipe_owns h1).2 (wipe_owns h2).2, fun a t => ⟨fun ⟨j, z⟩ => ?_, ?_⟩⟩
  · by_cases hj : j ∈ vs
    · exact absurd q ((wipeE_get e0 vs j).2 hj _)
    · rw [(wipeE_get e0 vs j).1 hj] at q
      obtain ⟨v, ev, so⟩ := R.slot j d k q
      exact ⟨v, by rw [wipe_get σ vs j hj]; exact ev, so.less less⟩
  · obtain ⟨nj, oj⟩ := wipe_owns z
    rcases t with t | ⟨i, hi, oi⟩
    · exact (R.prot a t).1 ⟨j, oj⟩
    · have := R.inj i j a oi oj
      subst this
      exact nj hi
  · rcases t with t | ⟨i, hi, oi⟩
    · exact (R.prot a t).2
    · exact R.av (.inr ⟨i, oi⟩)
/-- the block is left -/
theorem unwipe_ok (R : Rel W T e0 σ H1) (S : Step (wipeE e0 vs) (wipe σ vs) H1 env2 (wipe σ vs) H2) (hT : ∀ a, T2 a → T a ∨ H1 a = none) (hn : ∀ a, T2 a → H2 a ≠ none) (R2 : Rel W (fun a => T2 a ∨ hid e0 σ vs a) env2 (wipe σ vs) H2) :
    Step e0 σ H1 (backE e0 env2 vs) σ H2 ∧ Rel W T2 (backE e0 env2 vs) σ H2 ∧ ∀ a, Av T2 (backE e0 env2 vs) σ a → Av (fun a => T2 a ∨ hid e0 σ vs a) env2 (wipe σ vs) a := by
  have len : env2.length = e0.length := by
    have h1 := R2.len
    rw [wipe_length] at h1
    rw [h1]
    exact R.len.symm
  have back : ∀ {j : Nat}, j ∈ vs → ∀ {x}, (backE e0 env2 vs)[j]? = some (some x) → e0[j]? = some (some x) := fun {j} hj {x} q => by
    have hl : j < env2.length := by
      have := (List.getElem?_eq_some_iff.mp q).1
      rw [backE_len] at this
      exact this
    rw [(backE_get e0 env2 vs j).2 hj hl] at q
    cases e : e0[j]? with
    | none => rw [e] at q; cases q
    | some o => rw [e] at q; cases q; rfl
  have own : ∀ {j : Nat} {a : Addr}, Owns (backE e0 env2 vs) σ j a → (j ∈ vs ∧ Owns e0 σ j a) ∨ (j ∉ vs ∧ Owns env2 (wipe σ vs) j a) := fun {j a} ⟨d, k, q1, q2, q3⟩ => by
    by_cases hj : j ∈ vs
    · exact .inl ⟨hj, d, k, back hj q1, q2, q3⟩
    · rw [(backE_get e0 env2 vs j).1 hj] at q1
      exact .inr ⟨hj, d, k, q1, q2, by rw [wipe_get σ vs j hj]; exact q3⟩
  have less : ∀ a, Av T2 (backE e0 env2 vs) σ a → Av (fun a => T2 a ∨ hid e0 σ vs a) env2 (wipe σ vs) a := fun a z => by
    rcases z with z | ⟨j, z⟩
    · exact .inl (.inl z)
    · rcases own z with ⟨hj, oj⟩ | ⟨_, oj⟩
      · exact .inl (.inr ⟨j, hj, oj⟩)
      · exact .inr ⟨j, oj⟩
  have sown : ∀ a, Ownd (backE e0 env2 vs) σ a → Ownd e0 σ a ∨ H1 a = none := fun a ⟨j, z⟩ => by
    rcases own z with ⟨_, oj⟩ | ⟨_, oj⟩
    · exact .inl ⟨j, oj⟩
    · rcases S.own a ⟨j, oj⟩ with ⟨i, y⟩ | y
      · exact .inl ⟨i, (wipe_owns y).2⟩
      · exact .inr y
  have keep : ∀ a o, H1 a = some o → ¬ Ownd e0 σ a → H2 a = some o := fun a o e n => S.keep a o e fun ⟨j, z⟩ => n ⟨j, (wipe_owns z).2⟩
  refine ⟨⟨keep, sown, S.dom, fun j d k hk e => ?_, fun j d a o e es eo => by
    by_cases hj : j ∈ vs
    · refine S.keep a o eo fun ⟨j', z⟩ => ?_
      obtain ⟨nj, oj⟩ := wipe_owns z
      have := R.inj j j' a ⟨d, .ln, e, by decide, es⟩ oj
      subst this
      exact nj hj
    · exact S.lnk j d a o (by rw [(wipeE_get e0 vs j).1 hj]; exact e) (by rw [wipe_get σ vs j hj]; exact es) eo⟩, ⟨by rw [backE_len, len]; exact R.len, fun j d k q => ?_, fun i j a h1 h2 => ?_, fun a t => ⟨fun ⟨j, z⟩ => ?_, hn a t⟩⟩, less⟩
  · by_cases hj : j ∈ vs
    · refine ⟨d, ?_, rfl, fun _ => rfl⟩
      rw [(backE_get e0 env2 vs j).2 hj (by rw [len]; exact (List.getElem?_eq_some_iff.mp e).1), e]
      rfl
    · obtain ⟨d', e', _, l'⟩ := S.fix j d k hk (by rw [(wipeE_get e0 vs j).1 hj]; exact e)
      exact ⟨d', by rw [(backE_get e0 env2 vs j).1 hj]; exact e', rfl, l'⟩
  · by_cases hj : j ∈ vs
    · have q' := back hj q
      obtain ⟨v, ev, so⟩ := R.slot j d k q'
      refine ⟨v, ev, so.tr ⟨fun a o n e => keep a o e fun z => n (.inr z), fun a n e z => ?_⟩ fun a ea nk o e => S.keep a o e fun ⟨j', z⟩ => ?_⟩
      · rcases z with z | z
        · rcases hT a z with y | y
          · exact n (.inl y)
          · exact e y
        · rcases sown a z with y | y
          · exact n (.inr y)
          · exact e y
      · obtain ⟨nj, oj⟩ := wipe_owns z
        subst ea
        have := R.inj j j' a ⟨d, k, q', nk, ev⟩ oj
        subst this
        exact nj hj
    · rw [(backE_get e0 env2 vs j).1 hj] at q
      obtain ⟨v, ev, so⟩ := R2.slot j d k q
      rw [wipe_get σ vs j hj] at ev
      exact ⟨v, ev, so.less less⟩
  · rcases own h1 with ⟨i1, o1⟩ | ⟨n1, o1⟩
    · rcases own h2 with ⟨i2, o2⟩ | ⟨n2, o2⟩
      · exact R.inj i j a o1 o2
      · exact absurd ⟨j, o2⟩ (R2.prot a (.inr ⟨i, i1, o1⟩)).1
    · rcases own h2 with ⟨i2, o2⟩ | ⟨n2, o2⟩
      · exact absurd ⟨i, o1⟩ (R2.prot a (.inr ⟨j, i2, o2⟩)).1
      · exact R2.inj i j a o1 o2
  · rcases own z with ⟨i1, o1⟩ | ⟨n1, o1⟩
    · rcases hT a t with y | y
      · exact (R.prot a y).1 ⟨j, o1⟩
      · exact R.av (.inr ⟨j, o1⟩) y
    · exact (R2.prot a (.inl t)).1 ⟨j, o1⟩
end
end M
namespace M
open PySem L2 PyProof.Rows
/-! ### what a loop walks stays -/
section
variable {W : Wd} {T T' : Addr → Prop} {env env' : Env} {σ σ' : St} {H H' : Hp}
theorem norm_rd : ∀ {ws : List EV} {ds : List PyData}, rdAll env ws = .ok ds → rdAll env (ws.map (normW env)) = .ok ds := fun {ws ds} h => by
  have one : ∀ w, rdv env (normW env w) = rdv env w := fun w => by
    cases w with
    | va d fr => rfl
    | sl i =>
      simp only [normW]
      split
      · rename_i d q
        simp only [rdv, q]
      · rfl
  have all : ∀ ws, rdAll env (ws.map (normW env)) = rdAll env ws := fun ws => by
    induction ws with
    | nil => rfl
    | cons w r ih =>
      show rdAll env (normW env w :: r.map (normW env)) = _
      unfold rdAll
      rw [one, ih]
  rw [all, h]
theorem norm_hold (R : Rel W T env σ H) : ∀ {ws : List EV} {vs : List V}, HoldL W T env σ H ws vs → HoldL W T env σ H (ws.map (normW env)) vs
  | [], _, h => h
  | w :: ws, _, h => by
    obtain ⟨v, r, rfl, h1, h2⟩ := h
    refine ⟨v, r, rfl, ?_, norm_hold R h2⟩
    cases w with
    | va d fr => exact h1
    | sl i =>
      simp only [normW]
      split
      · rename_i d q
        obtain ⟨v', e, so⟩ := R.slot i d .sh q
        have h1 : σ[i]? = some (some v) := h1
        rw [h1] at e
        cases e
        exact so
      · exact h1
theorem slots_mem : ∀ {ws : List EV} {i : Nat}, EV.sl i ∈ ws ↔ i ∈ slots ws
  | [], i => by simp [slots]
  | .va d fr :: ws, i => by
    rw [List.mem_cons]
    show _ ↔ i ∈ slots ws
    rw [← slots_mem (ws := ws)]
    constructor
    · rintro (h | h)
      · cases h
      · exact h
    · exact .inr
  | .sl j :: ws, i => by
    rw [List.mem_cons]
    show _ ↔ i ∈ j :: slots ws
    rw [List.mem_cons, ← slots_mem (ws := ws)]
    constructor
    · rintro (h | h)
      · cases h; exact .inl rfl
      · exact .inr h
    · rintro (h | h)
      · subst h; exact .inl rfl
      · exact .inr h
theorem rd_slots : ∀ {ws : List EV} {ds : List PyData}, rdAll env ws = .ok ds → ∀ i ∈ slots ws, ∃ d k, env[i]? = some (some (d, k))
  | [], _, _, i, hi => by cases hi
  | w :: ws, ds, h, i, hi => by
    unfold rdAll at h
    cases e1 : rdv env w with
    | ok d =>
      simp only [bind, M.R.bind, e1] at h
      cases e2 : rdAll env ws with
      | ok es =>
        cases w with
        | va d' fr => exact rd_slots e2 i hi
        | sl j =>
          rcases List.mem_cons.mp (show i ∈ j :: slots ws from hi) with z | z
          · subst z
            simp only [rdv] at e1
            split at e1
            · rename_i d' k q; exact ⟨d', k, q⟩
            · cases e1
          · exact rd_slots e2 i z
      | exc x => simp only [e2] at h; cases h
      | stuck => simp only [e2] at h; cases h
    | exc x => simp only [bind, M.R.bind, e1] at h; cases h
    | stuck => simp only [bind, M.R.bind, e1] at h; cases h
theorem rd_same : ∀ {ws : List EV} {ds : List PyData}, rdAll env ws = .ok ds → (∀ i ∈ slots ws, ∀ d k, env[i]? = some (some (d, k)) → ∃ k', env'[i]? = some (some (d, k'))) → rdAll env' ws = .ok ds
  | [], _, h, _ => h
  | w :: ws, ds, h, hs => by
    unfold rdAll at h ⊢
    cases e1 : rdv env w with
    | ok d =>
      simp only [bind, M.R.bind, e1] at h
      cases e2 : rdAll env ws with
      | ok es =>
        simp only [e2] at h
        cases h
        have t1 : rdv env' w = .ok d := by
          cases w with
          | va d' fr => exact e1
          | sl j =>
            simp only [rdv] at e1
            split at e1
            · rename_i d' k q
              cases e1
              obtain ⟨k', q'⟩ := hs j (List.mem_cons_self) d k q
              simp only [rdv, q']
            · cases e1
        have t2 : rdAll env' ws = .ok es := rd_same e2 fun i hi => hs i (by cases w with | va _ _ => exact hi | sl j => exact List.mem_cons_of_mem _ hi)
        simp only [bind, M.R.bind, t1, t2]
      | exc x => simp only [e2] at h; cases h
      | stuck => simp only [e2] at h; cases h
    | exc x => simp only [bind, M.R.bind, e1] at h; cases h
    | stuck => simp only [bind, M.R.bind, e1] at h; cases h
theorem HoldL.tr (t : Tr H H' (Av T env σ) (Av T' env' σ')) : ∀ {ws : List EV} {vs : List V}, HoldL W T env σ H ws vs → (∀ i ∈ slots ws, σ'[i]? = σ[i]?) → HoldL W T' env' σ' H' ws vs
  | [], _, h, _ => h
  | w :: ws, _, h, hs => by
    obtain ⟨v, r, rfl, h1, h2⟩ := h
    refine ⟨v, r, rfl, ?_, HoldL.tr t h2 fun i hi => hs i (by cases w with | va _ _ => exact hi | sl j => exact List.mem_cons_of_mem _ hi)⟩
    cases w with
    | va d fr => exact Rep.tr t (show Rep W H (Av T env σ) d v from h1)
    | sl j => exact (hs j List.mem_cons_self).trans h1
theorem hold_get : ∀ {ws : List EV} {vs : List V} {ds : List PyData} {j : Nat} {d : PyData} {v : V}, rdAll env ws = .ok ds → HoldL W T env σ H ws vs → ds[j]? = some d → vs[j]? = some v → ∃ w, w ∈ ws ∧ rdv env w = .ok d ∧ HoldS W T env σ H w v
  | [], _, ds, j, d, v, e, h, hd, _ => by cases e; simp at hd
  | w :: ws, _, ds, j, d, v, e, h, hd, hv => by
    obtain ⟨v0, r, rfl, h1, h2⟩ := h
    unfold rdAll at e
    cases e1 : rdv env w with
    | ok d0 =>
      cases e2 : rdAll env ws with
      | ok es =>
        simp only [bind, M.R.bind, e1, e2] at e
        cases e
        cases j with
        | zero => cases hd; cases hv; exact ⟨w, List.mem_cons_self, e1, h1⟩
        | succ j =>
          obtain ⟨w', m, q1, q2⟩ := hold_get (j := j) e2 h2 hd hv
          exact ⟨w', List.mem_cons_of_mem _ m, q1, q2⟩
      | exc x => simp only [bind, M.R.bind, e1, e2] at e; cases e
      | stuck => simp only [bind, M.R.bind, e1, e2] at e; cases e
    | exc x => simp only [bind, M.R.bind, e1] at e; cases e
    | stuck => simp only [bind, M.R.bind, e1] at e; cases e
/-- the dicts that are walked stay through a step -/
theorem stay_step {H0 : Hp} {ws : List EV} {vs : List V} {ds : List PyData} (S : Step env σ H env' σ' H') (e : rdAll env ws = .ok ds) (h : HoldL W T env σ H ws vs) (hl : ∀ i ∈ slots ws, ∃ d, env[i]? = some (some (d, .ln))) (st : StayL H0 H ds vs) : StayL H0 H' ds vs := by
  intro j kvs b o hd ht hv h0
  have hb := st j kvs b o hd ht hv h0
  obtain ⟨w, m, q1, q2⟩ := hold_get e h hd hv
  cases w with
  | va d fr =>
    cases q1
    have q2 : Rep W H (Av T env σ) (.dict kvs) (.ref b) := q2
    obtain ⟨a, ea, hk | ⟨n, _⟩⟩ := q2.real (spK_tup ht)
    · have := W.dn a kvs hk
      rw [ht] at this
      cases this
    · cases ea
      exact S.keep b o hb fun q => n (.inr q)
  | sl i =>
    obtain ⟨d, ed⟩ := hl i (slots_mem.mp m)
    exact S.lnk i d b o ed q2 hb
theorem stay_refl {H0 : Hp} {vs : List V} {ds : List PyData} : StayL H0 H0 ds vs := fun _ _ _ _ _ _ _ h => h
theorem lent_own {ws : List EV} {ds : List PyData} (h : rdAll env ws = .ok ds) : ∀ i ∈ lent env ws, ∃ d k, env[i]? = some (some (d, k)) ∧ k ≠ .sh := fun i hi => by
  obtain ⟨d, k, e⟩ := rd_slots (norm_rd h) i hi
  refine ⟨d, k, e, fun z => ?_⟩
  subst z
  obtain ⟨w, hw, ew⟩ := List.mem_map.mp (slots_mem.mpr hi)
  cases w with
  | va d' fr => cases ew
  | sl j =>
    simp only [normW] at ew
    split at ew
    · cases ew
    · rename_i n
      cases ew
      exact n d e
theorem items_len {k : IK} {ds items : List PyData} {vs : List V} {A : Addr → Prop} (h : RbAll W H A ds vs) (e : itemsD k ds = some items) : items.length ≤ sizeLine := by
  have ll : ∀ {xs v}, Rb W H A (.list xs) v → xs.length ≤ sizeLine := fun {xs v} h => by
    obtain ⟨a, vs, _, _, z, r⟩ := h.list
    rw [← r.length]; exact z
  have lt : ∀ {xs v}, Rb W H A (.tuple xs) v → xs.length ≤ sizeLine := fun {xs v} h => by
    obtain ⟨a, vs, _, _, z, r⟩ := h.tuple
    rw [← r.length]; exact z
  have ld : ∀ {kvs v}, tupK kvs = true → Rb W H A (.dict kvs) v → kvs.length ≤ sizeLine := fun {kvs v} ht h => by
    obtain ⟨a, _, hk | ⟨_, _, _, g, _⟩⟩ := h.dict (spK_tup ht)
    · have := W.dn a kvs hk
      rw [ht] at this
      cases this
    · exact g.len
  cases k with
  | ex =>
    match ds, e, h with
    | [.list xs], e, h => cases e; obtain ⟨v, _, h⟩ := h.one; exact ll h
    | [.tuple xs], e, h => cases e; obtain ⟨v, _, h⟩ := h.one; exact lt h
    | [.dict kvs], e, h =>
      simp only [itemsD] at e
      split at e
      · rename_i ht
        cases e
        obtain ⟨v, _, h⟩ := h.one
        rw [List.length_map]
        exact ld ht h
      · cases e
  | it =>
    match ds, e, h with
    | [.dict kvs], e, h =>
      simp only [itemsD] at e
      split at e
      · rename_i ht
        cases e
        obtain ⟨v, _, h⟩ := h.one
        rw [List.length_map]
        exact ld ht h
      · cases e
  | r1 =>
    match ds, e, h with
    | [.int n], e, h =>
      simp only [itemsD] at e
      split at e
      · rename_i hz
        cases e
        rw [List.length_map, List.length_range, sizeLine_eq]
        have := (rgB_iff n).mp hz
        omega
      · cases e
  | r2 =>
    match ds, e, h with
    | [.int n, .int m], e, h =>
      simp only [itemsD] at e
      split at e
      · rename_i hz
        cases e
        rw [List.length_map, List.length_range, sizeLine_eq]
        have := (rsB_iff n).mp hz.1
        have := (rsB_iff m).mp hz.2
        omega
      · cases e
  | en =>
    match ds, e, h with
    | [.list xs], e, h => cases e; obtain ⟨v, _, h⟩ := h.one; rw [List.length_map, List.length_zipIdx]; exact ll h
    | [.tuple xs], e, h => cases e; obtain ⟨v, _, h⟩ := h.one; rw [List.length_map, List.length_zipIdx]; exact lt h
  | zp =>
    match ds, e, h with
    | [.list xs, .list ys], e, h => cases e; obtain ⟨v, w, _, h, _⟩ := h.two; rw [List.length_zipWith]; have := ll h; omega
    | [.tuple xs, .tuple ys], e, h => cases e; obtain ⟨v, w, _, h, _⟩ := h.two; rw [List.length_zipWith]; have := lt h; omega
/-- something is written at a place kept apart -/
theorem Rel.updT {p : Addr} {o : HO} (R : Rel W T env σ H) (hp : T p) : Rel W T env σ (upd H p o) := by
  have np := (R.prot p hp).1
  refine ⟨R.len, fun i d k e => ?_, R.inj, fun a t => ⟨(R.prot a t).1, ?_⟩⟩
  · obtain ⟨v, e1, so⟩ := R.slot i d k e
    refine ⟨v, e1, so.tr ⟨fun a o n q => ?_, fun a n _ => n⟩ fun a ea nk o q => ?_⟩
    · rw [upd_ne (fun z => n (.inl (by rw [z]; exact hp)))]; exact q
    · rw [upd_ne (fun z => np ⟨i, d, k, e, nk, by rw [e1, ea, z]⟩)]; exact q
  · by_cases z : a = p
    · subst z; rw [upd_same]; simp
    · rw [upd_ne z]; exact (R.prot a t).2
theorem tr_updT {p : Addr} {o : HO} {A : Addr → Prop} (hp : A p) : Tr H (upd H p o) A A := ⟨fun a o n q => by rw [upd_ne (fun z => n (by rw [z]; exact hp))]; exact q, fun a n _ => n⟩
theorem Step.updNew {env0 : Env} {σ0 : St} {H0 : Hp} {p : Addr} {o : HO} (S : Step env0 σ0 H0 env σ H) (hp : H0 p = none) : Step env0 σ0 H0 env σ (upd H p o) :=
  ⟨fun a o e n => by rw [upd_ne (ne_of_none e hp)]; exact S.keep a o e n, S.own, fun a h => by
    by_cases z : a = p
    · subst z; exact absurd hp h
    · rw [upd_ne z]; exact S.dom a h, S.fix, fun i d a o e es eo => by rw [upd_ne (ne_of_none eo hp)]; exact S.lnk i d a o e es eo⟩
theorem wipe_only {vs : List Nat} {σ2 : St} (o : Only vs (wipe σ vs) σ2) : wipe σ2 vs = wipe σ vs := by
  have full : ∀ (σ : St) (L : List Nat) (j : Nat), j ∈ L → (wipe σ L)[j]? = if j < σ.length then some none else none := fun σ L j => by
    induction L with
    | nil => intro h; cases h
    | cons i L ih =>
      intro h
      show ((wipe σ L).set i none)[j]? = _
      by_cases hj : i = j
      · subst hj
        rw [List.getElem?_set]
        simp [wipe_length]
      · rw [List.getElem?_set_ne hj]
        rcases List.mem_cons.mp h with z | z
        · exact absurd z.symm hj
        · exact ih z
  apply List.ext_getElem?
  intro j
  by_cases hj : j ∈ vs
  · rw [full σ2 vs j hj, full σ vs j hj, o.len, wipe_length]
  · rw [wipe_get σ2 vs j hj, o.out j hj]
/-- a turn's end: the block's own slots are hidden again -/
theorem wipe_step {vs : List Nat} {σ2 : St} (hw : ∀ j ∈ vs, ∀ x, env[j]? ≠ some (some x)) (e2 : wipe σ2 vs = wipe σ vs) (S : Step env (wipe σ vs) H env' σ2 H') : Step env (wipe σ vs) H (wipeE env' vs) (wipe σ vs) H' := by
  refine ⟨S.keep, fun a ⟨j, z⟩ => ?_, S.dom, fun j d k hk e => ?_, S.lnk⟩
  · rw [← e2] at z
    exact S.own a ⟨j, (wipe_owns z).2⟩
  · have hj : j ∉ vs := fun h => hw j h _ e
    obtain ⟨d', e', s', l'⟩ := S.fix j d k hk e
    exact ⟨d', by rw [(wipeE_get env' vs j).1 hj]; exact e', rfl, l'⟩
end
/-! ### the tests of a comprehension -/
def tCs (C : CallT) (G : List PyData) (W : Wd) (Z : L2.WX) (cs : List ME) : TT := fun σ H Q => ∃ T env, Rel W T env σ H ∧ PostT W Z T env σ H (evC C G cs env) Q
theorem pts_M {X : Cx} {C : CallT} {G : List PyData} {W : Wd} {Z : L2.WX} {ifs : List Expr} {cs : List ME} (hl : ifs.length ≤ 1) (h : ∀ e m, ifs = [e] → cs = [m] → PT X e (tT C G W Z m)) (hc : cs.length = ifs.length) : PTs X ifs (tCs C G W Z cs) := by
  match ifs, cs, hl, hc with
  | [], [], _, _ =>
    refine ⟨fun pins s σ H Q I q => pts_nil.run pins s σ H Q I ?_⟩
    obtain ⟨T, env, rl, q⟩ := q
    simp only [evC] at q
    exact q H .refl rl
  | [e], [m], _, _ =>
    refine ⟨fun pins s σ H Q I q => (pts_one (h e m rfl rfl)).run pins s σ H Q I ?_⟩
    obtain ⟨T, env, rl, q⟩ := q
    refine ⟨T, env, rl, ?_⟩
    unfold evT
    simp only [evC] at q
    cases e1 : ev C G m env with
    | ok p =>
      simp only [bind, M.R.bind, e1] at q ⊢
      cases e2 : truW p.2 p.1 with
      | ok k =>
        simp only [e2] at q ⊢
        cases k with
        | true => exact q
        | false => exact q
      | exc x => simp only [e2] at q ⊢; exact q
      | stuck => simp only [e2] at q ⊢; exact q
    | exc x => simp only [bind, M.R.bind, e1] at q ⊢; exact q
    | stuck => simp only [bind, M.R.bind, e1] at q ⊢; exact q
/-- a turn of a comprehension -/
def lcTurn (C : CallT) (G : List PyData) (t : MT) (cs : List ME) (e : ME) (x : PyData) (env : Env) : RE (Option PyData × Env) := do
  let env ← R.ofO (bindT t x env)
  let (b, env) ← evC C G cs env
  if b = true then
    let (w, env) ← ev C G e env
    let (d, env) ← fzn env w
    .ok (some d, wipeE env t.vars)
  else .ok (none, wipeE env t.vars)
abbrev Z0 : L2.WX := fun _ _ _ _ => False
section
variable {C : CallT} {G : List PyData} {W : Wd} {T : Addr → Prop} {env env1 : Env} {σ : St} {H : Hp} {t : MT} {cs : List ME} {e : ME} {d : PyData} {x : V} {D : Addr} {o : Option PyData}
theorem turn_ok (rl : Rel W T env (wipe σ t.vars) H) (hw : ∀ j ∈ t.vars, ∀ y, env[j]? ≠ some (some y)) (hr : Rep W H (Av T env (wipe σ t.vars)) d x) (hf : lcTurn C G t cs e d env = .ok (o, env1)) {Nx : Hp → Prop} {accv : List V} (hD : T D) (hacc : H D = some (.lst accv)) (hz : accv.length < sizeLine)
    (q0 : o = none → ∀ H3, Step env (wipe σ t.vars) H env1 (wipe σ t.vars) H3 → Rel W T env1 (wipe σ t.vars) H3 → Nx H3)
    (q1 : ∀ g, o = some g → ∀ H4 y, Step env (wipe σ t.vars) H env1 (wipe σ t.vars) H4 → Rel W T env1 (wipe σ t.vars) H4 → ndD g → Rep W H4 (Av T env1 (wipe σ t.vars)) g y → Nx (upd H4 D (.lst (accv ++ [y])))) :
    gOf W.K t x (wipe σ t.vars) H fun σ2 H2 => wipe σ2 t.vars = wipe σ t.vars ∧ tCs C G W Z0 cs σ2 H2 fun b H3 => if b = true then tE C G W Z0 e σ2 H3 fun y H4 => ∃ acc, H4 D = some (.lst acc) ∧ acc.length < sizeLine ∧ Nx (upd H4 D (.lst (acc ++ [y]))) else Nx H3 := by
  unfold lcTurn at hf
  cases e1 : bindT t d env with
  | none => simp only [bind, M.R.bind, M.R.ofO, e1] at hf; cases hf
  | some envb =>
    simp only [bind, M.R.bind, M.R.ofO, e1] at hf
    refine bindT_ok rl hr e1 fun σ2 S1 R1 o1 => ?_
    have ew := wipe_only o1
    refine ⟨ew, T, envb, R1, ?_⟩
    have wr : ∀ {E : Env} {H' : Hp}, Rel W T E σ2 H' → Rel W T (wipeE E t.vars) (wipe σ t.vars) H' := fun {E H'} r => by
      have := wipe_rel (vs := t.vars) r
      rw [ew] at this
      exact this.less fun a z => .inl z
    have wl : ∀ {E : Env} (a : Addr), Av T (wipeE E t.vars) (wipe σ t.vars) a → Av T E σ2 a := fun {E} a z => by
      rcases z with z | ⟨j, z⟩
      · exact .inl z
      · rw [← ew] at z
        exact .inr ⟨j, (wipe_owns z).2⟩
    cases e2 : evC C G cs envb with
    | ok p =>
      obtain ⟨b, envc⟩ := p
      simp only [e2] at hf
      intro H3 S2 R2
      cases b with
      | false =>
        simp only [Bool.false_eq_true, if_false] at hf ⊢
        cases hf
        exact q0 rfl H3 (wipe_step hw ew (S1.trans S2)) (wr R2)
      | true =>
        simp only [if_true] at hf ⊢
        refine ⟨T, envc, R2, ?_⟩
        cases e3 : ev C G e envc with
        | ok p =>
          obtain ⟨w, enve⟩ := p
          simp only [e3] at hf
          cases e4 : fzn enve w with
          | ok p =>
            obtain ⟨g, envf⟩ := p
            simp only [e4] at hf
            cases hf
            intro y H4 S3 R3 V3
            obtain ⟨e5, n5⟩ := fzn_ok e4
            obtain ⟨S4, R4, r4⟩ := fz_ok R3 V3 e5
            have S := ((S1.trans S2).trans S3).trans S4
            refine ⟨accv, ?_, hz, q1 g rfl H4 y (wipe_step hw ew S) (wr R4) n5 (Rep.less r4 wl)⟩
            exact S.keep D _ hacc (rl.prot D hD).1
          | exc x => simp only [e4] at hf; cases hf
          | stuck => simp only [e4] at hf; cases hf
        | exc x => simp only [e3] at hf; cases hf
        | stuck => simp only [e3] at hf; cases hf
    | exc x => simp only [e2] at hf; cases hf
    | stuck => simp only [e2] at hf; cases hf
end
end M
namespace M
open PySem L2 PyProof.Rows
section
variable {C : CallT} {G : List PyData} {W : Wd} {Z : L2.WX} {t : MT} {kk : IK} {src cs : List ME} {m : ME}
theorem ev_lc (env : Env) : ev C G (.lc t kk src cs m) env = (evE C G src env >>= fun p => rdAll p.2 p.1 >>= fun ds => M.R.ofO (itemsD kk ds) >>= fun items =>
    if (lent p.2 p.1).any (fun i => t.vars.contains i) = true then .stuck else
    match lcLoop (lcTurn C G t cs m) items (wipeE (lendE p.2 (lent p.2 p.1)) t.vars) with
    | .ok q => .ok (.va (.list q.1) true, backE p.2 (backE (lendE p.2 (lent p.2 p.1)) q.2 t.vars) (lent p.2 p.1))
    | .exc _ => .stuck
    | .stuck => .stuck) := by
  simp only [ev]
  rfl
theorem lcLoop_cons {f : PyData → Env → RE (Option PyData × Env)} {x : PyData} {r : List PyData} {env : Env} {q : List PyData × Env} (h : lcLoop f (x :: r) env = .ok q) : ∃ o env1 ds, f x env = .ok (o, env1) ∧ lcLoop f r env1 = .ok (ds, q.2) ∧ q.1 = o.toList ++ ds := by
  simp only [lcLoop] at h
  split at h
  · rename_i o env1 e1
    split at h
    · rename_i ds env2 e2
      cases h
      exact ⟨o, env1, ds, e1, e2, rfl⟩
    · cases h
    · cases h
  · cases h
  · cases h
theorem lc_read {σ : St} {H : Hp} {Q : VK} (h : tE C G W Z (.lc t kk src cs m) σ H Q) : tLc (iM C G W Z kk src) (gOf W.K t) (tCs C G W Z0 cs) (tE C G W Z0 m) t.vars σ H Q := by
  obtain ⟨T, env, rl, h⟩ := h
  rw [ev_lc] at h
  refine ⟨T, env, rl, ?_⟩
  cases e1 : evE C G src env with
  | exc x => rw [e1] at h; exact h
  | stuck => rw [e1] at h; exact h
  | ok p =>
    obtain ⟨ws, env1⟩ := p
    rw [e1] at h
    have h : PostE W Z T env σ H (rdAll env1 ws >>= fun ds => M.R.ofO (itemsD kk ds) >>= fun items =>
      if (lent env1 ws).any (fun i => t.vars.contains i) = true then .stuck else
      match lcLoop (lcTurn C G t cs m) items (wipeE (lendE env1 (lent env1 ws)) t.vars) with
      | .ok q => .ok (.va (.list q.1) true, backE env1 (backE (lendE env1 (lent env1 ws)) q.2 t.vars) (lent env1 ws))
      | .exc _ => .stuck
      | .stuck => .stuck) Q := h
    obtain ⟨ds, e2, h⟩ := post_rdAll (P := fun r => PostE W Z T env σ H r Q) h id
    obtain ⟨items, e3, h⟩ := post_of (P := fun r => PostE W Z T env σ H r Q) h id
    intro vals H1 S R1 hl
    have S : Step env σ H env1 σ H1 := S
    have R1 : Rel W T env1 σ H1 := R1
    have hl : HoldL W T env1 σ H1 ws vals := hl
    have hrb := hl.rd R1 e2
    refine ⟨Av T env1 σ, ds, items, avOk R1, hrb, e3, fun J wk D hD => ?_⟩
    generalize hL : lent env1 ws = L at h
    split at h
    · exact h.elim
    · rename_i hbad
      -- the lent slots are none of the block's own
      have apart : ∀ i ∈ L, i ∉ t.vars := fun i hi hv => hbad (List.any_eq_true.mpr ⟨i, hi, by simpa using hv⟩)
      split at h
      · rename_i q eq
        have h : PostE W Z T env σ H (.ok (.va (.list q.1) true, backE env1 (backE (lendE env1 L) q.2 t.vars) L)) Q := h
        have hown : ∀ j ∈ L, ∃ d k, env1[j]? = some (some (d, k)) ∧ k ≠ .sh := by rw [← hL]; exact lent_own e2
        have R0 : Rel W T (lendE env1 L) σ H1 := lend_rel R1
        -- inside
        let Tin : Addr → Prop := fun a => (T a ∨ a = D) ∨ hid (lendE env1 L) σ t.vars a
        have hHD : Same H1 (upd H1 D (.lst [])) := same_upd hD
        have Rin : Rel W Tin (wipeE (lendE env1 L) t.vars) (wipe σ t.vars) (upd H1 D (.lst [])) := by
          have r := (wipe_rel (vs := t.vars) R0).more (p := D) hHD hD (by rw [upd_same]; simp)
          refine r.less fun a z => ?_
          rcases z with (z | z) | z
          · exact .inl (.inl z)
          · exact .inr z
          · exact .inl (.inr z)
        have avin : ∀ a, Av Tin (wipeE (lendE env1 L) t.vars) (wipe σ t.vars) a → Av T env1 σ a ∨ a = D := fun a z => by
          rcases z with ((z | z) | ⟨i, _, z⟩) | ⟨j, z⟩
          · exact .inl (.inl z)
          · exact .inr z
          · exact .inl (.inr ⟨i, lend_owns.mp z⟩)
          · exact .inl (.inr ⟨j, lend_owns.mp (wipe_owns z).2⟩)
        have wsE : slots (ws.map (normW env1)) = L := hL
        have hl0 : HoldL W Tin (wipeE (lendE env1 L) t.vars) (wipe σ t.vars) (upd H1 D (.lst [])) (ws.map (normW env1)) vals := by
          refine HoldL.tr ⟨fun a o n e => hHD a o e, fun a n e z => ?_⟩ (norm_hold R1 hl) fun i hi => ?_
          · rcases avin a z with y | y
            · exact n y
            · rw [y] at e; exact e hD
          · rw [wsE] at hi
            exact wipe_get σ t.vars i (apart i hi)
        have rd0 : rdAll (wipeE (lendE env1 L) t.vars) (ws.map (normW env1)) = .ok ds := by
          refine rd_same (norm_rd e2) fun i hi d k e => ?_
          rw [wsE] at hi
          obtain ⟨d', k', e', nk⟩ := hown i hi
          rw [e] at e'
          cases e'
          refine ⟨.ln, ?_⟩
          rw [(wipeE_get _ t.vars i).1 (apart i hi)]
          exact ((lendE_get env1 L i).2 hi).1 d k e nk
        have ln0 : ∀ i ∈ L, ∃ d, (wipeE (lendE env1 L) t.vars)[i]? = some (some (d, .ln)) := fun i hi => by
          obtain ⟨d, k, e, nk⟩ := hown i hi
          refine ⟨d, ?_⟩
          rw [(wipeE_get _ t.vars i).1 (apart i hi)]
          exact ((lendE_get env1 L i).2 hi).1 d k e nk
        have hitems : items.length ≤ sizeLine := items_len hrb e3
        -- the invariant
        refine ⟨fun i n H' => n = items.length - i ∧ i ≤ items.length ∧ ∃ envi accd accv rest, Rel W Tin envi (wipe σ t.vars) H' ∧ Step (wipeE (lendE env1 L) t.vars) (wipe σ t.vars) H1 envi (wipe σ t.vars) H' ∧ (∀ j ∈ t.vars, ∀ y, envi[j]? ≠ some (some y)) ∧
          H' D = some (.lst accv) ∧ accv.length ≤ i ∧ RepAll W H' (Av Tin envi (wipe σ t.vars)) accd accv ∧ lcLoop (lcTurn C G t cs m) (items.drop i) envi = .ok (rest, q.2) ∧ q.1 = accd ++ rest ∧
          rdAll envi (ws.map (normW env1)) = .ok ds ∧ HoldL W Tin envi (wipe σ t.vars) H' (ws.map (normW env1)) vals ∧ StayL H1 H' ds vals ∧ (∀ i ∈ L, ∃ d, envi[i]? = some (some (d, .ln))), ⟨items.length, by simp, Nat.zero_le _, _, [], [], q.1, Rin, Step.same hHD, fun j hj y => (wipeE_get _ t.vars j).2 hj y, upd_same, Nat.le_refl _, by simp only [RepAll], by rw [List.drop_zero]; exact eq, rfl, rd0, hl0, fun j kvs b o _ _ _ h => hHD b o h, ln0⟩, ?_⟩
        rintro i n Hi ⟨rfl, hi, envi, accd, accv, rest, Ri, Si, wi, hDi, hai, hacc, hloop, hq, rdi, hli, sti, lni⟩
        have hrbi := hli.rd Ri rdi
        by_cases hlt : i < items.length
        · refine .inr ⟨wk.go i Hi _ hrbi sti hlt, fun H' => items.length - (i + 1) = items.length - (i + 1) ∧ i + 1 ≤ items.length ∧ ∃ envi accd accv rest, Rel W Tin envi (wipe σ t.vars) H' ∧ Step (wipeE (lendE env1 L) t.vars) (wipe σ t.vars) H1 envi (wipe σ t.vars) H' ∧ (∀ j ∈ t.vars, ∀ y, envi[j]? ≠ some (some y)) ∧
            H' D = some (.lst accv) ∧ accv.length ≤ i + 1 ∧ RepAll W H' (Av Tin envi (wipe σ t.vars)) accd accv ∧ lcLoop (lcTurn C G t cs m) (items.drop (i + 1)) envi = .ok (rest, q.2) ∧ q.1 = accd ++ rest ∧
            rdAll envi (ws.map (normW env1)) = .ok ds ∧ HoldL W Tin envi (wipe σ t.vars) H' (ws.map (normW env1)) vals ∧ StayL H1 H' ds vals ∧ (∀ i ∈ L, ∃ d, envi[i]? = some (some (d, .ln))), fun H' nx => ⟨items.length - (i + 1), by omega, nx⟩, fun x H' hy => ?_⟩
          have hgi : items[i]? = some items[i] := List.getElem?_eq_getElem hlt
          obtain ⟨sm, nd, rp⟩ := wk.yld i Hi _ x H' items[i] (avOk Ri) hrbi sti hgi hy
          rw [List.drop_eq_getElem_cons hlt] at hloop
          obtain ⟨o, env', ds', f1, f2, f3⟩ := lcLoop_cons hloop
          have f3 : rest = o.toList ++ ds' := f3
          have R' := Ri.same sm
          have S' : Step envi (wipe σ t.vars) Hi envi (wipe σ t.vars) H' := Step.same sm
          have hD' : H' D = some (.lst accv) := sm _ _ hDi
          have tinD : Tin D := .inl (.inr rfl)
          -- the sources behind a step
          have srcs : ∀ {E : Env} {H3 : Hp}, Step envi (wipe σ t.vars) H' E (wipe σ t.vars) H3 → rdAll E (ws.map (normW env1)) = .ok ds ∧ HoldL W Tin E (wipe σ t.vars) H3 (ws.map (normW env1)) vals ∧ StayL H1 H3 ds vals ∧ (∀ i ∈ L, ∃ d, E[i]? = some (some (d, .ln))) := fun {E H3} s => by
            refine ⟨rd_same rdi fun j hj d k e => ?_, HoldL.tr ((S'.trans s).tr (T := Tin) (T' := Tin) fun _ z => .inl z) hli fun _ _ => rfl, stay_step (S'.trans s) rdi hli (fun i hi => lni i (by rw [← wsE]; exact hi)) sti, fun i hi => ?_⟩
            rotate_left
            · obtain ⟨d1, e1⟩ := lni i hi
              obtain ⟨d2, e2', _, _⟩ := (S'.trans s).fix i d1 .ln (.inr rfl) e1
              exact ⟨d2, e2'⟩
            rw [wsE] at hj
            obtain ⟨d0, k0, e0, _⟩ := hown j hj
            obtain ⟨d1, e1⟩ := ln0 j hj
            obtain ⟨d2, e2', _, l2⟩ := Si.fix j d1 .ln (.inr rfl) e1
            obtain ⟨d3, e3', _, l3⟩ := (S'.trans s).fix j d2 .ln (.inr rfl) e2'
            rw [e2'] at e
            cases e
            have := l3 rfl
            subst this
            exact ⟨.ln, e3'⟩
          have hwipe : ∀ j ∈ t.vars, ∀ y, env'[j]? ≠ some (some y) := fun j hj y e => by
            -- a turn ends with a wipe
            unfold lcTurn at f1
            cases b1 : bindT t items[i] envi with
            | none => simp only [bind, M.R.bind, M.R.ofO, b1] at f1; cases f1
            | some envb =>
              simp only [bind, M.R.bind, M.R.ofO, b1] at f1
              cases b2 : evC C G cs envb with
              | ok p =>
                simp only [b2] at f1
                split at f1
                · cases b3 : ev C G m p.2 with
                  | ok p' =>
                    simp only [b3] at f1
                    cases b4 : fzn p'.2 p'.1 with
                    | ok p'' => simp only [b4] at f1; cases f1; exact (wipeE_get _ t.vars j).2 hj y e
                    | exc _ => simp only [b4] at f1; cases f1
                    | stuck => simp only [b4] at f1; cases f1
                  | exc _ => simp only [b3] at f1; cases f1
                  | stuck => simp only [b3] at f1; cases f1
                · cases f1; exact (wipeE_get _ t.vars j).2 hj y e
              | exc _ => simp only [b2] at f1; cases f1
              | stuck => simp only [b2] at f1; cases f1
          refine turn_ok R' wi rp f1 tinD hD' (by omega) (fun ho H3 s r => ?_) (fun g ho H4 y s r n rg => ?_)
          · subst ho
            obtain ⟨a1, a2, a3, a4⟩ := srcs s
            exact ⟨rfl, hlt, env', accd, accv, ds', r, Si.trans (S'.trans s), hwipe, s.keep D _ hD' (R'.prot D tinD).1, by omega, hacc.tr ((S'.trans s).tr (T := Tin) (T' := Tin) fun _ z => .inl z), f2, by rw [hq, f3]; rfl, a1, a2, a3, a4⟩
          · subst ho
            obtain ⟨a1, a2, a3, a4⟩ := srcs s
            have tu : Tr H4 (upd H4 D (.lst (accv ++ [y]))) (Av Tin env' (wipe σ t.vars)) (Av Tin env' (wipe σ t.vars)) := tr_updT (.inl tinD)
            refine ⟨rfl, hlt, env', accd ++ [g], accv ++ [y], ds', r.updT tinD, (Si.trans (S'.trans s)).updNew hD, hwipe, upd_same, by rw [List.length_append]; simp; omega, ?_, f2, by rw [hq, f3]; simp, a1, HoldL.tr tu a2 fun _ _ => rfl, fun j kvs b o e1 e2 e3 e4 => by rw [upd_ne (ne_of_none e4 hD)]; exact a3 j kvs b o e1 e2 e3 e4, a4⟩
            exact RepAll.append ((hacc.tr ((S'.trans s).tr (T := Tin) (T' := Tin) fun _ z => .inl z)).tr tu) (RepAll.one n (Rep.tr tu rg))
        · have hi' : i = items.length := by omega
          subst hi'
          refine .inl ⟨wk.stop _ Hi _ hrbi sti (Nat.le_refl _), ?_⟩
          rw [List.drop_length] at hloop
          simp only [lcLoop] at hloop
          cases hloop
          rw [List.append_nil] at hq
          -- back in the def
          obtain ⟨S2, R2, l2⟩ := unwipe_ok (T2 := fun a => T a ∨ a = D) R0 Si (fun a z => z.imp id fun y => by rw [y]; exact hD) (fun a z => by
            rcases z with z | z
            · exact Si.dom a (R0.prot a z).2
            · rw [z, hDi]; simp) Ri
          obtain ⟨S3, R3, o3⟩ := unlend_ok hown S2 R2
          have hHn : H D = none := by
            by_cases z : H D = none
            · exact z
            · exact absurd hD (S.dom D z)
          refine h (.ref D) Hi (S.trans S3) (R3.less fun a z => ?_) ⟨D, rfl, fun z => (R1.prot D z).2 hD, hHn, accv, hDi, by omega, ?_⟩
          · rcases z with z | z
            · exact .inl z
            · cases z; exact .inr rfl
          · rw [hq]
            refine hacc.tr ⟨fun _ _ _ e => e, fun a n _ z => n ?_⟩
            refine l2 a ?_
            rcases z with (z | ⟨j, z⟩) | z
            · exact .inl (.inl z)
            · exact .inr ⟨j, (o3 j a).mp z⟩
            · exact .inl (.inr z)
      · exact h.elim
      · exact h.elim
end
section
variable {nm : Nm} {C : CallT} {G : List PyData} {W : Wd} {k : Nat} {Z : L2.WX} {X : Cx} {elt tg iter : Expr} {ifs : List Expr} {scope : Scope} {own : List (Str × Nat)} {pos : Pos} {t : MT} {kk : IK} {src cs : List ME} {m : ME}
theorem pm_lc (g : Gd nm C G W k Z X) (hi : PI X tg iter (iM C G W Z kk src)) (ok : BlkOk X.N X.env.scope scope own) (ho : own.map (·.2) = t.vars)
    (hg : ∀ (s : Shared) (H : Hp) (c : Addr) (cl : List (Str × Addr)) (fp : List Addr), PG (X.blk s H scope (compEnvC scope cl c X.env) fp) tg (gOf W.K t))
    (ht : ∀ (s : Shared) (H : Hp) (c : Addr) (cl : List (Str × Addr)) (fp : List Addr), PTs (X.blk s H scope (compEnvC scope cl c X.env) fp) ifs (tCs C G W Z0 cs))
    (he : ∀ (s : Shared) (H : Hp) (c : Addr) (cl : List (Str × Addr)) (fp : List Addr), PE (X.blk s H scope (compEnvC scope cl c X.env) fp) elt (tE C G W Z0 m))
    (hs : ∀ x, foldedSetIterable iter X.env x = pure x) : PE X (.ListComp elt [⟨tg, iter, ifs, 0⟩] scope pos) (tE C G W Z (.lc t kk src cs m)) := by
  refine pe_imp (pe_lc g.calm g.nd hi ok hg ht he hs) fun σ H Q h => ?_
  rw [ho]
  exact lc_read h
end
end M
/-! M: dicts as expressions. -/
namespace M
open PySem L2 PyProof.Rows
section
variable {nm : Nm} {C : CallT} {G : List PyData} {W : Wd} {k : Nat} {Z : L2.WX} {X : Cx} {a b c e : Expr} {pos p : Pos} {ma mb mc m : ME}
theorem pm_bad (st : Expr) : PE X st (tE C G W Z .bad) := ⟨fun pins s σ H Q I h => by
  obtain ⟨T, env, _, h⟩ := h
  simp only [ev] at h
  exact h.elim⟩
theorem big_sm {pins : List (Addr × Obj)} {σ : St} {H : Hp} {s : Shared} (I : Inv X pins σ H s) : (s.heap.objs.size == sysModules) = false := by
  simp only [beq_eq_false_iff_ne]
  exact Nat.ne_of_gt I.big
theorem raw_new (h : Heap) : (h.push { cls := .type "dict", data := .dict #[] }).DictRaw h.objs.size ([] : List DictEntry).toArray 0 := ⟨_, Heap.get?_push_size _ rfl, ⟨rfl, rfl, rfl⟩, rfl⟩
theorem pm_dic0 : PE X (.Dict [] [] pos) (tE C G W Z .dic0) := ⟨fun pins s σ H Q I h => by
  obtain ⟨T, env, rl, h⟩ := h
  simp only [ev] at h
  have hn : H s.heap.objs.size = none := I.hok.fresh (Nat.le_refl _)
  refine wpAny_Dict_empty ⟨.ref s.heap.objs.size, _, I.laid (a := s.heap.objs.size) (o := DicO s.heap.objs.size [] 0) (t' := s.toks) (fun _ _ q => Heap.get?_push_of_some _ q) (Nat.le_refl _) (dicO_ok (raw_new s.heap)), rfl, ?_⟩
  exact PostE.op h rl .refl (same_upd hn) ⟨_, rfl, hn, [], 0, upd_same, dicG_new (big_sm I), by simp only [EntAll]⟩⟩
/-! ### get -/
theorem getD_inv {d k' e' g : PyData} (h : getD d k' e' = some g) : ∃ kvs, d = .dict kvs ∧ keyIn kvs k' = true ∧ tupK kvs = true ∧ g = (findD kvs k').getD e' := by
  cases d <;> simp only [getD, reduceCtorEq] at h
  split at h
  · rename_i z
    rw [Bool.and_eq_true] at z
    exact ⟨_, rfl, z.1, z.2, (Option.some.inj h).symm⟩
  · cases h
theorem dic_of {A : Addr → Prop} {kvs : List (PyData × PyData)} {x : V} {H : Hp} (hd : Rb W H A (.dict kvs) x) (ht : tupK kvs = true) : ∃ a, x = .ref a ∧ DicR W H A a kvs := by
  obtain ⟨a, e, hk | h⟩ := hd.dict (spK_tup ht)
  · have := W.dn a kvs hk
    rw [ht] at this
    cases this
  · exact ⟨a, e, h⟩
theorem dic_tup {A : Addr → Prop} {d : PyData} {x : V} {H : Hp} (hd : Rb W H A d x) (hi : tupDic d = true) : ∃ a es ep, x = .ref a ∧ H a = some (DicO a es ep) := by
  cases d <;> simp only [tupDic, Bool.false_eq_true] at hi
  obtain ⟨a, e, es, ep, h, _⟩ := dic_of hd hi
  exact ⟨a, es, ep, e, h⟩
def IsDO (H : Hp) (a : Addr) : Prop := ∃ es ep, H a = some (DicO a es ep)
theorem isDO_at {pins : List (Addr × Obj)} {σ : St} {H : Hp} {s : Shared} {a : Addr} (I : Inv X pins σ H s) (d : IsDO H a) : s.TypeIs (.ref a) "dict" ∧ (∀ b, Value.ref a = .ref b → ∃ ob, s.heap.get? b = some ob ∧ ob.dict = none) := by
  obtain ⟨es, ep, e⟩ := d
  have hr := dic_raw I e
  refine ⟨hr.typeIs, fun b eb => ?_⟩
  cases eb
  obtain ⟨o, h1, h2, _⟩ := hr
  exact ⟨o, h1, h2.2.1⟩
/-- d.get(k) by what stands there -/
def rGet (W : Wd) (a : Addr) (y : V) (z : V) (H : Hp) (Q : VK) : Prop := ∃ A kvs d e, DicR W H A a kvs ∧ keyIn kvs d = true ∧ Rb W H A d y ∧ Rep W H A e z ∧ ∀ v, Rep W H A ((findD kvs d).getD e) v → Q v H
def tGet1 (W : Wd) (td ty : TE) : TE := fun σ H Q => td σ H fun x H1 => ∃ a, x = .ref a ∧ IsDO H1 a ∧ ty σ H1 fun y H2 => rGet W a y .non H2 Q
def tGet2 (W : Wd) (td ty tx : TE) : TE := fun σ H Q => td σ H fun x H1 => ∃ a, x = .ref a ∧ IsDO H1 a ∧ ty σ H1 fun y H2 => tx σ H2 fun z H3 => rGet W a y z H3 Q
theorem pe_get1 {o : Expr} {apos cpos : Pos} {td ty : TE} (hK : W.K = X.K) (hw : W.w = X.w) (hu : X.A.units + 200 < cLine) (ho : PE X o td) (he : PE X e ty) (m : L2.M1 X o "get" apos e cpos) : PE X (.Call (.Attribute o "get" apos) [e] [] cpos) (tGet1 W td ty) := by
  refine ⟨fun pins s σ H Q I h => ?_⟩
  refine wpAny_Call_method m.base m.few m.line PySem.F.plainAttrs_dict PySem.F.slot_dict_get PySem.F.type_dict_get (thn (ho.run pins s σ H _ I h) fun u s1 ⟨x, H1, I1, rx, a, ex, d, q1⟩ => ?_)
  subst ex
  obtain rfl : u = Value.ref a := rx
  obtain ⟨t1, t2⟩ := isDO_at I1 d
  refine ⟨t1, t2, ?_⟩
  rw [m.trees]
  refine Calls.callWith_builtin rfl (Calls.evalArgs_plain (Calls.spliced_cons (thn (he.run pins s1 σ H1 _ I1 q1) fun iv s2 ⟨y, H2, I2, ry, A, kvs, d, e, dr, kin, rk, rz, q2⟩ => Calls.spliced_nil ?_)))
  have rk : Rep W H2 A d y := rk.key (keyIn_of kin).1
  obtain ⟨o, ov, f1, f2, f3, f4, _, _, _, g4, _⟩ := dic_look (E := X.xe) (B := X.A) hK hw (by omega) I2 dr kin rk ry
  rw [f1] at q2
  refine g4 _ fun s' I' => ?_
  cases o with
  | none => rw [f3 rfl]; exact ⟨.non, H2, I', rfl, q2 _ rz⟩
  | some g =>
    obtain ⟨_, gv, gu, e1, r1, r2⟩ := f4 g rfl
    rw [e1]
    exact ⟨gv, H2, I', r1, q2 _ r2⟩
theorem pe_get2 {o f : Expr} {apos cpos : Pos} {td ty tx : TE} (hK : W.K = X.K) (hw : W.w = X.w) (hu : X.A.units + 200 < cLine) (ho : PE X o td) (he : PE X e ty) (hf : PE X f tx) (m : L2.M2 X o "get" apos e f cpos) : PE X (.Call (.Attribute o "get" apos) [e, f] [] cpos) (tGet2 W td ty tx) := by
  refine ⟨fun pins s σ H Q I h => ?_⟩
  refine wpAny_Call_method m.base m.few m.line PySem.F.plainAttrs_dict PySem.F.slot_dict_get PySem.F.type_dict_get (thn (ho.run pins s σ H _ I h) fun u s1 ⟨x, H1, I1, rx, a, ex, d, q1⟩ => ?_)
  subst ex
  obtain rfl : u = Value.ref a := rx
  obtain ⟨t1, t2⟩ := isDO_at I1 d
  refine ⟨t1, t2, ?_⟩
  rw [m.trees]
  refine Calls.callWith_builtin rfl (Calls.evalArgs_plain (Calls.spliced_cons (thn (he.run pins s1 σ H1 _ I1 q1) fun iv s2 ⟨y, H2, I2, ry, q2⟩ =>
    Calls.spliced_cons (thn (hf.run pins s2 σ H2 _ I2 q2) fun fv s3 ⟨z, H3, I3, rz, A, kvs, d, e, dr, kin, rk, rp, q3⟩ => Calls.spliced_nil ?_))))
  have rk : Rep W H3 A d y := rk.key (keyIn_of kin).1
  obtain ⟨o, ov, f1, f2, f3, f4, _, _, _, _, g5⟩ := dic_look (E := X.xe) (B := X.A) hK hw (by omega) I3 dr kin rk ry
  rw [f1] at q3
  refine g5 _ fv fun s' I' => ?_
  cases o with
  | none => rw [f3 rfl]; exact ⟨z, H3, I', rz, q3 _ rp⟩
  | some g =>
    obtain ⟨_, gv, gu, e1, r1, r2⟩ := f4 g rfl
    rw [e1]
    exact ⟨gv, H3, I', r1, q3 _ r2⟩
theorem pm_get1 (g : Gd nm C G W k Z X) {o : Expr} {mo me : ME} {apos cpos : Pos} (ho : PE X o (tE C G W Z mo)) (he : PE X e (tE C G W Z me)) (mm : L2.M1 X o "get" apos e cpos) : PE X (.Call (.Attribute o "get" apos) [e] [] cpos) (tE C G W Z (.get1 mo me)) := by
  refine pe_imp (pe_get1 g.K g.w g.units ho he mm) fun σ H Q ⟨T, env, rl, h⟩ => ?_
  simp only [ev] at h
  refine tE_mono (one_gen (P := fun r => PostE W Z T env σ H r Q) (f := fun x env => rdv env x >>= fun d => if tupDic d = true then (ev C G me env >>= fun q => rdv q.2 x >>= fun d => rdv q.2 q.1 >>= fun e => M.R.ofO (getD d e .none) >>= fun i => .ok (.va i false, q.2)) else .stuck) rl (fun _ h => h) id h) fun x H1 h => ?_
  obtain ⟨w, env1, S, R1, V, h⟩ := h
  obtain ⟨d, e1, h⟩ := post_rd (P := fun r => PostE W Z T env σ H r Q) h id
  have hd := (V.hold (fun _ z => z) R1 fun a z => Tw_sub z) d e1
  split at h
  · rename_i hi
    obtain ⟨a, es, ep, rfl, hdo⟩ := dic_tup hd hi
    refine ⟨a, rfl, ⟨es, ep, hdo⟩, Tw T w (.ref a), env1, R1, ?_⟩
    cases e2 : ev C G me env1 with
    | ok p =>
      rw [e2] at h
      have h : PostE W Z T env σ H (rdv p.2 w >>= fun d => rdv p.2 p.1 >>= fun e => M.R.ofO (getD d e .none) >>= fun i => .ok (.va i false, p.2)) Q := h
      refine fun y H2 S2 R2 V2 => ?_
      obtain ⟨d2, e3, h⟩ := post_rd (P := fun r => PostE W Z T env σ H r Q) h id
      obtain ⟨d3, e4, h⟩ := post_rd (P := fun r => PostE W Z T env σ H r Q) h id
      obtain ⟨i, e5, h⟩ := post_of (P := fun r => PostE W Z T env σ H r Q) h id
      have R0 := R2.less (T' := T) fun a z => Tw_sub (Tw_sub z)
      have h1 := ((V.step R1 S2).hold (fun _ z => z) R2 (fun a z => Tw_sub (Tw_sub z))) d2 e3
      have h2 := (V2.hold (fun _ z => Tw_sub z) R2 (fun a z => Tw_sub (Tw_sub z))) d3 e4
      obtain ⟨kvs, rfl, kin, kt, rfl⟩ := getD_inv e5
      obtain ⟨a', ea, dr⟩ := dic_of h1 kt
      cases ea
      exact ⟨Av T p.2 σ, kvs, d3, .none, dr, kin, h2, by simp only [Rep], fun v r => PostE.op h R0 (S.trans S2) (Same.refl H2) r⟩
    | exc y => rw [e2] at h; exact PostX.pre S (fun _ z => Tw_sub z) h
    | stuck => rw [e2] at h; exact h.elim
  · exact h.elim
theorem pm_get2 (g : Gd nm C G W k Z X) {o f : Expr} {mo me mf : ME} {apos cpos : Pos} (ho : PE X o (tE C G W Z mo)) (he : PE X e (tE C G W Z me)) (hf : PE X f (tE C G W Z mf)) (mm : L2.M2 X o "get" apos e f cpos) : PE X (.Call (.Attribute o "get" apos) [e, f] [] cpos) (tE C G W Z (.get2 mo me mf)) := by
  refine pe_imp (pe_get2 g.K g.w g.units ho he hf mm) fun σ H Q ⟨T, env, rl, h⟩ => ?_
  simp only [ev] at h
  refine tE_mono (one_gen (P := fun r => PostE W Z T env σ H r Q) (f := fun x env => rdv env x >>= fun d => if tupDic d = true then (ev C G me env >>= fun q => ev C G mf q.2 >>= fun q' => fzn q'.2 q'.1 >>= fun z => rdv z.2 x >>= fun d => rdv z.2 q.1 >>= fun e => M.R.ofO (getD d e z.1) >>= fun i => .ok (.va i false, z.2)) else .stuck) rl (fun _ h => h) id h) fun x H1 h => ?_
  obtain ⟨w, env1, S, R1, V, h⟩ := h
  obtain ⟨d, e1, h⟩ := post_rd (P := fun r => PostE W Z T env σ H r Q) h id
  have hd := (V.hold (fun _ z => z) R1 fun a z => Tw_sub z) d e1
  split at h
  · rename_i hi
    obtain ⟨a, es, ep, rfl, hdo⟩ := dic_tup hd hi
    refine ⟨a, rfl, ⟨es, ep, hdo⟩, Tw T w (.ref a), env1, R1, ?_⟩
    cases e2 : ev C G me env1 with
    | ok p =>
      rw [e2] at h
      have h : PostE W Z T env σ H (ev C G mf p.2 >>= fun q' => fzn q'.2 q'.1 >>= fun z => rdv z.2 w >>= fun d => rdv z.2 p.1 >>= fun e => M.R.ofO (getD d e z.1) >>= fun i => .ok (.va i false, z.2)) Q := h
      refine fun y H2 S2 R2 V2 => ⟨Tw (Tw T w (.ref a)) p.1 y, p.2, R2, ?_⟩
      cases e3 : ev C G mf p.2 with
      | ok p' =>
        rw [e3] at h
        have h : PostE W Z T env σ H (fzn p'.2 p'.1 >>= fun z => rdv z.2 w >>= fun d => rdv z.2 p.1 >>= fun e => M.R.ofO (getD d e z.1) >>= fun i => .ok (.va i false, z.2)) Q := h
        refine fun z H3 S3 R3 V3 => ?_
        obtain ⟨⟨ed, env4⟩, ef, nd, h⟩ := post_fzn (P := fun r => PostE W Z T env σ H r Q) h id
        obtain ⟨d2, e4, h⟩ := post_rd (P := fun r => PostE W Z T env σ H r Q) h id
        obtain ⟨d3, e5, h⟩ := post_rd (P := fun r => PostE W Z T env σ H r Q) h id
        obtain ⟨i, e6, h⟩ := post_of (P := fun r => PostE W Z T env σ H r Q) h id
        obtain ⟨S4, R4, rp⟩ := fz_ok R3 V3 ef
        have SS := S2.trans (S3.trans S4)
        have up : ∀ a', T a' → Tw (Tw T w (.ref a)) p.1 y a' := fun a' z => Tw_sub (Tw_sub z)
        have R0 := R4.less (T' := T) up
        have h1 := ((V.step R1 SS).hold (fun _ z => z) R4 up) d2 e4
        have h2 := ((V2.step R2 (S3.trans S4)).hold (fun _ z => Tw_sub z) R4 up) d3 e5
        obtain ⟨kvs, rfl, kin, kt, rfl⟩ := getD_inv e6
        obtain ⟨a', ea, dr⟩ := dic_of h1 kt
        cases ea
        exact ⟨Av T env4 σ, kvs, d3, ed, dr, kin, h2, Rep.less rp (av_less up), fun v r => PostE.op h R0 (S.trans SS) (Same.refl H3) r⟩
      | exc y' => rw [e3] at h; exact PostX.pre (S.trans S2) (fun _ z => Tw_sub (Tw_sub z)) h
      | stuck => rw [e3] at h; exact h.elim
    | exc y => rw [e2] at h; exact PostX.pre S (fun _ z => Tw_sub z) h
    | stuck => rw [e2] at h; exact h.elim
  · exact h.elim
/-! ### dict(zip(..)) -/
def rDzip (W : Wd) : List V → Hp → VK → Prop := rBlt W .dzip
theorem pe_dzip {q q2 : Pos} {ta : TA} (hK : W.K = X.K) (hw : W.w = X.w) (hc : X.calm = true) (hu : X.A.units + 200 < cLine) (hg : Gl X "dict") (hm : X.mg "dict" = none) (hg2 : Gl X "zip") (hm2 : X.mg "zip" = none) (ha : PA X [a, b] ta) (hst : starEach [a, b] X.env = (false, eval a X.env) :: starEach [b] X.env) (hpl : (backTo q2 (starEach [b] X.env)).any (·.1) = false) :
    PE X (.Call (.Name "dict" p) [.Call (.Name "zip" q) [a, b] [] q2] [] pos) (fun σ H Q => ta σ H fun vs H1 => rDzip W vs H1 Q) := by
  refine ⟨fun pins s σ H Q I h => ?_⟩
  refine wpAny_Call_Name_kw (ld_blt (u := .type "dict") I hg hm (by decide +kernel) ?_ (by decide) (by decide))
  refine PyProof.Rows.callWith_type1 (T := "dict") ?_ rfl rfl
  show wpAny _ _ (spliced ((false, eval (.Call (.Name "zip" q) [a, b] [] q2) X.env) :: backTo pos (starEach [] X.env))) _ _ s
  refine Calls.spliced_cons (thn (Q := fun z s1 => wpAny (model X.prog X.w) X.A (call (.type "dict") [z]) (EP X pins σ Q) X.xe s1) ?_ fun z s1 hz => Calls.spliced_nil hz)
  refine wpAny_Call_Name_kw (ld_blt (u := .type "zip") I hg2 hm2 (by decide +kernel) ?_ (by decide) (by decide))
  refine PyProof.Rows.callWith_type1 (T := "zip") (thn (ha.run q2 pins s σ H _ I h) fun us s1 ⟨vs, H1, I1, r1, q1⟩ => ?_) hst hpl
  obtain ⟨A, ds, pr, hA, hx, hp, q⟩ := q1
  match ds, hp, hx with
  | [.list xs, .list ys], hp, hx =>
    simp only [bltD, Option.map_eq_some_iff] at hp
    obtain ⟨kvs, hd, rfl⟩ := hp
    obtain ⟨v1, v2, rfl, h1, h2⟩ := hx.two
    obtain ⟨u1, u2, rfl, ru1, ru2⟩ := vals2 r1
    exact call_dzip hK hw (I1.ok.hd hc) (by omega) I1 h1 h2 ru1 ru2 hd q
theorem pm_dzip (g : Gd nm C G W k Z X) {q q2 : Pos} (hg : Gl X "dict") (hg2 : Gl X "zip") (ha : PA X [a, b] (tLE C G W Z [ma, mb])) (hst : starEach [a, b] X.env = (false, eval a X.env) :: starEach [b] X.env) (hpl : (backTo q2 (starEach [b] X.env)).any (·.1) = false) :
    PE X (.Call (.Name "dict" p) [.Call (.Name "zip" q) [a, b] [] q2] [] pos) (tE C G W Z (.blt .dzip [ma, mb])) :=
  pe_imp (pe_dzip g.K g.w g.calm g.units hg (g.blt _ (by decide)) hg2 (g.blt _ (by decide)) ha hst hpl) fun σ H Q h => tLE_blt h
/-! ### {k: v} -/
theorem disp_h {pins : List (Addr × Obj)} {σ : St} {H : Hp} {s : Shared} {Q : Value → Shared → Prop} {E : Value → Shared → Prop} (hu : X.A.units + 8 < cLine)
    (h : wpAny (model X.prog X.w) X.A (eval a X.env) (fun ku s1 => wpAny (model X.prog X.w) X.A (eval b X.env) (fun du s2 => ∃ nk c, ku = .ref c ∧ (nestedKind X.prog X.w).is s2.heap nk c ∧ s2.heap.DictOfH (nestedKind X.prog X.w) s.heap.objs.size [] ∧
      ∀ h' tk, h'.DictOfH (nestedKind X.prog X.w) s.heap.objs.size [(nk, c, du)] → Heap.SameBut s.heap.objs.size s2.heap h' → Q (.ref s.heap.objs.size) { s2 with heap := h', toks := tk }) E s1) E { s with heap := s.heap.push { cls := .type "dict", data := .dict #[] } }) :
    wpAny (model X.prog X.w) X.A (eval (.Dict [some a] [b] pos) X.env) Q E s := by
  rw [arm_eval_Dict]
  have hsh := zip_pairTrees [some a] [b] X.env pos rfl rfl
  rw [hsh, dictDisplay_pairs _ (by simp [pairTrees]) (by rw [pairTrees_length [some a] [b] X.env pos rfl rfl]; simp)]
  refine wpAny_bind (wpAny_standAt (wpAny_bind (wpAny_subDictH (knd := nestedKind X.prog X.w) (Q := fun d s' => wpAny (model X.prog X.w) X.A (pure (Value.ref d)) Q E s') hu (by rw [pairTrees_length [some a] [b] X.env pos rfl rfl]; simp) ?_)))
  refine pairTrees_cons_walk (thn h fun ku s1 h1 => thn h1 fun du s2 h2 => pairTrees_nil_walk ?_)
  obtain ⟨nk, c, rfl, g1, g2, g3⟩ := h2
  exact ⟨[(nk, c, du)], ⟨rfl, rfl, g1, trivial⟩, g2, fun h' tk a b => wpAny_pure (g3 h' tk a b)⟩
theorem pm_dic1 (g : Gd nm C G W k Z X) (ha : PE X a (tE C G W Z ma)) (hb : PE X b (tE C G W Z mb)) : PE X (.Dict [some a] [b] pos) (tE C G W Z (.dic1 ma mb)) := ⟨fun pins s σ H Q I h => by
  obtain ⟨T, env, rl, h⟩ := h
  simp only [ev] at h
  have hn : H s.heap.objs.size = none := I.hok.fresh (Nat.le_refl _)
  generalize hp : s.heap.objs.size = p0 at hn
  have I1 : Inv X pins σ (upd H p0 (DicO p0 [] 0)) { s with heap := s.heap.push { cls := .type "dict", data := .dict #[] } } := by
    rw [← hp]
    exact I.laid (a := s.heap.objs.size) (o := DicO s.heap.objs.size [] 0) (t' := s.toks) (fun _ _ q => Heap.get?_push_of_some _ q) (Nat.le_refl _) (dicO_ok (raw_new s.heap))
  have sm : (p0 == sysModules) = false := by rw [← hp]; exact big_sm I
  have same1 : Same H (upd H p0 (DicO p0 [] 0)) := same_upd hn
  have R1 : Rel W (fun b => T b ∨ b = p0) env σ (upd H p0 (DicO p0 [] 0)) := rl.more same1 hn (by rw [upd_same]; simp)
  have S1 : Step env σ H env σ (upd H p0 (DicO p0 [] 0)) := Step.same same1
  -- the end, by what the dict is then
  have fin : ∀ {env2 : Env} {H3 : Hp} {kd d : PyData} {es : List DictEntry} {ep : Nat}, Step env σ (upd H p0 (DicO p0 [] 0)) env2 σ H3 → Rel W (fun b => T b ∨ b = p0) env2 σ H3 → keyB 8 kd = true → EntAll W H3 (Av (fun b => T b ∨ b = p0) env2 σ) [(kd, d)] es → PostE W Z T env σ H (.ok (.va (.dict [(kd, d)]) true, env2)) Q → Q (.ref p0) (upd H3 p0 (DicO p0 es ep)) := fun {env2 H3 kd d es ep} S R hk l h => by
    refine h (.ref p0) _ ((S1.trans S).updNew hn) ((R.updT (.inr rfl)).less fun b z => ?_) ⟨p0, rfl, fun t => (rl.prot p0 t).2 hn, hn, es, ep, upd_same, ⟨sm, by show 1 ≤ sizeLine; decide, fun q hq => by rw [List.mem_singleton.mp hq]; exact hk, ?_, by simp⟩, l.tr ⟨fun b o n e => ?_, fun b n _ z => n ?_⟩⟩
    · rcases z with z | z
      · exact .inl z
      · cases z; exact .inr rfl
    · cases ht : isTup kd with
      | true => exact .inl fun q hq => by rw [List.mem_singleton.mp hq]; exact ht
      | false => exact .inr fun q hq => by rw [List.mem_singleton.mp hq]; exact ht
    · rw [upd_ne (fun z => n (.inl (.inr z)))]; exact e
    · rcases z with z | z
      · exact z.imp .inl id
      · exact .inl (.inr z)
  -- key and value
  have run : ∀ (F : Value → Value → Shared → Prop), (∀ {env2 : Env} {H3 : Hp} {kd d : PyData} {kv dv : V} {ku du : Value} {s3 : Shared}, Inv X pins σ H3 s3 → Step env σ (upd H p0 (DicO p0 [] 0)) env2 σ H3 → Rel W (fun b => T b ∨ b = p0) env2 σ H3 → keyB 8 kd = true → ndD d → RelV kv ku → RelV dv du → Rep W H3 (Av (fun b => T b ∨ b = p0) env2 σ) kd kv → Rep W H3 (Av (fun b => T b ∨ b = p0) env2 σ) d dv → PostE W Z T env σ H (.ok (.va (.dict [(kd, d)]) true, env2)) Q → (∀ x env1 env1', ev C G ma env = .ok (x, env1) → fzn env1 x = .ok (kd, env1') → True) → (∃ x env1 env1', ev C G ma env = .ok (x, env1) ∧ fzn env1 x = .ok (kd, env1')) → F ku du s3) →
      wpAny (model X.prog X.w) X.A (eval a X.env) (fun ku s1 => wpAny (model X.prog X.w) X.A (eval b X.env) (fun du s2 => F ku du s2) X.xe s1) X.xe { s with heap := s.heap.push { cls := .type "dict", data := .dict #[] } } := fun F hF => by
    have t1 : tE C G W Z ma σ (upd H p0 (DicO p0 [] 0)) (fun kv H2 => tE C G W Z mb σ H2 fun dv H3 => ∃ env2 kd d, Step env σ (upd H p0 (DicO p0 [] 0)) env2 σ H3 ∧ Rel W (fun b => T b ∨ b = p0) env2 σ H3 ∧ keyB 8 kd = true ∧ ndD d ∧ Rep W H3 (Av (fun b => T b ∨ b = p0) env2 σ) kd kv ∧ Rep W H3 (Av (fun b => T b ∨ b = p0) env2 σ) d dv ∧ PostE W Z T env σ H (.ok (.va (.dict [(kd, d)]) true, env2)) Q ∧ ∃ x env1 env1', ev C G ma env = .ok (x, env1) ∧ fzn env1 x = .ok (kd, env1')) := by
      refine ⟨_, env, R1, ?_⟩
      cases e1 : ev C G ma env with
      | ok p1 =>
        rw [e1] at h
        have h : PostE W Z T env σ H (fzn p1.2 p1.1 >>= fun z => ev C G mb z.2 >>= fun q => fzn q.2 q.1 >>= fun y => if keyB 8 z.1 = true then .ok (.va (.dict [(z.1, y.1)]) true, y.2) else .stuck) Q := h
        obtain ⟨⟨kd, env1'⟩, ef, nk, h⟩ := post_fzn (P := fun r => PostE W Z T env σ H r Q) h id
        intro kv H2 S2 R2 V2
        obtain ⟨Sf, Rf, rk⟩ := fz_ok R2 V2 ef
        refine ⟨_, env1', Rf, ?_⟩
        have hfz : fzn p1.2 p1.1 = .ok (kd, env1') := by
          unfold fzn
          rw [ef]
          cases kd <;> first | rfl | exact absurd nk (by simp [ndD])
        cases e2 : ev C G mb env1' with
        | ok p2 =>
          rw [show ev C G mb (kd, env1').2 = ev C G mb env1' from rfl, e2] at h
          have h : PostE W Z T env σ H (fzn p2.2 p2.1 >>= fun y => if keyB 8 kd = true then .ok (.va (.dict [(kd, y.1)]) true, y.2) else .stuck) Q := h
          obtain ⟨⟨d, env2⟩, ef2, nd, h⟩ := post_fzn (P := fun r => PostE W Z T env σ H r Q) h id
          simp only at h
          split at h
          · rename_i hk
            intro dv H3 S3 R3 V3
            obtain ⟨Sf2, Rf2, rd⟩ := fz_ok R3 V3 ef2
            exact ⟨env2, kd, d, S2.trans (Sf.trans (S3.trans Sf2)), Rf2, hk, nd, Rep.tr ((S3.trans Sf2).tr (T := fun b => T b ∨ b = p0) (T' := fun b => T b ∨ b = p0) fun _ z => .inl z) rk, rd, h, p1.1, p1.2, env1', rfl, hfz⟩
          · exact h.elim
        | exc y =>
          rw [show ev C G mb (kd, env1').2 = ev C G mb env1' from rfl, e2] at h
          exact PostX.pre (S1.trans (S2.trans Sf)) (fun _ z => .inl z) h
        | stuck => rw [show ev C G mb (kd, env1').2 = ev C G mb env1' from rfl, e2] at h; exact h.elim
      | exc y => rw [e1] at h; exact PostX.pre S1 (fun _ z => .inl z) h
      | stuck => rw [e1] at h; exact h.elim
    refine thn (ha.run pins _ σ _ _ I1 t1) fun ku s1 ⟨kv, H2, I2, rk, q2⟩ => thn (hb.run pins s1 σ H2 _ I2 q2) fun du s2 ⟨dv, H3, I3, rd, env2, kd, d, z1, z2, z3, z4, z5, z6, z7, z8⟩ => hF I3 z1 z2 z3 z4 rk rd z5 z6 z7 (fun _ _ _ _ _ => trivial) z8
  have hu := g.units
  by_cases kind : ∃ x env1 kd env1', ev C G ma env = .ok (x, env1) ∧ fzn env1 x = .ok (kd, env1') ∧ isTup kd = true
  · refine disp_h (pins := pins) (σ := σ) (H := H) (by omega) (run _ fun {env2 H3 kd d kv dv ku du s3} I3 z1 z2 z3 z4 rk rd z5 z6 z7 _ z8 => ?_)
    obtain ⟨x, env1, env1', y1, y2⟩ := z8
    obtain ⟨x', e', kd', e'', w1, w2, w3⟩ := kind
    rw [y1] at w1
    cases w1
    rw [y2] at w2
    cases w2
    obtain ⟨c, rfl, kc⟩ := key_h g.K I3 z3 w3 z5 rk
    have h0 : H3 p0 = some (DicO p0 [] 0) := z1.keep p0 _ upd_same (R1.prot p0 (.inr rfl)).1
    have hr := dic_raw I3 h0
    refine ⟨nkD kd, c, rfl, kc, ?_, fun h' tk dd hs => ?_⟩
    · obtain ⟨o, q1, q2, q3⟩ := hr
      rw [hp]
      exact ⟨o, _, _, q1, q2, q3, rfl, fun x hx => by simp at hx, List.nodup_nil⟩
    · rw [hp] at dd hs ⊢
      obtain ⟨o, es', ep', q1, q2, q3, q4, q5, q6⟩ := dd
      have hraw : h'.DictRaw p0 es'.toList.toArray ep' := ⟨o, q1, q2, by simpa using q3⟩
      have kx : Kx W H3 (Av (fun b => T b ∨ b = p0) env2 σ) [(kd, d)] [(nkD kd, c, du)] := .cons ⟨rfl, ⟨kv, rk, z5⟩, z4, dv, rd, z6⟩ .nil
      have l := kx_ent (P := X.prog) kx
      rw [g.w, ← q4] at l
      exact ⟨.ref p0, _, d_write I3 (by rw [h0]; exact trivial) hs ⟨o, q1⟩ (dicO_ok hraw), rfl, fin z1 z2 z3 l z7⟩
  · refine wpAny_Dict_walk (knd := mixKind X.prog X.w) rfl rfl (by simp) (by simp) (pairTrees_cons_walk (run _ fun {env2 H3 kd d kv dv ku du s3} I3 z1 z2 z3 z4 rk rd z5 z6 z7 _ z8 => pairTrees_nil_walk ?_))
    obtain ⟨x, env1, env1', y1, y2⟩ := z8
    have ht : isTup kd = false := by
      cases ht : isTup kd with
      | false => rfl
      | true => exact (kind ⟨x, env1, kd, env1', y1, y2, ht⟩).elim
    obtain ⟨q, e1, e2, e3⟩ := lf_of z3 ht
    have e3 := e3 _ _ _ _ z5
    subst e3
    have h0 : H3 p0 = some (DicO p0 [] 0) := z1.keep p0 _ upd_same (R1.prot p0 (.inr rfl)).1
    have hr := dic_raw I3 h0
    refine ⟨[(q, du)], ⟨kV_is rk, rfl, trivial⟩, ?_, fun h' dd hs => ?_⟩
    · obtain ⟨o, q1, q2, q3⟩ := hr
      rw [hp]
      exact ⟨o, _, _, q1, q2, q3, fun e he => by simp at he, .nil, List.nodup_nil⟩
    · rw [hp] at dd hs ⊢
      obtain ⟨o, es', ep', q1, q2, q3, q4, q5, q6⟩ := dd
      have hraw : h'.DictRaw p0 es'.toList.toArray ep' := ⟨o, q1, q2, by simpa using q3⟩
      have kl : Kl W H3 (Av (fun b => T b ∨ b = p0) env2 σ) [(kd, d)] [(q, du)] := .cons ⟨e1, z4, dv, rd, z6⟩ .nil
      rw [← g.w] at q4 q5
      have l := kl_ent (P := X.prog) (W := W) (kvs := [(kd, d)]) (fun p hp => by rw [List.mem_singleton.mp hp]; exact z3) (by simpa using q4) (by simpa [merged, stored] using q5) kl fun p hp y hy => by
        rw [List.mem_singleton.mp hp] at hy ⊢
        obtain ⟨q', w1, w2⟩ := hy
        exact rep_leaf w1 w2 z5
      exact ⟨.ref p0, _, d_write I3 (by rw [h0]; exact trivial) hs ⟨o, q1⟩ (dicO_ok hraw), rfl, fin z1 z2 z3 l z7⟩⟩
end
end M
/-! M: own lists changed; pop. -/
namespace M
open PySem L2 PyProof.Rows
section
variable {W : Wd} {Z : L2.WX} {T T1 T2 : Addr → Prop} {env env1 env2 env' : Env} {σ σ1 σ' : St} {H H0 H1 H2 H' : Hp} {w : EV} {v : V} {C : CallT} {G : List PyData} {m ma mb mc : ME} {d : PyData} {D : Ends}
/-- a list of one's own is changed -/
theorem owns_same {i : Nat} {c c' : PyData} {k : Own} (e : env[i]? = some (some (c, k))) (j : Nat) (a : Addr) : Owns (env.set i (some (c', k))) σ j a ↔ Owns env σ j a := by
  by_cases hj : i = j
  · subst hj
    constructor
    · rintro ⟨d, k', q1, q2, q3⟩
      rw [getElem?_set_eq' e] at q1
      cases q1
      exact ⟨c, k, e, q2, q3⟩
    · rintro ⟨d, k', q1, q2, q3⟩
      rw [e] at q1
      cases q1
      exact ⟨c', k, getElem?_set_eq' e, q2, q3⟩
  · constructor
    · rintro ⟨d, k', q1, q2, q3⟩
      rw [getElem?_set_ne' hj] at q1
      exact ⟨d, k', q1, q2, q3⟩
    · rintro ⟨d, k', q1, q2, q3⟩
      exact ⟨d, k', by rw [getElem?_set_ne' hj]; exact q1, q2, q3⟩
theorem mut_any {i : Nat} {c c' : PyData} {k : Own} {a : Addr} {ob : HO} (R : Rel W T env σ H) (e : env[i]? = some (some (c, k))) (hk : k = .ow ∨ k = .rf) (hs : σ[i]? = some (some (.ref a))) (hO : Tr H (upd H a ob) (Av T env σ) (Av T (env.set i (some (c', k))) σ) → OwnAt W (upd H a ob) (Av T (env.set i (some (c', k))) σ) c' a) :
    Step env σ H (env.set i (some (c', k))) σ (upd H a ob) ∧ Rel W T (env.set i (some (c', k))) σ (upd H a ob) := by
  have nk : k ≠ .sh := by rcases hk with z | z <;> (rw [z]; decide)
  have oa : Owns env σ i a := ⟨c, k, e, nk, hs⟩
  have own : ∀ j b, Owns (env.set i (some (c', k))) σ j b ↔ Owns env σ j b := owns_same e
  have ownd : ∀ b, Ownd (env.set i (some (c', k))) σ b ↔ Ownd env σ b := fun b => ⟨fun ⟨j, h⟩ => ⟨j, (own j b).mp h⟩, fun ⟨j, h⟩ => ⟨j, (own j b).mpr h⟩⟩
  have tr : Tr H (upd H a ob) (Av T env σ) (Av T (env.set i (some (c', k))) σ) := ⟨fun b o n q => by rw [upd_ne (fun z => n (.inr ⟨i, by rw [z]; exact oa⟩))]; exact q, fun b n _ z => n (z.imp id (ownd b).mp)⟩
  refine ⟨⟨fun b o q n => by rw [upd_ne (fun z => n ⟨i, by rw [z]; exact oa⟩)]; exact q, fun b z => .inl ((ownd b).mp z), fun b h => ?_, fun j d k' hf q => ?_, fun j d b o q qs qo => by
    rw [upd_ne (fun z => ?_)]
    · exact qo
    · subst z
      have := R.inj i j b oa ⟨d, .ln, q, by decide, qs⟩
      subst this
      rw [e] at q
      cases q
      rcases hk with z | z <;> cases z⟩, ⟨by rw [List.length_set]; exact R.len, fun j d k' q => ?_, fun j j' b h1 h2 => R.inj j j' b ((own j b).mp h1) ((own j' b).mp h2), fun b t => ⟨fun z => (R.prot b t).1 ((ownd b).mp z), ?_⟩⟩⟩
  · by_cases z : b = a
    · subst z; rw [upd_same]; simp
    · rw [upd_ne z]; exact h
  · by_cases hj : i = j
    · subst hj
      rw [e] at q
      cases q
      refine ⟨c', getElem?_set_eq' e, rfl, fun z => ?_⟩
      subst z
      rcases hk with z | z <;> cases z
    · exact ⟨d, by rw [getElem?_set_ne' hj]; exact q, rfl, fun _ => rfl⟩
  · by_cases hj : i = j
    · subst hj
      rw [getElem?_set_eq' e] at q
      cases q
      refine ⟨.ref a, hs, ?_⟩
      have := hO tr
      rcases hk with rfl | rfl
      · exact ⟨a, rfl, this⟩
      · exact ⟨a, rfl, this⟩
    · rw [getElem?_set_ne' hj] at q
      obtain ⟨v, ev, so⟩ := R.slot j d k' q
      refine ⟨v, ev, so.tr tr fun b eb nb o q' => ?_⟩
      rw [upd_ne (fun z => ?_)]
      · exact q'
      · subst eb z
        exact hj (R.inj i j b oa ⟨d, k', q, nb, ev⟩)
  · by_cases z : b = a
    · subst z; rw [upd_same]; simp
    · rw [upd_ne z]; exact (R.prot b t).2
theorem mut_ok {i : Nat} {c : PyData} {k : Own} {a : Addr} {ds : List PyData} {vs : List V} (R : Rel W T env σ H) (e : env[i]? = some (some (c, k))) (hk : k = .ow ∨ k = .rf) (hs : σ[i]? = some (some (.ref a))) (hz : vs.length ≤ sizeLine) (r : RepAll W H (Av T env σ) ds vs) :
    Step env σ H (env.set i (some (.list ds, k))) σ (upd H a (.lst vs)) ∧ Rel W T (env.set i (some (.list ds, k))) σ (upd H a (.lst vs)) :=
  mut_any R e hk hs fun tr => ⟨vs, upd_same, hz, r.tr tr⟩
theorem mut_dic {i : Nat} {c : PyData} {k : Own} {a : Addr} {kvs : List (PyData × PyData)} {es : List DictEntry} {ep : Nat} (R : Rel W T env σ H) (e : env[i]? = some (some (c, k))) (hk : k = .ow ∨ k = .rf) (hs : σ[i]? = some (some (.ref a))) (g : DicG a kvs) (r : EntAll W H (Av T env σ) kvs es) :
    Step env σ H (env.set i (some (.dict kvs, k))) σ (upd H a (DicO a es ep)) ∧ Rel W T (env.set i (some (.dict kvs, k))) σ (upd H a (DicO a es ep)) :=
  mut_any R e hk hs fun tr => ⟨es, ep, upd_same, g, r.tr tr⟩
/-- the own list of a slot -/
theorem slot_ownA {i : Nat} {c : PyData} {k : Own} (R : Rel W T env σ H) (e : env[i]? = some (some (c, k))) (hk : k = .ow ∨ k = .rf) : ∃ a, σ[i]? = some (some (.ref a)) ∧ OwnAt W H (Av T env σ) c a := by
  obtain ⟨v, ev, so⟩ := R.slot i c k e
  have : ∃ a, v = .ref a ∧ OwnAt W H (Av T env σ) c a := by
    rcases hk with rfl | rfl
    · exact so
    · exact so
  obtain ⟨a, rfl, o⟩ := this
  exact ⟨a, ev, o⟩
theorem slot_own {i : Nat} {ds : List PyData} {k : Own} (R : Rel W T env σ H) (e : env[i]? = some (some (.list ds, k))) (hk : k = .ow ∨ k = .rf) : ∃ a vs, σ[i]? = some (some (.ref a)) ∧ H a = some (.lst vs) ∧ vs.length ≤ sizeLine ∧ RepAll W H (Av T env σ) ds vs := by
  obtain ⟨a, ea, vs, h1, h2, h3⟩ := slot_ownA R e hk
  exact ⟨a, vs, ea, h1, h2, h3⟩
theorem mut_tr {i : Nat} {c c' : PyData} {k : Own} {a : Addr} {ob : HO} (e : env[i]? = some (some (c, k))) (hk : k = .ow ∨ k = .rf) (hs : σ[i]? = some (some (.ref a))) : Tr H (upd H a ob) (Av T env σ) (Av T (env.set i (some (c', k))) σ) := by
  have nk : k ≠ .sh := by rcases hk with z | z <;> (rw [z]; decide)
  have oa : Owns env σ i a := ⟨c, k, e, nk, hs⟩
  have own : ∀ j b, Owns (env.set i (some (c', k))) σ j b ↔ Owns env σ j b := owns_same e
  exact ⟨fun b o n q => by rw [upd_ne (fun z => n (.inr ⟨i, by rw [z]; exact oa⟩))]; exact q, fun b n _ z => n (z.imp id fun ⟨j, h⟩ => ⟨j, (own j b).mp h⟩)⟩
end
section
variable {nm : Nm} {C : CallT} {G : List PyData} {W : Wd} {k : Nat} {Z : L2.WX} {X : Cx} {pos p : Pos}
theorem pm_pop {i : Nat} {x : Str} {apos cpos : Pos} (hv : PE X (.Name x p) (tVar i)) (hl : (apos.endLine == cpos.line) = true) : PE X (.Call (.Attribute (.Name x p) "pop" apos) [] [] cpos) (tE C G W Z (.pop i false)) := by
  refine pe_imp (pe_bm0 PySem.F.plainAttrs_list PySem.F.slot_list_pop PySem.F.type_list_pop mt_pop hv rfl hl) fun σ H Q ⟨T, env, rl, h⟩ => ?_
  simp only [ev] at h
  split at h
  · rename_i xs kk e4
    split at h
    · rename_i hk
      split at h
      · rename_i q hq
        obtain ⟨a, vs, ea, hH, hz, hr⟩ := slot_own rl e4 hk
        have hlen := hr.length
        have hq : (xs.getLast?).map (fun y => (y, xs.dropLast)) = some q := hq
        rw [Option.map_eq_some_iff] at hq
        obtain ⟨d, h1, rfl⟩ := hq
        rw [List.getLast?_eq_getElem?] at h1
        obtain ⟨y, hy, nd, ry⟩ := hr.get h1
        refine ⟨.ref a, ea, .inl ⟨rfl, vs, SqL.of hH⟩, a, vs, y, rfl, rfl, hH, by rw [hlen]; exact hy, ?_⟩
        have rt : RepAll W H (Av T env σ) xs.dropLast vs.dropLast := by
          rw [List.dropLast_eq_take, List.dropLast_eq_take, hlen]
          exact hr.take _
        obtain ⟨S4, R4⟩ := mut_ok (ds := xs.dropLast) (vs := vs.dropLast) rl e4 hk ea (by rw [List.length_dropLast]; omega) rt
        exact h y _ S4 R4 (ry.tr (mut_tr e4 hk ea))
      · exact h.elim
    · exact h.elim
  · exact h.elim
theorem pm_pop0 {i : Nat} {x : Str} {apos cpos q1 : Pos} {kk0 : Nat} (hv : PE X (.Name x p) (tVar i)) (hl : (apos.endLine == cpos.line) = true) : PE X (.Call (.Attribute (.Name x p) "pop" apos) [.Constant (.int 0) kk0 q1] [] cpos) (tE C G W Z (.pop i true)) := by
  refine pe_imp (pe_bm PySem.F.plainAttrs_list PySem.F.slot_list_pop PySem.F.type_list_pop mt_popAt hv (pa_cons pe_int pa_nil rfl) rfl rfl hl rfl rfl) fun σ H Q ⟨T, env, rl, h⟩ => ?_
  simp only [ev] at h
  split at h
  · rename_i xs kk e4
    split at h
    · rename_i hk
      split at h
      · rename_i q hq
        obtain ⟨a, vs, ea, hH, hz, hr⟩ := slot_own rl e4 hk
        cases xs with
        | nil => cases hq
        | cons d ds =>
          cases hq
          simp only [RepAll] at hr
          obtain ⟨y, ws, rfl, nd, ry, rt⟩ := hr
          refine ⟨.ref a, ea, .inl ⟨rfl, _, SqL.of hH⟩, a, y :: ws, 0, 0, y, rfl, rfl, hH, by decide, by decide, by simp [seqIndex?], rfl, ?_⟩
          obtain ⟨S4, R4⟩ := mut_ok (ds := ds) (vs := ws) rl e4 hk ea (by simp at hz; omega) rt
          exact h y _ S4 R4 (ry.tr (mut_tr e4 hk ea))
      · exact h.elim
    · exact h.elim
  · exact h.elim
end
end M
/-! M: errors as values, try. -/
namespace M
open PySem L2 PyProof.Rows
/-! ### tuples that hold errors -/
def PostXL (W : Wd) (Z : L2.WX) (T : Addr → Prop) (env : Env) (σ : St) (H : Hp) (r : RE (List PyData × Env)) (Q : List V → Hp → Prop) : Prop :=
  match r with
  | .ok p => ∀ vs H', Step env σ H p.2 σ H' → Rel W T p.2 σ H' → RepL W H' (Av T p.2 σ) p.1 vs → Q vs H'
  | .exc x => PostX W Z T env σ H x
  | .stuck => False
def tLX (C : CallT) (G : List PyData) (W : Wd) (Z : L2.WX) (ms : List ME) : TA := fun σ H Q => ∃ T env, Rel W T env σ H ∧ PostXL W Z T env σ H (evX C G ms env) Q
section
variable {nm : Nm} {C : CallT} {G : List PyData} {W : Wd} {k : Nat} {Z : L2.WX} {X : Cx} {a b c e : Expr} {es : List Expr} {pos : Pos} {ma mb mc m : ME} {ms : List ME}
theorem pl_nilX : PA X [] (tLX C G W Z []) := pa_imp pa_nil fun σ H Q ⟨T, env, rl, h⟩ => by
  simp only [evX] at h
  exact h [] H .refl rl rfl
theorem pl_consX (he : PE X e (tE C G W Z m)) (hes : PA X es (tLX C G W Z ms)) (hs : starEach (e :: es) X.env = (false, eval e X.env) :: starEach es X.env) : PA X (e :: es) (tLX C G W Z (m :: ms)) := by
  refine pa_imp (pa_cons he hes hs) fun σ H Q ⟨T, env, rl, h⟩ => ?_
  simp only [evX] at h
  refine tE_mono (one_gen (P := fun r => PostXL W Z T env σ H r Q) (f := fun w env => fzv env w >>= fun p => evX C G ms p.2 >>= fun q => .ok (p.1 :: q.1, q.2)) rl (fun _ h => h) id h) fun x H1 h => ?_
  obtain ⟨w, env1, S, R1, V, h⟩ := h
  obtain ⟨p, e1, h⟩ := post_fz (P := fun r => PostXL W Z T env σ H r Q) h id
  obtain ⟨S1, R2, r1⟩ := fz_ok R1 V (show fzv env1 w = .ok (p.1, p.2) from e1)
  refine ⟨T, p.2, R2, ?_⟩
  cases e2 : evX C G ms p.2 with
  | ok q =>
    simp only [bind, M.R.bind, e2] at h
    exact fun vs H2 S2 R3 hl => h (x :: vs) H2 ((S.trans S1).trans S2) R3 ⟨x, vs, rfl, Rep.tr (S2.tr (T := T) (T' := T) fun _ z => .inl z) r1, hl⟩
  | exc y => simp only [bind, M.R.bind, e2] at h; exact PostX.pre (S.trans S1) (fun _ z => z) h
  | stuck => simp only [bind, M.R.bind, e2] at h; exact h
theorem xt_keys : ∀ {ds : List PyData} {vs : List V}, vs.length = ds.length → (ds.map fun d => (PyData.bool true, d)).map (·.1) = vs.map fun _ => PyData.bool true
  | [], [], _ => rfl
  | d :: ds, v :: vs, h => by
    rw [List.map_cons, List.map_cons, List.map_cons, xt_keys (by simpa using h)]
  | [], _ :: _, h => by cases h
  | _ :: _, [], h => by cases h
theorem new_xt {H : Hp} {A : Addr → Prop} (hA : AvOk H A) {p : Addr} {ds : List PyData} {vs : List V} (hp : H p = none) (hz : vs.length ≤ sizeLine) (r : RepL W H A ds vs) : Rep W (upd H p (.tup vs)) A (xtD ds) (.ref p) := by
  unfold xtD xtK
  simp only [Rep]
  refine ⟨p, rfl, .inr (.inr (.inr ⟨vs, .inl ⟨fun q => hA p q hp, .inl upd_same⟩, hz, ?_, ?_⟩))⟩
  · rw [List.map_cons, xt_keys r.length]
  · simp only [ValAll, ValOne, Rep]
    exact ⟨_, _, rfl, rfl, (RepL.tr (Same.tr (same_upd hp)) r).valAll (.bool true)⟩
theorem pm_xtup {x1 : Nat} (h : PA X es (tLX C G W Z ms)) : PE X (.Tuple es x1 pos) (tE C G W Z (.xtup ms)) := by
  refine pe_imp (pe_tup h) fun σ H Q ⟨T, env, rl, h⟩ => ?_
  simp only [ev] at h
  refine ⟨T, env, rl, ?_⟩
  cases e1 : evX C G ms env with
  | ok p =>
    simp only [bind, M.R.bind, e1] at h
    split at h
    · rename_i hz
      refine fun vs H1 S R1 r => ⟨by rw [r.length]; exact hz, fun p hp => ?_⟩
      exact PostE.op h R1 S (same_upd hp) (new_xt (avOk R1) hp (by rw [r.length]; exact hz) r)
    · exact h.elim
  | exc y => simp only [bind, M.R.bind, e1] at h; exact h
  | stuck => simp only [bind, M.R.bind, e1] at h; exact h
/-! ### isinstance of an error -/
def rIsx (W : Wd) (K : PySem.W.Frag) : List V → Hp → VK → Prop := fun xs H Q => ∃ a c u cv b, xs = [.ref a, u] ∧ (∀ w, RelV u w → w = cv) ∧ ExcA W H a c ∧ PySem.W.kitOne K (.ref (W.ca c)) cv = some b ∧ Q (.bl b) H
theorem call_isx (hX : XcOk W X.K) : CallR X (.builtin "isinstance") (rIsx W X.K) := by
  intro pins s σ H xs us Q I r h
  obtain ⟨a, c, u, cv, b, rfl, hc, ha, hk, q⟩ := h
  obtain ⟨u1, u2, rfl, r1, r2⟩ := vals2 r
  cases r1
  cases hc _ r2
  exact is_exc hX I ha hk q
theorem exc_of {H : Hp} {A : Addr → Prop} {d : PyData} {v : V} {n : Nat} (h : Rb W H A d v) (e : excOf d = some n) : ∃ a, v = .ref a ∧ ExcA W H a n := by
  match d, e with
  | .dict ((.none, .int (.ofNat c)) :: r), e =>
    have hn : c = n := Option.some.inj e
    subst hn
    rcases h with h | ⟨a, _, es, ep, _, g, _⟩
    · simp only [Rep] at h
      obtain ⟨a, rfl, ha | ⟨_, es, ep, _, g, _⟩ | ⟨_, c', d, hc, ha, h⟩ | ⟨vs, _, _, h, _⟩⟩ := h
      · exact Bool.noConfusion (W.ds a _ ha)
      · exact Bool.noConfusion g.nsp
      · rcases h with ⟨h1, h2⟩ | ⟨dx, gs, e1, _, e2, e3, l⟩
        · have e4 := (List.cons.inj h2).1
          injection e4 with _ e4
          injection e4 with e4
          have e5 : c = c' := Int.ofNat.inj e4
          subst e5
          exact ⟨a, rfl, hc, d, ha, .inl h1⟩
        · simp only [ValAll, ValOne, Rep] at l
          obtain ⟨v0, vs0, q1, q2, _⟩ := l
          have q3 := (List.cons.inj q1).1
          rw [← q3] at q2
          injection q2 with q2
          have e5 : c' = c := Int.ofNat.inj q2
          subst e5
          exact ⟨a, rfl, hc, d, ha, .inr ⟨dx, gs, e1, e2⟩⟩
      · exact absurd (List.cons.inj h).1 (by intro z; cases z)
    · exact Bool.noConfusion g.nsp
theorem pm_isx0 (g : Gd nm C G W k Z X) {y : Str} {p q : Pos} {u : V} {cv : Value} {o : Option Nat} (hg : Gl X "isinstance") (hb : PE X (.Name y p) (tC u)) (hu : ∀ w, RelV u w → w = cv) (hk : ∀ c, c < W.nc → PySem.W.kitOne X.K (.ref (W.ca c)) cv = some (subX c o)) (ha : PE X a (tE C G W Z ma)) (hst : starEach [a, .Name y p] X.env = (false, eval a X.env) :: starEach [.Name y p] X.env) : PE X (.Call (.Name "isinstance" q) [a, .Name y p] [] pos) (tE C G W Z (.isx ma o)) := by
  refine pe_imp (pe_callB (call_isx g.xc) hg (g.blt _ (by decide)) (by decide +kernel) (pa_cons ha (pa_cons hb pa_nil) hst) (by decide) (by decide) hst) fun σ H Q ⟨T, env, rl, h⟩ => ?_
  simp only [ev] at h
  refine tE_mono (one_gen (P := fun r => PostE W Z T env σ H r Q) (f := fun x env => rdv env x >>= fun d => M.R.ofO (excOf d) >>= fun k => .ok (.va (.bool (subX k o)) false, env)) rl (fun _ h => h) id h) fun x H1 h => ?_
  obtain ⟨w, env1, S, R1, V, h⟩ := h
  obtain ⟨d, e1, h⟩ := post_rd (P := fun r => PostE W Z T env σ H r Q) h id
  obtain ⟨n, e2, h⟩ := post_of (P := fun r => PostE W Z T env σ H r Q) h id
  have hd := (V.hold (fun _ z => z) R1 fun a z => Tw_sub z) d e1
  obtain ⟨a, rfl, ha⟩ := exc_of hd e2
  exact ⟨a, n, u, cv, _, rfl, hu, ha, hk n ha.1, PostE.op h (R1.less fun a z => Tw_sub z) S (Same.refl H1) (by show Rep _ _ _ _ _; simp only [Rep])⟩
theorem pm_isxV (g : Gd nm C G W k Z X) {p q : Pos} (hg : Gl X "isinstance") (hy : Gl X "ValueError") (ha : PE X a (tE C G W Z ma)) (hst : starEach [a, .Name "ValueError" p] X.env = (false, eval a X.env) :: starEach [.Name "ValueError" p] X.env) : PE X (.Call (.Name "isinstance" q) [a, .Name "ValueError" p] [] pos) (tE C G W Z (.isx ma none)) :=
  pm_isx0 g (u := .ty "ValueError") (cv := .type "ValueError") hg (pe_bltn hy g.vgl (by decide +kernel) rfl) (fun w r => r) (fun c hc => g.xc.ve c hc) ha hst
theorem pm_isx (g : Gd nm C G W k Z X) {y : Str} {b : Bool} {i : Nat} {p q : Pos} (hg : Gl X "isinstance") (hy : Gl X y) (hd : (y == ("__debug__" : Str)) = false) (hi : nm.cls[i]? = some (y, b)) (ha : PE X a (tE C G W Z ma)) (hst : starEach [a, .Name y p] X.env = (false, eval a X.env) :: starEach [.Name y p] X.env) : PE X (.Call (.Name "isinstance" q) [a, .Name y p] [] pos) (tE C G W Z (.isx ma (some i))) := by
  have hn : i < W.nc := by rw [← g.nc]; exact (List.getElem?_eq_some_iff.mp hi).1
  exact pm_isx0 g (u := .ref (W.ca i)) (cv := .ref (W.ca i)) hg (pe_glob hy (g.clg i y b hi) rfl hd) (fun w r => r) (fun c hc => g.xc.xx c i hc hn) ha hst
end
/-! ### try -/
theorem Gd.tr {nm : Nm} {C : CallT} {G : List PyData} {W : Wd} {k : Nat} {Z Z' : L2.WX} {X : Cx} (g : Gd nm C G W k Z X) {pn : List (Addr × Obj)} {xe : Value → Shared → Prop} (tk : Takes (X.tr pn xe) Z') (po : PassesOwn (model X.prog X.w) X.A X.env xe) : Gd nm C G W k Z' (X.tr pn xe) :=
  { calm := g.calm, nd := g.nd, room := g.room, gu := g.gu, K := g.K, w := g.w, dk := fun a kvs h => let q := g.dk a kvs h; ⟨q.str, q.kd, q.look⟩, xc := g.xc, nc := g.nc, clg := g.clg, vgl := g.vgl, tk := tk, po := po,
    fns := g.fns, gls := g.gls, cls := fun c x h => let q := g.cls c x h; ⟨q.1, q.2.1, q.2.2.1, q.2.2.2⟩, blt := g.blt }
/-- the caught error is kept in slot j, its name (slot i) goes -/
def wKeep (K : PySem.W.Frag) (c : Value) (i j : Nat) (Wout : WX) (D : Ends) : WX := fun cls d σ H =>
  ∃ b, PySem.W.exmOne K cls c = some b ∧ (b = true → ∀ a, H a = none → ∃ C, cls = .ref C ∧ D.nx (((σ.set i (some (.ref a))).set j (some (.ref a))).set i none) (upd H a (ExcO a C d))) ∧ (b = false → Wout cls d σ H)
theorem excO_ok {P : Program} {w : World} {H : Hp} {h : Heap} {a C : Addr} {d : Option Addr} {oe : Obj} {vs : Array Value} (e : h.get? a = some oe) (z : Zc (.ref C) d oe) (hd : oe.data = .fields vs) : ObjOk P w H h a (ExcO a C d) :=
  ⟨⟨oe, vs, e, z.1, z.2, hd⟩, ⟨oe, e⟩, fun _ _ ⟨o, v, q, r⟩ k => ⟨o, v, k o q, r⟩⟩
section
variable {X : Cx} {pins : List (Addr × Obj)} {σ : St} {H : Hp}
/-- landed, and the error's object is ours -/
theorem Inv.landedX {B : Heap} {sI s' : Shared} {a C : Addr} {d : Option Addr} {oe : Obj} {vs : Array Value} (J : Inv X pins σ H sI) (nb : ∀ b o, sI.heap.get? b = some o → b ∉ frs X.stack → B.get? b = some o) (st : B.StaysIn s'.heap) (up : sI.heap.UpToSlots s'.heap) (os : s'.os = sI.os) (ag : AllBare s'.gens)
    (ni : sI.heap.get? a = none) (nB : B.get? a = none) (na : H a = none) (e : s'.heap.get? a = some oe) (z : Zc (.ref C) d oe) (hd : oe.data = .fields vs) : Inv X pins σ (upd H a (ExcO a C d)) s' := by
  obtain ⟨G, g1, g2⟩ := restrict s'.heap fun b => decide (b ≠ a)
  have ga : G.get? a = none := g2 a (decide_eq_false fun z => z rfl)
  have gk : ∀ b, b ≠ a → G.get? b = s'.heap.get? b := fun b hb => g1 b (decide_eq_true hb)
  have J1 : Inv X pins σ H { s' with heap := G } := J.landed nb (fun b o q => by
    have hb : b ≠ a := fun z => by rw [z, nB] at q; cases q
    show G.get? b = some o
    rw [gk b hb]
    exact st b o q) (fun b o q hn => by
    have hb : b ≠ a := fun z => by rw [z, ni] at q; cases q
    obtain ⟨sl, q2⟩ := up b o q hn
    exact ⟨sl, by show G.get? b = _; rw [gk b hb]; exact q2⟩) os ag
  obtain ⟨hp, gs, dr, tk, os'⟩ := s'
  exact Inv.laidN (s := ⟨G, gs, dr, tk, os'⟩) (h' := hp) (t' := tk) J1 (fun b u q => by
    have hb : b ≠ a := fun z => by
      have q : G.get? b = some u := q
      rw [z, ga] at q; cases q
    have q : G.get? b = some u := q
    rw [gk b hb] at q
    exact q) ga na (excO_ok e z hd)
end
/-- what comes behind the body's error -/
def hdlK (X : Cx) (hd : ExceptHandler) (pins : List (Addr × Obj)) (D : Ends) (u : Value) (t : Shared) : Prop :=
  wpAny (model X.prog X.w) X.A (noteFrame u X.env) (fun _ t1 => wpAny (model X.prog X.w) X.A (setFlight u none) (fun _ t2 => wpAny (model X.prog X.w) X.A (handleBy u X.env [hd]) (SP X pins D) X.xe t2) X.xe t1) X.xe t
section
variable {X : Cx} {x n y : Str} {c : Value} {i j : Nat} {body : List Stmt} {np p1 p2 p3 pos pos' : Pos} {tb : WX → TS} {Wout : WX}
theorem spTry {pins : List (Addr × Obj)} {D : Ends} {f : Flow} {t : Shared} {xe : Value → Shared → Prop} (ok : X.Ok) (q : SP (X.tr (X.pn ++ pins) xe) [] D f t) : SP X pins D f t := by
  cases f with
  | ret u => obtain ⟨v, σ1, H1, J1, r, q⟩ := q; exact ⟨v, σ1, H1, J1.ofTry ok, r, q⟩
  | next => obtain ⟨σ1, H1, J1, q⟩ := q; exact ⟨σ1, H1, J1.ofTry ok, q⟩
  | brk => obtain ⟨σ1, H1, J1, q⟩ := q; exact ⟨σ1, H1, J1.ofTry ok, q⟩
  | cont => obtain ⟨σ1, H1, J1, q⟩ := q; exact ⟨σ1, H1, J1.ofTry ok, q⟩
theorem ps_tryK (hs : X.stack = X.env :: X.outer) (hf : X.env.frame = some X.env.locals) (hN : X.N.Nodup) (hi : X.N[i]? = some n) (hj : X.N[j]? = some y) (hln : X.env.scope.names.lookup n = some .local) (hly : X.env.scope.names.lookup y = some .local) (okn : okName n = true) (hc : Names X x c) (tk : Takes X Wout)
    (hb : ∀ (Wx : WX) (pn : List (Addr × Obj)) (xe : Value → Shared → Prop), Takes (X.tr pn xe) Wx → PassesOwn (model X.prog X.w) X.A X.env xe → PSs (X.tr pn xe) body (tb Wx)) :
    PS X (.Try body [.ExceptHandler (some (.Name x np)) (some n) [.Assign [.Name y p1] (.Name n p2) p3] pos'] [] [] pos) (fun D σ H => tb (wKeep X.K c i j Wout D) D σ H) := by
  obtain ⟨o1, o2⟩ := okName_of okn
  refine ⟨fun pins s σ H D I h => wpAny_Try_except ?_⟩
  have ok := I.ok
  have frm : X.A.frames = some (X.env :: X.outer) := by
    rw [ok.frames]
    exact congrArg some hs
  refine wpAny_mono ((hb _ (X.pn ++ pins) (hdlK X _ pins D) (fun u t xx => ?_) PassesOwn.looking).run [] s σ H D (I.toTry _) h) (fun f t q => ?_) fun _ _ q => q
  · obtain ⟨a, B, sI, pins', σ1, H1, cls, d, rfl, J', nb, up, sky, na, os, ag, b, hm, yes, no⟩ := xx
    have J : Inv X pins σ1 H1 sI := J'.ofTry ok
    have sk : Sky B (X.env :: X.outer) a (Zc cls d) X.env.locals t.heap := hs ▸ sky
    refine Sky.land Zc.steady frm hf sk fun g1 fl up1 => ?_
    have J1 : Inv X pins σ1 H1 { t with heap := g1 } := J.landed nb fl.1 (up.trans up1) os ag
    obtain ⟨oe, vs, he, hz, hd⟩ := fl.there
    have nfr : a ∉ frs (X.env :: X.outer) := fun hm => by
      obtain ⟨_, o', e', q⟩ := fl.2.2.1.mem hm
      rw [he] at e'
      cases e'
      exact q _ hd
    have nB : B.get? a = none := fl.2.1
    have nI : sI.heap.get? a = none := by
      cases q : sI.heap.get? a with
      | none => rfl
      | some o =>
        have z := nb a o q (hs ▸ nfr)
        rw [nB] at z
        cases z
    have nL : a ≠ X.env.locals := fun z => nfr (List.mem_filterMap.mpr ⟨X.env, List.mem_cons_self, by rw [hf, z]⟩)
    have nF : a ∉ X.fs := fun hm => by
      obtain ⟨e, he, q⟩ := List.mem_filterMap.mp hm
      exact nfr (List.mem_filterMap.mpr ⟨e, List.mem_cons_of_mem _ he, q⟩)
    have K1 := J1.suite he hd na nL nF
    have look : PySem.W.Looks (model X.prog X.w) g1 (typeOf (.ref a)) cls := fun A Q E t1 k q => wpAny_typeOf_ref (k _ _ he) (hz.1.symm ▸ q)
    have fits := PySem.W.exm_one (M := model X.prog X.w) J1.kIn look hm
    refine wpAny_handleBy_cons (codeAny_handlers_test ?_) (fun q => nomatch q)
    have name : ∀ {Q E : Value → Shared → Prop}, Q c { t with heap := g1 } → wpAny (model X.prog X.w) (X.A.mark (some (.ref a))) (eval (.Name x np) X.env) Q E { t with heap := g1 } := fun {Q E} q => by
      obtain ⟨c1, c2, c3 | ⟨c3, c4, c5⟩⟩ := hc
      · exact ld_glob (X := X.suite a ((a, oe) :: (X.pn ++ pins))) K1 c1 c3 q c2
      · exact ld_blt (X := X.suite a ((a, oe) :: (X.pn ++ pins))) K1 c1 c3 c4 q c5 c2
    refine name (fits.here ?_)
    cases b with
    | true =>
      refine codeAny_handlers_suite_as (HandSPX.lands_againZ fl fun g2 fl2 up2 => ?_)
      obtain ⟨oe2, vs2, he2, hz2, hd2⟩ := fl2.there
      obtain ⟨Ca, rfl, fin⟩ := yes rfl a na
      have J2 : Inv X pins σ1 (upd H1 a (ExcO a Ca d)) { t with heap := g2 } := Inv.landedX J nb fl2.1 ((up.trans up1).trans up2) os ag nI nB na he2 hz2 hd2
      let Y : Cx := X.suite a (X.pn ++ pins)
      have L : Inv Y [] σ1 (upd H1 a (ExcO a Ca d)) { t with heap := g2 } := ⟨J2.ok.suite _ _, J2.os, J2.bare, J2.base, J2.loc, J2.cell, J2.free, J2.freeC, fun p hp => J2.pin p (by rwa [List.append_nil] at hp), J2.hok, J2.len⟩
      refine store_ok (X := Y) (v := .ref a) L hN hi (.inl hln) rfl (fun t1 L1 => ?_) (.inr hln)
      have suite : PSs Y [.Assign [.Name y p1] (.Name n p2) p3] (tAsg (tVar i) (gName j)) := pss_one (ps_set (X := Y) hN hj (.inl hly) (pe_var (X := Y) hi (.inl hln) o1 o2) rfl (.inr hly))
      have il : i < σ1.length := by rw [J.len]; exact (List.getElem?_eq_some_iff.mp hi).1
      let D' : Ends := { nx := fun σ' H' => D.nx (σ'.set i none) H', rt := fun _ _ => False, bk := fun _ _ => False, ct := fun _ _ => False }
      refine wpAny_mono (suite.run [] t1 _ _ D' L1 ⟨.ref a, List.getElem?_set_self il, fin⟩) (fun f t2 q => ?_) fun _ _ z => False.elim z
      cases f with
      | next =>
        obtain ⟨σ2, H2, L2, q⟩ := q
        have M2 : Inv X pins σ2 H2 t2 := ⟨ok, L2.os, L2.bare, L2.base, L2.loc, L2.cell, L2.free, L2.freeC, fun p hp => L2.pin p (by rw [List.append_nil]; exact hp), L2.hok, L2.len⟩
        exact gone_ok M2 hN hi hln fun t3 M3 => ⟨_, _, M3, q⟩
      | brk => obtain ⟨_, _, _, q⟩ := q; exact False.elim q
      | cont => obtain ⟨_, _, _, q⟩ := q; exact False.elim q
      | ret u => obtain ⟨_, _, _, _, _, q⟩ := q; exact False.elim q
    | false =>
      refine wpAny_handleBy_nil ?_
      obtain ⟨_, _, _, o1, v1, T1, _, _, e1, _, d1, f1, _⟩ := id fl
      unfold PySem.passOn
      refine wpAny_bind (wpAny_field e1 d1 f1 ?_)
      rw [if_neg (show ¬ ((Value.ref T1 == Value.none) = true) from by simp)]
      have fin : wpAny (model X.prog X.w) X.A (setFlight (.ref a) X.env.frame) (fun _ t4 => wpAny (model X.prog X.w) X.A (throw (.ref a) : Sem Flow) (SP X pins D) X.xe t4) X.xe { t with heap := g1 } := by
        rw [hf]
        refine HandSPX.setFlight_upZ fl fun g2 hh up2 => wpAny_throw (tk _ _ ⟨a, B, sI, pins, σ1, H1, cls, d, rfl, J, nb, (up.trans up1).trans up2, .inr (.inr (hs ▸ hh)), na, os, ag, no rfl⟩)
      first
        | exact wpAny_bind (wpAny_pure (wpAny_bind fin))
        | exact wpAny_bind fin
  · have q := spTry ok q
    cases f with
    | next => exact wpAny_execs_nil q
    | ret u => exact q
    | brk => exact q
    | cont => exact q
end
end M
namespace M
open PySem L2 PyProof.Rows
/-! ### calls that are handed a fresh list by reference -/
def Ex (σ σ' : St) : Prop := ∃ τ, σ' = σ ++ τ
def PostN (W : Wd) (Z : L2.WX) (T : Addr → Prop) (env : Env) (σ : St) (H : Hp) (r : RE (List (Sum Nat PyData) × Env)) (Q : List V → Hp → Prop) : Prop :=
  match r with
  | .ok p => ∀ vs σ' H', Ex σ σ' → (refsOf p.1 = [] → σ' = σ) → Step env σ H p.2 σ' H' → Rel W T p.2 σ' H' → ArgL W T p.2 σ' H' p.1 vs → Q vs H'
  | .exc x => PostX W Z T env σ H x
  | .stuck => False
def tLN (C : CallT) (G : List PyData) (W : Wd) (Z : L2.WX) (ms : List ME) : TA := fun σ H Q => ∃ T env, Rel W T env σ H ∧ PostN W Z T env σ H (evN C G ms env) Q
theorem Ex.get {σ σ' : St} (h : Ex σ σ') {i : Nat} {x : Option V} (e : σ[i]? = some x) : σ'[i]? = some x := by
  obtain ⟨τ, rfl⟩ := h
  obtain ⟨hi, _⟩ := List.getElem?_eq_some_iff.mp e
  rw [List.getElem?_append_left hi]
  exact e
section
variable {W : Wd} {Z : L2.WX} {T : Addr → Prop} {env env' : Env} {σ σ' : St} {H H' : Hp} {C : CallT} {G : List PyData} {m : ME} {ms : List ME}
theorem ArgL.app (x : Option V) (env2 : Env) (ha : ∀ a, Av T env2 (σ ++ [x]) a → Av T' env σ a) : ∀ {as : List (Sum Nat PyData)} {vs : List V}, ArgL W T' env σ H as vs → ArgL W T env2 (σ ++ [x]) H as vs
  | [], _, h => h
  | .inr d :: as, _, h => by
    obtain ⟨v, r, e, h1, h2⟩ := h
    exact ⟨v, r, e, Rep.less h1 ha, ArgL.app x env2 ha h2⟩
  | .inl i :: as, _, h => by
    obtain ⟨v, r, e, h1, h2⟩ := h
    exact ⟨v, r, e, (Ex.get ⟨[x], rfl⟩ h1), ArgL.app x env2 ha h2⟩
theorem app_get {α : Type} {l : List α} {x y : α} {i : Nat} (h : (l ++ [x])[i]? = some y) : l[i]? = some y ∨ (i = l.length ∧ y = x) := by
  by_cases hi : i < l.length
  · rw [List.getElem?_append_left hi] at h
    exact .inl h
  · rw [List.getElem?_append_right (by omega)] at h
    by_cases z : i - l.length = 0
    · rw [z] at h
      cases h
      exact .inr ⟨by omega, rfl⟩
    · obtain ⟨n, hn⟩ : ∃ n, i - l.length = n + 1 := ⟨i - l.length - 1, by omega⟩
      rw [hn] at h
      cases h
theorem owns_app {d : PyData} {a b : Addr} {i : Nat} (hl : env.length = σ.length) (h : Owns (env ++ [some (d, .ow)]) (σ ++ [some (.ref a)]) i b) : Owns env σ i b ∨ (i = env.length ∧ b = a) := by
  obtain ⟨d', k, h1, h2, h3⟩ := h
  rcases app_get h1 with q | ⟨q, _⟩
  · obtain ⟨hi, _⟩ := List.getElem?_eq_some_iff.mp q
    rw [List.getElem?_append_left (by omega)] at h3
    exact .inl ⟨d', k, q, h2, h3⟩
  · rw [q, hl, List.getElem?_append_right (Nat.le_refl _), Nat.sub_self] at h3
    cases h3
    exact .inr ⟨q, rfl⟩
theorem app_owns {d : PyData} {a b : Addr} {i : Nat} (h : Owns env σ i b) : Owns (env ++ [some (d, .ow)]) (σ ++ [some (.ref a)]) i b := by
  obtain ⟨d', k, h1, h2, h3⟩ := h
  obtain ⟨q1, _⟩ := List.getElem?_eq_some_iff.mp h1
  obtain ⟨q2, _⟩ := List.getElem?_eq_some_iff.mp h3
  exact ⟨d', k, by rw [List.getElem?_append_left q1]; exact h1, h2, by rw [List.getElem?_append_left q2]; exact h3⟩
/-- a fresh list in a slot of its own -/
theorem Rel.push {d : PyData} {a : Addr} (hT : ¬ T a) (R : Rel W (fun b => T b ∨ (V.ref a) = .ref b) env σ H) (o : OwnAt W H (fun b => Av T env σ b ∨ b = a) d a) : Rel W T (env ++ [some (d, .ow)]) (σ ++ [some (.ref a)]) H := by
  have av : ∀ b, Av T (env ++ [some (d, .ow)]) (σ ++ [some (.ref a)]) b → Av (fun b => T b ∨ (V.ref a) = .ref b) env σ b := fun b z => by
    rcases z with z | ⟨i, z⟩
    · exact .inl (.inl z)
    · rcases owns_app R.len z with z | ⟨_, z⟩
      · exact .inr ⟨i, z⟩
      · subst z; exact .inl (.inr rfl)
  have na : ¬ Ownd env σ a := (R.prot a (.inr rfl)).1
  refine ⟨by rw [List.length_append, List.length_append, R.len]; rfl, fun i d' k e => ?_, fun i j b h1 h2 => ?_, fun b t => ?_⟩
  · rcases app_get e with q | ⟨q, z⟩
    · obtain ⟨v, h1, h2⟩ := R.slot i d' k q
      refine ⟨v, Ex.get ⟨_, rfl⟩ h1, h2.tr ⟨fun a o _ e => e, fun a n _ q => n (av a q)⟩ fun a _ _ o q => q⟩
    · cases z
      refine ⟨.ref a, by rw [q, R.len, List.getElem?_append_right (Nat.le_refl _), Nat.sub_self]; rfl, a, rfl, o.tr ⟨fun _ _ _ e => e, fun b n _ q => n ?_⟩ fun _ e => e⟩
      rcases av b q with (z | z) | z
      · exact .inl (.inl z)
      · cases z; exact .inr rfl
      · exact .inl (.inr z)
  · rcases owns_app R.len h1 with y1 | ⟨y1, z1⟩
    · rcases owns_app R.len h2 with y2 | ⟨y2, z2⟩
      · exact R.inj i j b y1 y2
      · subst z2; exact absurd ⟨i, y1⟩ na
    · rcases owns_app R.len h2 with y2 | ⟨y2, z2⟩
      · subst z1; exact absurd ⟨j, y2⟩ na
      · rw [y1, y2]
  · refine ⟨fun ⟨i, z⟩ => ?_, (R.prot b (.inl t)).2⟩
    rcases owns_app R.len z with z | ⟨_, z⟩
    · exact (R.prot b (.inl t)).1 ⟨i, z⟩
    · subst z; exact hT t
/-- the slots of the frame alone -/
theorem take_owns {n i : Nat} {b : Addr} (h : Owns (env.take n) (σ.take n) i b) : Owns env σ i b := by
  obtain ⟨d, k, h1, h2, h3⟩ := h
  have hi : i < n := by
    obtain ⟨q, _⟩ := List.getElem?_eq_some_iff.mp h1
    rw [List.length_take] at q
    omega
  rw [List.getElem?_take, if_pos hi] at h1 h3
  exact ⟨d, k, h1, h2, h3⟩
theorem take_av {n : Nat} {b : Addr} (h : Av T (env.take n) (σ.take n) b) : Av T env σ b := h.elim .inl fun ⟨i, z⟩ => .inr ⟨i, take_owns z⟩
theorem Rel.take {n : Nat} (R : Rel W T env σ H) : Rel W T (env.take n) (σ.take n) H := by
  refine ⟨by rw [List.length_take, List.length_take, R.len], fun i d k e => ?_, fun i j b h1 h2 => R.inj i j b (take_owns h1) (take_owns h2), fun b t => ⟨fun ⟨i, z⟩ => (R.prot b t).1 ⟨i, take_owns z⟩, (R.prot b t).2⟩⟩
  have hi : i < n := by
    obtain ⟨q, _⟩ := List.getElem?_eq_some_iff.mp e
    rw [List.length_take] at q
    omega
  rw [List.getElem?_take, if_pos hi] at e
  obtain ⟨v, h1, h2⟩ := R.slot i d k e
  exact ⟨v, by rw [List.getElem?_take, if_pos hi]; exact h1, h2.tr ⟨fun _ _ _ e => e, fun b m _ q => m (take_av q)⟩ fun _ _ _ _ e => e⟩
theorem Step.take {env0 : Env} {σ0 : St} {H0 : Hp} (S : Step env0 σ0 H0 env σ H) : Step env0 σ0 H0 (env.take env0.length) (σ.take env0.length) H := by
  refine ⟨S.keep, fun a ⟨i, z⟩ => S.own a ⟨i, take_owns z⟩, S.dom, fun i d k hk e => ?_, S.lnk⟩
  obtain ⟨d', h1, h2, h3⟩ := S.fix i d k hk e
  obtain ⟨hi, _⟩ := List.getElem?_eq_some_iff.mp e
  exact ⟨d', by rw [List.getElem?_take, if_pos hi]; exact h1, by rw [List.getElem?_take, if_pos hi]; exact h2, h3⟩
theorem callAt_va {f : Nat} {as : List (Sum Nat PyData)} {w : EV} (h : callAt C f as env = .ok (w, env')) : ∃ d fr, w = .va d fr := by
  unfold callAt at h
  split at h
  · split at h
    · cases h
    · split at h
      · split at h
        · cases h; exact ⟨_, _, rfl⟩
        · cases h
      · split at h <;> cases h
      · cases h
  · cases h
theorem callAt_exc {f : Nat} {as : List (Sum Nat PyData)} {x : Exn × Env} (h : callAt C f as env = .exc x) : refsOf as = [] := by
  unfold callAt at h
  split at h
  · split at h
    · cases h
    · split at h
      · split at h <;> cases h
      · split at h
        · assumption
        · cases h
      · cases h
  · cases h
theorem evN_val {env : Env} (hm : isRefN m = false) : evN C G (m :: ms) env = (ev C G m env >>= fun p => fzv p.2 p.1 >>= fun p => evN C G ms p.2 >>= fun q => .ok (.inr p.1 :: q.1, q.2)) := by
  cases m with
  | ref i => cases hm
  | nw i => cases hm
  | _ => simp only [evN]
def nwF (C : CallT) (G : List PyData) (ms : List ME) (w : EV) (env : Env) : RE (List (Sum Nat PyData) × Env) := match w with
  | .va d true => evN C G ms env >>= fun q => .ok (.inl q.2.length :: q.1, q.2 ++ [some (d, .ow)])
  | _ => .stuck
theorem evN_nw {env : Env} : evN C G (.nw m :: ms) env = (ev C G m env >>= fun p => nwF C G ms p.1 p.2) := by
  simp only [evN]
  rfl
theorem evN_kinds : ∀ {ms : List ME} {env env' : Env} {as : List (Sum Nat PyData)}, evN C G ms env = .ok (as, env') → as.map isInl = ms.map isRefN
  | [], _, _, _, h => by
    simp only [evN] at h
    cases h
    rfl
  | m :: ms, env, env', as, h => by
    cases hm : isRefN m with
    | false =>
      rw [evN_val hm] at h
      cases e1 : ev C G m env with
      | ok p =>
        simp only [bind, M.R.bind, e1] at h
        cases e2 : fzv p.2 p.1 with
        | ok q =>
          simp only [e2] at h
          cases e3 : evN C G ms q.2 with
          | ok r =>
            simp only [e3] at h
            cases h
            rw [List.map_cons, List.map_cons, evN_kinds e3, hm]
            rfl
          | exc x => simp only [e3] at h; cases h
          | stuck => simp only [e3] at h; cases h
        | exc x => simp only [e2] at h; cases h
        | stuck => simp only [e2] at h; cases h
      | exc x => simp only [bind, M.R.bind, e1] at h; cases h
      | stuck => simp only [bind, M.R.bind, e1] at h; cases h
    | true =>
      rw [List.map_cons, hm]
      cases m with
      | ref i =>
        simp only [evN] at h
        split at h
        · cases e : evN C G ms env with
          | ok p =>
            simp only [bind, M.R.bind, e] at h
            cases h
            rw [List.map_cons, evN_kinds e]
            rfl
          | exc x => simp only [bind, M.R.bind, e] at h; cases h
          | stuck => simp only [bind, M.R.bind, e] at h; cases h
        · cases h
      | nw m =>
        rw [evN_nw] at h
        cases e1 : ev C G m env with
        | ok p =>
          simp only [bind, M.R.bind, e1] at h
          unfold nwF at h
          split at h
          · cases e : evN C G ms p.2 with
            | ok q =>
              simp only [bind, M.R.bind, e] at h
              cases h
              rw [List.map_cons, evN_kinds e]
              rfl
            | exc x => simp only [bind, M.R.bind, e] at h; cases h
            | stuck => simp only [bind, M.R.bind, e] at h; cases h
          · cases h
        | exc x => simp only [bind, M.R.bind, e1] at h; cases h
        | stuck => simp only [bind, M.R.bind, e1] at h; cases h
      | _ => cases hm
end
section
variable {nm : Nm} {C : CallT} {G : List PyData} {W : Wd} {k : Nat} {Z : L2.WX} {X : Cx} {e : Expr} {es : List Expr} {pos : Pos} {m : ME} {ms : List ME}
theorem pl_nilN : PA X [] (tLN C G W Z []) := pa_imp pa_nil fun σ H Q ⟨T, env, rl, h⟩ => by
  simp only [evN] at h
  exact h [] σ H ⟨[], (List.append_nil σ).symm⟩ (fun _ => rfl) .refl rl rfl
theorem pl_consN (hm : isRefN m = false) (he : PE X e (tE C G W Z m)) (hes : PA X es (tLN C G W Z ms)) (hs : starEach (e :: es) X.env = (false, eval e X.env) :: starEach es X.env) : PA X (e :: es) (tLN C G W Z (m :: ms)) := by
  refine pa_imp (pa_cons he hes hs) fun σ H Q ⟨T, env, rl, h⟩ => ?_
  rw [evN_val hm] at h
  refine tE_mono (one_gen (P := fun r => PostN W Z T env σ H r Q) (f := fun w env => fzv env w >>= fun p => evN C G ms p.2 >>= fun q => .ok (.inr p.1 :: q.1, q.2)) rl (fun _ h => h) id h) fun x H1 h => ?_
  obtain ⟨w, env1, S, R1, V, h⟩ := h
  obtain ⟨p, e1, h⟩ := post_fz (P := fun r => PostN W Z T env σ H r Q) h id
  obtain ⟨S1, R2, r1⟩ := fz_ok R1 V (show fzv env1 w = .ok (p.1, p.2) from e1)
  refine ⟨T, p.2, R2, ?_⟩
  cases e2 : evN C G ms p.2 with
  | ok q =>
    simp only [bind, M.R.bind, e2] at h
    exact fun vs σ' H2 ex nr S2 R3 hl => h (x :: vs) σ' H2 ex nr ((S.trans S1).trans S2) R3 ⟨x, vs, rfl, Rep.tr (S2.tr (T := T) (T' := T) fun _ z => .inl z) r1, hl⟩
  | exc y => simp only [bind, M.R.bind, e2] at h; exact PostX.pre (S.trans S1) (fun _ z => z) h
  | stuck => simp only [bind, M.R.bind, e2] at h; exact h
theorem pl_consRN {i : Nat} (he : PE X e (tVar i)) (hes : PA X es (tLN C G W Z ms)) (hs : starEach (e :: es) X.env = (false, eval e X.env) :: starEach es X.env) : PA X (e :: es) (tLN C G W Z (.ref i :: ms)) := by
  refine pa_imp (pa_cons he hes hs) fun σ H Q ⟨T, env, rl, h⟩ => ?_
  simp only [evN] at h
  split at h
  · rename_i ho
    have : ∃ d k, env[i]? = some (some (d, k)) := by
      unfold ownS at ho
      split at ho
      · rename_i d q; exact ⟨_, _, q⟩
      · rename_i d q; exact ⟨_, _, q⟩
      · cases ho
    obtain ⟨d, k, q⟩ := this
    obtain ⟨v, e1, _⟩ := rl.slot i d k q
    refine ⟨v, e1, T, env, rl, ?_⟩
    cases e2 : evN C G ms env with
    | ok q =>
      simp only [bind, M.R.bind, e2] at h
      exact fun vs σ' H2 ex nr S2 R3 hl => h (v :: vs) σ' H2 ex (fun z => by cases z) S2 R3 ⟨v, vs, rfl, ex.get e1, hl⟩
    | exc y => simp only [bind, M.R.bind, e2] at h; exact h
    | stuck => simp only [bind, M.R.bind, e2] at h; exact h
  · exact h.elim
theorem pl_consW (he : PE X e (tE C G W Z m)) (hes : PA X es (tLN C G W Z ms)) (hs : starEach (e :: es) X.env = (false, eval e X.env) :: starEach es X.env) : PA X (e :: es) (tLN C G W Z (.nw m :: ms)) := by
  refine pa_imp (pa_cons he hes hs) fun σ H Q ⟨T, env, rl, h⟩ => ?_
  rw [evN_nw] at h
  refine tE_mono (one_gen (P := fun r => PostN W Z T env σ H r Q) (f := nwF C G ms) rl (fun _ h => h) id h) fun x H1 h => ?_
  obtain ⟨w, env1, S, R1, V, h⟩ := h
  unfold nwF at h
  split at h
  · rename_i d
    obtain ⟨a, ea, nT, hn, o⟩ := V
    subst ea
    refine ⟨Tw T (.va d true) (.ref a), env1, R1, ?_⟩
    have pa := R1.prot a (.inr rfl)
    cases e2 : evN C G ms env1 with
    | ok q =>
      simp only [bind, M.R.bind, e2] at h
      intro vs σ2 H2 ex nr S2 R2 hl
      have R2 : Rel W (fun b => T b ∨ (V.ref a) = .ref b) q.2 σ2 H2 := R2
      have o2 : OwnAt W H2 (fun b => Av T q.2 σ2 b ∨ b = a) d a := o.tr ⟨fun b ob nb e => S2.keep b ob e fun q => nb (.inl (.inr q)), fun b nb e z => by
        rcases z with (z | z) | z
        · exact nb (.inl (.inl z))
        · rcases S2.own b z with y | y
          · exact nb (.inl (.inr y))
          · exact e y
        · exact nb (.inr z)⟩ fun ob e => S2.keep a ob e pa.1
      have R3 := Rel.push nT R2 o2
      have S3 : Step env σ H (q.2 ++ [some (d, .ow)]) (σ2 ++ [some (.ref a)]) H2 := by
        have S0 := S.trans S2
        refine ⟨S0.keep, fun b ⟨i, z⟩ => ?_, S0.dom, fun i d' k hk e => ?_, S0.lnk⟩
        · rcases owns_app R2.len z with z | ⟨_, z⟩
          · exact S0.own b ⟨i, z⟩
          · subst z; exact .inr hn
        · obtain ⟨d2, g1, g2, g3⟩ := S0.fix i d' k hk e
          obtain ⟨q1, _⟩ := List.getElem?_eq_some_iff.mp g1
          have q2 : i < σ2.length := by rw [← R2.len]; exact q1
          exact ⟨d2, by rw [List.getElem?_append_left q1]; exact g1, by rw [List.getElem?_append_left q2]; exact g2, g3⟩
      obtain ⟨τ, eτ⟩ := ex
      refine h (.ref a :: vs) (σ2 ++ [some (.ref a)]) H2 ⟨τ ++ [some (.ref a)], by rw [eτ, List.append_assoc]⟩ (fun z => by cases z) S3 R3 ⟨.ref a, vs, rfl, by rw [R2.len, List.getElem?_append_right (Nat.le_refl _), Nat.sub_self]; rfl, ?_⟩
      refine ArgL.app (T' := Tw T (.va d true) (.ref a)) _ _ (fun b z => ?_) hl
      rcases z with z | ⟨i, z⟩
      · exact .inl (.inl z)
      · rcases owns_app R2.len z with z | ⟨_, z⟩
        · exact .inr ⟨i, z⟩
        · subst z; exact .inl (.inr rfl)
    | exc y => simp only [bind, M.R.bind, e2] at h; exact PostX.pre S (fun _ z => .inl z) h
    | stuck => simp only [bind, M.R.bind, e2] at h; exact h
  · exact h.elim
theorem call_readN {f : Nat} {refs : List Bool} {σ : St} {H : Hp} {Q : VK} (hr : ms.map isRefN = refs) (h : tE C G W Z (.calln f ms) σ H Q) : tLN C G W Z ms σ H (fun vs H1 => spF W C f refs vs H1 Q (WE Z σ)) := by
  obtain ⟨T, env, rl, h⟩ := h
  simp only [ev] at h
  refine ⟨T, env, rl, ?_⟩
  cases e1 : evN C G ms env with
  | exc y => rw [e1] at h; exact h
  | stuck => rw [e1] at h; exact h
  | ok p =>
    obtain ⟨as, env1⟩ := p
    rw [e1] at h
    have h : PostE W Z T env σ H (callAt C f as env1 >>= fun p => .ok (p.1, p.2.take env.length)) Q := h
    intro vs σ1 H1 ex nr S R1 hl
    have eσ : σ1.take env.length = σ := by
      obtain ⟨τ, rfl⟩ := ex
      rw [rl.len, List.take_left]
    refine call_mid (T := T) (env := env) (env1 := env1) (H := H) ((evN_kinds e1).trans hr) ?_ S R1 hl
    cases e : callAt C f as env1 with
    | ok p =>
      obtain ⟨w, env2⟩ := p
      simp only [bind, M.R.bind, e] at h
      obtain ⟨d, fr, rfl⟩ := callAt_va e
      intro v H' S2 R2 V2
      have S3 := S2.take
      have R3 := R2.take (n := env.length)
      rw [eσ] at S3 R3
      refine h v H' S3 R3 ?_
      cases fr with
      | false =>
        have V2 : Rep W H' (Av T env2 σ1) d v := V2
        refine Rep.less V2 fun b z => ?_
        rw [← eσ] at z
        exact take_av z
      | true =>
        obtain ⟨a, ea, n1, n2, o⟩ := V2
        refine ⟨a, ea, n1, n2, o.less fun b z => ?_⟩
        rcases z with z | z
        · rw [← eσ] at z
          exact .inl (take_av z)
        · exact .inr z
    | exc x =>
      simp only [bind, M.R.bind, e] at h
      exact ⟨nr (callAt_exc e), h⟩
    | stuck => simp only [bind, M.R.bind, e] at h; exact h
theorem pm_calln (g : Gd nm C G W k Z X) {f : Nat} {x : Str} {refs : List Bool} {p pos : Pos} {e : Expr} {es : List Expr} (hf : nm.fns[f]? = some (x, refs)) (hr : ms.map isRefN = refs) (hg : Gl X x) (hdb : (x == ("__debug__" : Str)) = false) (ha : PA X (e :: es) (tLN C G W Z ms))
    (he : starEach (e :: es) X.env = (false, eval e X.env) :: starEach es X.env) (hpl : (backTo pos (starEach es X.env)).any (·.1) = false) : PE X (.Call (.Name x p) (e :: es) [] pos) (tE C G W Z (.calln f ms)) := by
  obtain ⟨fa, fd, ps, h1, h2, h3, h4⟩ := g.fns f x refs hf
  exact pe_imp (pe_callG h4 g.gu g.room hg h1 h2 h3 (fun σ => passAt g.tk σ) ha hdb he hpl) fun σ H Q h => call_readN hr h
end
end M
/-! M, sixth part: every expression of the small language. -/
namespace M
open PySem L2 PyProof.Rows
/-! ### syntax -/
theorem star_one {e : Expr} (h : ∀ v p, e ≠ .Starred v p) (es : List Expr) (env : PySem.Env) : starEach (e :: es) env = (false, eval e env) :: starEach es env := by
  cases e <;> first | rfl | exact absurd rfl (h _ _)
theorem star_none {es : List Expr} {env : PySem.Env} {pos : Pos} (h : ∀ e ∈ es, ∀ v p, e ≠ .Starred v p) : (backTo pos (starEach es env)).any (·.1) = false := by
  induction es with
  | nil => rfl
  | cons e es ih =>
    rw [star_one (h e List.mem_cons_self)]
    show (false || (backTo pos (starEach es env)).any (·.1)) = false
    rw [ih fun e he => h e (List.mem_cons_of_mem _ he)]
    rfl
theorem star_all {es : List Expr} {env : PySem.Env} {pos : Pos} (h : ∀ e ∈ es, ∀ v p, e ≠ .Starred v p) : (backTo pos (starEach es env)).all (fun x => !x.1) = true := by
  induction es with
  | nil => rfl
  | cons e es ih =>
    rw [star_one (h e List.mem_cons_self)]
    show (true && (backTo pos (starEach es env)).all (fun x => !x.1)) = true
    rw [ih fun e he => h e (List.mem_cons_of_mem _ he)]
    rfl
theorem glB_of {X : Cx} {x : Str} (h : glB X.env.scope x = true) : Gl X x ∧ (x == ("__debug__" : Str)) = false := by
  unfold glB at h
  rw [Bool.and_eq_true] at h
  obtain ⟨h1, h2⟩ := h
  refine ⟨?_, by simpa using h2⟩
  split at h1
  · rename_i q; exact q
  · cases h1
theorem visB_of {sc : Scope} {x : Str} (h : visB sc x = true) : Vis sc x := by
  unfold visB at h
  split at h
  · rename_i q; exact .inl q
  · rename_i q; exact .inr (.inl q)
  · rename_i q; exact .inr (.inr q)
  · cases h
theorem lookup_relS (scope sc : Scope) (x : Str) : (relS scope sc).names.lookup x = (scope.names.lookup x).map fun k => if (k == .free && sc.kind == .function && sc.names.lookup x == some .cell) = true then .cell else k := by
  show ((scope.names.map fun (n, k) => if (k == .free && sc.kind == .function && sc.names.lookup n == some .cell) then (n, .cell) else (n, k)).lookup x) = _
  induction scope.names with
  | nil => rfl
  | cons p r ih =>
    obtain ⟨n, k⟩ := p
    rw [List.map_cons]
    by_cases hx : x = n
    · subst hx
      by_cases hc : (k == .free && sc.kind == .function && sc.names.lookup x == some .cell) = true
      · simp only [hc, if_true, List.lookup_cons, beq_self_eq_true, Option.map_some]
      · simp only [hc, if_false, List.lookup_cons, beq_self_eq_true, Option.map_some, Bool.false_eq_true]
    · have hb : (x == n) = false := beq_eq_false_iff_ne.mpr hx
      by_cases hc : (k == .free && sc.kind == .function && sc.names.lookup n == some .cell) = true
      · simp only [hc, if_true, List.lookup_cons, hb]; exact ih
      · simp only [hc, List.lookup_cons, hb, Bool.false_eq_true, if_false]; exact ih
theorem stOk_blk {X : Cx} {s : Shared} {H : Hp} {scope : Scope} {cl : List (Str × Addr)} {c : Addr} {fp : List Addr} : StOk scope (X.blk s H scope (compEnvC scope cl c X.env) fp) := by
  intro x h
  unfold stB at h
  have e : (X.blk s H scope (compEnvC scope cl c X.env) fp).env.scope = relS scope X.env.scope := rfl
  rw [e]
  have l := lookup_relS scope X.env.scope x
  split at h
  · rename_i q
    rw [q] at l
    have l : (relS scope X.env.scope).names.lookup x = some .local := l
    exact ⟨.inl l, .inr l⟩
  · rename_i q
    rw [q] at l
    have l : (relS scope X.env.scope).names.lookup x = some .cell := l
    refine ⟨.inr l, .inl ?_⟩
    show (scope.names.lookup x == some .cell) = true
    rw [q]
    rfl
  · cases h
mutual
theorem vars_ok {N : List Str} {rs : Scope} : ∀ {n : Nat} {e : Expr} {t : MT}, cTg N rs n e = some t → ∀ i ∈ t.vars, ∃ x, N[i]? = some x
  | 0, _, _, h => by cases h
  | n + 1, e, t, h => by
    unfold cTg at h
    split at h
    · split at h
      · rename_i x p q
        cases q2 : ixOf x N with
        | none => rw [q2] at h; cases h
        | some j =>
          rw [q2] at h
          cases h
          intro i hi
          simp only [MT.vars, List.mem_singleton] at hi
          subst hi
          exact ⟨x, ixOf_get q2⟩
      · cases h
    · rename_i es k p
      cases q : mapO (cTg N rs n) es with
      | none => rw [q] at h; cases h
      | some ts =>
        rw [q] at h
        cases h
        simp only [MT.vars]
        exact varsL_ok q
    · cases h
  termination_by n _ _ _ => (n, 0)
theorem varsL_ok {N : List Str} {rs : Scope} : ∀ {n : Nat} {es : List Expr} {ts : List MT}, mapO (cTg N rs n) es = some ts → ∀ i ∈ MT.varsL ts, ∃ x, N[i]? = some x
  | n, [], ts, h => by cases h; intro i hi; simp [MT.varsL] at hi
  | n, e :: es, ts, h => by
    obtain ⟨t, zs, h1, h2, rfl⟩ := mapO_cons h
    intro i hi
    simp only [MT.varsL, List.mem_append] at hi
    rcases hi with hi | hi
    · exact vars_ok h1 i hi
    · exact varsL_ok h2 i hi
  termination_by n es _ _ => (n, es.length + 1)
end
theorem own_vars {N : List Str} {t : MT} (h : ∀ i ∈ t.vars, ∃ x, N[i]? = some x) : (ownOf N t).map (·.2) = t.vars := by
  unfold ownOf
  generalize t.vars = l at h
  induction l with
  | nil => rfl
  | cons i r ih =>
    obtain ⟨x, e⟩ := h i List.mem_cons_self
    rw [List.filterMap_cons, e]
    show i :: _ = _
    rw [ih fun j hj => h j (List.mem_cons_of_mem _ hj)]
section
variable {nm : Nm} {C : CallT} {G : List PyData} {W : Wd} {k : Nat} {Z : L2.WX} {X : Cx} {a b c e : Expr} {es : List Expr} {pos : Pos} {ma mb mc m : ME} {ms : List ME}
theorem evT_ife {env : Env} : evT C G (.ife mc ma mb) env = (evT C G mc env >>= fun p => if p.1 = true then evT C G ma p.2 else evT C G mb p.2) := by
  unfold evT
  simp only [ev]
  cases e1 : ev C G mc env with
  | ok p =>
    show (M.R.bind (M.R.bind (truW p.2 p.1) fun k => if k = true then ev C G ma p.2 else ev C G mb p.2) fun p => M.R.bind (truW p.2 p.1) fun k => .ok (k, p.2)) = (M.R.bind (M.R.bind (truW p.2 p.1) fun k => .ok (k, p.2)) fun p => if p.1 = true then (M.R.bind (ev C G ma p.2) fun p => M.R.bind (truW p.2 p.1) fun k => .ok (k, p.2)) else (M.R.bind (ev C G mb p.2) fun p => M.R.bind (truW p.2 p.1) fun k => .ok (k, p.2)))
    cases e2 : truW p.2 p.1 with
    | ok k => cases k <;> rfl
    | exc x => rfl
    | stuck => rfl
  | exc x => rfl
  | stuck => rfl
theorem pt_ifeM (hc : PT X c (tT C G W Z mc)) (ha : PT X a (tT C G W Z ma)) (hb : PT X b (tT C G W Z mb)) : PT X (.IfExp c a b pos) (tT C G W Z (.ife mc ma mb)) := by
  refine ⟨fun pins s σ H Q I h => ?_⟩
  obtain ⟨T, env, rl, h⟩ := h
  rw [evT_ife] at h
  have h := tT_gen (P := fun r => PostT W Z T env σ H r Q) rl (fun _ h => h) id h
  show wpAny _ _ (do if ← isTrue c X.env (eval c X.env) then isTrue a X.env (eval a X.env) else isTrue b X.env (eval b X.env)) _ _ s
  refine wpAny_bind (thn (hc.run pins s σ H _ I h) fun k s1 ⟨H1, I1, env1, S, R1, q⟩ => ?_)
  cases k with
  | true => exact ha.run pins s1 σ H1 Q I1 ⟨T, env1, R1, PostT.pre S q⟩
  | false => exact hb.run pins s1 σ H1 Q I1 ⟨T, env1, R1, PostT.pre S q⟩
/-- lists of expressions -/
theorem pas_E (h : ∀ e ∈ es, ∀ v p, e ≠ .Starred v p) : ∀ {ms : List ME}, (∀ (i : Nat) e m, es[i]? = some e → ms[i]? = some m → PE X e (tE C G W Z m)) → ms.length = es.length → PA X es (tLE C G W Z ms) := by
  induction es with
  | nil =>
    intro ms _ hl
    cases ms with
    | nil => exact pl_nil
    | cons m ms => cases hl
  | cons e es ih =>
    intro ms hp hl
    cases ms with
    | nil => cases hl
    | cons m ms => exact pl_cons (hp 0 e m rfl rfl) (ih (fun e he => h e (List.mem_cons_of_mem _ he)) (fun i e m h1 h2 => hp (i + 1) e m h1 h2) (by simpa using hl)) (star_one (h e List.mem_cons_self) es X.env)
theorem pas_A (h : ∀ e ∈ es, ∀ v p, e ≠ .Starred v p) : ∀ {ms : List ME}, (∀ (i : Nat) e m, es[i]? = some e → ms[i]? = some m → PE X e (tE C G W Z m)) → ms.length = es.length → PA X es (tLA C G W Z ms) := by
  induction es with
  | nil =>
    intro ms _ hl
    cases ms with
    | nil => exact pl_nilA
    | cons m ms => cases hl
  | cons e es ih =>
    intro ms hp hl
    cases ms with
    | nil => cases hl
    | cons m ms => exact pl_consA (hp 0 e m rfl rfl) (ih (fun e he => h e (List.mem_cons_of_mem _ he)) (fun i e m h1 h2 => hp (i + 1) e m h1 h2) (by simpa using hl)) (star_one (h e List.mem_cons_self) es X.env)
end
theorem pas_X {C : CallT} {G : List PyData} {W : Wd} {Z : L2.WX} {X : Cx} {es : List Expr} (h : ∀ e ∈ es, ∀ v p, e ≠ .Starred v p) : ∀ {ms : List ME}, (∀ (i : Nat) e m, es[i]? = some e → ms[i]? = some m → PE X e (tE C G W Z m)) → ms.length = es.length → PA X es (tLX C G W Z ms) := by
  induction es with
  | nil =>
    intro ms _ hl
    cases ms with
    | nil => exact pl_nilX
    | cons m ms => cases hl
  | cons e es ih =>
    intro ms hp hl
    cases ms with
    | nil => cases hl
    | cons m ms => exact pl_consX (hp 0 e m rfl rfl) (ih (fun e he => h e (List.mem_cons_of_mem _ he)) (fun i e m h1 h2 => hp (i + 1) e m h1 h2) (by simpa using hl)) (star_one (h e List.mem_cons_self) es X.env)
theorem mapO_get {α β : Type} {f : α → Option β} : ∀ {l : List α} {ys : List β}, mapO f l = some ys → ∀ (i : Nat) x y, l[i]? = some x → ys[i]? = some y → f x = some y
  | [], _, _, i, x, y, h1, _ => by simp at h1
  | a :: r, _, h, i, x, y, h1, h2 => by
    obtain ⟨b, zs, e1, e2, rfl⟩ := mapO_cons h
    cases i with
    | zero => cases Option.some.inj h1; cases Option.some.inj h2; exact e1
    | succ i => exact mapO_get e2 i x y h1 h2
theorem mapO_mem {α β : Type} {f : α → Option β} : ∀ {l : List α} {ys : List β}, mapO f l = some ys → ∀ x ∈ l, ∃ y, f x = some y
  | [], _, _, x, h => by cases h
  | a :: r, _, h, x, hx => by
    obtain ⟨b, zs, e1, e2, rfl⟩ := mapO_cons h
    rcases List.mem_cons.mp hx with e | e
    · subst e; exact ⟨b, e1⟩
    · exact mapO_mem e2 x e
theorem cE_star {nm : Nm} {N : List Str} {n : Nat} {sc : Scope} {e : Expr} {m : ME} (h : cE nm N n sc e = some m) : ∀ v p, e ≠ .Starred v p := fun v p z => by
  subst z
  cases n <;> simp [cE] at h
section
variable {nm : Nm} {C : CallT} {G : List PyData} {W : Wd} {k : Nat}
theorem cBool_ok {X : Cx} {Z : L2.WX} (g : Gd nm C G W k Z X) {op : BoolOp} {pos : Pos} : ∀ {es : List Expr} {ms : List ME} {m : ME}, ms.length = es.length → (∀ (i : Nat) e m, es[i]? = some e → ms[i]? = some m → PE X e (tE C G W Z m) ∧ PT X e (tT C G W Z m) ∧ ∀ i, m ≠ .ref i) → cBool op ms = some m →
    PE X (.BoolOp op es pos) (tE C G W Z m) ∧ PW X (.BoolOp op es pos) (tT C G W Z m) ∧ ∀ i, m ≠ .ref i
  | [], [], m, _, _, h => by cases h
  | [e], [m1], m, _, hp, h => by
    simp only [cBool] at h
    cases h
    obtain ⟨h1, h2, h3⟩ := hp 0 e _ rfl rfl
    refine ⟨pe_one h1, ?_, h3⟩
    cases op with
    | And => exact pw_and1 h2
    | Or => exact pw_or1 h2
  | e1 :: e2 :: es, m1 :: m2 :: ms, m, hl, hp, h => by
    simp only [cBool, Option.bind_eq_some_iff] at h
    obtain ⟨mr, hr, h⟩ := h
    cases h
    obtain ⟨h1, h2, h3⟩ := hp 0 e1 m1 rfl rfl
    obtain ⟨i1, i2, i3⟩ := cBool_ok g (pos := pos) (es := e2 :: es) (ms := m2 :: ms) (m := mr) (by simpa using hl) (fun i e m a b => hp (i + 1) e m a b) (by simpa only [cBool, Option.bind_eq_some_iff] using hr)
    cases op with
    | And => exact ⟨pm_and g h1 i1, pw_andM h2 i2, fun i z => by cases z⟩
    | Or => exact ⟨pm_or g h1 i1, pw_orM h2 i2, fun i z => by cases z⟩
/-- arguments of a call -/
theorem cArgs_ok {X : Cx} {Z : L2.WX} {f : Expr → Option ME} (hp : ∀ e m, f e = some m → PE X e (tE C G W Z m) ∧ (∀ i, m ≠ .ref i) ∧ (∀ v p, e ≠ .Starred v p) ∧ ∀ i, m = .var i → PE X e (tVar i)) : ∀ {refs : List Bool} {es : List Expr} {ms : List ME}, cArgs f refs es = some ms → PA X es (tLG C G W Z ms) ∧ ms.map isRefM = refs ∧ ∀ e ∈ es, ∀ v p, e ≠ .Starred v p
  | [], [], ms, h => by
    cases h
    exact ⟨pl_nilG, rfl, fun e he => by cases he⟩
  | false :: refs, e :: es, ms, h => by
    simp only [cArgs, Option.bind_eq_some_iff] at h
    obtain ⟨m, h1, ms', h2, h⟩ := h
    cases h
    obtain ⟨p1, p2, p3, _⟩ := hp e m h1
    obtain ⟨i1, i2, i3⟩ := cArgs_ok hp h2
    refine ⟨pl_consG p2 p1 i1 (star_one p3 es X.env), ?_, fun e' he => ?_⟩
    · rw [List.map_cons, i2]
      cases m with
      | ref i => exact absurd rfl (p2 i)
      | _ => rfl
    · rcases List.mem_cons.mp he with z | z
      · subst z; exact p3
      · exact i3 e' z
  | true :: refs, e :: es, ms, h => by
    simp only [cArgs, Option.bind_eq_some_iff] at h
    obtain ⟨m, h1, h⟩ := h
    obtain ⟨p1, p2, p3, p4⟩ := hp e m h1
    split at h
    · rename_i i
      rw [Option.bind_eq_some_iff] at h
      obtain ⟨ms', h2, h⟩ := h
      cases h
      obtain ⟨i1, i2, i3⟩ := cArgs_ok hp h2
      refine ⟨pl_consR (p4 i rfl) i1 (star_one p3 es X.env), ?_, fun e' he => ?_⟩
      · rw [List.map_cons, i2]; rfl
      · rcases List.mem_cons.mp he with z | z
        · subst z; exact p3
        · exact i3 e' z
    · cases h
  | [], _ :: _, ms, h => by simp [cArgs] at h
  | true :: _, [], ms, h => by simp [cArgs] at h
  | false :: _, [], ms, h => by simp [cArgs] at h
/-- the same, with fresh lists by reference -/
theorem cArgsN_ok {X : Cx} {Z : L2.WX} {f : Expr → Option ME} (hp : ∀ e m, f e = some m → PE X e (tE C G W Z m) ∧ (∀ v p, e ≠ .Starred v p) ∧ ∀ i, m = .var i → PE X e (tVar i)) : ∀ {refs : List Bool} {es : List Expr} {ms : List ME}, cArgsN f refs es = some ms → PA X es (tLN C G W Z ms) ∧ ms.map isRefN = refs ∧ ∀ e ∈ es, ∀ v p, e ≠ .Starred v p
  | [], [], ms, h => by
    cases h
    exact ⟨pl_nilN, rfl, fun e he => by cases he⟩
  | false :: refs, e :: es, ms, h => by
    simp only [cArgsN, Option.bind_eq_some_iff] at h
    obtain ⟨m, h1, h⟩ := h
    split at h
    · cases h
    · rename_i hn
      have hn : isRefN m = false := by simpa using hn
      rw [Option.bind_eq_some_iff] at h
      obtain ⟨ms', h2, h⟩ := h
      cases h
      obtain ⟨p1, p3, _⟩ := hp e m h1
      obtain ⟨i1, i2, i3⟩ := cArgsN_ok hp h2
      refine ⟨pl_consN hn p1 i1 (star_one p3 es X.env), by rw [List.map_cons, i2, hn], fun e' he => ?_⟩
      rcases List.mem_cons.mp he with z | z
      · subst z; exact p3
      · exact i3 e' z
  | true :: refs, e :: es, ms, h => by
    simp only [cArgsN, Option.bind_eq_some_iff] at h
    obtain ⟨m, h1, h⟩ := h
    obtain ⟨p1, p3, p4⟩ := hp e m h1
    split at h
    · rename_i i
      rw [Option.bind_eq_some_iff] at h
      obtain ⟨ms', h2, h⟩ := h
      cases h
      obtain ⟨i1, i2, i3⟩ := cArgsN_ok hp h2
      refine ⟨pl_consRN (p4 i rfl) i1 (star_one p3 es X.env), by rw [List.map_cons, i2]; rfl, fun e' he => ?_⟩
      rcases List.mem_cons.mp he with z | z
      · subst z; exact p3
      · exact i3 e' z
    · rename_i l
      rw [Option.bind_eq_some_iff] at h
      obtain ⟨ms', h2, h⟩ := h
      cases h
      obtain ⟨i1, i2, i3⟩ := cArgsN_ok hp h2
      refine ⟨pl_consW p1 i1 (star_one p3 es X.env), by rw [List.map_cons, i2]; rfl, fun e' he => ?_⟩
      rcases List.mem_cons.mp he with z | z
      · subst z; exact p3
      · exact i3 e' z
    · cases h
  | [], _ :: _, ms, h => by simp [cArgsN] at h
  | true :: _, [], ms, h => by simp [cArgsN] at h
  | false :: _, [], ms, h => by simp [cArgsN] at h
theorem cE_var {X : Cx} {n : Nat} {e : Expr} {i : Nat} (h : cE nm X.N n X.env.scope e = some (.var i)) : PE X e (tVar i) := by
  cases n with
  | zero => simp [cE] at h
  | succ n =>
    unfold cE at h
    split at h
    · rename_i x p
      split at h
      · rename_i ho
        split at h
        · rename_i hv
          rw [Option.map_eq_some_iff] at h
          obtain ⟨j, h1, h2⟩ := h
          cases h2
          obtain ⟨o1, o2⟩ := okName_of ho
          exact pe_var (ixOf_get h1) (visB_of hv) o1 o2
        · split at h
          · simp [Option.map_eq_some_iff] at h
          · cases h
      · cases h
    · simp [Option.map_eq_some_iff] at h
    · simp [Option.bind_eq_some_iff, Option.map_eq_some_iff] at h
    · simp [Option.map_eq_some_iff] at h
    · simp [Option.map_eq_some_iff] at h
    · -- a chain of and, or is no name, but one alone: then it is the name itself
      rename_i op es p
      rw [Option.bind_eq_some_iff] at h
      obtain ⟨ms, h1, h2⟩ := h
      match es, ms, h1, h2 with
      | [], [], h1, h2 => cases h2
      | [e1], [m1], h1, h2 =>
        obtain ⟨y, zs, g1, g2, g3⟩ := mapO_cons h1
        cases g3
        simp only [cBool] at h2
        cases h2
        exact pe_one (cE_var g1)
      | e1 :: e2 :: es, m1 :: m2 :: ms, h1, h2 =>
        simp only [cBool, Option.bind_eq_some_iff] at h2
        obtain ⟨mr, _, h2⟩ := h2
        cases op <;> cases h2
      | [], _ :: _, h1, h2 => cases h1
      | [_], [], h1, h2 => obtain ⟨_, _, _, _, g3⟩ := mapO_cons h1; cases g3
      | [_], _ :: _ :: _, h1, h2 => obtain ⟨_, _, _, g2, g3⟩ := mapO_cons h1; cases g3; cases g2
      | _ :: _ :: _, [], h1, h2 => obtain ⟨_, _, _, _, g3⟩ := mapO_cons h1; cases g3
      | _ :: _ :: _, [_], h1, h2 => obtain ⟨_, _, _, g2, g3⟩ := mapO_cons h1; cases g3; obtain ⟨_, _, _, _, g4⟩ := mapO_cons g2; cases g4
    · split at h
      · simp [Option.bind_eq_some_iff, Option.map_eq_some_iff] at h
      · cases h
    · split at h
      · simp [Option.bind_eq_some_iff, Option.map_eq_some_iff] at h
      · cases h
    · simp [Option.bind_eq_some_iff, Option.map_eq_some_iff] at h
    · unfold cCall at h
      split at h
      · split at h
        · split at h
          · split at h
            · split at h
              · simp [Option.map_eq_some_iff] at h
              · split at h
                · simp [Option.map_eq_some_iff] at h
                · simp [Option.bind_eq_some_iff, Option.map_eq_some_iff] at h
            · cases h
          · cases h
        · split at h
          · split at h
            · split at h
              · split at h
                · simp [Option.map_eq_some_iff] at h
                · cases h
              · simp [Option.map_eq_some_iff] at h
            · simp [Option.map_eq_some_iff] at h
            · cases h
          · split at h
            · split at h
              · split at h
                · split at h
                  · simp [Option.bind_eq_some_iff, Option.map_eq_some_iff] at h
                  · cases h
                · simp [Option.map_eq_some_iff] at h
              · simp [Option.map_eq_some_iff] at h
              · cases h
            split at h
            · simp [Option.map_eq_some_iff] at h
            · rw [Option.bind_eq_some_iff] at h
              obtain ⟨_, _, h⟩ := h
              rw [Option.bind_eq_some_iff] at h
              obtain ⟨_, _, h⟩ := h
              split at h
              · cases h
              · simp [Option.map_eq_some_iff] at h
      · cases h
    · split at h
      · split at h
        · simp [Option.bind_eq_some_iff, Option.map_eq_some_iff] at h
        · split at h
          · simp [Option.bind_eq_some_iff, Option.map_eq_some_iff] at h
          · split at h
            · split at h
              · rw [Option.bind_eq_some_iff] at h
                obtain ⟨a', _, h⟩ := h
                split at h <;> cases h
              · cases h
            · cases h
      · cases h
    · split at h
      · rw [Option.bind_eq_some_iff] at h
        obtain ⟨a', _, h⟩ := h
        split at h <;> cases h
      · cases h
    · split at h
      · split at h
        · simp [Option.bind_eq_some_iff, Option.map_eq_some_iff] at h
        · cases h
      · cases h
    · cases h
    · simp [Option.bind_eq_some_iff, Option.map_eq_some_iff] at h
    · simp [Option.map_eq_some_iff] at h
    · rw [Option.bind_eq_some_iff] at h
      obtain ⟨a', _, h⟩ := h
      split at h <;> simp [Option.bind_eq_some_iff, Option.map_eq_some_iff] at h
    · simp [Option.bind_eq_some_iff, Option.map_eq_some_iff] at h
    · rw [Option.map_eq_some_iff] at h
      obtain ⟨ms, _, h⟩ := h
      split at h <;> cases h
    · simp [Option.map_eq_some_iff] at h
    · rw [Option.bind_eq_some_iff] at h
      obtain ⟨t, _, h⟩ := h
      split at h
      · simp [Option.bind_eq_some_iff, Option.map_eq_some_iff] at h
      · cases h
    · cases h
end
end M
namespace M
open PySem L2 PyProof.Rows
section
variable {nm : Nm} {C : CallT} {G : List PyData} {W : Wd} {k : Nat}
/-- what is shown of an expression -/
def EOk (C : CallT) (G : List PyData) (W : Wd) (Z : L2.WX) (X : Cx) (e : Expr) (m : ME) : Prop := PE X e (tE C G W Z m) ∧ PT X e (tT C G W Z m) ∧ ∀ i, m ≠ .ref i
theorem EOk.of {X : Cx} {Z : L2.WX} (g : Gd nm C G W k Z X) {e : Expr} {m : ME} (h : PE X e (tE C G W Z m)) (he : ∀ whole, isTrue e X.env whole = (do let v ← whole; standAt e.pos; holding [v] (truthy v))) (n : ∀ i, m ≠ .ref i) : EOk C G W Z X e m := ⟨h, pt_of g h he, n⟩
theorem blt_name {x : Str} {n : Nat} {b : Blt} (h : bltO x n = some b) : x ∈ bltNames ∧ (b ≠ .sset ∧ b ≠ .sit ∧ b ≠ .dzip) ∧ x ≠ "__name__" ∧ (bootBuiltins x = some (bltV b)) ∧ ((∃ id, bltV b = .builtin id) ∨ ∃ T, bltV b = .type T) := by
  have hm := bltO_mem h
  simp only [bltTab, List.mem_cons, List.not_mem_nil, or_false, Prod.mk.injEq] at hm
  rcases hm with ⟨rfl, rfl, rfl⟩ | ⟨rfl, rfl, rfl⟩ | ⟨rfl, rfl, rfl⟩ | ⟨rfl, rfl, rfl⟩ | ⟨rfl, rfl, rfl⟩ | ⟨rfl, rfl, rfl⟩ | ⟨rfl, rfl, rfl⟩ | ⟨rfl, rfl, rfl⟩ | ⟨rfl, rfl, rfl⟩ | ⟨rfl, rfl, rfl⟩ | ⟨rfl, rfl, rfl⟩ | ⟨rfl, rfl, rfl⟩ | ⟨rfl, rfl, rfl⟩ | ⟨rfl, rfl, rfl⟩ | ⟨rfl, rfl, rfl⟩
  all_goals exact ⟨by decide, by decide, by decide, by decide +kernel, by first | exact .inl ⟨_, rfl⟩ | exact .inr ⟨_, rfl⟩⟩
theorem pm_blt {X : Cx} {Z : L2.WX} (g : Gd nm C G W k Z X) {x : Str} {p pos : Pos} {e : Expr} {es : List Expr} {b : Blt} {n : Nat} {ms : List ME} (h : bltO x n = some b) (hg : Gl X x) (hdb : (x == ("__debug__" : Str)) = false) (ha : PA X (e :: es) (tLE C G W Z ms))
    (he : starEach (e :: es) X.env = (false, eval e X.env) :: starEach es X.env) (hpl : (backTo pos (starEach es X.env)).any (·.1) = false) : PE X (.Call (.Name x p) (e :: es) [] pos) (tE C G W Z (.blt b ms)) := by
  obtain ⟨h1, h2, h3, h4, h5⟩ := blt_name h
  have hc := call_blt (X := X) (W := W) g.K g.w g.calm g.gu g.units b h2
  rcases h5 with ⟨id, h5⟩ | ⟨T, h5⟩
  · rw [h5] at hc h4
    exact pe_imp (pe_callB hc hg (g.blt x h1) h4 ha h3 hdb he hpl) fun σ H Q h => tLE_blt h
  · rw [h5] at hc h4
    exact pe_imp (pe_callTy hc hg (g.blt x h1) h4 ha h3 hdb he hpl) fun σ H Q h => tLE_blt h
theorem pm_srt {X : Cx} {Z : L2.WX} (g : Gd nm C G W k Z X) {p pos : Pos} {e : Expr} {m : ME} (hg : Gl X "sorted") (hdb : (("sorted" : Str) == ("__debug__" : Str)) = false) (ha : PA X [e] (tLE C G W Z [m]))
    (he : starEach [e] X.env = (false, eval e X.env) :: starEach [] X.env) (hpl : (backTo pos (starEach [] X.env)).any (·.1) = false) : PE X (.Call (.Name "sorted" p) [e] [] pos) (tE C G W Z (.blt .srt [m])) := by
  have hc := call_blt (X := X) (W := W) g.K g.w g.calm g.gu g.units .srt (by decide)
  exact pe_imp (pe_callB hc hg (g.blt "sorted" (by decide)) (by decide +kernel) ha (by decide) hdb he hpl) fun σ H Q h => tLE_blt h
theorem base_of {o : Expr} {x : Str} {env : PySem.Env} {w : Sem Value} (h : noCall o = true) : attributeBase o x env w = w := by
  cases o with
  | Call f as ks q =>
    cases as with
    | nil => simp [noCall] at h
    | cons a r => cases f <;> rfl
  | _ => rfl
theorem bltO_pos {x : Str} {n : Nat} {b : Blt} (h : bltO x n = some b) : 0 < n := by
  have hm := bltO_mem h
  simp only [bltTab, List.mem_cons, List.not_mem_nil, or_false, Prod.mk.injEq] at hm
  omega
/-- what is walked -/
theorem cIter_ok {X : Cx} {Z : L2.WX} (g : Gd nm C G W k Z X) {f : Expr → Option ME} (hp : ∀ e m, f e = some m → PE X e (tE C G W Z m) ∧ ∀ v p, e ≠ .Starred v p) {tg e : Expr} {ki : IK × List ME} (h : cIter f X.env.scope (isTupE tg) e = some ki) :
    PI X tg e (iM C G W Z ki.1 ki.2) ∧ ∀ x, foldedSetIterable e X.env x = pure x := by
  have ex : ∀ {e : Expr} {m : ME}, f e = some m → PI X tg e (iM C G W Z .ex [m]) := fun {e m} h => pi_ex g (hp e m h).1
  have tup : isTupE tg = true → ∃ a b c, tg = .Tuple a b c := fun h => by
    cases tg <;> simp [isTupE] at h
    exact ⟨_, _, _, rfl⟩
  unfold cIter at h
  split at h
  · rename_i x p a q
    refine ⟨?_, fun _ => rfl⟩
    split at h
    · rename_i hx
      subst hx
      split at h
      · rename_i hg
        rw [Option.map_eq_some_iff] at h
        obtain ⟨m, h1, h2⟩ := h
        cases h2
        obtain ⟨p1, p2⟩ := hp a m h1
        exact pi_r1 g (glB_of hg).1 (pl_cons p1 pl_nil (star_one p2 [] X.env)) (star_one p2 [] X.env)
      · cases h
    · split at h
      · rename_i hx
        subst hx
        split at h
        · rename_i hg
          rw [Bool.and_eq_true] at hg
          rw [Option.map_eq_some_iff] at h
          obtain ⟨m, h1, h2⟩ := h
          cases h2
          obtain ⟨p1, p2⟩ := hp a m h1
          obtain ⟨t1, t2, t3, rfl⟩ := tup hg.2
          exact pi_en g (glB_of hg.1).1 (pl_cons p1 pl_nil (star_one p2 [] X.env)) (star_one p2 [] X.env)
        · cases h
      · rw [Option.map_eq_some_iff] at h
        obtain ⟨m, h1, h2⟩ := h
        cases h2
        exact ex h1
  · rename_i x p a b q
    refine ⟨?_, fun _ => rfl⟩
    split at h
    · rename_i hx
      subst hx
      split at h
      · rename_i hg
        rw [Option.bind_eq_some_iff] at h
        obtain ⟨m, h1, h⟩ := h
        rw [Option.map_eq_some_iff] at h
        obtain ⟨m', h2, h3⟩ := h
        cases h3
        obtain ⟨p1, p2⟩ := hp a m h1
        obtain ⟨p3, p4⟩ := hp b m' h2
        have s2 := star_one p4 [] X.env
        have s1 := star_one p2 [b] X.env
        rw [s2] at s1
        exact pi_r2 g (glB_of hg).1 (pl_cons p1 (pl_cons p3 pl_nil s2) (star_one p2 [b] X.env)) s1 s2
      · cases h
    · split at h
      · rename_i hx
        subst hx
        split at h
        · rename_i hg
          rw [Bool.and_eq_true] at hg
          rw [Option.bind_eq_some_iff] at h
          obtain ⟨m, h1, h⟩ := h
          rw [Option.map_eq_some_iff] at h
          obtain ⟨m', h2, h3⟩ := h
          cases h3
          obtain ⟨p1, p2⟩ := hp a m h1
          obtain ⟨p3, p4⟩ := hp b m' h2
          obtain ⟨t1, t2, t3, rfl⟩ := tup hg.2
          refine pi_zp g (glB_of hg.1).1 (pl_cons p1 (pl_cons p3 pl_nil (star_one p4 [] X.env)) (star_one p2 [b] X.env)) (star_one p2 [b] X.env) (star_none fun e he => ?_)
          cases List.mem_singleton.mp he
          exact p4
        · cases h
      · rw [Option.map_eq_some_iff] at h
        obtain ⟨m, h1, h2⟩ := h
        cases h2
        exact ex h1
  · rename_i o x apos cpos
    refine ⟨?_, fun _ => rfl⟩
    split at h
    · rename_i hx
      obtain ⟨rfl, hx⟩ := hx
      simp only [Bool.and_eq_true] at hx
      obtain ⟨h1, h2, h3⟩ := hx
      rw [Option.map_eq_some_iff] at h
      obtain ⟨m, h4, h5⟩ := h
      cases h5
      obtain ⟨t1, t2, t3, rfl⟩ := tup h3
      exact pi_it g (hp o m h4).1 (base_of h2) h1
    · cases h
  · cases h
  · rename_i e' n1 n2 n3 n4
    rw [Option.map_eq_some_iff] at h
    obtain ⟨m, h1, h2⟩ := h
    cases h2
    refine ⟨ex h1, fun x => ?_⟩
    cases e <;> first | rfl | exact absurd rfl (n4 _ _ _) | exact absurd rfl (n3 _ _ _)
theorem cE_ok : ∀ (n : Nat) {Z : L2.WX} {X : Cx} {e : Expr} {m : ME}, Gd nm C G W k Z X → cE nm X.N n X.env.scope e = some m → EOk C G W Z X e m
  | 0, Z, X, e, m, g, h => by simp [cE] at h
  | n + 1, Z, X, e, m, g, h => by
    have ih : ∀ {e : Expr} {m : ME}, cE nm X.N n X.env.scope e = some m → EOk C G W Z X e m := fun h => cE_ok n g h
    have ihs : ∀ {es : List Expr} {ms : List ME}, mapO (cE nm X.N n X.env.scope) es = some ms → (∀ (i : Nat) e m, es[i]? = some e → ms[i]? = some m → PE X e (tE C G W Z m)) ∧ (∀ e ∈ es, ∀ v p, e ≠ .Starred v p) ∧ ms.length = es.length := fun {es ms} h =>
      ⟨fun i e m h1 h2 => (ih (mapO_get h i e m h1 h2)).1, fun e he => let ⟨m, hm⟩ := mapO_mem h e he; cE_star hm, mapO_len h⟩
    unfold cE at h
    split at h
    · rename_i x p
      split at h
      · rename_i ho
        obtain ⟨o1, o2⟩ := okName_of ho
        split at h
        · rename_i hv
          rw [Option.map_eq_some_iff] at h
          obtain ⟨j, h1, h2⟩ := h
          cases h2
          exact .of g (pm_var (ixOf_get h1) (visB_of hv) o1 o2) (fun _ => rfl) (fun i z => by cases z)
        · split at h
          · rename_i hg
            rw [Option.map_eq_some_iff] at h
            obtain ⟨j, h1, h2⟩ := h
            cases h2
            exact .of g (pm_glo g (ixOf_get h1) (glB_of hg).1 o1) (fun _ => rfl) (fun i z => by cases z)
          · cases h
      · cases h
    · rw [Option.map_eq_some_iff] at h
      obtain ⟨d, h1, h2⟩ := h
      cases h2
      exact .of g (pm_cst h1) (fun _ => rfl) (fun i z => by cases z)
    · rw [Option.bind_eq_some_iff] at h
      obtain ⟨a', h1, h⟩ := h
      rw [Option.map_eq_some_iff] at h
      obtain ⟨b', h2, h3⟩ := h
      cases h3
      exact .of g (pm_bin g _ (ih h1).1 (ih h2).1) (fun _ => rfl) (fun i z => by cases z)
    · rw [Option.map_eq_some_iff] at h
      obtain ⟨a', h1, h2⟩ := h
      cases h2
      exact ⟨pm_not g (ih h1).1, pt_notM (ih h1).2.1, (fun i z => by cases z)⟩
    · rw [Option.map_eq_some_iff] at h
      obtain ⟨a', h1, h2⟩ := h
      cases h2
      exact .of g (pm_neg (ih h1).1) (fun _ => rfl) (fun i z => by cases z)
    · rename_i op es p
      rw [Option.bind_eq_some_iff] at h
      obtain ⟨ms, h1, h2⟩ := h
      obtain ⟨q1, q2, q3⟩ := cBool_ok g (pos := p) (mapO_len h1) (fun i e m a b => ih (mapO_get h1 i e m a b)) h2
      exact ⟨q1, q2.pt, q3⟩
    · split at h
      · rename_i hm
        rw [Option.bind_eq_some_iff] at h
        obtain ⟨a', h1, h⟩ := h
        rw [Option.map_eq_some_iff] at h
        obtain ⟨b', h2, h3⟩ := h
        cases h3
        exact ⟨pm_cmp g _ hm (ih h1).1 (ih h2).1, pt_cmpM g _ hm (ih h1).1 (ih h2).1, (fun i z => by cases z)⟩
      · cases h
    · split at h
      · rename_i hm
        rw [Option.bind_eq_some_iff] at h
        obtain ⟨a', h1, h⟩ := h
        rw [Option.bind_eq_some_iff] at h
        obtain ⟨b', h2, h⟩ := h
        rw [Option.map_eq_some_iff] at h
        obtain ⟨c', h3, h4⟩ := h
        cases h4
        exact ⟨pm_chn g _ _ hm (ih h1).1 (ih h2).1 (ih h3).1, pt_chnM g _ _ hm (ih h1).1 (ih h2).1 (ih h3).1, (fun i z => by cases z)⟩
      · cases h
    · rw [Option.bind_eq_some_iff] at h
      obtain ⟨c', h1, h⟩ := h
      rw [Option.bind_eq_some_iff] at h
      obtain ⟨a', h2, h⟩ := h
      rw [Option.map_eq_some_iff] at h
      obtain ⟨b', h3, h4⟩ := h
      cases h4
      exact ⟨pm_ife (ih h1).2.1 (ih h2).1 (ih h3).1, pt_ifeM (ih h1).2.1 (ih h2).2.1 (ih h3).2.1, (fun i z => by cases z)⟩
    · rename_i x p args q
      unfold cCall at h
      split at h
      · rename_i hgl
        obtain ⟨hg, hdb⟩ := glB_of hgl
        split at h
        · rename_i hx
          subst hx
          split at h
          · rename_i e y p2
            split at h
            · rename_i hy
              split at h
              · rename_i t h1
                rw [Option.map_eq_some_iff] at h
                obtain ⟨m', h2, h3⟩ := h
                cases h3
                exact .of g (pm_isi g hg (glB_of hy).1 h1 (ih h2).1 (star_one (cE_star h2) _ X.env)) (fun _ => rfl) (fun i z => by cases z)
              · split at h
                · rename_i hv
                  subst hv
                  rw [Option.map_eq_some_iff] at h
                  obtain ⟨m', h2, h3⟩ := h
                  cases h3
                  exact .of g (pm_isxV g hg (glB_of hy).1 (ih h2).1 (star_one (cE_star h2) _ X.env)) (fun _ => rfl) (fun i z => by cases z)
                · rw [Option.bind_eq_some_iff] at h
                  obtain ⟨i, h1, h⟩ := h
                  rw [Option.map_eq_some_iff] at h
                  obtain ⟨m', h2, h3⟩ := h
                  cases h3
                  have hx' := ixOf_get h1
                  rw [List.getElem?_map, Option.map_eq_some_iff] at hx'
                  obtain ⟨⟨x', b⟩, hx1, hx2⟩ := hx'
                  cases hx2
                  exact .of g (pm_isx g hg (glB_of hy).1 (glB_of hy).2 hx1 (ih h2).1 (star_one (cE_star h2) _ X.env)) (fun _ => rfl) (fun i z => by cases z)
            · cases h
          · cases h
        · split at h
          · rename_i hx
            subst hx
            have srt : ∀ {e : Expr} {m' : ME}, cE nm X.N n X.env.scope e = some m' → EOk C G W Z X (.Call (.Name "sorted" p) [e] [] q) (.blt .srt [m']) := fun {e m'} h2 =>
              .of g (pm_srt g hg hdb (pl_cons (ih h2).1 pl_nil (star_one (cE_star h2) [] X.env)) (star_one (cE_star h2) [] X.env) rfl) (fun _ => rfl) (fun i z => by cases z)
            split at h
            · rename_i y p2 e q2
              split at h
              · rename_i hy1
                subst hy1
                split at h
                · rename_i hy2
                  rw [Option.map_eq_some_iff] at h
                  obtain ⟨m', h2, h3⟩ := h
                  cases h3
                  exact .of g (pm_sset g hg (glB_of hy2).1 (ih h2).1 (star_one (cE_star h2) _ X.env)) (fun _ => rfl) (fun i z => by cases z)
                · cases h
              · rw [Option.map_eq_some_iff] at h
                obtain ⟨m', h2, h3⟩ := h
                cases h3
                exact srt h2
            · rw [Option.map_eq_some_iff] at h
              obtain ⟨m', h2, h3⟩ := h
              cases h3
              exact srt h2
            · cases h
          · split at h
            · rename_i hx
              subst hx
              have dct : ∀ {e : Expr} {m' : ME}, cE nm X.N n X.env.scope e = some m' → EOk C G W Z X (.Call (.Name "dict" p) [e] [] q) (.blt .dct [m']) := fun {e m'} h2 =>
                .of g (pm_blt g (n := 1) (x := "dict") (by decide +kernel) hg hdb (pl_cons (ih h2).1 pl_nil (star_one (cE_star h2) [] X.env)) (star_one (cE_star h2) [] X.env) rfl) (fun _ => rfl) (fun i z => by cases z)
              split at h
              · rename_i y p2 a b q2
                split at h
                · rename_i hy1
                  subst hy1
                  split at h
                  · rename_i hy2
                    rw [Option.bind_eq_some_iff] at h
                    obtain ⟨m1, h1, h⟩ := h
                    rw [Option.map_eq_some_iff] at h
                    obtain ⟨m2, h2, h3⟩ := h
                    cases h3
                    refine .of g (pm_dzip g hg (glB_of hy2).1 (pl_cons (ih h1).1 (pl_cons (ih h2).1 pl_nil (star_one (cE_star h2) [] X.env)) (star_one (cE_star h1) [b] X.env)) (star_one (cE_star h1) [b] X.env) (star_none fun e he => ?_)) (fun _ => rfl) (fun i z => by cases z)
                    cases List.mem_singleton.mp he
                    exact cE_star h2
                  · cases h
                · rw [Option.map_eq_some_iff] at h
                  obtain ⟨m', h2, h3⟩ := h
                  cases h3
                  exact dct h2
              · rw [Option.map_eq_some_iff] at h
                obtain ⟨m', h2, h3⟩ := h
                cases h3
                exact dct h2
              · cases h
            split at h
            · rename_i b hb
              rw [Option.map_eq_some_iff] at h
              obtain ⟨ms, h1, h2⟩ := h
              cases h2
              cases args with
              | nil => exact absurd (bltO_pos hb) (by simp)
              | cons e es =>
                obtain ⟨q1, q2, q3⟩ := ihs h1
                exact .of g (pm_blt g hb hg hdb (pas_E q2 q1 q3) (star_one (q2 e List.mem_cons_self) es X.env) (star_none fun e he => q2 e (List.mem_cons_of_mem _ he))) (fun _ => rfl) (fun i z => by cases z)
            · rw [Option.bind_eq_some_iff] at h
              obtain ⟨f, h1, h⟩ := h
              rw [Option.bind_eq_some_iff] at h
              obtain ⟨pr, h2, h⟩ := h
              obtain ⟨x', refs⟩ := pr
              split at h
              · rename_i ms h3
                cases h
                have hx' := ixOf_get h1
                rw [List.getElem?_map, h2] at hx'
                cases hx'
                obtain ⟨a1, a2, a3⟩ := cArgs_ok (X := X) (C := C) (G := G) (W := W) (Z := Z) (f := cE nm X.N n X.env.scope) (fun e m he => ⟨(ih he).1, (ih he).2.2, cE_star he, fun i z => by subst z; exact cE_var he⟩) h3
                cases args with
                | nil =>
                  have : ms = [] ∧ refs = [] := by
                    cases refs with
                    | nil => simp only [cArgs] at h3; cases h3; exact ⟨rfl, rfl⟩
                    | cons r rs => cases r <;> simp [cArgs] at h3
                  obtain ⟨rfl, rfl⟩ := this
                  exact .of g (pm_call0 g h2 hg hdb) (fun _ => rfl) (fun i z => by cases z)
                | cons e es =>
                  exact .of g (pm_call g h2 a2 hg hdb a1 (star_one (a3 e List.mem_cons_self) es X.env) (star_none fun e he => a3 e (List.mem_cons_of_mem _ he))) (fun _ => rfl) (fun i z => by cases z)
              · rename_i h0
                rw [Option.map_eq_some_iff] at h
                obtain ⟨ms, h3, h4⟩ := h
                cases h4
                have hx' := ixOf_get h1
                rw [List.getElem?_map, h2] at hx'
                cases hx'
                obtain ⟨a1, a2, a3⟩ := cArgsN_ok (X := X) (C := C) (G := G) (W := W) (Z := Z) (f := cE nm X.N n X.env.scope) (fun e m he => ⟨(ih he).1, cE_star he, fun i z => by subst z; exact cE_var he⟩) h3
                cases args with
                | nil =>
                  exfalso
                  cases refs with
                  | nil => simp [cArgs] at h0
                  | cons r rs => cases r <;> simp [cArgsN] at h3
                | cons e es =>
                  exact .of g (pm_calln g h2 a2 hg hdb a1 (star_one (a3 e List.mem_cons_self) es X.env) (star_none fun e he => a3 e (List.mem_cons_of_mem _ he))) (fun _ => rfl) (fun i z => by cases z)
      · cases h
    · rename_i o name apos e cpos
      split at h
      · rename_i hn
        obtain ⟨hl, hnc⟩ := hn
        split at h
        · rename_i hx
          subst hx
          rw [Option.bind_eq_some_iff] at h
          obtain ⟨a', h1, h⟩ := h
          rw [Option.map_eq_some_iff] at h
          obtain ⟨b', h2, h3⟩ := h
          cases h3
          exact .of g (pm_idx g (cE_star h2) (base_of hnc) hl (ih h1).1 (ih h2).1 (star_one (cE_star h2) [] X.env)) (fun _ => rfl) (fun i z => by cases z)
        · split at h
          · rename_i hx
            subst hx
            rw [Option.bind_eq_some_iff] at h
            obtain ⟨a', h1, h⟩ := h
            rw [Option.map_eq_some_iff] at h
            obtain ⟨b', h2, h3⟩ := h
            cases h3
            have hse := star_one (cE_star h2) [] X.env
            exact .of g (pm_get1 g (ih h1).1 (ih h2).1 ⟨base_of hnc, by rw [hse]; rfl, hl, by rw [hse]; rfl⟩) (fun _ => rfl) (fun i z => by cases z)
          · split at h
            · rename_i hx
              subst hx
              split at h
              · rw [Option.bind_eq_some_iff] at h
                obtain ⟨a', h1, h⟩ := h
                split at h
                · cases h
                  exact .of g (pm_pop0 (cE_var h1) hl) (fun _ => rfl) (fun i z => by cases z)
                · cases h
              · cases h
            · cases h
      · cases h
    · rename_i x p name apos cpos
      split at h
      · rename_i hn
        obtain ⟨hl, rfl⟩ := hn
        rw [Option.bind_eq_some_iff] at h
        obtain ⟨a', h1, h⟩ := h
        split at h
        · cases h
          exact .of g (pm_pop (cE_var h1) hl) (fun _ => rfl) (fun i z => by cases z)
        · cases h
      · cases h
    · rename_i o name apos e f cpos
      split at h
      · rename_i hn
        obtain ⟨hl, hnc⟩ := hn
        split at h
        · rename_i hx
          subst hx
          rw [Option.bind_eq_some_iff] at h
          obtain ⟨a', h1, h⟩ := h
          rw [Option.bind_eq_some_iff] at h
          obtain ⟨b', h2, h⟩ := h
          rw [Option.map_eq_some_iff] at h
          obtain ⟨c', h3, h4⟩ := h
          cases h4
          have hse := star_one (cE_star h2) [f] X.env
          have hsf := star_one (cE_star h3) [] X.env
          exact .of g (pm_get2 g (ih h1).1 (ih h2).1 (ih h3).1 ⟨base_of hnc, by rw [hse, hsf]; rfl, hl, by rw [hse, hsf]; rfl⟩) (fun _ => rfl) (fun i z => by cases z)
        · cases h
      · cases h
    · cases h
      exact .of g pm_dic0 (fun _ => rfl) (fun i z => by cases z)
    · rw [Option.bind_eq_some_iff] at h
      obtain ⟨a', h1, h⟩ := h
      rw [Option.map_eq_some_iff] at h
      obtain ⟨b', h2, h3⟩ := h
      cases h3
      exact .of g (pm_dic1 g (ih h1).1 (ih h2).1) (fun _ => rfl) (fun i z => by cases z)
    · rw [Option.map_eq_some_iff] at h
      obtain ⟨a', h1, h2⟩ := h
      cases h2
      exact .of g (pm_rev g (ih h1).1) (fun _ => rfl) (fun i z => by cases z)
    · rename_i a lo hi p2 p hno
      rw [Option.bind_eq_some_iff] at h
      obtain ⟨a', h1, h⟩ := h
      split at h
      · cases h
        exact .of g (pm_slc g (ih h1).1 po_noneM po_noneM) (fun _ => rfl) (fun i z => by cases z)
      · rw [Option.map_eq_some_iff] at h
        obtain ⟨l', h2, h3⟩ := h
        cases h3
        exact .of g (pm_slc g (ih h1).1 (po_someM (ih h2).1) po_noneM) (fun _ => rfl) (fun i z => by cases z)
      · rw [Option.map_eq_some_iff] at h
        obtain ⟨l', h2, h3⟩ := h
        cases h3
        exact .of g (pm_slc g (ih h1).1 po_noneM (po_someM (ih h2).1)) (fun _ => rfl) (fun i z => by cases z)
      · rw [Option.bind_eq_some_iff] at h
        obtain ⟨l', h2, h⟩ := h
        rw [Option.map_eq_some_iff] at h
        obtain ⟨u', h3, h4⟩ := h
        cases h4
        exact .of g (pm_slc g (ih h1).1 (po_someM (ih h2).1) (po_someM (ih h3).1)) (fun _ => rfl) (fun i z => by cases z)
    · rename_i a b p hno hno2
      rw [Option.bind_eq_some_iff] at h
      obtain ⟨a', h1, h⟩ := h
      rw [Option.map_eq_some_iff] at h
      obtain ⟨b', h2, h3⟩ := h
      cases h3
      have pl : PlainIx b := fun o i => by
        cases b with
        | Slice lo hi st p3 => cases n <;> simp [cE] at h2
        | _ => rfl
      exact .of g (pm_sub g pl (ih h1).1 (ih h2).1) (fun _ => rfl) (fun i z => by cases z)
    · rw [Option.map_eq_some_iff] at h
      obtain ⟨ms, h1, h2⟩ := h
      cases h2
      obtain ⟨q1, q2, q3⟩ := ihs h1
      split
      · exact .of g (pm_xtup (pas_X q2 q1 q3)) (fun _ => rfl) (fun i z => by cases z)
      · exact .of g (pm_tup (pas_A q2 q1 q3)) (fun _ => rfl) (fun i z => by cases z)
    · rw [Option.map_eq_some_iff] at h
      obtain ⟨ms, h1, h2⟩ := h
      cases h2
      obtain ⟨q1, q2, q3⟩ := ihs h1
      exact .of g (pm_lst (pas_A q2 q1 q3)) (fun _ => rfl) (fun i z => by cases z)
    · rename_i elt tg iter ifs scope p
      rw [Option.bind_eq_some_iff] at h
      obtain ⟨t, h1, h⟩ := h
      split at h
      · rename_i hb
        rw [Bool.and_eq_true, decide_eq_true_eq] at hb
        obtain ⟨hb1, hb2⟩ := hb
        rw [Option.bind_eq_some_iff] at h
        obtain ⟨ki, h2, h⟩ := h
        rw [Option.bind_eq_some_iff] at h
        obtain ⟨cs, h3, h⟩ := h
        rw [Option.map_eq_some_iff] at h
        obtain ⟨m', h4, h5⟩ := h
        cases h5
        obtain ⟨pi, fs⟩ := cIter_ok g (f := cE nm X.N n X.env.scope) (fun e m he => ⟨(ih he).1, cE_star he⟩) h2
        refine .of g (pm_lc (own := ownOf X.N t) g pi (blkOk_by hb1) (own_vars (vars_ok h1)) (fun s H c cl fp => ?_) (fun s H c cl fp => ?_) (fun s H c cl fp => ?_) fs) (fun _ => rfl) (fun i z => by cases z)
        · have gb := g.blk s H scope cl c fp
          have := pg_of (X := X.blk s H scope (compEnvC scope cl c X.env) fp) (rs := scope) gb.calm gb.nd stOk_blk n h1
          rw [g.K]
          exact this
        · have gb := g.blk s H scope cl c fp
          refine pts_M hb2 (fun e m he hm => ?_) (mapO_len h3)
          subst he hm
          exact (cE_ok n gb (mapO_get h3 0 e m rfl rfl)).2.1
        · exact (cE_ok n (g.blk s H scope cl c fp) h4).1
      · cases h
    · cases h
end
end M
/-! M: statements. -/
namespace M
open PySem L2 PyProof.Rows
def PostXS (W : Wd) (Z : L2.WX) (T : Addr → Prop) (env : Env) (σ : St) (H : Hp) (x : Exn × Env) : Prop :=
  ∀ cls d σ' H', Step env σ H x.2 σ' H' → Rel W T x.2 σ' H' → XOk W H' (Av T x.2 σ') x.1 cls d → Z cls d σ' H'
/-- what is handed back -/
def VRt (W : Wd) (T : Addr → Prop) (env : Env) (σ : St) (H H' : Hp) (env' : Env) (σ' : St) (d : PyData) : Bool → V → Prop
  | false, v => Rep W H' (Av T env' σ') d v
  | true, v => ∃ a, v = .ref a ∧ ¬ T a ∧ (Ownd env σ a ∨ H a = none) ∧ OwnAt W H' (fun b => Av T env' σ' b ∨ b = a) d a
def PostS (W : Wd) (Z : L2.WX) (T : Addr → Prop) (env : Env) (σ : St) (H : Hp) (r : RE SR) (D : Ends) : Prop :=
  match r with
  | .ok (.nx env') => ∀ σ' H', Step env σ H env' σ' H' → Rel W T env' σ' H' → D.nx σ' H'
  | .ok (.rt d fr env') => ∀ v σ' H', Step env σ H env' σ' H' → Rel W (Tw T (.va d fr) v) env' σ' H' → VRt W T env σ H H' env' σ' d fr v → D.rt v H'
  | .exc x => PostXS W Z T env σ H x
  | .stuck => False
def tS (C : CallT) (G : List PyData) (W : Wd) (Z : L2.WX) (m : MS) : TS := fun D σ H => ∃ T env, Rel W T env σ H ∧ PostS W Z T env σ H (evS C G m env) D
def tSs (C : CallT) (G : List PyData) (W : Wd) (Z : L2.WX) (ms : List MS) : TS := fun D σ H => ∃ T env, Rel W T env σ H ∧ PostS W Z T env σ H (evSs C G ms env) D
theorem ps_imp {X : Cx} {e : Stmt} {t t' : TS} (h : PS X e t) (i : ∀ D σ H, t' D σ H → t D σ H) : PS X e t' := ⟨fun pins s σ H D I q => h.run pins s σ H D I (i _ _ _ q)⟩
theorem pss_imp {X : Cx} {e : List Stmt} {t t' : TS} (h : PSs X e t) (i : ∀ D σ H, t' D σ H → t D σ H) : PSs X e t' := ⟨fun pins s σ H D I q => h.run pins s σ H D I (i _ _ _ q)⟩
section
variable {W : Wd} {Z : L2.WX} {T T1 T2 : Addr → Prop} {env env1 env2 env' : Env} {σ σ1 σ' : St} {H H0 H1 H2 H' : Hp} {w : EV} {v : V} {C : CallT} {G : List PyData} {m ma mb mc : ME} {d : PyData} {D : Ends}
theorem PostXS.x {x : Exn × Env} (h : PostXS W Z T env σ H x) : PostX W Z T env σ H x := fun cls d H' s r k => h cls d σ H' s r k
theorem PostXS.pre {x : Exn × Env} (S : Step env σ H env1 σ1 H1) (h : PostXS W Z T env σ H x) : PostXS W Z T env1 σ1 H1 x := fun cls d σ' H' s r k => h cls d σ' H' (S.trans s) r k
theorem VRt.pre {fr : Bool} (S : Step env σ H env1 σ1 H1) (h : VRt W T env1 σ1 H1 H' env' σ' d fr v) : VRt W T env σ H H' env' σ' d fr v := by
  cases fr with
  | false => exact h
  | true =>
    obtain ⟨a, e, n, z, o⟩ := h
    refine ⟨a, e, n, ?_, o⟩
    rcases z with z | z
    · exact S.own a z
    · by_cases q : H a = none
      · exact .inr q
      · exact absurd z (S.dom a q)
theorem PostS.pre {r : RE SR} (S : Step env σ H env1 σ1 H1) (h : PostS W Z T env σ H r D) : PostS W Z T env1 σ1 H1 r D := by
  cases r with
  | ok q =>
    cases q with
    | nx env' => exact fun σ' H' s r => h σ' H' (S.trans s) r
    | rt d fr env' => exact fun v σ' H' s r k => h v σ' H' (S.trans s) r (k.pre S)
  | exc x => exact PostXS.pre S h
  | stuck => exact h
theorem VOk.rt {fr : Bool} (h : VOk W T H H' env' σ (.va d fr) v) : VRt W T env σ H H' env' σ d fr v := by
  cases fr with
  | false => exact h
  | true =>
    obtain ⟨a, e, n, z, o⟩ := h
    exact ⟨a, e, n, .inr z, o⟩
theorem ownL_inv {i : Nat} (h : ownL env[i]? = true) : ∃ ds k, env[i]? = some (some (.list ds, k)) ∧ (k = .ow ∨ k = .rf) := by
  unfold ownL at h
  split at h
  · rename_i d q; exact ⟨_, _, q, .inl rfl⟩
  · rename_i d q; exact ⟨_, _, q, .inr rfl⟩
  · cases h
end
section
variable {nm : Nm} {C : CallT} {G : List PyData} {W : Wd} {k : Nat} {Z : L2.WX} {X : Cx} {a b c e : Expr} {es : List Expr} {pos p : Pos} {ma mb mc m : ME} {ms : List ME}
theorem sm_bad (st : Stmt) : PS X st (tS C G W Z .bad) := ⟨fun pins s σ H D I h => by
  obtain ⟨T, env, _, h⟩ := h
  simp only [evS] at h
  exact h.elim⟩
theorem sm_nop1 : PS X (.Pass pos) (tS C G W Z .nop) := ps_imp ps_pass fun D σ H ⟨T, env, rl, h⟩ => by
  simp only [evS] at h
  exact h σ H .refl rl
theorem sm_nop2 {x : Str} {j : Nat} {p2 : Pos} : PS X (.Expr (.Constant (.str x) j p2) pos) (tS C G W Z .nop) := ps_imp ps_doc fun D σ H ⟨T, env, rl, h⟩ => by
  simp only [evS] at h
  exact h σ H .refl rl
/-- x = e, by its value -/
theorem set_read {i : Nat} {D : Ends} {σ : St} {H : Hp} (h : tS C G W Z (.set i m) D σ H) : tE C G W Z m σ H fun x H1 => D.nx (σ.set i (some x)) H1 := by
  obtain ⟨T, env, rl, h⟩ := h
  simp only [evS] at h
  refine tE_mono (one_gen (P := fun r => PostS W Z T env σ H r D) (f := fun w env => match w with
    | .va d fr => (M.R.ofO (setS i d (if fr = true then .ow else .sh) env)).bind fun env => .ok (.nx env)
    | .sl j => fzv env (.sl j) >>= fun p => (M.R.ofO (setS i p.1 .sh p.2)).bind fun env => .ok (.nx env)) rl (fun _ h => PostXS.x h) id h) fun x H1 h => ?_
  obtain ⟨w, env1, S, R1, V, h⟩ := h
  cases w with
  | va d fr =>
    obtain ⟨env2, e, h⟩ := post_of (P := fun r => PostS W Z T env σ H r D) h id
    obtain ⟨h1, h2⟩ := setS_ok S R1 V e
    exact h _ _ h1 h2
  | sl j =>
    obtain ⟨q, e1, h⟩ := post_fz (P := fun r => PostS W Z T env σ H r D) h id
    obtain ⟨env2, e, h⟩ := post_of (P := fun r => PostS W Z T env σ H r D) h id
    obtain ⟨S1, R2, r1⟩ := fz_ok R1 V (show fzv env1 (.sl j) = .ok (q.1, q.2) from e1)
    obtain ⟨h1, h2⟩ := setS_ok (fr := false) (T := T) (v := x) (S.trans S1) R2 r1 e
    exact h _ _ h1 h2
theorem sm_set {i : Nat} {x : Str} (hN : X.N.Nodup) (hi : X.N[i]? = some x) (hx : Loc X.env.scope x) (hf : X.fn x = true ∨ X.env.scope.names.lookup x = some .local) (he : PE X e (tE C G W Z m)) (hs : swapsWith e (some (.Name x p)) pos.line X.env = pure false) : PS X (.Assign [.Name x p] e pos) (tS C G W Z (.set i m)) :=
  ps_imp (ps_set hN hi hx he hs hf) fun D σ H h => set_read h
theorem sm_setT (g : Gd nm C G W k Z X) {rs : Scope} (hS : StOk rs X) {n : Nat} {ts : List Expr} {kk : Nat} {mts : List MT} (ht : cTg X.N rs n (.Tuple ts kk p) = some (.tp mts)) (hne : isTupE e = false) (he : PE X e (tE C G W Z m)) : PS X (.Assign [.Tuple ts kk p] e pos) (tS C G W Z (.setT mts m)) := by
  have pg := pg_of g.calm g.nd hS n ht
  refine ps_imp (ps_asg he pg ?_ ?_ rfl) fun D σ H h => ?_
  · cases e <;> rfl
  · cases e <;> first | rfl | (simp [isTupE] at hne)
  · obtain ⟨T, env, rl, h⟩ := h
    simp only [evS] at h
    refine tE_mono (one_gen (P := fun r => PostS W Z T env σ H r D) (f := fun w env => fzv env w >>= fun q => (M.R.ofO (bindT (.tp mts) q.1 q.2)).bind fun env => .ok (.nx env)) rl (fun _ h => PostXS.x h) id h) fun x H1 h => ?_
    obtain ⟨w, env1, S, R1, V, h⟩ := h
    obtain ⟨q, e1, h⟩ := post_fz (P := fun r => PostS W Z T env σ H r D) h id
    obtain ⟨env2, e2, h⟩ := post_of (P := fun r => PostS W Z T env σ H r D) h id
    obtain ⟨S1, R2, r1⟩ := fz_ok R1 V (show fzv env1 w = .ok (q.1, q.2) from e1)
    rw [← g.K]
    exact bindT_ok R2 r1 e2 fun σ' S2 R3 _ => h σ' H1 ((S.trans S1).trans S2) R3
theorem mutS_inv {i : Nat} {env : Env} {f : PyData → Option PyData} {T : Addr → Prop} {env0 : Env} {σ : St} {H : Hp} {D : Ends} (h : PostS W Z T env0 σ H (mutS i env f) D) : ∃ c k c', env[i]? = some (some (c, k)) ∧ (k = .ow ∨ k = .rf) ∧ f c = some c' ∧ PostS W Z T env0 σ H (.ok (.nx (env.set i (some (c', k))))) D := by
  unfold mutS at h
  split at h
  · rename_i c q
    obtain ⟨c', e, h⟩ := post_of (P := fun r => PostS W Z T env0 σ H r D) h id
    exact ⟨c, .ow, c', q, .inl rfl, e, h⟩
  · rename_i c q
    obtain ⟨c', e, h⟩ := post_of (P := fun r => PostS W Z T env0 σ H r D) h id
    exact ⟨c, .rf, c', q, .inr rfl, e, h⟩
  · exact h.elim
theorem own_val {i : Nat} {env : Env} {σ : St} {H : Hp} {T : Addr → Prop} (R : Rel W T env σ H) (h : ownS env[i]? = true) : ∃ v, σ[i]? = some (some v) := by
  unfold ownS at h
  split at h
  · rename_i d q; obtain ⟨v, e, _⟩ := R.slot i _ _ q; exact ⟨v, e⟩
  · rename_i d q; obtain ⟨v, e, _⟩ := R.slot i _ _ q; exact ⟨v, e⟩
  · cases h
def rSetM (W : Wd) : V → V → V → Hp → (Hp → Prop) → Prop := fun o i v H Q => rSetL o i v H Q ∨ ∃ A a kvs k d, o = .ref a ∧ DicR W H A a kvs ∧ keyIn kvs k = true ∧ kvs.length < sizeLine ∧ Rb W H A k i ∧ ndD d ∧ Rep W H A d v ∧ ∀ es ep, EntAll W H A (putD kvs k d) es → Q (upd H a (DicO a es ep))
theorem set_any (hK : W.K = X.K) (hw : W.w = X.w) (hu : X.A.units + 200 < cLine) : PSet X (rSetM W) := by
  intro pins s σ H o i v ov iv u Q I ro ri rv h
  rcases h with h | ⟨A, a, kvs, k, d, rfl, dr, kin, hz, rk, nd, rd, q⟩
  · exact set_list pins s σ H o i v ov iv u Q I ro ri rv h
  · cases ro
    exact dic_set hK hw (by omega) I dr kin hz (rk.key (keyIn_of kin).1) ri nd rv rd fun es ep s' I' l => ⟨_, I', q es ep l⟩
theorem sm_setI (g : Gd nm C G W k Z X) {i : Nat} {x : Str} {p2 : Pos} {ix : Expr} (hns : ∀ l u s p, ix ≠ .Slice l u s p) (hv : PE X (.Name x p) (tVar i)) (hi : PE X ix (tE C G W Z mb)) (he : PE X e (tE C G W Z ma)) : PS X (.Assign [.Subscript (.Name x p) ix p2] e pos) (tS C G W Z (.setI i mb ma)) := by
  refine ps_imp (ps_asg he (pg_sub hv hi (set_any g.K g.w g.units) (fun v => by cases ix <;> first | rfl | exact absurd rfl (hns _ _ _ _))) ?_ ?_ rfl) fun D σ H h => ?_
  · cases e <;> rfl
  · cases e <;> rfl
  · obtain ⟨T, env, rl, h⟩ := h
    simp only [evS] at h
    refine tE_mono (one_gen (P := fun r => PostS W Z T env σ H r D) (f := fun w env => fzn env w >>= fun q => if ownS q.2[i]? = true then (ev C G mb q.2 >>= fun y => rdv y.2 y.1 >>= fun kx => mutS i y.2 fun c => setD c kx q.1) else .stuck) rl (fun _ h => PostXS.x h) id h) fun x H1 h => ?_
    obtain ⟨w, env1, S, R1, V, h⟩ := h
    obtain ⟨q, e1, n1, h⟩ := post_fzn (P := fun r => PostS W Z T env σ H r D) h id
    obtain ⟨S1, R2, r1⟩ := fz_ok R1 V (show fzv env1 w = .ok (q.1, q.2) from e1)
    split at h
    · rename_i ho
      obtain ⟨v0, hv0⟩ := own_val R2 ho
      refine ⟨v0, hv0, T, q.2, R2, ?_⟩
      cases e2 : ev C G mb q.2 with
      | ok y =>
        rw [e2] at h
        have h : PostS W Z T env σ H (rdv y.2 y.1 >>= fun kx => mutS i y.2 fun c => setD c kx q.1) D := h
        intro v3 H3 S3 R3 V3
        obtain ⟨kx, e3, h⟩ := post_rd (P := fun r => PostS W Z T env σ H r D) h id
        obtain ⟨c, k', c', e4, hk, e5, h⟩ := mutS_inv h
        have R3' := R3.less (T' := T) fun a z => Tw_sub z
        have hx := (V3.hold (T := T) (fun _ z => z) R3 fun a z => Tw_sub z) kx e3
        have rd' := Rep.tr (S3.tr (T := T) (T' := T) fun _ z => .inl z) r1
        cases c with
        | list ds =>
          obtain ⟨a, vs, ea, hH, hz, hr⟩ := slot_own R3' e4 hk
          rw [hv0] at ea
          cases ea
          cases kx with
          | int n =>
            simp only [setD, Option.map_eq_some_iff] at e5
            obtain ⟨jj, e6, e7⟩ := e5
            subst e7
            refine .inl ⟨a, vs, n, jj, rfl, hx.int, hH, by rw [hr.length]; exact e6, ?_⟩
            obtain ⟨S4, R4⟩ := mut_ok (ds := ds.set jj q.1) (vs := vs.set jj x) R3' e4 hk hv0 (by rw [List.length_set]; exact hz) (hr.set jj n1 rd')
            exact h σ _ (((S.trans S1).trans S3).trans S4) R4
          | _ => simp [setD] at e5
        | dict kvs =>
          obtain ⟨a, ea, o⟩ := slot_ownA R3' e4 hk
          rw [hv0] at ea
          cases ea
          have e5 : (if keyIn kvs kx = true ∧ kvs.length < sizeLine then some (PyData.dict (putD kvs kx q.1)) else none) = some c' := e5
          split at e5
          · rename_i hq
            cases e5
            refine .inr ⟨Av T y.2 σ, a, kvs, kx, q.1, rfl, o, hq.1, hq.2, hx, n1, rd', fun es ep l => ?_⟩
            obtain ⟨es0, ep0, _, g0, _⟩ := o
            obtain ⟨S4, R4⟩ := mut_dic (ep := ep) R3' e4 hk hv0 (g0.put hq.1 hq.2) l
            exact h σ _ (((S.trans S1).trans S3).trans S4) R4
          · cases e5
        | _ => simp [setD] at e5
      | exc z => rw [e2] at h; exact PostX.pre (S.trans S1) (fun _ z => z) (PostXS.x h)
      | stuck => rw [e2] at h; exact h
    · exact h.elim
theorem sm_append {i : Nat} {x : Str} {apos cpos : Pos} (hv : PE X (.Name x p) (tVar i)) (he : PE X e (tE C G W Z m)) (hst : ∀ v p, e ≠ .Starred v p) (hl : (apos.endLine == cpos.line) = true) (hK : W.K = X.K) : PS X (.Expr (.Call (.Attribute (.Name x p) "append" apos) [e] [] cpos) pos) (tS C G W Z (.mut i .append [m])) := by
  refine ps_imp (ps_expr (pe_bm PySem.F.plainAttrs_list PySem.F.slot_list_append PySem.F.type_list_append mt_append hv (pl_consA he pl_nilA (star_one hst [] X.env)) rfl (by rw [star_one hst [] X.env]; rfl) hl (star_one hst [] X.env) rfl)) fun D σ H h => ?_
  obtain ⟨T, env, rl, h⟩ := h
  simp only [evS] at h
  split at h
  · rename_i ho
    obtain ⟨ds, k', e4, hk⟩ := ownL_inv ho
    obtain ⟨a, vs, ea, hH, hz, hr⟩ := slot_own rl e4 hk
    refine ⟨.ref a, ea, .inl ⟨rfl, vs, SqL.of hH⟩, T, env, rl, ?_⟩
    cases e2 : evA C G [m] env with
    | ok y =>
      rw [e2] at h
      have h : PostS W Z T env σ H (mutS i y.2 fun c => mutD .append c y.1) D := h
      intro vs2 H3 S3 R3 r3
      obtain ⟨c2, k2, c', e5, hk2, e6, h⟩ := mutS_inv h
      obtain ⟨ds2, rfl⟩ : ∃ ds2, c2 = .list ds2 := by
        cases c2 with
        | list ds2 => exact ⟨ds2, rfl⟩
        | _ => simp [mutD] at e6
      obtain ⟨a2, vs3, ea2, hH2, hz2, hr2⟩ := slot_own R3 e5 hk2
      rw [ea] at ea2
      cases ea2
      have hlen : y.1.length = 1 := by
        simp only [evA] at e2
        cases q1 : ev C G m env with
        | ok w =>
          simp only [bind, M.R.bind, q1] at e2
          cases q2 : fzn w.2 w.1 with
          | ok w2 => simp only [q2] at e2; cases e2; rfl
          | exc _ => simp only [q2] at e2; cases e2
          | stuck => simp only [q2] at e2; cases e2
        | exc _ => simp only [bind, M.R.bind, q1] at e2; cases e2
        | stuck => simp only [bind, M.R.bind, q1] at e2; cases e2
      match y1 : y.1, hlen with
      | [d1], _ =>
        rw [y1] at e6 r3
        simp only [mutD] at e6
        split at e6
        · rename_i hlt
          cases e6
          simp only [RepAll] at r3
          obtain ⟨v1, r', rfl, n1, rp, rfl⟩ := r3
          refine ⟨a, vs3, v1, rfl, rfl, hH2, by rw [hr2.length]; exact hlt, ?_⟩
          obtain ⟨S4, R4⟩ := mut_ok (ds := ds2 ++ [d1]) (vs := vs3 ++ [v1]) R3 e5 hk2 ea (by rw [List.length_append, hr2.length]; simp; omega) (hr2.append (RepAll.one n1 rp))
          exact h σ _ (S3.trans S4) R4
        · cases e6
    | exc z => rw [e2] at h; exact PostXS.x h
    | stuck => rw [e2] at h; exact h
  · exact h.elim
theorem sm_clear {i : Nat} {x : Str} {apos cpos : Pos} (hv : PE X (.Name x p) (tVar i)) (hl : (apos.endLine == cpos.line) = true) : PS X (.Expr (.Call (.Attribute (.Name x p) "clear" apos) [] [] cpos) pos) (tS C G W Z (.mut i .clear [])) := by
  refine ps_imp (ps_expr (pe_bm0 PySem.F.plainAttrs_list PySem.F.slot_list_clear PySem.F.type_list_clear mt_clear hv rfl hl)) fun D σ H h => ?_
  obtain ⟨T, env, rl, h⟩ := h
  simp only [evS, evA] at h
  split at h
  · have h : PostS W Z T env σ H (mutS i env fun c => mutD .clear c []) D := h
    obtain ⟨c, k', c', e4, hk, e5, h⟩ := mutS_inv h
    obtain ⟨ds, rfl⟩ : ∃ ds2, c = .list ds2 := by
      cases c with
      | list ds2 => exact ⟨ds2, rfl⟩
      | _ => simp [mutD] at e5
    obtain ⟨a, vs, ea, hH, hz, hr⟩ := slot_own rl e4 hk
    cases e5
    refine ⟨.ref a, ea, .inl ⟨rfl, vs, SqL.of hH⟩, a, vs, rfl, rfl, hH, ?_⟩
    obtain ⟨S4, R4⟩ := mut_ok (ds := []) (vs := []) rl e4 hk ea (Nat.zero_le _) (by simp only [RepAll])
    exact h σ _ S4 R4
  · exact h.elim
theorem sm_extend {i : Nat} {x : Str} {apos cpos : Pos} (hv : PE X (.Name x p) (tVar i)) (he : PE X e (tE C G W Z m)) (hst : ∀ v p, e ≠ .Starred v p) (hl : (apos.endLine == cpos.line) = true) : PS X (.Expr (.Call (.Attribute (.Name x p) "extend" apos) [e] [] cpos) pos) (tS C G W Z (.ext i m)) := by
  refine ps_imp (ps_expr (pe_bm PySem.F.plainAttrs_list PySem.F.slot_list_extend PySem.F.type_list_extend mt_extend hv (pa_cons he pa_nil (star_one hst [] X.env)) rfl (by rw [star_one hst [] X.env]; rfl) hl (star_one hst [] X.env) rfl)) fun D σ H h => ?_
  obtain ⟨T, env, rl, h⟩ := h
  simp only [evS] at h
  split at h
  · rename_i ho
    obtain ⟨ds, k', e4, hk⟩ := ownL_inv ho
    obtain ⟨a, vs, ea, hH, hz, hr⟩ := slot_own rl e4 hk
    refine ⟨.ref a, ea, .inl ⟨rfl, vs, SqL.of hH⟩, T, env, rl, ?_⟩
    cases e2 : ev C G m env with
    | ok y =>
      obtain ⟨w, env2⟩ := y
      rw [e2] at h
      intro v2 H3 S3 R3 V3
      cases w with
      | sl j => exact h.elim
      | va d fr =>
        cases fr with
        | false => cases d <;> exact h.elim
        | true =>
          cases d with
          | list ys =>
            have h : PostS W Z T env σ H (mutS i env2 fun c => extD c ys) D := h
            obtain ⟨c2, k2, c', e5, hk2, e6, h⟩ := mutS_inv h
            have R3' : Rel W T env2 σ H3 := R3.less (T' := T) fun a z => Tw_sub z
            obtain ⟨ds2, rfl⟩ : ∃ ds2, c2 = .list ds2 := by
              cases c2 with
              | list ds2 => exact ⟨ds2, rfl⟩
              | _ => simp [extD] at e6
            obtain ⟨a2, vs3, ea2, hH2, hz2, hr2⟩ := slot_own R3' e5 hk2
            rw [ea] at ea2
            cases ea2
            obtain ⟨b, rfl, nT, _, o⟩ := V3
            obtain ⟨zs, hb, hbz, hbr⟩ := o
            simp only [extD] at e6
            split at e6
            · rename_i hlt
              cases e6
              refine ⟨a, b, vs3, zs, rfl, rfl, hH2, hb, by rw [hr2.length, hbr.length]; exact hlt, ?_⟩
              obtain ⟨S4, R4⟩ := mut_ok (ds := ds2 ++ ys) (vs := vs3 ++ zs) R3' e5 hk2 ea (by rw [List.length_append, hr2.length, hbr.length]; exact hlt) (hr2.append (hbr.tr ⟨fun _ _ _ e => e, fun a n _ q => n (.inl q)⟩))
              exact h σ _ (S3.trans S4) R4
            · cases e6
          | _ => exact h.elim
    | exc z => rw [e2] at h; exact PostXS.x h
    | stuck => rw [e2] at h; exact h
  · exact h.elim
theorem sm_expr (he : PE X e (tE C G W Z m)) (hs : swapsWith e none pos.line X.env = pure false) : PS X (.Expr e pos) (tS C G W Z (.expr m)) := by
  refine ps_imp (ps_expr he hs) fun D σ H ⟨T, env, rl, h⟩ => ?_
  simp only [evS] at h
  refine tE_mono (one_gen (P := fun r => PostS W Z T env σ H r D) (f := fun w env => .ok (.nx env)) rl (fun _ h => PostXS.x h) id h) fun x H1 h => ?_
  obtain ⟨w, env1, S, R1, V, h⟩ := h
  exact h σ H1 S (R1.less fun a z => Tw_sub z)
theorem sm_ret (he : PE X e (tE C G W Z m)) : PS X (.Return (some e) pos) (tS C G W Z (.ret m)) := by
  refine ps_imp (ps_ret he) fun D σ H ⟨T, env, rl, h⟩ => ?_
  simp only [evS] at h
  refine tE_mono (one_gen (P := fun r => PostS W Z T env σ H r D) (f := fun w env => match w with
    | .va d fr => .ok (.rt d fr env)
    | .sl i => match env[i]? with
      | some (some (d, .ow)) => .ok (.rt d true (env.set i none))
      | _ => .stuck) rl (fun _ h => PostXS.x h) id h) fun x H1 h => ?_
  obtain ⟨w, env1, S, R1, V, h⟩ := h
  cases w with
  | va d fr => exact h x σ H1 S R1 V.rt
  | sl i =>
    have h : PostS W Z T env σ H (match env1[i]? with
      | some (some (d, .ow)) => .ok (.rt d true (env1.set i none))
      | _ => .stuck) D := h
    split at h
    · rename_i d q
      have V : σ[i]? = some (some x) := V
      have R1 : Rel W T env1 σ H1 := R1
      obtain ⟨v, ev, so⟩ := R1.slot i d .ow q
      rw [V] at ev
      cases ev
      obtain ⟨a, rfl, o⟩ := so
      have oa : Owns env1 σ i a := ⟨d, .ow, q, by decide, V⟩
      have own : ∀ {j b}, Owns (env1.set i none) σ j b → j ≠ i ∧ Owns env1 σ j b := fun {j b} ⟨d', k', q1, q2, q3⟩ => by
        by_cases hj : i = j
        · subst hj
          rw [getElem?_set_eq' q] at q1
          cases q1
        · rw [getElem?_set_ne' hj] at q1
          exact ⟨fun z => hj z.symm, d', k', q1, q2, q3⟩
      have na : ¬ Ownd (env1.set i none) σ a := fun ⟨j, hj⟩ => (own hj).1 (R1.inj j i a (own hj).2 oa)
      have less : ∀ b, (Av T (env1.set i none) σ b ∨ b = a) → Av T env1 σ b := fun b z => by
        rcases z with (z | ⟨j, z⟩) | z
        · exact .inl z
        · exact .inr ⟨j, (own z).2⟩
        · subst z; exact .inr ⟨i, oa⟩
      have S1 : Step env1 σ H1 (env1.set i none) σ H1 := ⟨fun _ _ e _ => e, fun b ⟨j, hj⟩ => .inl ⟨j, (own hj).2⟩, fun _ z => z, fun j d' k' hk e => by
        by_cases hj : i = j
        · subst hj
          rw [q] at e
          cases e
          rcases hk with z | z <;> cases z
        · exact ⟨d', by rw [getElem?_set_ne' hj]; exact e, rfl, fun _ => rfl⟩, fun _ _ _ _ _ _ e => e⟩
      have nT : ¬ T a := fun t => (R1.prot a t).1 ⟨i, oa⟩
      refine h (.ref a) σ H1 (S.trans S1) ⟨by rw [List.length_set]; exact R1.len, fun j d' k' e => ?_, fun j j' b h1 h2 => R1.inj j j' b (own h1).2 (own h2).2, fun b t => ?_⟩ ⟨a, rfl, nT, S.own a ⟨i, oa⟩, o.less less⟩
      · by_cases hj : i = j
        · subst hj
          rw [getElem?_set_eq' q] at e
          cases e
        · rw [getElem?_set_ne' hj] at e
          obtain ⟨v, ev, so⟩ := R1.slot j d' k' e
          refine ⟨v, ev, so.less fun b z => less b ?_⟩
          rcases z with (z | z) | z
          · exact .inl (.inl z)
          · cases z; exact .inr rfl
          · exact .inl (.inr z)
      · rcases t with t | t
        · exact ⟨fun ⟨j, hj⟩ => (R1.prot b t).1 ⟨j, (own hj).2⟩, (R1.prot b t).2⟩
        · cases t
          exact ⟨na, o.some⟩
    · exact h.elim
theorem sm_retN : PS X (.Return none pos) (tS C G W Z .retN) := ps_imp ps_retN fun D σ H ⟨T, env, rl, h⟩ => by
  simp only [evS] at h
  exact h .non σ H .refl rl (by show Rep _ _ _ _ _; simp only [Rep])
theorem sm_if {as bs : List Stmt} {mas mbs : List MS} (hc : PT X c (tT C G W Z mc)) (ha : PSs X as (tSs C G W Z mas)) (hb : PSs X bs (tSs C G W Z mbs)) : PS X (.If c as bs pos) (tS C G W Z (.ite mc mas mbs)) := by
  refine ps_imp (ps_if hc ha hb) fun D σ H ⟨T, env, rl, h⟩ => ?_
  simp only [evS] at h
  refine tT_mono (tT_gen (P := fun r => PostS W Z T env σ H r D) rl (fun _ h => PostXS.x h) id h) fun k H1 h => ?_
  obtain ⟨env1, S, R1, h⟩ := h
  cases k with
  | true => exact ⟨T, env1, R1, PostS.pre S h⟩
  | false => exact ⟨T, env1, R1, PostS.pre S h⟩
theorem sm_raise (g : Gd nm C G W k Z X) {x y : Str} {j : Nat} {p1 p2 p3 : Pos} {ci : Nat} (hc : nm.cls[ci]? = some (x, false)) (hg : Gl X x) (hd : (x == ("__debug__" : Str)) = false) : PS X (.Raise (some (.Call (.Name x p1) [.Constant (.str y) j p2] [] p3)) none pos) (tS C G W Z (.rais ci [] [])) := by
  obtain ⟨h1, h2, h3, h4⟩ := g.cls ci x hc
  have hn : ci < W.nc := by rw [← g.nc]; exact (List.getElem?_eq_some_iff.mp hc).1
  refine ps_imp (ps_raise g.calm g.tk (pmk_own PySem.F.excBase_ValueError h2 h1 h3 h4 hg hd)) fun D σ H ⟨T, env, rl, h⟩ => ?_
  simp only [evS, evA] at h
  exact h (.ref (W.ca ci)) none σ H .refl rl ⟨hn, rfl, .inl ⟨rfl, rfl⟩⟩
theorem unset_ok {T : Addr → Prop} {env : Env} {σ : St} {H : Hp} {i : Nat} {d : PyData} (R : Rel W T env σ H) (e : env[i]? = some (some (d, .sh))) : Step env σ H (env.set i none) (σ.set i none) H ∧ Rel W T (env.set i none) (σ.set i none) H := by
  have own : ∀ {j b}, Owns (env.set i none) (σ.set i none) j b → Owns env σ j b := fun {j b} ⟨d', k', q1, q2, q3⟩ => by
    by_cases hj : i = j
    · subst hj
      rw [getElem?_set_eq' e] at q1
      cases q1
    · rw [getElem?_set_ne' hj] at q1 q3
      exact ⟨d', k', q1, q2, q3⟩
  have less : ∀ b, Av T (env.set i none) (σ.set i none) b → Av T env σ b := fun b z => z.imp id fun ⟨j, y⟩ => ⟨j, own y⟩
  refine ⟨⟨fun _ _ q _ => q, fun b ⟨j, y⟩ => .inl ⟨j, own y⟩, fun _ z => z, fun j d' k' hk q => ?_, fun _ _ _ _ _ _ q => q⟩, ⟨by rw [List.length_set, List.length_set]; exact R.len, fun j d' k' q => ?_, fun j j' b h1 h2 => R.inj j j' b (own h1) (own h2), fun b t => ⟨fun ⟨j, y⟩ => (R.prot b t).1 ⟨j, own y⟩, (R.prot b t).2⟩⟩⟩
  · have hj : i ≠ j := fun z => by
      subst z
      rw [e] at q
      cases q
      rcases hk with z | z <;> cases z
    exact ⟨d', by rw [getElem?_set_ne' hj]; exact q, by rw [getElem?_set_ne' hj], fun _ => rfl⟩
  · by_cases hj : i = j
    · subst hj
      rw [getElem?_set_eq' e] at q
      cases q
    · rw [getElem?_set_ne' hj] at q
      obtain ⟨v, e1, so⟩ := R.slot j d' k' q
      exact ⟨v, by rw [getElem?_set_ne' hj]; exact e1, so.less less⟩
theorem sm_tryK (g : Gd nm C G W k Z X) {x n y : Str} {b : Bool} {ci i j : Nat} {body : List Stmt} {mb : List MS} {np p1 p2 p3 pos' : Pos} (hs : X.stack = X.env :: X.outer) (hf : X.env.frame = some X.env.locals) (hc : nm.cls[ci]? = some (x, b)) (hg : Gl X x) (hd : (x == ("__debug__" : Str)) = false) (hi : X.N[i]? = some n) (hj : X.N[j]? = some y) (hln : X.env.scope.names.lookup n = some .local) (hly : X.env.scope.names.lookup y = some .local) (okn : okName n = true)
    (hb : ∀ (Z' : L2.WX) (pn : List (Addr × Obj)) (xe : Value → Shared → Prop), Gd nm C G W k Z' (X.tr pn xe) → PSs (X.tr pn xe) body (tSs C G W Z' mb)) : PS X (.Try body [.ExceptHandler (some (.Name x np)) (some n) [.Assign [.Name y p1] (.Name n p2) p3] pos'] [] [] pos) (tS C G W Z (.tryx mb ci (some i) (.keep j))) := by
  have hn : ci < W.nc := by rw [← g.nc]; exact (List.getElem?_eq_some_iff.mp hc).1
  refine ps_imp (ps_tryK (tb := fun Z' => tSs C G W Z' mb) (Wout := Z) hs hf g.nd hi hj hln hly okn ⟨hg, hd, .inl (g.clg ci x b hc)⟩ g.tk fun Z' pn xe tk po => hb Z' pn xe (g.tr tk po)) fun D σ H ⟨T, env, rl, h⟩ => ⟨T, env, rl, ?_⟩
  simp only [evS] at h
  cases e : evSs C G mb env with
  | stuck => rw [e] at h; exact h
  | ok r =>
    rw [e] at h
    cases r with
    | nx env' => exact h
    | rt d fr env' => exact h
  | exc z =>
    simp only [e] at h
    intro cls d σ' H' S R xo
    obtain ⟨xc, rfl, xf⟩ := id xo
    refine ⟨subX z.1.c (some ci), g.xc.xm _ _ xc hn, fun hq a na => ⟨W.ca z.1.c, rfl, ?_⟩, fun hq => ?_⟩
    · rw [if_pos hq] at h
      obtain ⟨env2, e2, h⟩ := post_of (P := fun r => PostS W Z T env σ H r D) h id
      have e2 : ((setS i (excX z.1) .sh z.2).bind fun env => (setS j (excX z.1) .sh env).map fun env => env.set i none) = some env2 := e2
      rw [Option.bind_eq_some_iff] at e2
      obtain ⟨envA, a1, e2⟩ := e2
      rw [Option.map_eq_some_iff] at e2
      obtain ⟨envB, b1, rfl⟩ := e2
      have R0 := R.same (same_upd (o := ExcO a (W.ca z.1.c) d) na)
      have S0 := S.trans (Step.same (same_upd (o := ExcO a (W.ca z.1.c) d) na))
      have rp : Rep W (upd H' a (ExcO a (W.ca z.1.c) d)) (Av T z.2 σ') (excX z.1) (.ref a) := by
        unfold excX excD
        simp only [Rep]
        exact ⟨a, rfl, .inr (.inr (.inl ⟨fun q => avOk R a q na, _, d, xc, upd_same, xf.tr (Same.tr (same_upd na))⟩))⟩
      obtain ⟨S1, R1⟩ := setS_ok (fr := false) (T := T) (d := excX z.1) (v := .ref a) .refl R0 rp a1
      have rp1 := Rep.tr (S1.tr (T := T) (T' := T) fun _ z => .inl z) rp
      obtain ⟨S2, R2⟩ := setS_ok (fr := false) (T := T) (d := excX z.1) (v := .ref a) .refl R1 rp1 b1
      have sl : envB[i]? = some (some (excX z.1, .sh)) := by
        obtain ⟨⟨o, eo, _⟩, rfl⟩ := setS_inv a1
        obtain ⟨⟨o', eo', _⟩, rfl⟩ := setS_inv b1
        by_cases hij : j = i
        · subst hij
          rw [getElem?_set_eq' eo']
        · rw [getElem?_set_ne' hij, getElem?_set_eq' eo]
      obtain ⟨S3, R3⟩ := unset_ok R2 sl
      exact h _ _ (((S0.trans S1).trans S2).trans S3) R3
    · rw [if_neg (by rw [hq]; exact Bool.false_ne_true)] at h
      exact h _ d σ' H' S R xo
theorem sm_tryN (g : Gd nm C G W k Z X) {x y : Str} {b : Bool} {ci j kk : Nat} {body : List Stmt} {mb : List MS} {np p1 p2 p3 pos' : Pos} (hs : X.stack = X.env :: X.outer) (hf : X.env.frame = some X.env.locals) (hc : nm.cls[ci]? = some (x, b)) (hg : Gl X x) (hd : (x == ("__debug__" : Str)) = false) (hj : X.N[j]? = some y) (hly : X.env.scope.names.lookup y = some .local)
    (hb : ∀ (Z' : L2.WX) (pn : List (Addr × Obj)) (xe : Value → Shared → Prop), Gd nm C G W k Z' (X.tr pn xe) → PSs (X.tr pn xe) body (tSs C G W Z' mb)) : PS X (.Try body [.ExceptHandler (some (.Name x np)) none [.Assign [.Name y p1] (.Constant .none kk p2) p3] pos'] [] [] pos) (tS C G W Z (.tryx mb ci none (.non j))) := by
  have hn : ci < W.nc := by rw [← g.nc]; exact (List.getElem?_eq_some_iff.mp hc).1
  refine ps_imp (ps_try_only (tb := fun Z' => tSs C G W Z' mb) (Wout := Z) (ts := fun _ _ _ => tAsg (tC .non) (gName j)) hs hf ⟨hg, hd, .inl (g.clg ci x b hc)⟩ g.tk (fun Z' pn xe tk po => hb Z' pn xe (g.tr tk po)) fun a oe cls d pn _ _ => pss_one (ps_set (X := X.suite a ((a, oe) :: pn)) g.nd hj (.inl hly) pe_non rfl (.inr hly))) fun D σ H ⟨T, env, rl, h⟩ => ⟨T, env, rl, ?_⟩
  simp only [evS] at h
  cases e : evSs C G mb env with
  | stuck => rw [e] at h; exact h
  | ok r =>
    rw [e] at h
    cases r with
    | nx env' => exact h
    | rt d fr env' => exact h
  | exc z =>
    simp only [e] at h
    intro cls d σ' H' S R xo
    obtain ⟨xc, rfl, xf⟩ := id xo
    refine ⟨subX z.1.c (some ci), g.xc.xm _ _ xc hn, fun hq a na => ?_, fun hq => ?_⟩
    · rw [if_pos hq] at h
      obtain ⟨env2, e2, h⟩ := post_of (P := fun r => PostS W Z T env σ H r D) h id
      have e2 : setS j .none .sh z.2 = some env2 := e2
      obtain ⟨S1, R1⟩ := setS_ok (fr := false) (T := T) (d := .none) (v := .non) .refl R (by show Rep _ _ _ _ _; simp only [Rep]) e2
      exact h _ _ (S.trans S1) R1
    · rw [if_neg (by rw [hq]; exact Bool.false_ne_true)] at h
      exact h _ d σ' H' S R xo
theorem sms_nil : PSs X [] (tSs C G W Z []) := pss_imp pss_nil fun D σ H ⟨T, env, rl, h⟩ => by
  simp only [evSs] at h
  exact h σ H .refl rl
theorem sms_cons {s : Stmt} {r : List Stmt} {ms : MS} {mr : List MS} (hs : PS X s (tS C G W Z ms)) (hr : PSs X r (tSs C G W Z mr)) : PSs X (s :: r) (tSs C G W Z (ms :: mr)) := by
  refine pss_imp (pss_cons hs hr) fun D σ H ⟨T, env, rl, h⟩ => ?_
  simp only [evSs] at h
  refine ⟨T, env, rl, ?_⟩
  cases e : evS C G ms env with
  | ok q =>
    cases q with
    | nx env' =>
      simp only [e] at h
      exact fun σ' H' S R' => ⟨T, env', R', PostS.pre S h⟩
    | rt d fr env' => simp only [e] at h; exact h
  | exc x => simp only [e] at h; exact h
  | stuck => simp only [e] at h; exact h
end
end M
/-! M: loops. -/
namespace M
open PySem L2 PyProof.Rows
section
variable {W : Wd} {Z : L2.WX} {T T1 T2 : Addr → Prop} {env env1 env2 env' : Env} {σ σ1 σ2 σ' : St} {H H0 H1 H2 H' : Hp} {w : EV} {v : V} {C : CallT} {G : List PyData} {m ma mb mc : ME} {d : PyData} {D : Ends} {t : MT} {kk : IK} {src : List ME} {body : List MS}
def forTurn (C : CallT) (G : List PyData) (t : MT) (body : List MS) (x : PyData) (env : Env) : RE SR := (R.ofO (bindT t x env)).bind fun env => evSs C G body env
theorem evS_for (env : Env) : evS C G (.forr t kk src body) env = (evE C G src env >>= fun p => rdAll p.2 p.1 >>= fun ds => M.R.ofO (itemsD kk ds) >>= fun items =>
    unlR p.2 (lent p.2 p.1) (forLoop (forTurn C G t body) items (lendE p.2 (lent p.2 p.1)))) := by
  simp only [evS]
  rfl
theorem VRt.same {fr : Bool} (i : ∀ a, Av T env2 σ' a → Av T env' σ' a) (h : VRt W T env σ H H' env' σ' d fr v) : VRt W T env σ H H' env2 σ' d fr v := by
  cases fr with
  | false => exact Rep.less (show Rep W H' (Av T env' σ') d v from h) i
  | true =>
    obtain ⟨a, e, n, z, o⟩ := h
    exact ⟨a, e, n, z, o.less fun b q => q.imp (i b) id⟩
/-- the body's end, seen from ahead of the loop -/
theorem loop_end {r : RE SR} {L : List Nat} {D' : Ends} (hrt : D'.rt = D.rt) (hL : ∀ j ∈ L, ∃ d k, env1[j]? = some (some (d, k)) ∧ k ≠ .sh) (S0 : Step env σ H env1 σ1 H1) (S : Step (lendE env1 L) σ1 H1 env2 σ2 H2)
    (hn : ∀ env', r = .ok (.nx env') → ∀ σ' H', Step env2 σ2 H2 env' σ' H' → Rel W T env' σ' H' → D'.nx σ' H')
    (h : (∃ env', r = .ok (.nx env')) ∨ PostS W Z T env σ H (unlR env1 L r) D) : PostS W Z T env2 σ2 H2 r D' := by
  cases r with
  | stuck => rcases h with ⟨_, h⟩ | h; cases h; exact h
  | exc x =>
    rcases h with ⟨_, h⟩ | h; cases h
    intro cls d σ' H' s r k
    obtain ⟨S3, R3, o3⟩ := unlend_ok hL (S.trans s) r
    exact h cls d σ' H' (S0.trans S3) R3 (k.tr ⟨fun _ _ _ e => e, fun a n _ z => n (z.imp id fun ⟨j, y⟩ => ⟨j, (o3 j a).mp y⟩)⟩)
  | ok q =>
    cases q with
    | nx env' => exact hn env' rfl
    | rt d fr env' =>
      rcases h with ⟨_, h⟩ | h; cases h
      intro v σ' H' s r k
      obtain ⟨S3, R3, o3⟩ := unlend_ok hL (S.trans s) r
      rw [hrt]
      refine h v σ' H' (S0.trans S3) R3 ?_
      have ww : ∀ a, Av T (backE env1 env' L) σ' a → Av T env' σ' a := fun a z => z.imp id fun ⟨j, y⟩ => ⟨j, (o3 j a).mp y⟩
      have k1 := (k.pre S).same ww
      cases fr with
      | false => exact k1
      | true =>
        obtain ⟨a, e, n, z, o⟩ := k1
        refine ⟨a, e, n, ?_, o⟩
        rcases z with z | z
        · exact S0.own a (lend_ownd.mp z)
        · by_cases q : H a = none
          · exact .inr q
          · exact absurd z (S0.dom a q)
theorem for_read (h : tS C G W Z (.forr t kk src body) D σ H) : tFor (iM C G W Z kk src) (gOf W.K t) (tSs C G W Z body) D σ H := by
  obtain ⟨T, env, rl, h⟩ := h
  rw [evS_for] at h
  refine ⟨T, env, rl, ?_⟩
  cases e1 : evE C G src env with
  | exc x => rw [e1] at h; exact PostXS.x h
  | stuck => rw [e1] at h; exact h
  | ok p =>
    obtain ⟨ws, env1⟩ := p
    rw [e1] at h
    have h : PostS W Z T env σ H (rdAll env1 ws >>= fun ds => M.R.ofO (itemsD kk ds) >>= fun items => unlR env1 (lent env1 ws) (forLoop (forTurn C G t body) items (lendE env1 (lent env1 ws)))) D := h
    obtain ⟨ds, e2, h⟩ := post_rdAll (P := fun r => PostS W Z T env σ H r D) h id
    obtain ⟨items, e3, h⟩ := post_of (P := fun r => PostS W Z T env σ H r D) h id
    intro vals H1 S R1 hl
    have S : Step env σ H env1 σ H1 := S
    have R1 : Rel W T env1 σ H1 := R1
    have hl : HoldL W T env1 σ H1 ws vals := hl
    have hrb := hl.rd R1 e2
    refine ⟨Av T env1 σ, ds, items, avOk R1, hrb, e3, fun J wk => ?_⟩
    generalize hL : lent env1 ws = L at h
    have hown : ∀ j ∈ L, ∃ d k, env1[j]? = some (some (d, k)) ∧ k ≠ .sh := by rw [← hL]; exact lent_own e2
    have R0 : Rel W T (lendE env1 L) σ H1 := lend_rel R1
    have wsE : slots (ws.map (normW env1)) = L := hL
    have ln0 : ∀ i ∈ L, ∃ d, (lendE env1 L)[i]? = some (some (d, .ln)) := fun i hi => by
      obtain ⟨d, k, e, nk⟩ := hown i hi
      exact ⟨d, ((lendE_get env1 L i).2 hi).1 d k e nk⟩
    have hl0 : HoldL W T (lendE env1 L) σ H1 (ws.map (normW env1)) vals := HoldL.tr ⟨fun a o n e => e, fun a n _ z => n (lend_av.mp z)⟩ (norm_hold R1 hl) fun i hi => rfl
    have rd0 : rdAll (lendE env1 L) (ws.map (normW env1)) = .ok ds := by
      refine rd_same (norm_rd e2) fun i hi d k e => ?_
      rw [wsE] at hi
      obtain ⟨d', k', e', nk⟩ := hown i hi
      rw [e] at e'
      cases e'
      exact ⟨.ln, ((lendE_get env1 L i).2 hi).1 d k e nk⟩
    let Inv : Nat → St → Hp → Prop := fun i σi Hi => i ≤ items.length ∧ ∃ envi, Rel W T envi σi Hi ∧ Step (lendE env1 L) σ H1 envi σi Hi ∧ PostS W Z T env σ H (unlR env1 L (forLoop (forTurn C G t body) (items.drop i) envi)) D ∧ rdAll envi (ws.map (normW env1)) = .ok ds ∧ HoldL W T envi σi Hi (ws.map (normW env1)) vals ∧ StayL H1 Hi ds vals
    refine ⟨fun i n σi Hi => n = items.length - i ∧ Inv i σi Hi, ⟨items.length, by simp, Nat.zero_le _, _, R0, .refl, by rw [List.drop_zero]; exact h, rd0, hl0, stay_refl⟩, ?_⟩
    rintro i n σi Hi ⟨rfl, hi, envi, Ri, Si, hloop, rdi, hli, sti⟩
    have hrbi := hli.rd Ri rdi
    by_cases hlt : i < items.length
    · refine .inr ⟨wk.go i Hi _ hrbi sti hlt, Inv (i + 1), fun σ' H' nx => ⟨items.length - (i + 1), by omega, rfl, nx⟩, fun x H' hy => ?_⟩
      have hgi : items[i]? = some items[i] := List.getElem?_eq_getElem hlt
      obtain ⟨sm, nd, rp⟩ := wk.yld i Hi _ x H' items[i] (avOk Ri) hrbi sti hgi hy
      rw [List.drop_eq_getElem_cons hlt] at hloop
      have R' := Ri.same sm
      have S' : Step envi σi Hi envi σi H' := Step.same sm
      simp only [forLoop, forTurn] at hloop
      cases b1 : bindT t items[i] envi with
      | none => simp only [b1, M.R.ofO, M.R.bind] at hloop; exact hloop.elim
      | some envb =>
        simp only [b1, M.R.ofO, M.R.bind] at hloop
        refine bindT_ok R' rp b1 fun σ2 S1 R2 _ => ⟨T, envb, R2, ?_⟩
        have Sb := (Si.trans S').trans S1
        refine loop_end (D := D) rfl hown S Sb ?_ ?_
        · intro env' e σ' H'' s r
          rw [e] at hloop
          refine ⟨hlt, env', r, Sb.trans s, hloop, ?_, ?_, stay_step ((S'.trans S1).trans s) rdi hli (fun j hj => ?_) sti⟩
          · refine rd_same rdi fun j hj d k e => ?_
            rw [wsE] at hj
            obtain ⟨d1, e1⟩ := ln0 j hj
            obtain ⟨d2, e2', _, _⟩ := Si.fix j d1 .ln (.inr rfl) e1
            obtain ⟨d3, e3', _, l3⟩ := ((S'.trans S1).trans s).fix j d2 .ln (.inr rfl) e2'
            rw [e2'] at e
            cases e
            have := l3 rfl
            subst this
            exact ⟨.ln, e3'⟩
          · refine HoldL.tr (((S'.trans S1).trans s).tr (T := T) (T' := T) fun _ z => .inl z) hli fun j hj => ?_
            rw [wsE] at hj
            obtain ⟨d1, e1⟩ := ln0 j hj
            obtain ⟨d2, e2', _, _⟩ := Si.fix j d1 .ln (.inr rfl) e1
            obtain ⟨d3, _, s3, _⟩ := ((S'.trans S1).trans s).fix j d2 .ln (.inr rfl) e2'
            exact s3
          · rw [wsE] at hj
            obtain ⟨d1, e1⟩ := ln0 j hj
            obtain ⟨d2, e2', _, _⟩ := Si.fix j d1 .ln (.inr rfl) e1
            exact ⟨d2, e2'⟩
        · cases e : evSs C G body envb with
          | ok q =>
            cases q with
            | nx env' => exact .inl ⟨env', rfl⟩
            | rt d fr env' => rw [e] at hloop; exact .inr hloop
          | exc x => rw [e] at hloop; exact .inr hloop
          | stuck => rw [e] at hloop; exact .inr hloop
    · have hi' : i = items.length := by omega
      subst hi'
      refine .inl ⟨wk.stop _ Hi _ hrbi sti (Nat.le_refl _), ?_⟩
      rw [List.drop_length] at hloop
      simp only [forLoop, unlR, unlend] at hloop
      obtain ⟨S3, R3, o3⟩ := unlend_ok hown Si Ri
      exact hloop σi Hi (S.trans S3) R3
theorem wh_read (h : tS C G W Z (.whl mc body) D σ H) : tWhile (tT C G W Z mc) (tSs C G W Z body) D σ H := by
  obtain ⟨T, env, rl, h⟩ := h
  simp only [evS] at h
  refine ⟨fun n σi Hi => ∃ envi, Rel W T envi σi Hi ∧ Step env σ H envi σi Hi ∧ PostS W Z T env σ H (whLoop (fun env => evT C G mc env) (fun env => evSs C G body env) n envi) D, ⟨FUEL, env, rl, .refl, h⟩, ?_⟩
  rintro n σi Hi ⟨envi, Ri, Si, hl⟩
  cases n with
  | zero => exact hl.elim
  | succ n =>
    simp only [whLoop] at hl
    refine ⟨T, envi, Ri, ?_⟩
    cases e : evT C G mc envi with
    | stuck => rw [e] at hl; exact hl
    | exc x =>
      rw [e] at hl
      have hl : PostXS W Z T env σ H x := hl
      exact PostXS.x (PostXS.pre Si hl)
    | ok p =>
      obtain ⟨b, env1⟩ := p
      rw [e] at hl
      intro H1 S1 R1
      cases b with
      | false =>
        rw [if_neg (fun z => by cases z)]
        exact hl σi H1 (Si.trans S1) R1
      | true =>
        rw [if_pos rfl]
        refine ⟨fun σ' H' => ∃ envi, Rel W T envi σ' H' ∧ Step env σ H envi σ' H' ∧ PostS W Z T env σ H (whLoop (fun env => evT C G mc env) (fun env => evSs C G body env) n envi) D, fun σ' H' q => ⟨n, Nat.lt_succ_self _, q⟩, T, env1, R1, ?_⟩
        have SS := Si.trans S1
        cases e2 : evSs C G body env1 with
        | stuck => simp only [e2] at hl; exact hl
        | exc x => simp only [e2] at hl; exact PostXS.pre SS hl
        | ok q =>
          cases q with
          | nx env2 =>
            simp only [e2] at hl
            intro σ' H' s r
            exact ⟨env2, r, SS.trans s, hl⟩
          | rt d fr env2 =>
            simp only [e2] at hl
            exact fun v σ' H' s r k => hl v σ' H' (SS.trans s) r (k.pre SS)
end
section
variable {nm : Nm} {C : CallT} {G : List PyData} {W : Wd} {k : Nat} {Z : L2.WX} {X : Cx} {e : Expr} {p pos : Pos} {m : ME}
theorem sm_for (g : Gd nm C G W k Z X) {tg iter : Expr} {bs : List Stmt} {t : MT} {kk : IK} {src : List ME} {mbs : List MS} (hi : PI X tg iter (iM C G W Z kk src)) (hg : PG X tg (gOf W.K t)) (hb : PSs X bs (tSs C G W Z mbs)) (hs : ∀ x, foldedSetIterable iter X.env x = pure x) : PS X (.For tg iter bs [] pos) (tS C G W Z (.forr t kk src mbs)) :=
  ps_imp (ps_for g.po g.calm hi hg hb hs) fun D σ H h => for_read h
theorem sm_while (g : Gd nm C G W k Z X) {c : Expr} {bs : List Stmt} {mc : ME} {mbs : List MS} (hc : PT X c (tT C G W Z mc)) (hb : PSs X bs (tSs C G W Z mbs)) : PS X (.While c bs [] pos) (tS C G W Z (.whl mc mbs)) :=
  ps_imp (ps_while g.po hc hb) fun D σ H h => wh_read h
theorem sm_setLc (g : Gd nm C G W k Z X) {i : Nat} {y : Str} {py lp : Pos} {elt tg iter : Expr} {ifs : List Expr} {scope : Scope} (hy : X.N[i]? = some y) (hyl : X.env.scope.names.lookup y = some .local)
    (hsw : swapsWith (.ListComp elt [⟨tg, iter, ifs, 0⟩] scope lp) (some (.Name y py)) pos.line X.env = pure true) {n : Nat} (h : cE nm X.N (n + 1) X.env.scope (.ListComp elt [⟨tg, iter, ifs, 0⟩] scope lp) = some m) : PS X (.Assign [.Name y py] (.ListComp elt [⟨tg, iter, ifs, 0⟩] scope lp) pos) (tS C G W Z (.set i m)) := by
  simp only [cE] at h
  rw [Option.bind_eq_some_iff] at h
  obtain ⟨t, h1, h⟩ := h
  split at h
  · rename_i hb
    rw [Bool.and_eq_true, decide_eq_true_eq] at hb
    obtain ⟨hb1, hb2⟩ := hb
    rw [Option.bind_eq_some_iff] at h
    obtain ⟨ki, h2, h⟩ := h
    rw [Option.bind_eq_some_iff] at h
    obtain ⟨cs, h3, h⟩ := h
    rw [Option.map_eq_some_iff] at h
    obtain ⟨m', h4, h5⟩ := h
    cases h5
    obtain ⟨pi, fs⟩ := cIter_ok g (f := cE nm X.N n X.env.scope) (fun e m he => ⟨(cE_ok n g he).1, cE_star he⟩) h2
    refine ps_imp (ps_setLc (own := ownOf X.N t) (g := gOf W.K t) (tt := tCs C G W Z0 cs) (te := tE C G W Z0 m') g.calm g.nd hy hyl hsw pi (blkOk_by hb1) (fun s H c cl fp => ?_) (fun s H c cl fp => ?_) (fun s H c cl fp => ?_) fs) fun D σ H h => ?_
    · have gb := g.blk s H scope cl c fp
      have := pg_of (X := X.blk s H scope (compEnvC scope cl c X.env) fp) (rs := scope) gb.calm gb.nd stOk_blk n h1
      rw [g.K]
      exact this
    · have gb := g.blk s H scope cl c fp
      refine pts_M hb2 (fun e m he hm => ?_) (mapO_len h3)
      subst he hm
      exact (cE_ok n gb (mapO_get h3 0 e m rfl rfl)).2.1
    · exact (cE_ok n (g.blk s H scope cl c fp) h4).1
    · rw [own_vars (vars_ok h1)]
      exact lc_read (set_read h)
  · cases h
theorem swaps_form {x : Str} {py : Pos} {line : Nat} {env : PySem.Env} : swapsWith e (some (.Name x py)) line env = pure false ∨ (∃ elt gens scope lp, e = .ListComp elt gens scope lp ∧ (swapsWith e (some (.Name x py)) line env = pure true ∧ env.scope.names.lookup x = some .local)) ∨ (∃ elt gens scope lp, e = .SetComp elt gens scope lp) ∨ ∃ a b gens scope lp, e = .DictComp a b gens scope lp := by
  cases e with
  | ListComp elt gens scope lp =>
    cases q : (env.blockKind == .function && env.kindOf x == some .local && py.line == lp.line && !(scope.names.any fun (n, k) => n == x && (k == .local || k == .cell))) with
    | false => exact .inl (congrArg pure q)
    | true =>
      refine .inr (.inl ⟨_, _, _, _, rfl, congrArg pure q, ?_⟩)
      simp only [Bool.and_eq_true, beq_iff_eq] at q
      exact q.1.1.2
  | SetComp elt gens scope lp => exact .inr (.inr (.inl ⟨_, _, _, _, rfl⟩))
  | DictComp a b gens scope lp => exact .inr (.inr (.inr ⟨_, _, _, _, _, rfl⟩))
  | _ => exact .inl rfl
theorem cTg_nm {X : Cx} {n : Nat} {x : Str} {i : Nat} (hS : StOk X.env.scope X) (h : cTg X.N X.env.scope n (.Name x p) = some (.nm i)) : X.N[i]? = some x ∧ Loc X.env.scope x ∧ (X.fn x = true ∨ X.env.scope.names.lookup x = some .local) := by
  cases n with
  | zero => cases h
  | succ n =>
    simp only [cTg] at h
    split at h
    · rename_i q
      rw [Bool.and_eq_true] at q
      rw [Option.map_eq_some_iff] at h
      obtain ⟨j, h1, h2⟩ := h
      cases h2
      exact ⟨ixOf_get h1, hS x q.1⟩
    · cases h
theorem sms_all {f : Stmt → Option MS} (hf : ∀ s m, f s = some m → PS X s (tS C G W Z m)) : ∀ {ss : List Stmt} {ms : List MS}, mapO f ss = some ms → PSs X ss (tSs C G W Z ms)
  | [], ms, h => by cases h; exact sms_nil
  | s :: r, ms, h => by
    obtain ⟨y, zs, h1, h2, rfl⟩ := mapO_cons h
    exact sms_cons (hf s y h1) (sms_all hf h2)
theorem locB_of {sc : Scope} {x : Str} (h : locB sc x = true) : sc.names.lookup x = some .local := by
  unfold locB at h
  split at h
  · rename_i q; exact q
  · cases h
theorem cE_list {X : Cx} {n : Nat} {elt : Expr} {gens : List Comprehension} {scope : Scope} {lp : Pos} (h : cE nm X.N n X.env.scope (.ListComp elt gens scope lp) = some m) : ∃ n' tg iter ifs, n = n' + 1 ∧ gens = [⟨tg, iter, ifs, 0⟩] := by
  cases n with
  | zero => simp [cE] at h
  | succ n =>
    unfold cE at h
    split at h
    all_goals first | contradiction | skip
    all_goals rename_i q
    all_goals first | (cases q; exact ⟨_, _, _, _, rfl, rfl⟩) | cases q
theorem cS_ok : ∀ (n : Nat) {Z : L2.WX} {X : Cx} {st : Stmt} {m : MS}, Gd nm C G W k Z X → StOk X.env.scope X → X.stack = X.env :: X.outer → X.env.frame = some X.env.locals → cS nm X.N X.env.scope n st = some m → PS X st (tS C G W Z m)
  | 0, Z, X, st, m, g, hS, hs, hf, h => by simp [cS] at h
  | n + 1, Z, X, st, m, g, hS, hs, hf, h => by
    have ih : ∀ st m, cS nm X.N X.env.scope n st = some m → PS X st (tS C G W Z m) := fun st m h => cS_ok n g hS hs hf h
    have it : ∀ (Z' : L2.WX) (pn : List (Addr × Obj)) (xe : Value → Shared → Prop), Gd nm C G W k Z' (X.tr pn xe) → ∀ st m, (fun s => some ((cS nm X.N X.env.scope n s).getD .bad)) st = some m → PS (X.tr pn xe) st (tS C G W Z' m) := fun Z' pn xe g' st m h => by
      cases e : cS nm X.N X.env.scope n st with
      | none =>
        simp only [e] at h
        cases h
        exact sm_bad st
      | some m' =>
        simp only [e] at h
        cases h
        exact cS_ok n (X := X.tr pn xe) g' (fun x h => hS x h) hs hf e
    have ie : ∀ {e : Expr} {m : ME}, cE nm X.N n X.env.scope e = some m → EOk C G W Z X e m := fun h => cE_ok n g h
    have ib : ∀ st m, (fun s => some ((cS nm X.N X.env.scope n s).getD .bad)) st = some m → PS X st (tS C G W Z m) := fun st m h => by
      cases e : cS nm X.N X.env.scope n st with
      | none =>
        simp only [e] at h
        cases h
        exact sm_bad st
      | some m' =>
        simp only [e] at h
        cases h
        exact ih st _ e
    unfold cS at h
    split at h
    · cases h; exact sm_nop1
    · rename_i x p e pos
      rw [Option.bind_eq_some_iff] at h
      obtain ⟨t, h1, h⟩ := h
      split at h
      · rename_i i
        rw [Option.map_eq_some_iff] at h
        obtain ⟨m', h2, h3⟩ := h
        cases h3
        obtain ⟨q1, q2, q3⟩ := cTg_nm hS h1
        rcases swaps_form (e := e) (x := x) (py := p) (line := pos.line) (env := X.env) with z | ⟨elt, gens, scope, lp, rfl, z, y⟩ | ⟨elt, gens, scope, lp, rfl⟩ | ⟨a, b, gens, scope, lp, rfl⟩
        · exact sm_set g.nd q1 q2 q3 (ie h2).1 z
        · obtain ⟨n', tg, iter, ifs, rfl, rfl⟩ := cE_list h2
          exact sm_setLc g q1 y z h2
        · cases n <;> simp [cE] at h2
        · cases n <;> simp [cE] at h2
      · cases h
    · rename_i ts kk p e pos
      split at h
      · cases h
      · rename_i hne
        rw [Option.bind_eq_some_iff] at h
        obtain ⟨t, h1, h⟩ := h
        split at h
        · rename_i ts'
          rw [Option.map_eq_some_iff] at h
          obtain ⟨m', h2, h3⟩ := h
          cases h3
          exact sm_setT g hS h1 (by simpa using hne) (ie h2).1
        · cases h
    · rename_i x p ix p2 e pos
      rw [Option.bind_eq_some_iff] at h
      obtain ⟨a, h1, h⟩ := h
      split at h
      · rename_i i
        rw [Option.bind_eq_some_iff] at h
        obtain ⟨mi, h2, h⟩ := h
        rw [Option.map_eq_some_iff] at h
        obtain ⟨m', h3, h4⟩ := h
        cases h4
        exact sm_setI g (fun l u s p3 z => by subst z; cases n <;> simp [cE] at h2) (cE_var h1) (ie h2).1 (ie h3).1
      · cases h
    · rename_i x p mn apos es cpos pos
      split at h
      · rename_i hq
        rw [Bool.and_eq_true] at hq
        rw [Option.bind_eq_some_iff] at h
        obtain ⟨a, h1, h⟩ := h
        split at h
        · rename_i i
          split at h
          · rename_i hx
            subst hx
            split at h
            · rename_i e
              rw [Option.map_eq_some_iff] at h
              obtain ⟨m', h3, h4⟩ := h
              cases h4
              exact sm_extend (cE_var h1) (ie h3).1 (cE_star h3) hq.1
            · cases h
          · rw [Option.bind_eq_some_iff] at h
            obtain ⟨u, h2, h⟩ := h
            rw [Option.map_eq_some_iff] at h
            obtain ⟨ms, h3, h4⟩ := h
            cases h4
            unfold mutO at h2
            split at h2
            · rename_i hx
              cases h2
              obtain ⟨rfl, hl⟩ := hx
              match es, hl, h3 with
              | [e], _, h3 =>
                obtain ⟨y, zs, q1, q2, rfl⟩ := mapO_cons h3
                cases q2
                exact sm_append (cE_var h1) (ie q1).1 (cE_star q1) hq.1 g.K
            · split at h2
              · rename_i hx
                cases h2
                obtain ⟨rfl, hl⟩ := hx
                match es, hl, h3 with
                | [], _, h3 =>
                  cases h3
                  exact sm_clear (cE_var h1) hq.1
              · cases h2
        · cases h
      · cases h
    · cases h; exact sm_nop2
    · rw [Option.map_eq_some_iff] at h
      obtain ⟨m', h2, h3⟩ := h
      cases h3
      exact sm_expr (ie h2).1 rfl
    · rw [Option.map_eq_some_iff] at h
      obtain ⟨m', h2, h3⟩ := h
      cases h3
      exact sm_ret (ie h2).1
    · cases h; exact sm_retN
    · rw [Option.bind_eq_some_iff] at h
      obtain ⟨c', h1, h⟩ := h
      rw [Option.bind_eq_some_iff] at h
      obtain ⟨a', h2, h⟩ := h
      rw [Option.map_eq_some_iff] at h
      obtain ⟨b', h3, h4⟩ := h
      cases h4
      exact sm_if (ie h1).2.1 (sms_all ib h2) (sms_all ib h3)
    · rw [Option.bind_eq_some_iff] at h
      obtain ⟨t, h1, h⟩ := h
      rw [Option.bind_eq_some_iff] at h
      obtain ⟨ki, h2, h⟩ := h
      rw [Option.map_eq_some_iff] at h
      obtain ⟨b', h3, h4⟩ := h
      cases h4
      obtain ⟨pi, fs⟩ := cIter_ok g (f := cE nm X.N n X.env.scope) (fun e m he => ⟨(ie he).1, cE_star he⟩) h2
      have pg := pg_of g.calm g.nd hS n h1
      rw [← g.K] at pg
      exact sm_for g pi pg (sms_all ib h3) fs
    · rw [Option.bind_eq_some_iff] at h
      obtain ⟨c', h1, h⟩ := h
      rw [Option.map_eq_some_iff] at h
      obtain ⟨b', h3, h4⟩ := h
      cases h4
      exact sm_while g (ie h1).2.1 (sms_all ib h3)
    · split at h
      · rename_i hg
        rw [Option.bind_eq_some_iff] at h
        obtain ⟨i, h1, h⟩ := h
        rw [Option.bind_eq_some_iff] at h
        obtain ⟨pr, h2, h⟩ := h
        split at h
        · rename_i hp
          cases h
          obtain ⟨x', b⟩ := pr
          have hx' := ixOf_get h1
          rw [List.getElem?_map, h2] at hx'
          cases hx'
          have hp : b = false := hp
          subst hp
          exact sm_raise g h2 (glB_of hg).1 (glB_of hg).2
        · cases h
      · cases h
    · split at h
      · rename_i hq
        simp only [Bool.and_eq_true, decide_eq_true_eq] at hq
        obtain ⟨q1, q2, q3, q4, q5, q6, rfl⟩ := hq
        rw [Option.bind_eq_some_iff] at h
        obtain ⟨c, h1, h⟩ := h
        rw [Option.bind_eq_some_iff] at h
        obtain ⟨i, h2, h⟩ := h
        rw [Option.bind_eq_some_iff] at h
        obtain ⟨j, h3, h⟩ := h
        rw [Option.map_eq_some_iff] at h
        obtain ⟨b', h4, h5⟩ := h
        cases h5
        have hx' := ixOf_get h1
        rw [List.getElem?_map, Option.map_eq_some_iff] at hx'
        obtain ⟨⟨x', b⟩, hx1, hx2⟩ := hx'
        cases hx2
        exact sm_tryK g hs hf hx1 (glB_of q1).1 (glB_of q1).2 (ixOf_get h2) (ixOf_get h3) (locB_of q2) (locB_of q3) q6 fun Z' pn xe g' => sms_all (it Z' pn xe g') h4
      · cases h
    · split at h
      · rename_i hq
        simp only [Bool.and_eq_true] at hq
        obtain ⟨q1, q2, q3, q4⟩ := hq
        rw [Option.bind_eq_some_iff] at h
        obtain ⟨c, h1, h⟩ := h
        rw [Option.bind_eq_some_iff] at h
        obtain ⟨j, h3, h⟩ := h
        rw [Option.map_eq_some_iff] at h
        obtain ⟨b', h4, h5⟩ := h
        cases h5
        have hx' := ixOf_get h1
        rw [List.getElem?_map, Option.map_eq_some_iff] at hx'
        obtain ⟨⟨x', b⟩, hx1, hx2⟩ := hx'
        cases hx2
        exact sm_tryN g hs hf hx1 (glB_of q1).1 (glB_of q1).2 (ixOf_get h3) (locB_of q2) fun Z' pn xe g' => sms_all (it Z' pn xe g') h4
      · cases h
    · cases h
theorem cB_ok (g : Gd nm C G W k Z X) (hS : StOk X.env.scope X) (hs : X.stack = X.env :: X.outer) (hf : X.env.frame = some X.env.locals) (n : Nat) {st : Stmt} {m : MS} (h : cB nm X.N X.env.scope n st = some m) : PS X st (tS C G W Z m) := by
  unfold cB at h
  cases e : cS nm X.N X.env.scope n st with
  | none =>
    simp only [e] at h
    cases h
    exact sm_bad st
  | some m' =>
    simp only [e] at h
    cases h
    exact cS_ok n g hS hs hf e
end
end M
/-! M: all defs at once. -/
namespace M
open PySem L2 PyProof.Rows
section
variable {W : Wd} {T : Addr → Prop} {env env' : Env} {σ σ' : St} {H H' : Hp}
theorem pad_get {n : Nat} {j : Nat} {x : Slot} : (env ++ List.replicate n none)[j]? = some (some x) ↔ env[j]? = some (some x) := by
  by_cases h : j < env.length
  · rw [List.getElem?_append_left h]
  · rw [List.getElem?_append_right (by omega), List.getElem?_replicate]
    have : env[j]? = none := List.getElem?_eq_none (by omega)
    rw [this]
    split
    · constructor <;> (intro z; cases z)
    · exact Iff.rfl
theorem pad_gets {n : Nat} {j : Nat} {x : V} : (σ ++ List.replicate n none)[j]? = some (some x) ↔ σ[j]? = some (some x) := by
  by_cases h : j < σ.length
  · rw [List.getElem?_append_left h]
  · rw [List.getElem?_append_right (by omega), List.getElem?_replicate]
    have : σ[j]? = none := List.getElem?_eq_none (by omega)
    rw [this]
    split
    · constructor <;> (intro z; cases z)
    · exact Iff.rfl
theorem pad_owns {n m : Nat} {j : Nat} {a : Addr} : Owns (env ++ List.replicate n none) (σ ++ List.replicate m none) j a ↔ Owns env σ j a :=
  ⟨fun ⟨d, k, h1, h2, h3⟩ => ⟨d, k, pad_get.mp h1, h2, pad_gets.mp h3⟩, fun ⟨d, k, h1, h2, h3⟩ => ⟨d, k, pad_get.mpr h1, h2, pad_gets.mpr h3⟩⟩
theorem pad_ownd {n m : Nat} {a : Addr} : Ownd (env ++ List.replicate n none) (σ ++ List.replicate m none) a ↔ Ownd env σ a := ⟨fun ⟨j, h⟩ => ⟨j, pad_owns.mp h⟩, fun ⟨j, h⟩ => ⟨j, pad_owns.mpr h⟩⟩
theorem pad_rel {n : Nat} (R : Rel W T env σ H) : Rel W T (env ++ List.replicate n none) (σ ++ List.replicate n none) H :=
  ⟨by rw [List.length_append, List.length_append, R.len, List.length_replicate, List.length_replicate], fun i d k e => by
    obtain ⟨v, e1, so⟩ := R.slot i d k (pad_get.mp e)
    exact ⟨v, pad_gets.mpr e1, so.less fun a z => z.imp id pad_ownd.mp⟩, fun i j a h1 h2 => R.inj i j a (pad_owns.mp h1) (pad_owns.mp h2), fun a t => ⟨fun z => (R.prot a t).1 (pad_ownd.mp z), (R.prot a t).2⟩⟩
/-- what stands at a by-reference slot at the end -/
theorem rfs_put : ∀ {args : List Arg} {env' : Env} {ds : List PyData}, (∀ (i : Nat) d, (args.map slotOf)[i]? = some (some (d, .rf)) → ∃ d', env'[i]? = some (some (d', .rf))) → rfs (args.map isR) env' = some ds → (∀ (i : Nat) d k, (putA args ds)[i]? = some (some (d, k)) → (k = .sh ∧ (args.map slotOf)[i]? = some (some (d, .sh))) ∨ (k = .rf ∧ env'[i]? = some (some (d, .rf)) ∧ ∃ d', (args.map slotOf)[i]? = some (some (d', .rf)))) ∧ (∀ (i : Nat) d, (args.map slotOf)[i]? = some (some (d, .rf)) → ∃ d', (putA args ds)[i]? = some (some (d', .rf))) ∧ (putA args ds).length = args.length
  | [], env', ds, _, h => ⟨fun i d k e => by simp [putA] at e, fun i d e => by simp at e, rfl⟩
  | .v x :: r, env', ds, hf, h => by
    cases env' with
    | nil => simp [rfs, isR] at h
    | cons y env' =>
      obtain ⟨h1, h2, h3⟩ := rfs_put (args := r) (env' := env') (ds := ds) (fun i d e => hf (i + 1) d e) h
      refine ⟨fun i d k e => ?_, fun i d e => ?_, by simp [putA, h3]⟩
      · cases i with
        | zero => cases e; exact .inl ⟨rfl, rfl⟩
        | succ i => exact h1 i d k e
      · cases i with
        | zero => cases e
        | succ i => exact h2 i d e
  | .r x :: r, env', ds, hf, h => by
    cases env' with
    | nil => simp [rfs, isR] at h
    | cons y env' =>
      obtain ⟨d', e'⟩ := hf 0 x rfl
      cases e'
      have h : (rfs (r.map isR) env').map (d' :: ·) = some ds := h
      rw [Option.map_eq_some_iff] at h
      obtain ⟨ds', hh, rfl⟩ := h
      obtain ⟨h1, h2, h3⟩ := rfs_put (args := r) (env' := env') (ds := ds') (fun i d e => hf (i + 1) d e) hh
      refine ⟨fun i d k e => ?_, fun i d e => ?_, by simp [putA, h3]⟩
      · cases i with
        | zero => cases e; exact .inr ⟨rfl, rfl, x, rfl⟩
        | succ i => exact h1 i d k e
      · cases i with
        | zero => exact ⟨d', rfl⟩
        | succ i => exact h2 i d e
/-- a def's end, seen from its call -/
theorem def_end {args : List Arg} {vs : List V} {n m : Nat} {T2 : Addr → Prop} {ds : List PyData} (hlen : args.length = vs.length) (R : Rel W T (args.map slotOf) (vs.map some) H) (S : Step (args.map slotOf ++ List.replicate n none) (vs.map some ++ List.replicate m none) H env' σ' H') (R' : Rel W T2 env' σ' H') (hT : ∀ a, T2 a → T a ∨ H a = none) (hr : rfs (args.map isR) env' = some ds) :
    Step (args.map slotOf) (vs.map some) H (putA args ds) (vs.map some) H' ∧ Rel W T2 (putA args ds) (vs.map some) H' ∧ (∀ a, Ownd (putA args ds) (vs.map some) a → Ownd env' σ' a) ∧ (∀ a, Ownd (args.map slotOf) (vs.map some) a → Ownd env' σ' a) := by
  have fix : ∀ (i : Nat) d, (args.map slotOf)[i]? = some (some (d, .rf)) → ∃ d', env'[i]? = some (some (d', .rf)) ∧ ∀ v, (vs.map some)[i]? = some (some v) → σ'[i]? = some (some v) := fun i d e => by
    obtain ⟨d', e1, e2, _⟩ := S.fix i d .rf (.inl rfl) (pad_get.mpr e)
    exact ⟨d', e1, fun v ev => by rw [e2]; exact pad_gets.mpr ev⟩
  have kinds : ∀ (i : Nat) d k, (args.map slotOf)[i]? = some (some (d, k)) → k = .sh ∨ k = .rf := fun i d k e => by
    rw [List.getElem?_map, Option.map_eq_some_iff] at e
    obtain ⟨x, _, e⟩ := e
    cases x <;> cases e
    · exact .inl rfl
    · exact .inr rfl
  obtain ⟨p1, p2, p3⟩ := rfs_put (fun i d e => let ⟨d', e', _⟩ := fix i d e; ⟨d', e'⟩) hr
  have own1 : ∀ {j a}, Owns (putA args ds) (vs.map some) j a → Owns env' σ' j a ∧ Owns (args.map slotOf) (vs.map some) j a := fun {j a} ⟨d, k, e1, e2, e3⟩ => by
    rcases p1 j d k e1 with ⟨z, _⟩ | ⟨z, y, d', y'⟩
    · exact absurd z e2
    · subst z
      obtain ⟨_, _, q⟩ := fix j d' y'
      exact ⟨⟨d, .rf, y, e2, q _ e3⟩, ⟨d', .rf, y', e2, e3⟩⟩
  have own2 : ∀ {j a}, Owns (args.map slotOf) (vs.map some) j a → Owns env' σ' j a ∧ Owns (putA args ds) (vs.map some) j a := fun {j a} ⟨d, k, e1, e2, e3⟩ => by
    rcases kinds j d k e1 with z | z
    · exact absurd z e2
    · subst z
      obtain ⟨d', e', q⟩ := fix j d e1
      obtain ⟨d'', e''⟩ := p2 j d e1
      exact ⟨⟨d', .rf, e', e2, q _ e3⟩, ⟨d'', .rf, e'', e2, e3⟩⟩
  have av : ∀ a, Av T2 (putA args ds) (vs.map some) a → Av T2 env' σ' a := fun a z => z.imp id fun ⟨j, y⟩ => ⟨j, (own1 y).1⟩
  have tr : Tr H H' (Av T (args.map slotOf) (vs.map some)) (Av T2 (putA args ds) (vs.map some)) := ⟨fun a o n e => S.keep a o e fun z => n (.inr (pad_ownd.mp z)), fun a n e z => by
    rcases z with z | ⟨j, z⟩
    · rcases hT a z with y | y
      · exact n (.inl y)
      · exact e y
    · exact n (.inr ⟨j, (own1 z).2⟩)⟩
  refine ⟨⟨fun a o e n => S.keep a o e fun z => n (pad_ownd.mp z), fun a ⟨j, z⟩ => .inl ⟨j, (own1 z).2⟩, S.dom, fun i d k hk e => ?_, fun i d a o e es eo => S.lnk i d a o (pad_get.mpr e) (pad_gets.mpr es) eo⟩, ⟨by rw [p3, List.length_map]; exact hlen, fun i d k e => ?_, fun i j a h1 h2 => R.inj i j a (own1 h1).2 (own1 h2).2, fun a t => ⟨fun ⟨j, z⟩ => (R'.prot a t).1 ⟨j, (own1 z).1⟩, (R'.prot a t).2⟩⟩, fun a ⟨j, z⟩ => ⟨j, (own1 z).1⟩, fun a ⟨j, z⟩ => ⟨j, (own2 z).1⟩⟩
  · rcases kinds i d k e with z | z
    · subst z; rcases hk with z | z <;> cases z
    · subst z
      obtain ⟨d', e'⟩ := p2 i d e
      exact ⟨d', e', rfl, fun z => by cases z⟩
  · rcases p1 i d k e with ⟨z, y⟩ | ⟨z, y, d', y'⟩
    · subst z
      obtain ⟨v, ev, so⟩ := R.slot i d .sh y
      exact ⟨v, ev, Rep.tr tr (show Rep W H _ d v from so)⟩
    · subst z
      obtain ⟨v, ev, so⟩ := R.slot i d' .rf y'
      obtain ⟨_, _, q⟩ := fix i d' y'
      obtain ⟨v2, ev2, so2⟩ := R'.slot i d .rf y
      rw [q v ev] at ev2
      cases ev2
      exact ⟨v, ev, so2.less av⟩
end
/-- a def of the text -/
def DefAt (K : PySem.W.Frag) (mg : Str → Option Value) (nm : Nm) (F : List MFn) (f : Nat) (x : Str) (refs : List Bool) (fa : Addr) (fd : FuncData) (ps : List Str) : Prop :=
  ∃ params body scope kws N fn n, mg x = some (.ref fa) ∧ FunD K x x params body scope [] kws fa fd ∧ Binds K fd ps [] ∧ FnScope N ps scope ∧ F[f]? = some fn ∧ fn.refs = refs ∧ refs.length = ps.length ∧ fn.nsl = N.length ∧ mapO (cB nm N scope n) body = some fn.body
def DefOk (K : PySem.W.Frag) (mg : Str → Option Value) (nm : Nm) (F : List MFn) (f : Nat) (x : Str) (refs : List Bool) : Prop := ∃ fa fd ps, DefAt K mg nm F f x refs fa fd ps
structure Md (w : World) (K : PySem.W.Frag) (mg : Str → Option Value) (nm : Nm) (F : List MFn) (G : List PyData) (W : Wd) : Prop where
  kk : W.K = K
  ww : W.w = w
  dk : ∀ a kvs, W.DK a kvs → ∀ X : Cx, X.K = K → X.w = w → DKp X a kvs
  xc : XcOk W K
  nc : nm.cls.length = W.nc
  clg : ∀ (c : Nat) x b, nm.cls[c]? = some (x, b) → mg x = some (.ref (W.ca c))
  vgl : mg "ValueError" = none
  gls : ∀ (j : Nat) x, nm.gls[j]? = some x → ∃ d u v, G[j]? = some d ∧ mg x = some u ∧ RelV v u ∧ ∀ H A, Rep W H A d v
  cls : ∀ (c : Nat) x, nm.cls[c]? = some (x, false) → mg x = some (.ref (W.ca c)) ∧ PySem.W.excIn K (W.ca c) He.veBase "ValueError.__new__" = true ∧ PySem.W.keepIn K (.ref (W.ca c)) = true ∧ ∀ X : Cx, X.K = K → Raises X (.ref (W.ca c))
  blt : ∀ x ∈ bltNames, mg x = none
  defs : ∀ (f : Nat) x refs, nm.fns[f]? = some (x, refs) → DefOk K mg nm F f x refs
theorem stOk_def {CX : CXT} {P : Program} {w : World} {K : PySem.W.Frag} {mg : Str → Option Value} {base : Heap} {N : List Str} {qual : Str} {scope : Scope} {f : Addr} {cd : Value} {A : Around} {outer : List PySem.Env} {s : Shared} {H : Hp} {E : XK} : StOk scope (cxOf CX P w K mg base N qual scope f cd A outer s H E) := fun x h => by
  refine ⟨?_, .inl rfl⟩
  unfold stB at h
  show Loc scope x
  split at h
  · rename_i q; exact .inl q
  · rename_i q; exact .inr q
  · cases h
theorem fn_at {P : Program} {w : World} {K : PySem.W.Frag} {mg : Str → Option Value} {base : Heap} {nm : Nm} {F : List MFn} {G : List PyData} {W : Wd} (mm : Md w K mg nm F G W) {k f : Nat} {x : Str} {refs : List Bool} {fa : Addr} {fd : FuncData} {ps : List Str} (hd : DefAt K mg nm F f x refs fa fd ps)
    (ih : ∀ (f : Nat) (x : Str) (refs : List Bool), nm.fns[f]? = some (x, refs) → ∃ fa fd ps, mg x = some (.ref fa) ∧ PySem.W.keepIn K (.ref fa) = true ∧ Binds K fd ps [] ∧ FnG P w K mg base (CX P w) k fa fd ps (spF W (callF F G k) f refs)) :
    FnG P w K mg base (CX P w) (k + 1) fa fd ps (spF W (callF F G (k + 1)) f refs) := by
  obtain ⟨params, body, scope, kws, N, fn, n, h1, h2, h3, h4, h5, h6, h7, h8, h9⟩ := hd
  refine fnG_of h2 h4 (fun vs H Q E h => ?_) (fun cdv A outer s H vs Q E hgu hr h => ?_)
  · obtain ⟨T, as, e, R, _⟩ := h
    have := R.len
    rw [List.length_map, List.length_map] at this
    rw [← this, ← h7, ← e, List.length_map]
  · have g : Gd nm (callF F G k) G W k (fun cls d _ H => E cls d H) (cxOf (CX P w) P w K mg base N x scope fa cdv A outer s H E) :=
      { calm := rfl, nd := h4.nd, room := hr, gu := hgu, K := mm.kk, w := mm.ww, dk := fun a kvs h => mm.dk a kvs h _ rfl rfl, xc := mm.xc, nc := mm.nc, clg := mm.clg, vgl := mm.vgl, tk := takes_of rfl rfl rfl rfl, po := passes_of rfl,
        fns := ih, gls := mm.gls, cls := fun c x h => let q := mm.cls c x h; ⟨q.1, q.2.1, q.2.2.1, q.2.2.2 _ rfl⟩, blt := mm.blt }
    refine ⟨tSs (callF F G k) G W (fun cls d _ H => E cls d H) fn.body, sms_all (fun st m h => cB_ok g stOk_def rfl rfl n h) h9, ?_⟩
    obtain ⟨T, args, er, R, h⟩ := h
    have hlen : args.length = vs.length := by
      have := R.len
      rwa [List.length_map, List.length_map] at this
    have hc : callF F G (k + 1) f args = if args.map isR = fn.refs ∧ args.length ≤ fn.nsl then retOf fn.refs (evSs (callF F G k) G fn.body (startE fn.nsl args)) else .stuck := by
      rw [callF, h5]
    rw [hc] at h
    by_cases hq : args.map isR = fn.refs ∧ args.length ≤ fn.nsl
    · rw [if_pos hq] at h
      have est : L2.start N vs = vs.map some ++ List.replicate (fn.nsl - args.length) none := by rw [L2.start, h8, hlen]
      refine ⟨T, startE fn.nsl args, by rw [est]; exact pad_rel R, ?_⟩
      rw [est]
      unfold startE at h ⊢
      rw [← hq.1] at h
      cases e : evSs (callF F G k) G fn.body (args.map slotOf ++ List.replicate (fn.nsl - args.length) none) with
      | stuck => rw [e] at h; exact h
      | exc y =>
        rw [e] at h
        refine fun cls d σ' H' S R' xo => h cls d H' (fun a o e n => S.keep a o e fun z => n (pad_ownd.mp z)) (xo.tr ⟨fun _ _ _ e => e, fun a n _ z => n (z.imp id fun ⟨j, d0, k0, q1, q2, q3⟩ => ?_)⟩)
        have hk : k0 = .rf := by
          rw [List.getElem?_map, Option.map_eq_some_iff] at q1
          obtain ⟨x, _, e⟩ := q1
          cases x <;> cases e
          · exact absurd rfl q2
          · rfl
        subst hk
        obtain ⟨d', e1, e2, _⟩ := S.fix j d0 .rf (.inl rfl) (pad_get.mpr q1)
        exact ⟨j, d', .rf, e1, q2, by rw [e2]; exact pad_gets.mpr q3⟩
      | ok q =>
        cases q with
        | nx env' =>
          rw [e] at h
          simp only [retOf] at h
          cases e2 : rfs (args.map isR) env' with
          | none => rw [e2] at h; exact h.elim
          | some ds =>
            rw [e2] at h
            intro σ' H' S R'
            obtain ⟨S1, R1, o1, o2⟩ := def_end hlen R S R' (fun a z => .inl z) e2
            exact h .non H' S1 R1 (by show Rep _ _ _ _ _; simp only [Rep])
        | rt d fr env' =>
          rw [e] at h
          simp only [retOf] at h
          cases e2 : rfs (args.map isR) env' with
          | none => rw [e2] at h; exact h.elim
          | some ds =>
            rw [e2] at h
            intro v σ' H' S R' V
            cases fr with
            | false =>
              obtain ⟨S1, R1, o1, o2⟩ := def_end hlen R S R' (fun a z => .inl z) e2
              refine h v H' S1 R1 ?_
              exact Rep.less (show Rep W H' (Av T env' σ') d v from V) fun a z => z.imp id (o1 a)
            | true =>
              obtain ⟨a, rfl, nT, hn, o⟩ := V
              have hHn : H a = none := by
                rcases hn with z | z
                · obtain ⟨j, d', k', q1, q2, q3⟩ := pad_ownd.mp z
                  have : ∃ d'', env'[j]? = some (some (d'', .rf)) ∧ σ'[j]? = (vs.map some ++ List.replicate (fn.nsl - args.length) none)[j]? := by
                    rw [List.getElem?_map, Option.map_eq_some_iff] at q1
                    obtain ⟨y, hy, q1⟩ := q1
                    cases y with
                    | v d0 => cases q1; exact absurd rfl q2
                    | r d0 =>
                      cases q1
                      obtain ⟨d', e1, e2, _⟩ := S.fix j _ .rf (.inl rfl) (pad_get.mpr (by rw [List.getElem?_map, hy]; rfl))
                      exact ⟨d', e1, e2⟩
                  obtain ⟨d'', e1, e2⟩ := this
                  exact absurd ⟨j, d'', .rf, e1, by decide, by rw [e2]; exact pad_gets.mpr q3⟩ (R'.prot a (.inr rfl)).1
                · exact z
              obtain ⟨S1, R1, o1, o2⟩ := def_end hlen R S R' (fun b z => by
                rcases z with z | z
                · exact .inl z
                · cases z; exact .inr hHn) e2
              exact h (.ref a) H' S1 R1 ⟨a, rfl, nT, hHn, o.less fun b z => z.imp (fun y => y.imp id (o1 b)) id⟩
    · rw [if_neg hq] at h
      exact h.elim
theorem fns_ok {P : Program} {w : World} {K : PySem.W.Frag} {mg : Str → Option Value} {base : Heap} {nm : Nm} {F : List MFn} {G : List PyData} {W : Wd} (mm : Md w K mg nm F G W) : ∀ (k f : Nat) (x : Str) (refs : List Bool), nm.fns[f]? = some (x, refs) →
    ∃ fa fd ps, mg x = some (.ref fa) ∧ PySem.W.keepIn K (.ref fa) = true ∧ Binds K fd ps [] ∧ FnG P w K mg base (CX P w) k fa fd ps (spF W (callF F G k) f refs)
  | 0, f, x, refs, hf => by
    obtain ⟨fa, fd, ps, params, body, scope, kws, N, fn, n, h1, h2, h3, h4, h5, h6, h7, h8, h9⟩ := mm.defs f x refs hf
    refine ⟨fa, fd, ps, h1, h2.kp, h3, ⟨fun vs H Q E h => ?_, fun A outer s H args us vs Q E _ _ _ _ _ h => ?_⟩⟩
    · obtain ⟨T, as, _, _, h⟩ := h; exact h.elim
    · obtain ⟨T, as, _, _, h⟩ := h; exact h.elim
  | k + 1, f, x, refs, hf => by
    obtain ⟨fa, fd, ps, hd⟩ := mm.defs f x refs hf
    obtain ⟨params, body, scope, kws, N, fn, n, h1, h2, h3, _⟩ := id hd
    exact ⟨fa, fd, ps, h1, h2.kp, h3, fn_at mm hd fun f x refs h => fns_ok mm k f x refs h⟩
end M
/-! M: from a plain equation to a law. -/
namespace M
open PySem PySem.Spec L2 PyProof.Rows
/-- the law's call: nothing is tracked but the script -/
theorem law_callG {P : Program} {w : World} {K : PySem.W.Frag} {mg mb : Str → Option Value} {cx : CXT} {k : Nat} {fa a : Addr} {fd : FuncData} {x : Str} {sp : Sp} {s1 : Shared} {vs : List Value} {ns : List Int}
    (KX : K.In s1.heap) (gl : s1.heap.Ns mainGlobals mg) (bn : s1.heap.Ns builtinsNs mb) (bb : ∀ x : Str, x ≠ "__name__" → mb x = bootBuiltins x) (lim : s1.heap.NoLimit) (gens : s1.gens = #[])
    (obj : s1.heap.get? a = some { cls := .type "list", data := .seq vs.toArray }) (hnt : IntsAre vs ns) (few : ns.length ≤ sizeLine) (room : Room k callerA)
    (F : ∀ base : Heap, K.In base → base.Ns mainGlobals mg → FnG P w K mg base cx k fa fd [x] sp) (bnd : ∀ (s : Shared) (u : Value), BindsTo s fd ⟨[u], []⟩ [(x, u)])
    (want : ∀ H : Hp, SqL K H a (ns.map V.int) → sp [.ref a] H (fun v _ => v = .bl true) fun _ _ _ => False) (quiet : ∀ H e s2, cx [] H s1 (fun _ _ _ => False) e s2 → False) :
    codeAny (model P w) callerA (.call (.ref fa) ⟨[.ref a], []⟩) (fun r s2 => r = .ok (.ret (.bool true)) ∧ OldK s1.heap s2.heap ∧ s2.os = s1.os ∧ AllBare s2.gens) s1 := by
  let O : Obj := { cls := .type "list", data := .seq vs.toArray }
  have go : ∀ H : Hp, (∀ b u, H b = some u → b = a ∧ u = .frz O (.lst (ns.map V.int)) ∧ K.lookup a = none) → SqL K H a (ns.map V.int) →
      codeAny (model P w) callerA (.call (.ref fa) ⟨[.ref a], []⟩) (fun r s2 => r = .ok (.ret (.bool true)) ∧ OldK s1.heap s2.heap ∧ s2.os = s1.os ∧ AllBare s2.gens) s1 := fun H one sq => by
    have free : ∀ {b : Addr} {o : Obj}, s1.heap.get? b = some o → (b = a → o ≠ O) → H b = none := fun {b o} e ne => by
      cases q : H b with
      | none => rfl
      | some u =>
        obtain ⟨eb, _, _⟩ := one b u q
        subst eb
        rw [obj] at e
        exact absurd (Option.some.inj e).symm (ne rfl)
    have names : ∀ {b : Addr} {m : Str → Option Value}, s1.heap.Ns b m → (hidT s1.heap H).Ns b m := by
      rintro b m ⟨o, es, ep, e, d, r⟩
      refine ⟨o, es, ep, hidT_get e (free e fun _ z => ?_), d, r⟩
      rw [z] at d
      cases d
    have KB : K.In (hidT s1.heap H) := fun b o e => hidT_get (KX b o e) (by
      cases q : H b with
      | none => rfl
      | some u =>
        obtain ⟨eb, _, z⟩ := one b u q
        rw [eb, z] at e
        cases e)
    have ok0 : HOk P w H s1.heap := fun b u e => by
      obtain ⟨rfl, rfl, _⟩ := one b u e
      exact ⟨obj, by rw [List.length_map]; exact few, vs, _, vals_ints hnt, obj⟩
    obtain ⟨mc, l1, l2⟩ := lim
    have e0 : Env0 P w K mg (hidT s1.heap H) callerA [] s1 H :=
      { frames := rfl, mod := ⟨KB, names gl, ⟨mb, names bn, bb⟩, ⟨mc, names l1, l2⟩⟩, bs := fun b o e => of_hidT e, bsz := Nat.le_of_eq (hidT_size _ _), funs := trivial, frf := fun b z => (List.not_mem_nil (show b ∈ ([] : List Addr) from z)).elim, hok := ok0, bare := .of_eq gens }
    refine codeAny_mono ((F _ KB (names gl)).run callerA [] s1 H ⟨[.ref a], []⟩ [.ref a] [.ref a] _ _ rfl room e0 (bnd s1 (.ref a)) (.cons rfl .nil) (want H sq)) fun r s2 got => ?_
    match r, got with
    | .error e, got => exact (quiet H e s2 got).elim
    | .ok .next, got => exact got.elim
    | .ok .brk, got => exact got.elim
    | .ok .cont, got => exact got.elim
    | .ok (.ret u), ⟨v, H2, os, bare, un, ok2, rv, is⟩ =>
      have is : v = .bl true := is
      subst is
      cases (show u = Value.bool true from rv)
      refine ⟨rfl, OldK.of_keep fun b o e => ?_, os, bare⟩
      cases q : H b with
      | none => exact un.keep b o e q (fun z => (List.not_mem_nil (show b ∈ ([] : List Addr) from z)).elim) (by simp)
      | some y =>
        obtain ⟨rfl, rfl, _⟩ := one b y q
        have c1 := (ok0 b _ q).1
        have c2 := (ok2 b _ (un.frzs b _ _ q)).1
        rw [e] at c1
        cases c1
        exact c2
  cases hk : K.lookup a with
  | some o =>
    have e := KX a o hk
    rw [obj] at e
    cases e
    exact go (fun _ => none) (fun b u z => by cases (show (none : Option HO) = some u from z)) (.inr ⟨_, vs.toArray, _, hk, rfl, rfl, rfl, by rw [List.size_toArray, hnt.length]; exact few, by simpa using vals_ints hnt⟩)
  | none =>
    refine go (fun b => if b = a then some (.frz O (.lst (ns.map V.int))) else none) (fun b u z => ?_) (.inl (.inr ⟨O, if_pos rfl⟩))
    have z : (if b = a then some (HO.frz O (.lst (ns.map V.int))) else none) = some u := z
    split at z
    · rename_i eb
      exact ⟨eb, (Option.some.inj z).symm, hk⟩
    · cases z
theorem walk_M {l : PySem.W.OpenLaw} {n k : Nat} {q : Program} {loose : List Str} {XP : (Str → Option Value) → Heap → Prop} {YP : World → Heap → Prop} {d : DefRec} {x : Str}
    (hn : l.most = some n) (hn2 : n ≤ sizeLine) (hdf : d.params.defaults = []) (hr : Room k callerA)
    (F : ∀ (w : World) (mg : Str → Option Value) (fa : Addr) (h : Heap), YP w h → h.Ns mainGlobals mg → mg d.name = some (.ref fa) →
      ∃ (K : PySem.W.Frag) (fd : FuncData) (sp : Sp), K.In h ∧ (∀ (s : Shared) (u : Value), BindsTo s fd ⟨[u], []⟩ [(x, u)]) ∧
        (∀ (H : Hp) (a : Addr) (ns : List Int), ns.length ≤ n → SqL K H a (ns.map V.int) → sp [.ref a] H (fun v _ => v = .bl true) fun _ _ _ => False) ∧
        ∀ base : Heap, K.In base → base.Ns mainGlobals mg → FnG l.prog w K mg base (CX l.prog w) k fa fd [x] sp) :
    PySem.W.WalkO q loose XP YP l.row.toRowW d [] (fun f vs => PySem.call f vs) := by
  refine Att.attach_call hn hdf fun w s0 s1 mg mb fa o pm cd doc a vs ns G Y ho hd hcd hmg hobj hints hlen hg => ?_
  obtain ⟨K, fd, sp, KX, hb, hsp, hF⟩ := F w mg fa _ Y G.T.g hmg
  refine law_callG KX G.T.g G.T.b G.T.builtins G.T.nolimit hg hobj hints (Nat.le_trans hlen hn2) hr hF hb (fun H hS => hsp H a ns hlen hS) fun H e s2 hc => ?_
  obtain ⟨_, _, _, _, _, _, _, _, _, _, _, _, z⟩ := hc
  exact z
theorem repAll_ints {W : Wd} {H : Hp} {A : Addr → Prop} : ∀ (ns : List Int), RepAll W H A (ns.map PyData.int) (ns.map V.int)
  | [] => by simp only [List.map_nil, RepAll]
  | n :: r => by
    rw [List.map_cons, List.map_cons]
    simp only [RepAll]
    exact ⟨_, _, rfl, trivial, by simp only [Rep], repAll_ints r⟩
/-- the law's promise at a script -/
theorem sp_law {W : Wd} {C : CallT} {f : Nat} {H : Hp} {a : Addr} {ns : List Int} (hz : ns.length ≤ sizeLine) (hS : SqL W.K H a (ns.map V.int)) (h : C f [.v (.list (ns.map PyData.int))] = .ok ⟨.bool true, false, []⟩) : spF W C f [false] [.ref a] H (fun v _ => v = .bl true) fun _ _ _ => False := by
  have no : ∀ b, ¬ Ownd ([Arg.v (.list (ns.map PyData.int))].map slotOf) ([V.ref a].map some) b := fun b ⟨j, d, k, e1, e2, _⟩ => by
    cases j with
    | zero => cases e1; exact e2 rfl
    | succ j => simp at e1
  refine ⟨fun _ => False, [.v (.list (ns.map PyData.int))], rfl, ⟨rfl, fun i d k e => ?_, fun i j b h1 _ => absurd ⟨i, h1⟩ (no b), fun b z => z.elim⟩, ?_⟩
  · cases i with
    | succ j => simp at e
    | zero =>
      cases e
      refine ⟨.ref a, rfl, ?_⟩
      show Rep W H _ _ _
      simp only [Rep]
      refine ⟨a, ns.map V.int, rfl, ?_, by rw [List.length_map]; exact hz, repAll_ints ns⟩
      rcases hS with z | z
      · exact .inl ⟨fun q => by
          rcases q with q | q
          · exact q
          · exact no a q, z⟩
      · exact .inr z
  · rw [h]
    intro v H' _ _ V
    simpa only [VOk, Rep] using V
/-! ### the module's names -/
def AllD (K : PySem.W.Frag) (mg : Str → Option Value) (nm : Nm) (F : List MFn) : Nat → List (Str × List Bool) → Prop
  | _, [] => True
  | i, p :: l => DefOk K mg nm F i p.1 p.2 ∧ AllD K mg nm F (i + 1) l
theorem AllD.get {K : PySem.W.Frag} {mg : Str → Option Value} {nm : Nm} {F : List MFn} : ∀ {i : Nat} {l : List (Str × List Bool)}, AllD K mg nm F i l → ∀ (j : Nat) x refs, l[j]? = some (x, refs) → DefOk K mg nm F (i + j) x refs
  | i, [], _, j, x, refs, e => by simp at e
  | i, p :: l, h, 0, x, refs, e => by cases e; exact h.1
  | i, p :: l, h, j + 1, x, refs, e => by
    have := AllD.get h.2 j x refs e
    rwa [Nat.add_right_comm, Nat.add_assoc] at this
theorem defAt_of {K : PySem.W.Frag} {mg : Str → Option Value} {nm : Nm} {F : List MFn} {f n : Nat} {x : Str} {refs : List Bool} {ps N : List Str} {fn : MFn} {pa : Arguments} {bd : List Stmt} {sc : Scope} {fd : FuncData} (g : mg x = some (.ref (He.ga K x))) (hF : FunD K x x pa bd sc [] [] (He.ga K x) fd)
    (hb : ∀ (kV doc pm : Value) (an : Option Addr) (cdv ct : Value) (us : List Value), us.length = ps.length → bindArgs (PySem.W.fnOf x x pa bd sc .none kV doc pm an cdv ct) ⟨us, []⟩ = pure (ps.zip us))
    (hs : C8.scC N ps sc = true) (h1 : F[f]? = some fn) (h2 : fn.refs = refs) (h3 : refs.length = ps.length) (h4 : fn.nsl = N.length) (h5 : mapO (cB nm N sc n) bd = some fn.body) : DefAt K mg nm F f x refs (He.ga K x) fd ps := ⟨pa, bd, sc, [], N, fn, n, g, hF, hF.bindsN hb, C8.fnScope_by hs, h1, h2, h3, h4, h5⟩
/-! ### a dict of the top with text keys, numbers as values -/
def kvD (kvs : List (Str × Int)) : List (PyData × PyData) := kvs.map fun p => (.str p.1, .int p.2)
def kvV (kvs : List (Str × Int)) : List (Str × He.Dv) := kvs.map fun p => (p.1, .int p.2)
theorem find_kv : ∀ (kvs : List (Str × Int)) (z : Str), (∃ p, p ∈ kvs ∧ p.1 = z ∧ (kvD kvs).find? (fun p => PyData.eqv p.1 (.str z)) = some (.str p.1, .int p.2)) ∨ ((∀ p ∈ kvs, p.1 ≠ z) ∧ (kvD kvs).find? (fun p => PyData.eqv p.1 (.str z)) = none)
  | [], z => .inr ⟨by simp, rfl⟩
  | p :: r, z => by
    have e : PyData.eqv (.str p.1) (.str z) = (p.1 == z) := by
      simp only [PyData.eqv]
    unfold kvD
    rw [List.map_cons, List.find?_cons]
    dsimp only
    rw [e]
    cases q : p.1 == z with
    | true => exact .inl ⟨p, List.mem_cons_self, beq_iff_eq.mp q, rfl⟩
    | false =>
      rcases find_kv r z with ⟨p', h1, h2, h3⟩ | ⟨h1, h2⟩
      · exact .inl ⟨p', List.mem_cons_of_mem _ h1, h2, h3⟩
      · refine .inr ⟨fun p' hp => ?_, h2⟩
        rcases List.mem_cons.mp hp with y | y
        · subst y; intro y; rw [y] at q; simp at q
        · exact h1 p' y
theorem es_find {P : Params} {z : Str} : ∀ {l : List DictEntry} {ks : List Str}, l.map He.keyOf = He.keysIn P ks → (∀ k ∈ ks, k ≠ z) → l.find? (·.key.isStr z) = none ∧ l.any (·.refKey) = false
  | [], ks, _, _ => ⟨rfl, rfl⟩
  | e :: r, [], h, _ => by cases h
  | e :: r, k :: ks, h, hz => by
    unfold He.keysIn at h
    rw [List.map_cons, List.map_cons] at h
    injection h with h1 h2
    obtain ⟨i1, i2⟩ := es_find (l := r) (ks := ks) h2 fun k hk => hz k (List.mem_cons_of_mem _ hk)
    unfold He.keyOf at h1
    cases q : e.key with
    | str x t =>
      rw [q] at h1
      injection h1 with h1
      injection h1 with h1 _
      subst h1
      have nz : x ≠ z := hz x List.mem_cons_self
      refine ⟨?_, ?_⟩
      · rw [List.find?_cons]
        have : (e.key.isStr z) = false := by
          rw [q, PySem.W.isStr_of]
          simp only [Value.isStrOf]
          simpa using nz
        rw [this]
        exact i1
      · rw [List.any_cons, i2]
        have : e.refKey = false := by unfold DictEntry.refKey; rw [q]
        rw [this]; rfl
    | _ => rw [q] at h1; cases h1
theorem kv_nt {kvs : List (Str × Int)} (h0 : kvs ≠ []) : tupK (kvD kvs) = false := by
  cases kvs with
  | nil => exact absurd rfl h0
  | cons p r => rfl
theorem kv_nsp (kvs : List (Str × Int)) : spK (kvD kvs) = false := by
  cases kvs with
  | nil => rfl
  | cons p r => rfl
theorem dk_of {K : PySem.W.Frag} {w : World} {a : Addr} {kvs : List (Str × Int)} (h0 : kvs ≠ []) (h1 : He.dicW K a = some (He.keysIn w.params (kvs.map (·.1)))) (h2 : He.valsB K a (kvV kvs) = true) (X : Cx) (eK : X.K = K) (ew : X.w = w) : DKp X a (kvD kvs) := by
  subst eK ew
  obtain ⟨es, n, kd⟩ := He.dicW_ok h1
  refine ⟨fun k hk => ?_, ⟨es, n, kd⟩, fun z => ?_⟩
  · cases kvs with
    | nil => exact absurd rfl h0
    | cons p r =>
      unfold keyIn at hk
      rw [Bool.and_eq_true, List.all_eq_true] at hk
      have := hk.2 (.str p.1, .int p.2) (by simp [kvD])
      cases k <;> simp [kdD] at this
      exact ⟨_, rfl⟩
  rcases find_kv kvs z with ⟨p, hp, e, f⟩ | ⟨hn, f⟩
  · obtain ⟨u, h3, h4⟩ := He.valsB_ok h2 (q := (p.1, .int p.2)) (List.mem_map.mpr ⟨p, hp, rfl⟩)
    exact .inl ⟨_, u, p.2, f, by rw [← e]; exact h3, rfl, h4⟩
  · refine .inr ⟨f, ?_⟩
    have hm : es.toList.map He.keyOf = He.keysIn X.w.params (kvs.map (·.1)) := by
      unfold He.dicW at h1
      rw [kd.at_] at h1
      dsimp only at h1
      split at h1
      · exact Option.some.inj h1
      · cases h1
    obtain ⟨i1, i2⟩ := es_find (z := z) hm fun k hk => by
      obtain ⟨p, hp, e⟩ := List.mem_map.mp hk
      rw [← e]; exact hn p hp
    unfold PySem.W.nsIn
    rw [kd.at_]
    dsimp only
    rw [i1, i2]
    rfl
/-! ### what the written part says of the error classes -/
def xcOne (K : PySem.W.Frag) (a : Addr) : Bool :=
  (PySem.W.clsIn K a).isSome && ((PySem.W.findIn K (.ref a) "__getattribute__" == some (some (.builtin "BaseException.__getattribute__"))) && ((PySem.W.findIn K (.ref a) "__getattr__" == some none) && ((PySem.W.subIn K (.ref a) (.type "BaseException") == some true) && ((PySem.W.findIn K (.ref a) "__class__" == some (some (.builtin "object.__class__"))) && ((PySem.W.mroIn K a (.type "object") == some true) &&
  (([Ty.int, .bool, .str, .tuple, .list].all fun t => PySem.W.kitOne K (.ref a) (.type (tyN t)) == some false) && (PySem.W.kitOne K (.ref a) (.type "ValueError") == some true)))))))
def xcTwo (K : PySem.W.Frag) (ca : Nat → Addr) (c c' : Nat) : Bool := (PySem.W.kitOne K (.ref (ca c)) (.ref (ca c')) == some (subX c (some c'))) && (PySem.W.exmOne K (.ref (ca c)) (.ref (ca c')) == some (subX c (some c')))
def xcB (K : PySem.W.Frag) (ca : Nat → Addr) (n : Nat) : Bool :=
  ((List.range n).all fun c => xcOne K (ca c) && (List.range n).all fun c' => xcTwo K ca c c') && ((PySem.W.specialIn K (.builtin "object.__class__") "__get__" == some (some (.builtin "getset_descriptor.__get__"))) && (PySem.W.takesIn K (.builtin "object.__class__") == some true))
theorem xc_of {W : Wd} {K : PySem.W.Frag} (h : xcB K W.ca W.nc = true) : XcOk W K := by
  unfold xcB at h
  rw [Bool.and_eq_true, Bool.and_eq_true, List.all_eq_true, beq_iff_eq, beq_iff_eq] at h
  obtain ⟨h, h1, h2⟩ := h
  have one : ∀ c, c < W.nc → xcOne K (W.ca c) = true ∧ ∀ c', c' < W.nc → xcTwo K W.ca c c' = true := fun c hc => by
    have q := h c (List.mem_range.mpr hc)
    rw [Bool.and_eq_true, List.all_eq_true] at q
    exact ⟨q.1, fun c' hc' => q.2 c' (List.mem_range.mpr hc')⟩
  have two : ∀ c c', c < W.nc → c' < W.nc → _ ∧ _ := fun c c' hc hc' => by
    have q := (one c hc).2 c' hc'
    unfold xcTwo at q
    rw [Bool.and_eq_true, beq_iff_eq, beq_iff_eq] at q
    exact q
  have all : ∀ c, c < W.nc → _ ∧ _ ∧ _ ∧ _ ∧ _ ∧ _ ∧ _ ∧ _ := fun c hc => by
    have q := (one c hc).1
    unfold xcOne at q
    simp only [Bool.and_eq_true, beq_iff_eq] at q
    exact q
  refine ⟨fun c hc => (all c hc).1, fun c hc => (all c hc).2.1, fun c hc => (all c hc).2.2.1, fun c hc => (all c hc).2.2.2.1, fun c hc => (all c hc).2.2.2.2.1, fun c hc => (all c hc).2.2.2.2.2.1, fun c hc t => ?_, fun c hc => (all c hc).2.2.2.2.2.2.2, fun c c' hc hc' => (two c c' hc hc').1, fun c c' hc hc' => (two c c' hc hc').2, fun _ => h1, fun _ => h2⟩
  have q := (all c hc).2.2.2.2.2.2.1
  rw [List.all_eq_true] at q
  have := q t (by cases t <;> simp)
  rwa [beq_iff_eq] at this
end M
/-! M: the evaluator's equations in an order that simp can follow. -/
namespace M
open PySem L2
section
variable {ε α β : Type}
theorem rbind_ok {a : α} {f : α → R ε β} : M.R.bind (.ok a) f = f a := rfl
theorem rbind_exc {e : ε} {f : α → R ε β} : M.R.bind (.exc e) f = .exc e := rfl
theorem rbind_stuck {f : α → R ε β} : M.R.bind .stuck f = .stuck := rfl
theorem ofO_some {a : α} : (M.R.ofO (some a) : R ε α) = .ok a := rfl
theorem ofO_none : (M.R.ofO none : R ε α) = .stuck := rfl
end
/-- what follows a statement -/
def seqS (r : RE SR) (f : Env → RE SR) : RE SR := match r with
  | .ok (.nx env) => f env
  | .ok (.rt d fr env) => .ok (.rt d fr env)
  | .exc e => .exc e
  | .stuck => .stuck
theorem seqS_nx {env : Env} {f : Env → RE SR} : seqS (.ok (.nx env)) f = f env := rfl
theorem seqS_rt {d : PyData} {fr : Bool} {env : Env} {f : Env → RE SR} : seqS (.ok (.rt d fr env)) f = .ok (.rt d fr env) := rfl
theorem seqS_exc {e : Exn × Env} {f : Env → RE SR} : seqS (.exc e) f = .exc e := rfl
def lcCons (o : Option PyData) (r : RE (List PyData × Env)) : RE (List PyData × Env) := match r with
  | .ok (ds, env2) => .ok (o.toList ++ ds, env2)
  | .exc _ => .stuck
  | .stuck => .stuck
def lcStep (r : RE (Option PyData × Env)) (f : Env → RE (List PyData × Env)) : RE (List PyData × Env) := match r with
  | .ok (o, env1) => lcCons o (f env1)
  | .exc _ => .stuck
  | .stuck => .stuck
def lcNext (f : PyData → Env → RE (Option PyData × Env)) (r : List PyData) (env : Env) : RE (List PyData × Env) := lcLoop f r env
theorem lcNext_E {f : PyData → Env → RE (Option PyData × Env)} {r : List PyData} {env : Env} : lcNext f r env = lcLoop f r env := rfl
theorem lcStep_ok {o : Option PyData} {env : Env} {f : Env → RE (List PyData × Env)} : lcStep (.ok (o, env)) f = lcCons o (f env) := rfl
theorem lcCons_ok {o : Option PyData} {ds : List PyData} {env : Env} : lcCons o (.ok (ds, env)) = .ok (o.toList ++ ds, env) := rfl
theorem lcLoop_nil {f : PyData → Env → RE (Option PyData × Env)} {env : Env} : lcLoop f [] env = .ok ([], env) := rfl
theorem lcLoop_step {f : PyData → Env → RE (Option PyData × Env)} {x : PyData} {r : List PyData} {env : Env} : lcLoop f (x :: r) env = lcStep (f x env) (lcNext f r) := by
  unfold lcStep lcCons lcNext
  simp only [lcLoop] <;> (split <;> rename_i q <;> simp only [q] <;> (split <;> rename_i q2 <;> simp only [q2]))
def foNext (f : PyData → Env → RE SR) (r : List PyData) (env : Env) : RE SR := forLoop f r env
theorem foNext_E {f : PyData → Env → RE SR} {r : List PyData} {env : Env} : foNext f r env = forLoop f r env := rfl
theorem forLoop_nil {f : PyData → Env → RE SR} {env : Env} : forLoop f [] env = .ok (.nx env) := rfl
theorem forLoop_step {f : PyData → Env → RE SR} {x : PyData} {r : List PyData} {env : Env} : forLoop f (x :: r) env = seqS (f x env) (foNext f r) := by
  unfold seqS foNext
  simp only [forLoop] <;> (split <;> rename_i q <;> simp only [q])
section
variable {C : CallT} {G : List PyData} {env : Env} {a b c e : ME} {op op' : Operator} {cp cp' : CmpOp} {es : List ME} {i : Nat} {p : EV × Env}
def ssNext (C : CallT) (G : List PyData) (r : List MS) (env : Env) : RE SR := evSs C G r env
theorem ssNext_E {r : List MS} : ssNext C G r env = evSs C G r env := rfl
theorem evSs_nil : evSs C G [] env = .ok (.nx env) := by simp only [evSs]
theorem evSs_cons {s : MS} {r : List MS} : evSs C G (s :: r) env = seqS (evS C G s env) (ssNext C G r) := by
  unfold seqS ssNext
  simp only [evSs] <;> (split <;> rename_i q <;> simp only [q])
theorem x_var : ev C G (.var i) env = match env[i]? with
    | some (some (d, .sh)) => .ok (.va d false, env)
    | some (some (_, _)) => .ok (.sl i, env)
    | _ => .stuck := by simp only [ev] <;> rfl
theorem x_cst {d : PyData} : ev C G (.cst d) env = .ok (.va d false, env) := by simp only [ev]
theorem x_glo : ev C G (.glo i) env = match G[i]? with
    | some d => .ok (.va d false, env)
    | none => .stuck := by simp only [ev] <;> rfl
def cBin (C : CallT) (G : List PyData) (op : Operator) (b : ME) (p : EV × Env) : RE (EV × Env) := M.R.bind (ev C G b p.2) fun q => M.R.bind (rdv q.2 p.1) fun d => M.R.bind (rdv q.2 q.1) fun e => M.R.bind (M.R.ofO (binD op d e)) fun r => .ok (.va r.1 r.2, q.2)
theorem x_bin : ev C G (.bin op a b) env = M.R.bind (ev C G a env) (cBin C G op b) := by simp only [ev]; rfl
theorem y_bin : cBin C G op b p = M.R.bind (ev C G b p.2) fun q => M.R.bind (rdv q.2 p.1) fun d => M.R.bind (rdv q.2 q.1) fun e => M.R.bind (M.R.ofO (binD op d e)) fun r => .ok (.va r.1 r.2, q.2) := rfl
theorem x_neg : ev C G (.neg a) env = M.R.bind (ev C G a env) fun p => M.R.bind (rdv p.2 p.1) fun d => match d with
    | .int i => .ok (.va (.int (-i)) false, p.2)
    | _ => .stuck := by simp only [ev]; rfl
theorem x_not : ev C G (.not a) env = M.R.bind (ev C G a env) fun p => M.R.bind (truW p.2 p.1) fun k => .ok (.va (.bool (!k)) false, p.2) := by simp only [ev]; rfl
def cAnd2 (C : CallT) (G : List PyData) (b : ME) (p : EV × Env) (k : Bool) : RE (EV × Env) := if k = true then ev C G b p.2 else .ok p
def cAnd (C : CallT) (G : List PyData) (b : ME) (p : EV × Env) : RE (EV × Env) := M.R.bind (truW p.2 p.1) (cAnd2 C G b p)
theorem x_and : ev C G (.and a b) env = M.R.bind (ev C G a env) (cAnd C G b) := by simp only [ev]; rfl
theorem y_and : cAnd C G b p = M.R.bind (truW p.2 p.1) (cAnd2 C G b p) := rfl
theorem z_and {k : Bool} : cAnd2 C G b p k = if k = true then ev C G b p.2 else .ok p := rfl
def cOr2 (C : CallT) (G : List PyData) (b : ME) (p : EV × Env) (k : Bool) : RE (EV × Env) := if k = true then .ok p else ev C G b p.2
def cOr (C : CallT) (G : List PyData) (b : ME) (p : EV × Env) : RE (EV × Env) := M.R.bind (truW p.2 p.1) (cOr2 C G b p)
theorem x_or : ev C G (.or a b) env = M.R.bind (ev C G a env) (cOr C G b) := by simp only [ev]; rfl
theorem y_or : cOr C G b p = M.R.bind (truW p.2 p.1) (cOr2 C G b p) := rfl
theorem z_or {k : Bool} : cOr2 C G b p k = if k = true then .ok p else ev C G b p.2 := rfl
def cCmp (C : CallT) (G : List PyData) (op : CmpOp) (b : ME) (p : EV × Env) : RE (EV × Env) := M.R.bind (ev C G b p.2) fun q => M.R.bind (rdv q.2 p.1) fun d => M.R.bind (rdv q.2 q.1) fun e => M.R.bind (M.R.ofO (cmpD op d e)) fun r => .ok (.va (.bool r) false, q.2)
theorem x_cmp : ev C G (.cmp cp a b) env = M.R.bind (ev C G a env) (cCmp C G cp b) := by simp only [ev]; rfl
theorem y_cmp : cCmp C G cp b p = M.R.bind (ev C G b p.2) fun q => M.R.bind (rdv q.2 p.1) fun d => M.R.bind (rdv q.2 q.1) fun e => M.R.bind (M.R.ofO (cmpD cp d e)) fun r => .ok (.va (.bool r) false, q.2) := rfl
def cChn3 (C : CallT) (G : List PyData) (op : CmpOp) (c : ME) (y : EV) (env : Env) (k : Bool) : RE (EV × Env) := if k = true then M.R.bind (ev C G c env) fun q => M.R.bind (rdv q.2 y) fun e => M.R.bind (rdv q.2 q.1) fun g => M.R.bind (M.R.ofO (cmpD op e g)) fun r => .ok (.va (.bool r) false, q.2) else .ok (.va (.bool false) false, env)
def cChn2 (C : CallT) (G : List PyData) (op op' : CmpOp) (c : ME) (x : EV) (q : EV × Env) : RE (EV × Env) := M.R.bind (rdv q.2 x) fun d => M.R.bind (rdv q.2 q.1) fun e => M.R.bind (M.R.ofO (cmpD op d e)) (cChn3 C G op' c q.1 q.2)
def cChn (C : CallT) (G : List PyData) (op op' : CmpOp) (b c : ME) (p : EV × Env) : RE (EV × Env) := M.R.bind (ev C G b p.2) (cChn2 C G op op' c p.1)
theorem x_chn : ev C G (.chn cp cp' a b c) env = M.R.bind (ev C G a env) (cChn C G cp cp' b c) := by simp only [ev]; rfl
theorem y_chn : cChn C G cp cp' b c p = M.R.bind (ev C G b p.2) (cChn2 C G cp cp' c p.1) := rfl
theorem z_chn {x : EV} : cChn2 C G cp cp' c x p = M.R.bind (rdv p.2 x) fun d => M.R.bind (rdv p.2 p.1) fun e => M.R.bind (M.R.ofO (cmpD cp d e)) (cChn3 C G cp' c p.1 p.2) := rfl
theorem w_chnT {y : EV} : cChn3 C G cp c y env true = M.R.bind (ev C G c env) fun q => M.R.bind (rdv q.2 y) fun e => M.R.bind (rdv q.2 q.1) fun g => M.R.bind (M.R.ofO (cmpD cp e g)) fun r => .ok (.va (.bool r) false, q.2) := rfl
theorem w_chnF {y : EV} : cChn3 C G cp c y env false = .ok (.va (.bool false) false, env) := rfl
def cIfe2 (C : CallT) (G : List PyData) (a b : ME) (env : Env) (k : Bool) : RE (EV × Env) := if k = true then ev C G a env else ev C G b env
def cIfe (C : CallT) (G : List PyData) (a b : ME) (p : EV × Env) : RE (EV × Env) := M.R.bind (truW p.2 p.1) (cIfe2 C G a b p.2)
theorem x_ife : ev C G (.ife c a b) env = M.R.bind (ev C G c env) (cIfe C G a b) := by simp only [ev]; rfl
theorem y_ife : cIfe C G a b p = M.R.bind (truW p.2 p.1) (cIfe2 C G a b p.2) := rfl
theorem z_ife {k : Bool} : cIfe2 C G a b env k = if k = true then ev C G a env else ev C G b env := rfl
theorem x_call {f : Nat} : ev C G (.call f es) env = M.R.bind (evG C G es env) fun p => callAt C f p.1 p.2 := by simp only [ev]; rfl
theorem x_blt {f : Blt} : ev C G (.blt f es) env = M.R.bind (evE C G es env) fun p => M.R.bind (rdAll p.2 p.1) fun ds => M.R.bind (M.R.ofO (bltD f ds)) fun q => .ok (.va q.1 q.2, p.2) := by simp only [ev]; rfl
theorem x_isi {t : Ty} : ev C G (.isi a t) env = M.R.bind (ev C G a env) fun p => M.R.bind (rdv p.2 p.1) fun d => .ok (.va (.bool (isD t d)) false, p.2) := by simp only [ev]; rfl
def cSub (C : CallT) (G : List PyData) (b : ME) (p : EV × Env) : RE (EV × Env) := M.R.bind (ev C G b p.2) fun q => M.R.bind (rdv q.2 p.1) fun d => M.R.bind (rdv q.2 q.1) fun e => M.R.bind (M.R.ofO (subD d e)) fun r => .ok (.va r false, q.2)
theorem x_sub : ev C G (.sub a b) env = M.R.bind (ev C G a env) (cSub C G b) := by simp only [ev]; rfl
theorem y_sub : cSub C G b p = M.R.bind (ev C G b p.2) fun q => M.R.bind (rdv q.2 p.1) fun d => M.R.bind (rdv q.2 q.1) fun e => M.R.bind (M.R.ofO (subD d e)) fun r => .ok (.va r false, q.2) := rfl
def cSlc2 (C : CallT) (G : List PyData) (hi : Option ME) (x : EV) (q : Option Int × Env) : RE (EV × Env) := M.R.bind (evO C G hi q.2) fun r => M.R.bind (rdv r.2 x) fun d => M.R.bind (M.R.ofO (slcD d q.1 r.1)) fun s => .ok (.va s.1 s.2, r.2)
def cSlc (C : CallT) (G : List PyData) (lo hi : Option ME) (p : EV × Env) : RE (EV × Env) := M.R.bind (evO C G lo p.2) (cSlc2 C G hi p.1)
theorem x_slc {lo hi : Option ME} : ev C G (.slc a lo hi) env = M.R.bind (ev C G a env) (cSlc C G lo hi) := by simp only [ev]; rfl
theorem y_slc {lo hi : Option ME} : cSlc C G lo hi p = M.R.bind (evO C G lo p.2) (cSlc2 C G hi p.1) := rfl
theorem z_slc {hi : Option ME} {x : EV} {q : Option Int × Env} : cSlc2 C G hi x q = M.R.bind (evO C G hi q.2) fun r => M.R.bind (rdv r.2 x) fun d => M.R.bind (M.R.ofO (slcD d q.1 r.1)) fun s => .ok (.va s.1 s.2, r.2) := rfl
theorem x_tup : ev C G (.tup es) env = M.R.bind (evA C G es env) fun p => if p.1.length ≤ sizeLine then .ok (.va (.tuple p.1) false, p.2) else .stuck := by simp only [ev]; rfl
theorem x_lst : ev C G (.lst es) env = M.R.bind (evA C G es env) fun p => if p.1.length ≤ sizeLine then .ok (.va (.list p.1) true, p.2) else .stuck := by simp only [ev]; rfl
theorem x_dic0 : ev C G .dic0 env = .ok (.va (.dict []) true, env) := by simp only [ev]
def cD3 (k : PyData) (q : PyData × Env) : RE (EV × Env) := if keyB 8 k = true then .ok (.va (.dict [(k, q.1)]) true, q.2) else .stuck
def cD2 (C : CallT) (G : List PyData) (b : ME) (q : PyData × Env) : RE (EV × Env) := M.R.bind (ev C G b q.2) fun r => M.R.bind (fzn r.2 r.1) (cD3 q.1)
def cD1 (C : CallT) (G : List PyData) (b : ME) (p : EV × Env) : RE (EV × Env) := M.R.bind (fzn p.2 p.1) (cD2 C G b)
theorem x_dic1 : ev C G (.dic1 a b) env = M.R.bind (ev C G a env) (cD1 C G b) := by simp only [ev]; rfl
theorem y_dic1 : cD1 C G b p = M.R.bind (fzn p.2 p.1) (cD2 C G b) := rfl
theorem z_dic1 {q : PyData × Env} : cD2 C G b q = M.R.bind (ev C G b q.2) fun r => M.R.bind (fzn r.2 r.1) (cD3 q.1) := rfl
theorem w_dic1 {k : PyData} {q : PyData × Env} : cD3 k q = if keyB 8 k = true then .ok (.va (.dict [(k, q.1)]) true, q.2) else .stuck := rfl
def cGt1 (C : CallT) (G : List PyData) (b : ME) (p : EV × Env) (d : PyData) : RE (EV × Env) := if tupDic d = true then M.R.bind (ev C G b p.2) fun q => M.R.bind (rdv q.2 p.1) fun d => M.R.bind (rdv q.2 q.1) fun k => M.R.bind (M.R.ofO (getD d k .none)) fun g => .ok (.va g false, q.2) else .stuck
def cGt (C : CallT) (G : List PyData) (b : ME) (p : EV × Env) : RE (EV × Env) := M.R.bind (rdv p.2 p.1) (cGt1 C G b p)
theorem x_get1 : ev C G (.get1 a b) env = M.R.bind (ev C G a env) (cGt C G b) := by simp only [ev]; rfl
theorem y_get1 : cGt C G b p = M.R.bind (rdv p.2 p.1) (cGt1 C G b p) := rfl
theorem z_get1 {d : PyData} : cGt1 C G b p d = if tupDic d = true then M.R.bind (ev C G b p.2) fun q => M.R.bind (rdv q.2 p.1) fun d => M.R.bind (rdv q.2 q.1) fun k => M.R.bind (M.R.ofO (getD d k .none)) fun g => .ok (.va g false, q.2) else .stuck := rfl
def cGu3 (x y : EV) (z : PyData × Env) : RE (EV × Env) := M.R.bind (rdv z.2 x) fun d => M.R.bind (rdv z.2 y) fun k => M.R.bind (M.R.ofO (getD d k z.1)) fun g => .ok (.va g false, z.2)
def cGu2 (C : CallT) (G : List PyData) (c : ME) (x : EV) (q : EV × Env) : RE (EV × Env) := M.R.bind (ev C G c q.2) fun r => M.R.bind (fzn r.2 r.1) (cGu3 x q.1)
def cGu1 (C : CallT) (G : List PyData) (b c : ME) (p : EV × Env) (d : PyData) : RE (EV × Env) := if tupDic d = true then M.R.bind (ev C G b p.2) (cGu2 C G c p.1) else .stuck
def cGu (C : CallT) (G : List PyData) (b c : ME) (p : EV × Env) : RE (EV × Env) := M.R.bind (rdv p.2 p.1) (cGu1 C G b c p)
theorem x_get2 : ev C G (.get2 a b c) env = M.R.bind (ev C G a env) (cGu C G b c) := by simp only [ev]; rfl
theorem y_get2 : cGu C G b c p = M.R.bind (rdv p.2 p.1) (cGu1 C G b c p) := rfl
theorem z_get2 {d : PyData} : cGu1 C G b c p d = if tupDic d = true then M.R.bind (ev C G b p.2) (cGu2 C G c p.1) else .stuck := rfl
theorem w_get2 {x : EV} : cGu2 C G c x p = M.R.bind (ev C G c p.2) fun r => M.R.bind (fzn r.2 r.1) (cGu3 x p.1) := rfl
theorem v_get2 {x y : EV} {z : PyData × Env} : cGu3 x y z = M.R.bind (rdv z.2 x) fun d => M.R.bind (rdv z.2 y) fun k => M.R.bind (M.R.ofO (getD d k z.1)) fun g => .ok (.va g false, z.2) := rfl
theorem a_nil : evA C G [] env = .ok ([], env) := by simp only [evA]
def cA2 (C : CallT) (G : List PyData) (es : List ME) (q : PyData × Env) : RE (List PyData × Env) := M.R.bind (evA C G es q.2) fun r => .ok (q.1 :: r.1, r.2)
def cA (C : CallT) (G : List PyData) (es : List ME) (p : EV × Env) : RE (List PyData × Env) := M.R.bind (fzn p.2 p.1) (cA2 C G es)
theorem a_cons : evA C G (e :: es) env = M.R.bind (ev C G e env) (cA C G es) := by simp only [evA]; rfl
theorem a_cons1 : cA C G es p = M.R.bind (fzn p.2 p.1) (cA2 C G es) := rfl
theorem a_cons2 {q : PyData × Env} : cA2 C G es q = M.R.bind (evA C G es q.2) fun r => .ok (q.1 :: r.1, r.2) := rfl
theorem e_nil : evE C G [] env = .ok ([], env) := by simp only [evE]
def cE1 (C : CallT) (G : List PyData) (es : List ME) (p : EV × Env) : RE (List EV × Env) := M.R.bind (evE C G es p.2) fun r => .ok (p.1 :: r.1, r.2)
theorem e_cons : evE C G (e :: es) env = M.R.bind (ev C G e env) (cE1 C G es) := by simp only [evE]; rfl
theorem e_cons1 : cE1 C G es p = M.R.bind (evE C G es p.2) fun r => .ok (p.1 :: r.1, r.2) := rfl
theorem g_nil : evG C G [] env = .ok ([], env) := by simp only [evG]
theorem g_ref : evG C G (.ref i :: es) env = if ownS env[i]? = true then M.R.bind (evG C G es env) fun p => .ok (.inl i :: p.1, p.2) else .stuck := by simp only [evG]; rfl
def cG2 (C : CallT) (G : List PyData) (es : List ME) (q : PyData × Env) : RE (List (Sum Nat PyData) × Env) := M.R.bind (evG C G es q.2) fun r => .ok (.inr q.1 :: r.1, r.2)
def cG (C : CallT) (G : List PyData) (es : List ME) (p : EV × Env) : RE (List (Sum Nat PyData) × Env) := M.R.bind (fzv p.2 p.1) (cG2 C G es)
theorem g_cons (h : isRefM e = false) : evG C G (e :: es) env = M.R.bind (ev C G e env) (cG C G es) := by
  cases e <;> first | (simp only [evG]; rfl) | cases h
theorem g_c0 {i : Nat} : evG C G (.var i :: es) env = M.R.bind (ev C G (.var i) env) (cG C G es) := g_cons rfl
theorem g_c1 {d : PyData} : evG C G (.cst d :: es) env = M.R.bind (ev C G (.cst d) env) (cG C G es) := g_cons rfl
theorem g_c2 {i : Nat} : evG C G (.glo i :: es) env = M.R.bind (ev C G (.glo i) env) (cG C G es) := g_cons rfl
theorem g_c3 {op : Operator} {a b : ME} : evG C G (.bin op a b :: es) env = M.R.bind (ev C G (.bin op a b) env) (cG C G es) := g_cons rfl
theorem g_c4 {a : ME} : evG C G (.neg a :: es) env = M.R.bind (ev C G (.neg a) env) (cG C G es) := g_cons rfl
theorem g_c5 {a : ME} : evG C G (.not a :: es) env = M.R.bind (ev C G (.not a) env) (cG C G es) := g_cons rfl
theorem g_c6 {a b : ME} : evG C G (.and a b :: es) env = M.R.bind (ev C G (.and a b) env) (cG C G es) := g_cons rfl
theorem g_c7 {a b : ME} : evG C G (.or a b :: es) env = M.R.bind (ev C G (.or a b) env) (cG C G es) := g_cons rfl
theorem g_c8 {op : CmpOp} {a b : ME} : evG C G (.cmp op a b :: es) env = M.R.bind (ev C G (.cmp op a b) env) (cG C G es) := g_cons rfl
theorem g_c9 {op op' : CmpOp} {a b c : ME} : evG C G (.chn op op' a b c :: es) env = M.R.bind (ev C G (.chn op op' a b c) env) (cG C G es) := g_cons rfl
theorem g_c10 {a b c : ME} : evG C G (.ife a b c :: es) env = M.R.bind (ev C G (.ife a b c) env) (cG C G es) := g_cons rfl
theorem g_c11 {f : Nat} {fs : List ME} : evG C G (.call f fs :: es) env = M.R.bind (ev C G (.call f fs) env) (cG C G es) := g_cons rfl
theorem g_c12 {f : Blt} {fs : List ME} : evG C G (.blt f fs :: es) env = M.R.bind (ev C G (.blt f fs) env) (cG C G es) := g_cons rfl
theorem g_c13 {a : ME} {t : Ty} : evG C G (.isi a t :: es) env = M.R.bind (ev C G (.isi a t) env) (cG C G es) := g_cons rfl
theorem g_d0 : evG C G (.dic0 :: es) env = M.R.bind (ev C G .dic0 env) (cG C G es) := g_cons rfl
theorem g_d1 {a b : ME} : evG C G (.dic1 a b :: es) env = M.R.bind (ev C G (.dic1 a b) env) (cG C G es) := g_cons rfl
theorem g_d2 {a b : ME} : evG C G (.get1 a b :: es) env = M.R.bind (ev C G (.get1 a b) env) (cG C G es) := g_cons rfl
theorem g_d3 {a b c : ME} : evG C G (.get2 a b c :: es) env = M.R.bind (ev C G (.get2 a b c) env) (cG C G es) := g_cons rfl
theorem g_c14 {a b : ME} : evG C G (.sub a b :: es) env = M.R.bind (ev C G (.sub a b) env) (cG C G es) := g_cons rfl
theorem g_c15 {a : ME} {lo hi : Option ME} : evG C G (.slc a lo hi :: es) env = M.R.bind (ev C G (.slc a lo hi) env) (cG C G es) := g_cons rfl
theorem g_c16 {fs : List ME} : evG C G (.tup fs :: es) env = M.R.bind (ev C G (.tup fs) env) (cG C G es) := g_cons rfl
theorem g_c17 {fs : List ME} : evG C G (.lst fs :: es) env = M.R.bind (ev C G (.lst fs) env) (cG C G es) := g_cons rfl
theorem g_c18 {t : MT} {kk : IK} {src cs : List ME} {m : ME} : evG C G (.lc t kk src cs m :: es) env = M.R.bind (ev C G (.lc t kk src cs m) env) (cG C G es) := g_cons rfl
theorem g_cons1 : cG C G es p = M.R.bind (fzv p.2 p.1) (cG2 C G es) := rfl
theorem g_cons2 {q : PyData × Env} : cG2 C G es q = M.R.bind (evG C G es q.2) fun r => .ok (.inr q.1 :: r.1, r.2) := rfl
theorem o_none : evO C G none env = .ok (none, env) := by simp only [evO]
theorem o_some : evO C G (some e) env = M.R.bind (ev C G e env) fun p => M.R.bind (rdv p.2 p.1) fun d => match d with
    | .int i => .ok (some i, p.2)
    | _ => .stuck := by simp only [evO]; rfl
theorem c_nil : evC C G [] env = .ok (true, env) := by simp only [evC]
def cC2 (C : CallT) (G : List PyData) (es : List ME) (env : Env) (k : Bool) : RE (Bool × Env) := if k = true then evC C G es env else .ok (false, env)
def cC (C : CallT) (G : List PyData) (es : List ME) (p : EV × Env) : RE (Bool × Env) := M.R.bind (truW p.2 p.1) (cC2 C G es p.2)
theorem c_cons : evC C G (e :: es) env = M.R.bind (ev C G e env) (cC C G es) := by simp only [evC]; rfl
theorem c_cons1 : cC C G es p = M.R.bind (truW p.2 p.1) (cC2 C G es p.2) := rfl
theorem c_cons2 {k : Bool} : cC2 C G es env k = if k = true then evC C G es env else .ok (false, env) := rfl
theorem t_E : evT C G e env = M.R.bind (ev C G e env) fun p => M.R.bind (truW p.2 p.1) fun k => .ok (k, p.2) := rfl
theorem truW_E {w : EV} : truW env w = M.R.bind (rdv env w) fun d => M.R.ofO (truD d) := rfl
theorem rdAll_nil : rdAll env [] = .ok [] := by simp only [rdAll]
theorem rdAll_cons {w : EV} {ws : List EV} : rdAll env (w :: ws) = M.R.bind (rdv env w) fun d => M.R.bind (rdAll env ws) fun ds => .ok (d :: ds) := by simp only [rdAll]; rfl
/-- how a comprehension ends -/
def lcEnd (env1 : Env) (L vs : List Nat) (r : RE (List PyData × Env)) : RE (EV × Env) := match r with
  | .ok q => .ok (.va (.list q.1) true, backE env1 (backE (lendE env1 L) q.2 vs) L)
  | .exc _ => .stuck
  | .stuck => .stuck
theorem lcEnd_ok {env1 : Env} {L vs : List Nat} {q : List PyData × Env} : lcEnd env1 L vs (.ok q) = .ok (.va (.list q.1) true, backE env1 (backE (lendE env1 L) q.2 vs) L) := rfl
def cTurn3 (t : MT) (q : PyData × Env) : RE (Option PyData × Env) := .ok (some q.1, wipeE q.2 t.vars)
def cTurn2 (C : CallT) (G : List PyData) (t : MT) (m : ME) (p : Bool × Env) : RE (Option PyData × Env) := if p.1 = true then M.R.bind (ev C G m p.2) fun q => M.R.bind (fzn q.2 q.1) (cTurn3 t) else .ok (none, wipeE p.2 t.vars)
def cTurn (C : CallT) (G : List PyData) (t : MT) (cs : List ME) (m : ME) (env : Env) : RE (Option PyData × Env) := M.R.bind (evC C G cs env) (cTurn2 C G t m)
theorem turn_E {t : MT} {cs : List ME} {m : ME} {x : PyData} : lcTurn C G t cs m x env = M.R.bind (M.R.ofO (bindT t x env)) (cTurn C G t cs m) := rfl
theorem turn_E1 {t : MT} {cs : List ME} {m : ME} : cTurn C G t cs m env = M.R.bind (evC C G cs env) (cTurn2 C G t m) := rfl
theorem turn_E2 {t : MT} {m : ME} {p : Bool × Env} : cTurn2 C G t m p = if p.1 = true then M.R.bind (ev C G m p.2) fun q => M.R.bind (fzn q.2 q.1) (cTurn3 t) else .ok (none, wipeE p.2 t.vars) := rfl
theorem turn_E3 {t : MT} {q : PyData × Env} : cTurn3 t q = .ok (some q.1, wipeE q.2 t.vars) := rfl
def cLc2 (C : CallT) (G : List PyData) (t : MT) (cs : List ME) (m : ME) (p : List EV × Env) (items : List PyData) : RE (EV × Env) :=
    if (lent p.2 p.1).any (fun i => t.vars.contains i) = true then .stuck else
    lcEnd p.2 (lent p.2 p.1) t.vars (lcLoop (lcTurn C G t cs m) items (wipeE (lendE p.2 (lent p.2 p.1)) t.vars))
def cLc (C : CallT) (G : List PyData) (t : MT) (kk : IK) (cs : List ME) (m : ME) (p : List EV × Env) : RE (EV × Env) := M.R.bind (rdAll p.2 p.1) fun ds => M.R.bind (M.R.ofO (itemsD kk ds)) (cLc2 C G t cs m p)
theorem x_lc {t : MT} {kk : IK} {src cs : List ME} {m : ME} : ev C G (.lc t kk src cs m) env = M.R.bind (evE C G src env) (cLc C G t kk cs m) := by
  rw [ev_lc]
  rfl
theorem y_lc {t : MT} {kk : IK} {cs : List ME} {m : ME} {p : List EV × Env} : cLc C G t kk cs m p = M.R.bind (rdAll p.2 p.1) fun ds => M.R.bind (M.R.ofO (itemsD kk ds)) (cLc2 C G t cs m p) := rfl
theorem z_lc {t : MT} {cs : List ME} {m : ME} {p : List EV × Env} {items : List PyData} : cLc2 C G t cs m p items = if (lent p.2 p.1).any (fun i => t.vars.contains i) = true then .stuck else
    lcEnd p.2 (lent p.2 p.1) t.vars (lcLoop (lcTurn C G t cs m) items (wipeE (lendE p.2 (lent p.2 p.1)) t.vars)) := rfl
def cFor (C : CallT) (G : List PyData) (t : MT) (kk : IK) (body : List MS) (p : List EV × Env) : RE SR := M.R.bind (rdAll p.2 p.1) fun ds => M.R.bind (M.R.ofO (itemsD kk ds)) fun items =>
    unlR p.2 (lent p.2 p.1) (forLoop (M.forTurn C G t body) items (lendE p.2 (lent p.2 p.1)))
def cFor2 (C : CallT) (G : List PyData) (t : MT) (body : List MS) (p : List EV × Env) (items : List PyData) : RE SR := unlR p.2 (lent p.2 p.1) (forLoop (M.forTurn C G t body) items (lendE p.2 (lent p.2 p.1)))
theorem s_for {t : MT} {kk : IK} {src : List ME} {body : List MS} : evS C G (.forr t kk src body) env = M.R.bind (evE C G src env) (cFor C G t kk body) := evS_for env
theorem s_for1 {t : MT} {kk : IK} {body : List MS} {p : List EV × Env} : cFor C G t kk body p = M.R.bind (rdAll p.2 p.1) fun ds => M.R.bind (M.R.ofO (itemsD kk ds)) (cFor2 C G t body p) := rfl
theorem s_for2 {t : MT} {body : List MS} {p : List EV × Env} {items : List PyData} : cFor2 C G t body p items = unlR p.2 (lent p.2 p.1) (forLoop (M.forTurn C G t body) items (lendE p.2 (lent p.2 p.1))) := rfl
def cBody (C : CallT) (G : List PyData) (body : List MS) (env : Env) : RE SR := evSs C G body env
theorem fturn_E {t : MT} {body : List MS} {x : PyData} : M.forTurn C G t body x env = M.R.bind (M.R.ofO (bindT t x env)) (cBody C G body) := rfl
theorem fturn_E1 {body : List MS} : cBody C G body env = evSs C G body env := rfl
theorem unlR_ok {env1 : Env} {L : List Nat} {r : SR} : unlR env1 L (.ok r) = .ok (unlend env1 L r) := rfl
theorem s_nop : evS C G .nop env = .ok (.nx env) := by simp only [evS]
theorem s_set : evS C G (.set i e) env = M.R.bind (ev C G e env) fun p => match p.1 with
    | .va d fr => (M.R.ofO (setS i d (if fr = true then .ow else .sh) p.2)).bind fun env => .ok (.nx env)
    | .sl j => M.R.bind (fzv p.2 (.sl j)) fun q => (M.R.ofO (setS i q.1 .sh q.2)).bind fun env => .ok (.nx env) := by simp only [evS]; rfl
theorem s_setT {ts : List MT} : evS C G (.setT ts e) env = M.R.bind (ev C G e env) fun p => M.R.bind (fzv p.2 p.1) fun q => (M.R.ofO (bindT (.tp ts) q.1 q.2)).bind fun env => .ok (.nx env) := by simp only [evS]; rfl
def cSetI (C : CallT) (G : List PyData) (i : Nat) (ix : ME) (q : PyData × Env) : RE SR := if ownS q.2[i]? = true then M.R.bind (ev C G ix q.2) fun y => M.R.bind (rdv y.2 y.1) fun k => mutS i y.2 fun c => setD c k q.1 else .stuck
theorem s_setI {ix : ME} : evS C G (.setI i ix e) env = M.R.bind (ev C G e env) fun p => M.R.bind (fzn p.2 p.1) (cSetI C G i ix) := by simp only [evS]; rfl
theorem s_setI1 {ix : ME} {q : PyData × Env} : cSetI C G i ix q = if ownS q.2[i]? = true then M.R.bind (ev C G ix q.2) fun y => M.R.bind (rdv y.2 y.1) fun k => mutS i y.2 fun c => setD c k q.1 else .stuck := rfl
theorem s_mut {m : Mut} : evS C G (.mut i m es) env = if ownL env[i]? = true then M.R.bind (evA C G es env) fun p => mutS i p.2 fun c => mutD m c p.1 else .stuck := by simp only [evS]; rfl
theorem s_ext : evS C G (.ext i e) env = if ownL env[i]? = true then M.R.bind (ev C G e env) fun p => match p.1 with
      | .va (.list ys) true => mutS i p.2 fun c => extD c ys
      | _ => .stuck else .stuck := by simp only [evS]; rfl
theorem s_expr : evS C G (.expr e) env = M.R.bind (ev C G e env) fun p => .ok (.nx p.2) := by simp only [evS]; rfl
theorem s_ret : evS C G (.ret e) env = M.R.bind (ev C G e env) fun p => match p.1 with
    | .va d fr => .ok (.rt d fr p.2)
    | .sl i => match p.2[i]? with
      | some (some (d, .ow)) => .ok (.rt d true (p.2.set i none))
      | _ => .stuck := by simp only [evS]; rfl
theorem s_retN : evS C G .retN env = .ok (.rt .none false env) := by simp only [evS]
def cIte (C : CallT) (G : List PyData) (a b : List MS) (p : Bool × Env) : RE SR := if p.1 = true then evSs C G a p.2 else evSs C G b p.2
theorem s_ite {as bs : List MS} : evS C G (.ite c as bs) env = M.R.bind (evT C G c env) (cIte C G as bs) := by simp only [evS]; rfl
theorem s_ite1 {as bs : List MS} {p : Bool × Env} : cIte C G as bs p = if p.1 = true then evSs C G as p.2 else evSs C G bs p.2 := rfl
theorem s_rais {k : Nat} {fs : List Str} : evS C G (.rais k fs es) env = M.R.bind (evA C G es env) fun p => .exc (⟨k, fs.zip p.1⟩, p.2) := by simp only [evS]; rfl
/-- how a try ends -/
def trEnd (c : Nat) (j : Option Nat) (k : TK) (r : RE SR) : RE SR := match r with
  | .exc x => if subX x.1.c (some c) = true then (R.ofO (catchE j k x.1 x.2)).bind fun env => .ok (.nx env) else .exc x
  | .ok r => .ok r
  | .stuck => .stuck
theorem s_try {c : Nat} {j : Option Nat} {k : TK} {body : List MS} : evS C G (.tryx body c j k) env = trEnd c j k (evSs C G body env) := by
  unfold trEnd
  simp only [evS] <;> (split <;> rename_i q <;> simp only [q])
theorem tr_ok {c : Nat} {j : Option Nat} {k : TK} {r : SR} : trEnd c j k (.ok r) = .ok r := rfl
theorem tr_exc {c : Nat} {j : Option Nat} {k : TK} {x : Exn × Env} : trEnd c j k (.exc x) = if subX x.1.c (some c) = true then (R.ofO (catchE j k x.1 x.2)).bind fun env => .ok (.nx env) else .exc x := rfl
theorem ct_keep {i j : Nat} {x : Exn} : catchE (some i) (.keep j) x env = (setS i (excX x) .sh env).bind fun env => (setS j (excX x) .sh env).map fun env => env.set i none := rfl
theorem ct_non {j : Nat} {x : Exn} : catchE none (.non j) x env = setS j .none .sh env := rfl
theorem x_isx {c : Option Nat} : ev C G (.isx a c) env = M.R.bind (ev C G a env) fun p => M.R.bind (rdv p.2 p.1) fun d => M.R.bind (M.R.ofO (excOf d)) fun k => .ok (.va (.bool (subX k c)) false, p.2) := by simp only [ev]; rfl
theorem x_xtup : ev C G (.xtup es) env = M.R.bind (evX C G es env) fun p => if p.1.length ≤ sizeLine then .ok (.va (xtD p.1) false, p.2) else .stuck := by simp only [ev]; rfl
theorem xl_nil : evX C G [] env = .ok ([], env) := by simp only [evX]
def cX2 (C : CallT) (G : List PyData) (es : List ME) (q : PyData × Env) : RE (List PyData × Env) := M.R.bind (evX C G es q.2) fun r => .ok (q.1 :: r.1, r.2)
def cX (C : CallT) (G : List PyData) (es : List ME) (p : EV × Env) : RE (List PyData × Env) := M.R.bind (fzv p.2 p.1) (cX2 C G es)
theorem xl_cons : evX C G (e :: es) env = M.R.bind (ev C G e env) (cX C G es) := by simp only [evX]; rfl
theorem xl_cons1 : cX C G es p = M.R.bind (fzv p.2 p.1) (cX2 C G es) := rfl
theorem xl_cons2 {q : PyData × Env} : cX2 C G es q = M.R.bind (evX C G es q.2) fun r => .ok (q.1 :: r.1, r.2) := rfl
theorem g_x0 {c : Option Nat} : evG C G (.isx a c :: es) env = M.R.bind (ev C G (.isx a c) env) (cG C G es) := g_cons rfl
theorem g_x1 {fs : List ME} : evG C G (.xtup fs :: es) env = M.R.bind (ev C G (.xtup fs) env) (cG C G es) := g_cons rfl
theorem excOf_X {x : Exn} : excOf (excX x) = some x.c := rfl
theorem excOf_D {c : Nat} {fs : List (Str × PyData)} : excOf (excD c fs) = some c := rfl
theorem xtOf_K {ds : List PyData} : xtOf (xtK ds) = some ds := by
  unfold xtK
  simp only [xtOf, List.map_map]
  congr 1
  exact List.map_id' ds
theorem bt_xt {ts : List MT} {ds : List PyData} : bindT (.tp ts) (xtD ds) env = bindTs ts ds env := by
  unfold xtD
  simp only [bindT, xtOf_K]
  rfl
theorem isn_x {c : Nat} {fs : List (Str × PyData)} : cmpD .IsNot (excD c fs) .none = some true := rfl
theorem is_x {c : Nat} {fs : List (Str × PyData)} : cmpD .Is (excD c fs) .none = some false := rfl
/-- a call -/
def callEnd (env : Env) (rs : List Nat) (r : R Exn Ret) : RE (EV × Env) := match r with
  | .ok r => (match putRefs env rs r.rs with
    | some env' => .ok (.va r.d r.fr, env')
    | none => .stuck)
  | .exc x => if rs = [] then .exc (x, env) else .stuck
  | .stuck => .stuck
theorem callEnd_ok {rs : List Nat} {r : Ret} : callEnd env rs (.ok r) = (M.R.ofO (putRefs env rs r.rs)).bind fun env' => .ok (.va r.d r.fr, env') := by
  unfold callEnd
  dsimp only
  cases putRefs env rs r.rs <;> rfl
theorem callEnd_exc {x : Exn} : callEnd env [] (.exc x) = .exc (x, env) := rfl
def cAt (C : CallT) (f : Nat) (rs : List Nat) (env : Env) (args : List Arg) : RE (EV × Env) := callEnd env rs (C f args)
theorem callAt_E {f : Nat} {as : List (Sum Nat PyData)} : callAt C f as env = if (refsOf as).Nodup then M.R.bind (M.R.ofO (argsAt env as)) (cAt C f (refsOf as) env) else .stuck := by
  unfold callAt cAt callEnd
  split
  · cases argsAt env as <;> rfl
  · rfl
theorem callAt_E1 {f : Nat} {rs : List Nat} {args : List Arg} : cAt C f rs env args = callEnd env rs (C f args) := rfl
/-- with a fresh list by reference -/
def cNt (n : Nat) (q : EV × Env) : RE (EV × Env) := .ok (q.1, q.2.take n)
def cNc (C : CallT) (f n : Nat) (p : List (Sum Nat PyData) × Env) : RE (EV × Env) := M.R.bind (callAt C f p.1 p.2) (cNt n)
theorem x_calln {f : Nat} : ev C G (.calln f es) env = M.R.bind (evN C G es env) (cNc C f env.length) := by simp only [ev]; rfl
theorem y_calln {f n : Nat} {as : List (Sum Nat PyData)} : cNc C f n (as, env) = M.R.bind (callAt C f as env) (cNt n) := rfl
theorem z_calln {n : Nat} {w : EV} : cNt n (w, env) = .ok (w, env.take n) := rfl
theorem n_nil : evN C G [] env = .ok ([], env) := by simp only [evN]
theorem n_ref : evN C G (.ref i :: es) env = if ownS env[i]? = true then M.R.bind (evN C G es env) fun p => .ok (.inl i :: p.1, p.2) else .stuck := by simp only [evN]; rfl
def cN2 (C : CallT) (G : List PyData) (es : List ME) (q : PyData × Env) : RE (List (Sum Nat PyData) × Env) := M.R.bind (evN C G es q.2) fun r => .ok (.inr q.1 :: r.1, r.2)
def cN (C : CallT) (G : List PyData) (es : List ME) (p : EV × Env) : RE (List (Sum Nat PyData) × Env) := M.R.bind (fzv p.2 p.1) (cN2 C G es)
theorem n_cons (h : isRefN e = false) : evN C G (e :: es) env = M.R.bind (ev C G e env) (cN C G es) := by
  rw [evN_val h]; rfl
theorem n_c0 {i : Nat} : evN C G (.var i :: es) env = M.R.bind (ev C G (.var i) env) (cN C G es) := n_cons rfl
theorem n_c1 {d : PyData} : evN C G (.cst d :: es) env = M.R.bind (ev C G (.cst d) env) (cN C G es) := n_cons rfl
theorem n_c2 {f : Nat} {fs : List ME} : evN C G (.call f fs :: es) env = M.R.bind (ev C G (.call f fs) env) (cN C G es) := n_cons rfl
theorem n_c3 {a b : ME} : evN C G (.sub a b :: es) env = M.R.bind (ev C G (.sub a b) env) (cN C G es) := n_cons rfl
theorem n_cons1 : cN C G es p = M.R.bind (fzv p.2 p.1) (cN2 C G es) := rfl
theorem n_cons2 {q : PyData × Env} : cN2 C G es q = M.R.bind (evN C G es q.2) fun r => .ok (.inr q.1 :: r.1, r.2) := rfl
def cNw (d : PyData) (q : List (Sum Nat PyData) × Env) : RE (List (Sum Nat PyData) × Env) := .ok (.inl q.2.length :: q.1, q.2 ++ [some (d, .ow)])
def cNv (C : CallT) (G : List PyData) (es : List ME) (p : EV × Env) : RE (List (Sum Nat PyData) × Env) := nwF C G es p.1 p.2
theorem n_nw : evN C G (.nw e :: es) env = M.R.bind (ev C G e env) (cNv C G es) := by rw [evN_nw]; rfl
theorem n_nw1 {d : PyData} : cNv C G es (.va d true, env) = M.R.bind (evN C G es env) (cNw d) := rfl
theorem n_nw2 {d : PyData} {as : List (Sum Nat PyData)} : cNw d (as, env) = .ok (.inl env.length :: as, env ++ [some (d, .ow)]) := rfl
end
theorem callF_at {F : List MFn} {G : List PyData} {k f : Nat} {fn : MFn} {args : List Arg} (h : F[f]? = some fn) (h1 : args.map isR = fn.refs) (h2 : args.length ≤ fn.nsl) : callF F G (k + 1) f args = retOf fn.refs (evSs (callF F G k) G fn.body (startE fn.nsl args)) := by
  rw [callF, h]
  exact if_pos ⟨h1, h2⟩
theorem toNat_inj : ∀ {a b : List Char}, a.map Char.toNat = b.map Char.toNat → a = b
  | [], [], _ => rfl
  | [], _ :: _, h => by cases h
  | _ :: _, [], h => by cases h
  | x :: r, y :: q, h => by
    rw [List.map_cons, List.map_cons] at h
    injection h with h1 h2
    rw [toNat_inj h2]
    congr 1
    exact Char.ext (UInt32.toNat_inj.mp h1)
theorem ofStr_beq (a b : String) : (Str.ofString a == Str.ofString b) = (a == b) := by
  rw [Bool.eq_iff_iff, beq_iff_eq, beq_iff_eq]
  constructor
  · intro h
    rw [Str.ofString_eq_toList, Str.ofString_eq_toList] at h
    injection h with h
    exact String.toList_inj.mp (toNat_inj (by simpa using h))
  · intro h; rw [h]
theorem mulOk_r {i j : Int} (h : -(2 ^ 64) < j ∧ j < 2 ^ 64) : mulOk i j = true := by
  unfold mulOk
  have : Nat.ble j.natAbs 18446744073709551615 = true := by rw [Nat.ble_eq]; omega
  rw [this, Bool.or_true, Bool.true_or]
theorem mulOk_l {i j : Int} (h : -(2 ^ 64) < i ∧ i < 2 ^ 64) : mulOk i j = true := by
  unfold mulOk
  have : Nat.ble i.natAbs 18446744073709551615 = true := by rw [Nat.ble_eq]; omega
  rw [this, Bool.true_or, Bool.true_or]
theorem nd_int {i : Int} : ndB (.int i) = true := rfl
theorem nd_bool {i : Bool} : ndB (.bool i) = true := rfl
theorem nd_str {i : Str} : ndB (.str i) = true := rfl
theorem nd_none : ndB .none = true := rfl
theorem nd_list {i : List PyData} : ndB (.list i) = true := rfl
theorem nd_tuple {i : List PyData} : ndB (.tuple i) = true := rfl
theorem eqv_int {i j : Int} : PyData.eqv (.int i) (.int j) = (i == j) := by simp only [PyData.eqv]
theorem eqv_str {i j : Str} : PyData.eqv (.str i) (.str j) = (i == j) := by simp only [PyData.eqv]
theorem eqv_bool {i j : Bool} : PyData.eqv (.bool i) (.bool j) = (i == j) := by simp only [PyData.eqv]
theorem eqv_list {i j : List PyData} : PyData.eqv (.list i) (.list j) = PyData.eqvAll i j := by simp only [PyData.eqv]
theorem eqv_tuple {i j : List PyData} : PyData.eqv (.tuple i) (.tuple j) = PyData.eqvAll i j := by simp only [PyData.eqv]
theorem eqva_nil : PyData.eqvAll [] [] = true := by simp only [PyData.eqvAll]
theorem eqva_cons {x y : PyData} {r q : List PyData} : PyData.eqvAll (x :: r) (y :: q) = (PyData.eqv x y && PyData.eqvAll r q) := by simp only [PyData.eqvAll]
theorem eqva_l {x : PyData} {r : List PyData} : PyData.eqvAll (x :: r) [] = false := by simp only [PyData.eqvAll]
theorem eqva_r {x : PyData} {r : List PyData} : PyData.eqvAll [] (x :: r) = false := by simp only [PyData.eqvAll]
theorem dp_int {i : Int} : PyData.depth (.int i) = 0 := by simp only [PyData.depth]
theorem dp_str {i : Str} : PyData.depth (.str i) = 0 := by simp only [PyData.depth]
theorem dp_bool {i : Bool} : PyData.depth (.bool i) = 0 := by simp only [PyData.depth]
theorem dp_list {i : List PyData} : PyData.depth (.list i) = PyData.depthAll i + 1 := by simp only [PyData.depth]
theorem dp_tuple {i : List PyData} : PyData.depth (.tuple i) = PyData.depthAll i + 1 := by simp only [PyData.depth]
theorem dpa_nil : PyData.depthAll [] = 0 := by simp only [PyData.depthAll]
theorem dpa_cons {x : PyData} {r : List PyData} : PyData.depthAll (x :: r) = max (PyData.depth x) (PyData.depthAll r) := by simp only [PyData.depthAll]
mutual
def ndAll : PyData → Prop
  | .dict _ => False
  | .list ds => ndAlls ds
  | .tuple ds => ndAlls ds
  | _ => True
def ndAlls : List PyData → Prop
  | [] => True
  | d :: ds => ndAll d ∧ ndAlls ds
end
mutual
theorem eqv_refl : ∀ (d : PyData), ndAll d → PyData.eqv d d = true
  | .none, _ => by simp only [PyData.eqv]
  | .bool b, _ => by simp only [PyData.eqv, beq_self_eq_true]
  | .int b, _ => by simp only [PyData.eqv, beq_self_eq_true]
  | .str b, _ => by simp only [PyData.eqv, beq_self_eq_true]
  | .list b, h => by simp only [PyData.eqv]; exact eqva_refl b (by simpa only [ndAll] using h)
  | .tuple b, h => by simp only [PyData.eqv]; exact eqva_refl b (by simpa only [ndAll] using h)
  | .dict b, h => by simp only [ndAll] at h
theorem eqva_refl : ∀ (d : List PyData), ndAlls d → PyData.eqvAll d d = true
  | [], _ => by simp only [PyData.eqvAll]
  | x :: r, h => by
    simp only [ndAlls] at h
    simp only [PyData.eqvAll, eqv_refl x h.1, eqva_refl r h.2, Bool.and_self]
end
theorem isd_int_none  : isD .int (.none ) = false := rfl
theorem isd_int_bool {i : Bool} : isD .int (.bool i) = true := rfl
theorem isd_int_int {i : Int} : isD .int (.int i) = true := rfl
theorem isd_int_str {i : Str} : isD .int (.str i) = false := rfl
theorem isd_int_list {i : List PyData} : isD .int (.list i) = false := rfl
theorem isd_int_tuple {i : List PyData} : isD .int (.tuple i) = false := rfl
theorem isd_bool_none  : isD .bool (.none ) = false := rfl
theorem isd_bool_bool {i : Bool} : isD .bool (.bool i) = true := rfl
theorem isd_bool_int {i : Int} : isD .bool (.int i) = false := rfl
theorem isd_bool_str {i : Str} : isD .bool (.str i) = false := rfl
theorem isd_bool_list {i : List PyData} : isD .bool (.list i) = false := rfl
theorem isd_bool_tuple {i : List PyData} : isD .bool (.tuple i) = false := rfl
theorem isd_str_none  : isD .str (.none ) = false := rfl
theorem isd_str_bool {i : Bool} : isD .str (.bool i) = false := rfl
theorem isd_str_int {i : Int} : isD .str (.int i) = false := rfl
theorem isd_str_str {i : Str} : isD .str (.str i) = true := rfl
theorem isd_str_list {i : List PyData} : isD .str (.list i) = false := rfl
theorem isd_str_tuple {i : List PyData} : isD .str (.tuple i) = false := rfl
theorem isd_tuple_none  : isD .tuple (.none ) = false := rfl
theorem isd_tuple_bool {i : Bool} : isD .tuple (.bool i) = false := rfl
theorem isd_tuple_int {i : Int} : isD .tuple (.int i) = false := rfl
theorem isd_tuple_str {i : Str} : isD .tuple (.str i) = false := rfl
theorem isd_tuple_list {i : List PyData} : isD .tuple (.list i) = false := rfl
theorem isd_tuple_tuple {i : List PyData} : isD .tuple (.tuple i) = true := rfl
theorem isd_list_none  : isD .list (.none ) = false := rfl
theorem isd_list_bool {i : Bool} : isD .list (.bool i) = false := rfl
theorem isd_list_int {i : Int} : isD .list (.int i) = false := rfl
theorem isd_list_str {i : Str} : isD .list (.str i) = false := rfl
theorem isd_list_list {i : List PyData} : isD .list (.list i) = true := rfl
theorem isd_list_tuple {i : List PyData} : isD .list (.tuple i) = false := rfl
theorem szl : sizeLine = 16777216 := rfl
theorem fr_none : freeS (some none) = true := rfl
theorem fr_sh {d : PyData} : freeS (some (some (d, .sh))) = true := rfl
theorem fr_ow {d : PyData} : freeS (some (some (d, .ow))) = true := rfl
theorem fr_rf {d : PyData} : freeS (some (some (d, .rf))) = false := rfl
theorem fr_ln {d : PyData} : freeS (some (some (d, .ln))) = false := rfl
end M
/-! M: what repr asks; loops. -/
namespace M
open PySem L2
section
variable {C : CallT} {G : List PyData} {env : Env} {a b : ME} {es : List ME} {p : EV × Env}
theorem x_pop {i : Nat} {z : Bool} : ev C G (.pop i z) env = match env[i]? with
    | some (some (.list xs, k)) => if k = .ow ∨ k = .rf then (match popD z xs with
      | some p => .ok (.va p.1 false, env.set i (some (.list p.2, k)))
      | none => .stuck) else .stuck
    | _ => .stuck := by simp only [ev] <;> rfl
theorem x_rev : ev C G (.rev a) env = M.R.bind (ev C G a env) fun p => M.R.bind (rdv p.2 p.1) fun d => M.R.bind (M.R.ofO (revD d)) fun q => .ok (.va q.1 q.2, p.2) := by simp only [ev]; rfl
def cIdx2 (C : CallT) (G : List PyData) (b : ME) (p : EV × Env) (d : PyData) : RE (EV × Env) := if isD .list d = true then M.R.bind (ev C G b p.2) fun q => M.R.bind (rdv q.2 p.1) fun d => M.R.bind (rdv q.2 q.1) fun e => M.R.bind (M.R.ofO (idxD d e)) fun i => .ok (.va (.int i) false, q.2) else .stuck
def cIdx (C : CallT) (G : List PyData) (b : ME) (p : EV × Env) : RE (EV × Env) := M.R.bind (rdv p.2 p.1) (cIdx2 C G b p)
theorem x_idx : ev C G (.idx a b) env = M.R.bind (ev C G a env) (cIdx C G b) := by simp only [ev]; rfl
theorem y_idx : cIdx C G b p = M.R.bind (rdv p.2 p.1) (cIdx2 C G b p) := rfl
theorem z_idx {d : PyData} : cIdx2 C G b p d = if isD .list d = true then M.R.bind (ev C G b p.2) fun q => M.R.bind (rdv q.2 p.1) fun d => M.R.bind (rdv q.2 q.1) fun e => M.R.bind (M.R.ofO (idxD d e)) fun i => .ok (.va (.int i) false, q.2) else .stuck := rfl
theorem g_c19 {a : ME} : evG C G (.rev a :: es) env = M.R.bind (ev C G (.rev a) env) (cG C G es) := g_cons rfl
theorem g_c20 {a b : ME} : evG C G (.idx a b :: es) env = M.R.bind (ev C G (.idx a b) env) (cG C G es) := g_cons rfl
theorem evSs_app : ∀ {a b : List MS} {env : M.Env}, evSs C G (a ++ b) env = seqS (evSs C G a env) fun env => evSs C G b env
  | [], b, env => by rw [List.nil_append, evSs_nil, seqS_nx]
  | s :: r, b, env => by
    rw [List.cons_append, evSs_cons, evSs_cons]
    cases evS C G s env with
    | ok q =>
      cases q with
      | nx env' =>
        show evSs C G (r ++ b) env' = seqS (evSs C G r env') _
        exact evSs_app
      | rt d fr env' => rfl
    | exc x => rfl
    | stuck => rfl
end
theorem mulOk_modl {x m j : Int} (h : 0 < m) (h2 : m < 18446744073709551616) : mulOk (x % m) j = true := mulOk_l ⟨by have := Int.emod_nonneg x (Int.ne_of_gt h); omega, by have := Int.emod_lt_of_pos x h; omega⟩
theorem isd_int_d {kvs : List (PyData × PyData)} : isD .int (.dict kvs) = false := rfl
theorem isd_bool_d {kvs : List (PyData × PyData)} : isD .bool (.dict kvs) = false := rfl
theorem isd_str_d {kvs : List (PyData × PyData)} : isD .str (.dict kvs) = false := rfl
theorem isd_list_d {kvs : List (PyData × PyData)} : isD .list (.dict kvs) = false := rfl
theorem isd_tuple_d0 : isD .tuple (.dict []) = false := rfl
theorem isd_tuple_ds {x : Str} {d : PyData} {r : List (PyData × PyData)} : isD .tuple (.dict ((.str x, d) :: r)) = false := rfl
theorem isd_tuple_di {x : Int} {d : PyData} {r : List (PyData × PyData)} : isD .tuple (.dict ((.int x, d) :: r)) = false := rfl
theorem isd_tuple_dt {x : List PyData} {d : PyData} {r : List (PyData × PyData)} : isD .tuple (.dict ((.tuple x, d) :: r)) = false := rfl
theorem excX_D {c : Nat} {fs : List (Str × PyData)} : excX ⟨c, fs⟩ = excD c fs := rfl
theorem is_t {xs : List PyData} : cmpD .Is (.tuple xs) .none = some false := rfl
theorem is_l {xs : List PyData} : cmpD .Is (.list xs) .none = some false := rfl
theorem is_i {i : Int} : cmpD .Is (.int i) .none = some false := rfl
theorem isn_t {xs : List PyData} : cmpD .IsNot (.tuple xs) .none = some true := rfl
theorem isn_l {xs : List PyData} : cmpD .IsNot (.list xs) .none = some true := rfl
theorem isn_i {i : Int} : cmpD .IsNot (.int i) .none = some true := rfl
theorem ati0 {α : Type} {x : α} {r : List α} : L2.atI (x :: r) (0 : Int) = some x := by
  unfold L2.atI L2.ixN
  rw [if_pos (by omega), if_pos (by rw [List.length_cons]; omega)]
  rfl
theorem ati1 {α : Type} {x y : α} {r : List α} : L2.atI (x :: y :: r) (1 : Int) = some y := by
  unfold L2.atI L2.ixN
  rw [if_pos (by omega), if_pos (by rw [List.length_cons, List.length_cons]; omega)]
  rfl
theorem ati2 {α : Type} {x y z : α} {r : List α} : L2.atI (x :: y :: z :: r) (2 : Int) = some z := by
  unfold L2.atI L2.ixN
  rw [if_pos (by omega), if_pos (by rw [List.length_cons, List.length_cons, List.length_cons]; omega)]
  rfl
theorem ati3 {α : Type} {x y z w : α} {r : List α} : L2.atI (x :: y :: z :: w :: r) (3 : Int) = some w := by
  unfold L2.atI L2.ixN
  rw [if_pos (by omega), if_pos (by rw [List.length_cons, List.length_cons, List.length_cons, List.length_cons]; omega)]
  rfl
theorem bt_nm {i : Nat} {d : PyData} {env : Env} : bindT (.nm i) d env = setS i d .sh env := by rw [bindT]
theorem bt_tp {ts : List MT} {ds : List PyData} {env : Env} : bindT (.tp ts) (.tuple ds) env = bindTs ts ds env := by rw [bindT]
theorem bts_nil {env : Env} : bindTs [] [] env = some env := by rw [bindTs]
theorem bts_cons {t : MT} {ts : List MT} {d : PyData} {ds : List PyData} {env : Env} : bindTs (t :: ts) (d :: ds) env = (bindT t d env).bind fun env' => bindTs ts ds env' := by rw [bindTs]
theorem bin_gen (φ : PyData → PyData → Option (PyData × Bool)) {d e : PyData} {p : PyData × Bool} {fr fr2 : Bool} {env : Env} (h : φ d e = some p) : (M.R.bind (rdv env (.va d fr)) fun d => M.R.bind (rdv env (.va e fr2)) fun e => M.R.bind (M.R.ofO (φ d e)) fun r => (.ok (.va r.1 r.2, env) : RE (EV × Env))) = .ok (.va p.1 p.2, env) := by
  show M.R.bind (M.R.ofO (φ d e)) _ = _
  rw [h]
  rfl
theorem ev_bin {C : CallT} {G : List PyData} {op : Operator} {a b : ME} {env env1 env2 : Env} {d e : PyData} {p : PyData × Bool} {fr fr2 : Bool} (h1 : ev C G a env = .ok (.va d fr, env1)) (h2 : ev C G b env1 = .ok (.va e fr2, env2)) (h : binD op d e = some p) : ev C G (.bin op a b) env = .ok (.va p.1 p.2, env2) := by
  rw [x_bin, h1]
  show cBin C G op b (.va d fr, env1) = _
  unfold cBin
  rw [h2]
  exact bin_gen (fr := fr) (fr2 := fr2) (env := env2) (binD op) h
theorem blt_gen (φ : List PyData → Option (PyData × Bool)) {d : PyData} {p : PyData × Bool} {fr : Bool} {env : Env} (h : φ [d] = some p) : (M.R.bind (rdAll env [.va d fr]) fun ds => M.R.bind (M.R.ofO (φ ds)) fun q => (.ok (.va q.1 q.2, env) : RE (EV × Env))) = .ok (.va p.1 p.2, env) := by
  show M.R.bind (M.R.ofO (φ [d])) _ = _
  rw [h]
  rfl
theorem ev_blt1 {C : CallT} {G : List PyData} {f : Blt} {a : ME} {env env1 : Env} {d : PyData} {p : PyData × Bool} {fr : Bool} (h1 : ev C G a env = .ok (.va d fr, env1)) (h : bltD f [d] = some p) : ev C G (.blt f [a]) env = .ok (.va p.1 p.2, env1) := by
  have e : evE C G [a] env = .ok ([.va d fr], env1) := by rw [e_cons, h1]; rfl
  rw [x_blt, e]
  exact blt_gen (fr := fr) (bltD f) h
theorem ev_repr {C : CallT} {G : List PyData} {a : ME} {env env1 : Env} {d : PyData} {fr : Bool} (h1 : ev C G a env = .ok (.va d fr, env1)) (h : reprOk d = true) : ev C G (.blt .repr [a]) env = .ok (.va (.str d.shown) false, env1) := ev_blt1 h1 (by rw [M.bltD.eq_18, if_pos h])
/-! ### repr -/
def Sh (d : PyData) (n : Nat) : Prop := d.canLay0 = true ∧ d.showable = true ∧ PyData.strOk d.shown = true ∧ d.shown.length ≤ n
def ShAll (ds : List PyData) (n : Nat) : Prop := PyData.canLayAll0 ds = true ∧ PyData.showableAll ds = true ∧ (∀ t ∈ PyData.shownAll ds, PyData.strOk t = true) ∧ ((PyData.shownAll ds).map (·.length + 2)).sum ≤ n
theorem Sh.le {d : PyData} {n m : Nat} (h : Sh d n) (hm : n ≤ m) : Sh d m := ⟨h.1, h.2.1, h.2.2.1, Nat.le_trans h.2.2.2 hm⟩
theorem ShAll.le {d : List PyData} {n m : Nat} (h : ShAll d n) (hm : n ≤ m) : ShAll d m := ⟨h.1, h.2.1, h.2.2.1, Nat.le_trans h.2.2.2 hm⟩
theorem sh_none : Sh .none 4 := ⟨rfl, rfl, by decide +kernel, by decide +kernel⟩
theorem sh_bool (b : Bool) : Sh (.bool b) 5 := by
  cases b <;> exact ⟨rfl, rfl, by decide +kernel, by decide +kernel⟩
theorem log2_lt {a k : Nat} (h : a < 2 ^ k) (hk : 0 < k) : a.log2 < k := by
  by_cases z : a = 0
  · subst z; rw [Nat.log2_zero]; exact hk
  · exact (Nat.log2_lt z).mpr h
theorem sh_int {i : Int} (h : i.natAbs < 10 ^ 30) : Sh (.int i) 31 := by
  refine ⟨rfl, ?_, ?_, ?_⟩
  · simp only [PyData.showable, decide_eq_true_eq]
    have : i.natAbs < 2 ^ 100 := Nat.lt_trans h (by decide)
    have := log2_lt this (by decide)
    omega
  · simp only [PyData.shown]
    exact strOk_of _
  · simp only [PyData.shown]
    have := int_text_length_le10 (k := 30) (by decide) h
    rw [show (Str.ofString (toString i)).length = (toString i).length from ?_]
    · exact this
    · rw [Str.ofString_eq_toList]
      show ((toString i).toList.map Char.toNat).toArray.size = _
      rw [List.size_toArray, List.length_map]
      exact String.length_toList
theorem shAll_nil : ShAll [] 0 := ⟨rfl, rfl, fun t h => by simp [PyData.shownAll] at h, by simp [PyData.shownAll]⟩
theorem shAll_cons {d : PyData} {ds : List PyData} {a b : Nat} (h1 : Sh d a) (h2 : ShAll ds b) : ShAll (d :: ds) (a + 2 + b) := by
  obtain ⟨a1, a2, a3, a4⟩ := h1
  obtain ⟨b1, b2, b3, b4⟩ := h2
  refine ⟨by simp [PyData.canLayAll0, a1, b1], by simp [PyData.showableAll, a2, b2], fun t ht => ?_, ?_⟩
  · simp only [PyData.shownAll, List.mem_cons] at ht
    rcases ht with e | e
    · subst e; exact a3
    · exact b3 t e
  · simp only [PyData.shownAll, List.map_cons, List.sum_cons]
    omega
theorem textFrom_le : ∀ (ts : List Str) (k : Nat) (acc : Str), (∀ t ∈ ts, PyData.strOk t = true) → PyData.strOk acc = true → PyData.strOk (textFrom k acc ts) = true ∧ (textFrom k acc ts).length ≤ acc.length + (ts.map (·.length + 2)).sum
  | [], k, acc, _, h => ⟨h, by simp [textFrom]⟩
  | t :: ts, k, acc, h1, h2 => by
    have h3 : PyData.strOk (acc ++ (if k > 0 then ", " else "" : String) ++ t) = true := strOk_append (strOk_append h2 (strOk_of _)) (h1 t List.mem_cons_self)
    obtain ⟨i1, i2⟩ := textFrom_le ts (k + 1) _ (fun t ht => h1 t (List.mem_cons_of_mem _ ht)) h3
    refine ⟨i1, ?_⟩
    simp only [textFrom, List.map_cons, List.sum_cons]
    rw [strLen_append, strLen_append] at i2
    have e : ((if k > 0 then ", " else "" : String) : Str).length ≤ 2 := by split <;> decide +kernel
    omega
theorem join_le : ∀ (ts : List Str), (∀ t ∈ ts, PyData.strOk t = true) → PyData.strOk (Str.join ", " ts) = true ∧ (Str.join ", " ts).length ≤ (ts.map (·.length + 2)).sum
  | [], _ => ⟨by decide +kernel, by decide +kernel⟩
  | [x], h => ⟨h x List.mem_cons_self, by simp [Str.join]⟩
  | x :: y :: r, h => by
    obtain ⟨i1, i2⟩ := join_le (y :: r) fun t ht => h t (List.mem_cons_of_mem _ ht)
    refine ⟨strOk_append (strOk_append (h x List.mem_cons_self) (strOk_of _)) i1, ?_⟩
    show (x ++ ", " ++ Str.join ", " (y :: r)).length ≤ _
    rw [strLen_append, strLen_append, List.map_cons, List.sum_cons]
    have : ((", " : String) : Str).length = 2 := rfl
    omega
theorem sh_list {ds : List PyData} {n : Nat} (h : ShAll ds n) : Sh (.list ds) (n + 2) := by
  obtain ⟨b1, b2, b3, b4⟩ := h
  obtain ⟨i1, i2⟩ := textFrom_le (PyData.shownAll ds) 0 "[" b3 (strOk_of _)
  refine ⟨by simpa only [PyData.canLay0] using b1, by simpa only [PyData.showable] using b2, ?_, ?_⟩
  · simp only [PyData.shown, listText]
    exact strOk_append i1 (strOk_of _)
  · simp only [PyData.shown, listText]
    rw [strLen_append]
    have e1 : (("[" : String) : Str).length = 1 := rfl
    have e2 : (("]" : String) : Str).length = 1 := rfl
    omega
theorem sh_tuple {ds : List PyData} {n : Nat} (h : ShAll ds n) : Sh (.tuple ds) (n + 3) := by
  obtain ⟨b1, b2, b3, b4⟩ := h
  obtain ⟨i1, i2⟩ := join_le (PyData.shownAll ds) b3
  refine ⟨by simpa only [PyData.canLay0] using b1, by simpa only [PyData.showable] using b2, ?_, ?_⟩
  · simp only [PyData.shown, tupleText]
    exact strOk_append (strOk_append (strOk_of _) i1) (strOk_of _)
  · simp only [PyData.shown, tupleText]
    rw [strLen_append, strLen_append]
    have e1 : (("(" : String) : Str).length = 1 := rfl
    have e2 : ((if (PyData.shownAll ds).length == 1 then ",)" else ")" : String) : Str).length ≤ 2 := by split <;> decide +kernel
    omega
theorem shAll_map {α : Type} {f : α → PyData} {n : Nat} : ∀ {l : List α}, (∀ x ∈ l, Sh (f x) n) → ShAll (l.map f) (l.length * (n + 2))
  | [], _ => shAll_nil.le (Nat.zero_le _)
  | x :: l, h => (shAll_cons (h x List.mem_cons_self) (shAll_map fun y hy => h y (List.mem_cons_of_mem _ hy))).le (by rw [List.length_cons, Nat.succ_mul]; omega)
theorem dpa_map {α : Type} {f : α → PyData} {n : Nat} : ∀ {l : List α}, (∀ x ∈ l, (f x).depth ≤ n) → PyData.depthAll (l.map f) ≤ n
  | [], _ => by simp [PyData.depthAll]
  | x :: l, h => by
    have h1 := h x List.mem_cons_self
    have h2 := dpa_map fun y hy => h y (List.mem_cons_of_mem _ hy)
    simp only [List.map_cons, PyData.depthAll]
    omega
theorem reprOk_of {d : PyData} {n : Nat} (h : Sh d n) (hn : n ≤ 16777216) (hd : d.depth ≤ 64) : reprOk d = true := by
  obtain ⟨a1, a2, a3, a4⟩ := h
  unfold reprOk
  have : d.shown.length ≤ sizeLine := by rw [sizeLine_eq]; omega
  simp [a1, a2, a3, this, hd]
theorem blt_repr {d : PyData} (h : reprOk d = true) : bltD .repr [d] = some (.str d.shown, false) := by
  simp only [bltD, h, if_true]
/-! ### loops -/
theorem for_inv {f : PyData → Env → RE SR} (I : Nat → Env → Prop) : ∀ (l : List PyData) (k : Nat) (env : Env), I k env → (∀ (i : Nat) (x : PyData) (env : Env), l[i]? = some x → I (k + i) env → ∃ env', f x env = .ok (.nx env') ∧ I (k + i + 1) env') → ∃ env', forLoop f l env = .ok (.nx env') ∧ I (k + l.length) env'
  | [], k, env, h, _ => ⟨env, rfl, h⟩
  | x :: l, k, env, h, st => by
    obtain ⟨env1, e1, h1⟩ := st 0 x env rfl h
    obtain ⟨env2, e2, h2⟩ := for_inv I l (k + 1) env1 h1 fun i x env hx hi => by
      have := st (i + 1) x env hx (by rw [show k + (i + 1) = k + 1 + i by omega]; exact hi)
      rw [show k + (i + 1) + 1 = k + 1 + i + 1 by omega] at this
      exact this
    refine ⟨env2, ?_, by rw [List.length_cons, show k + (l.length + 1) = k + 1 + l.length by omega]; exact h2⟩
    rw [forLoop_step, e1]
    exact e2
/-- with a state that is folded -/
theorem for_fold {α β : Type} {f : PyData → Env → RE SR} {g : β → PyData} (S : α → Env → Prop) (step : α → β → α) : ∀ (l : List β) (a : α) (env : Env), S a env → (∀ (x : β) (a : α) (env : Env), x ∈ l → S a env → ∃ env', f (g x) env = .ok (.nx env') ∧ S (step a x) env') → ∃ env', forLoop f (l.map g) env = .ok (.nx env') ∧ S (l.foldl step a) env'
  | [], a, env, h, _ => ⟨env, rfl, h⟩
  | x :: l, a, env, h, st => by
    obtain ⟨env1, e1, h1⟩ := st x a env List.mem_cons_self h
    obtain ⟨env2, e2, h2⟩ := for_fold S step l (step a x) env1 h1 fun y a env hy hs => st y a env (List.mem_cons_of_mem _ hy) hs
    refine ⟨env2, ?_, h2⟩
    rw [List.map_cons, forLoop_step, e1]
    exact e2
theorem lc_map {β : Type} {f : PyData → Env → RE (Option PyData × Env)} {g h : β → PyData} {env : Env} : ∀ {l : List β}, (∀ x ∈ l, f (g x) env = .ok (some (h x), env)) → lcLoop f (l.map g) env = .ok (l.map h, env)
  | [], _ => rfl
  | x :: l, st => by
    rw [List.map_cons, lcLoop_step, st x List.mem_cons_self, lcStep_ok, lcNext_E, lc_map fun y hy => st y (List.mem_cons_of_mem _ hy), lcCons_ok]
    rfl
theorem lc_fm {β : Type} {f : PyData → Env → RE (Option PyData × Env)} {g : β → PyData} {h : β → Option PyData} {env : Env} : ∀ {l : List β}, (∀ x ∈ l, f (g x) env = .ok (h x, env)) → lcLoop f (l.map g) env = .ok (l.filterMap h, env)
  | [], _ => rfl
  | x :: l, st => by
    rw [List.map_cons, lcLoop_step, st x List.mem_cons_self, lcStep_ok, lcNext_E, lc_fm fun y hy => st y (List.mem_cons_of_mem _ hy), lcCons_ok, List.filterMap_cons]
    cases h x <;> rfl
/-- a comprehension that changes the slots -/
theorem lc_st {α β : Type} {f : PyData → Env → RE (Option PyData × Env)} {g : β → PyData} (S : List PyData → Env → Prop) : ∀ (l : List β) (acc : List PyData) (env : Env), S acc env → (∀ (x : β) (acc : List PyData) (env : Env), x ∈ l → S acc env → ∃ y env', f (g x) env = .ok (some y, env') ∧ S (acc ++ [y]) env') → ∃ ys env', lcLoop f (l.map g) env = .ok (ys, env') ∧ ys.length = l.length ∧ S (acc ++ ys) env'
  | [], acc, env, h, _ => ⟨[], env, rfl, rfl, by rw [List.append_nil]; exact h⟩
  | x :: l, acc, env, h, st => by
    obtain ⟨y, env1, e1, h1⟩ := st x acc env List.mem_cons_self h
    obtain ⟨ys, env2, e2, hl, h2⟩ := lc_st (α := α) S l (acc ++ [y]) env1 h1 fun z acc env hz hs => st z acc env (List.mem_cons_of_mem _ hz) hs
    refine ⟨y :: ys, env2, ?_, by rw [List.length_cons, List.length_cons, hl], ?_⟩
    · rw [List.map_cons, lcLoop_step, e1, lcStep_ok, lcNext_E, e2, lcCons_ok]
      rfl
    · rw [List.append_assoc] at h2
      exact h2
end M
/-! M: dicts by plain keys and values. -/
namespace M
open PySem
/-- keys, told as data -/
structure KeyE {κ : Type} [DecidableEq κ] (ke : κ → PyData) : Prop where
  eq : ∀ a b, PyData.eqv (ke a) (ke b) = decide (a = b)
  key : ∀ a, keyB 8 (ke a) = true
  tup : ∀ a, ∃ ds, ke a = .tuple ds
section
variable {κ ν : Type} [DecidableEq κ] {ke : κ → PyData} {ve : ν → PyData}
def encK (ke : κ → PyData) (ve : ν → PyData) (l : List (κ × ν)) : List (PyData × PyData) := l.map fun p => (ke p.1, ve p.2)
def lkp (l : List (κ × ν)) (k : κ) : Option ν := (l.find? fun p => decide (p.1 = k)).map (·.2)
def hasK (l : List (κ × ν)) (k : κ) : Bool := l.any fun p => decide (p.1 = k)
def put (l : List (κ × ν)) (k : κ) (v : ν) : List (κ × ν) := if hasK l k = true then l.map fun p => if p.1 = k then (p.1, v) else p else l ++ [(k, v)]
theorem KeyE.isTup (h : KeyE ke) (a : κ) : M.isTup (ke a) = true := by obtain ⟨ds, e⟩ := h.tup a; rw [e]; rfl
theorem KeyE.kd (h : KeyE ke) (a : κ) : kdD (ke a) = 0 := by obtain ⟨ds, e⟩ := h.tup a; rw [e]; rfl
theorem KeyE.nd (h : KeyE ke) (a : κ) : ndB (ke a) = true := by obtain ⟨ds, e⟩ := h.tup a; rw [e]; rfl
theorem KeyE.keyIn (h : KeyE ke) (l : List (κ × ν)) (k : κ) : M.keyIn (encK ke ve l) (ke k) = true := by
  unfold M.keyIn
  rw [Bool.and_eq_true, List.all_eq_true]
  refine ⟨h.key k, fun p hp => ?_⟩
  obtain ⟨q, _, rfl⟩ := List.mem_map.mp hp
  simp only [h.kd, beq_self_eq_true]
theorem KeyE.tupK (h : KeyE ke) (l : List (κ × ν)) : M.tupK (encK ke ve l) = true := by
  unfold M.tupK
  rw [List.all_eq_true]
  intro p hp
  obtain ⟨q, _, rfl⟩ := List.mem_map.mp hp
  exact h.isTup q.1
theorem KeyE.has (h : KeyE ke) (l : List (κ × ν)) (k : κ) : hasD (encK ke ve l) (ke k) = hasK l k := by
  unfold hasD hasK encK
  rw [List.any_map]
  exact congrArg (fun f => l.any f) (funext fun p => h.eq p.1 k)
theorem KeyE.find (h : KeyE ke) (l : List (κ × ν)) (k : κ) : findD (encK ke ve l) (ke k) = (lkp l k).map ve := by
  unfold findD lkp encK
  rw [List.find?_map]
  have : ((fun p : PyData × PyData => PyData.eqv p.1 (ke k)) ∘ fun p : κ × ν => (ke p.1, ve p.2)) = fun p => decide (p.1 = k) := funext fun p => h.eq p.1 k
  rw [this]
  cases l.find? fun p => decide (p.1 = k) <;> rfl
theorem KeyE.put (h : KeyE ke) (l : List (κ × ν)) (k : κ) (v : ν) : putD (encK ke ve l) (ke k) (ve v) = encK ke ve (M.put l k v) := by
  unfold putD M.put
  rw [h.has]
  by_cases z : hasK l k = true
  · rw [if_pos z, if_pos z]
    unfold encK
    rw [List.map_map, List.map_map]
    refine List.map_congr_left fun p _ => ?_
    simp only [Function.comp_apply, h.eq, decide_eq_true_eq]
    by_cases e : p.1 = k
    · rw [if_pos e, if_pos e]
    · rw [if_neg e, if_neg e]
  · rw [if_neg z, if_neg z]
    simp [encK]
theorem KeyE.sub (h : KeyE ke) (l : List (κ × ν)) (k : κ) : subD (.dict (encK ke ve l)) (ke k) = (lkp l k).map ve := by
  simp only [subD]
  rw [if_pos (h.keyIn l k), h.find]
theorem KeyE.cin (h : KeyE ke) (l : List (κ × ν)) (k : κ) : cmpD .In (ke k) (.dict (encK ke ve l)) = some (hasK l k) := by
  have : cmpD .In (ke k) (.dict (encK ke ve l)) = if M.keyIn (encK ke ve l) (ke k) = true then some (hasD (encK ke ve l) (ke k)) else none := by
    obtain ⟨ds, e⟩ := h.tup k
    rw [e]
    rfl
  rw [this, if_pos (h.keyIn l k), h.has]
theorem KeyE.cnin (h : KeyE ke) (l : List (κ × ν)) (k : κ) : cmpD .NotIn (ke k) (.dict (encK ke ve l)) = some (!hasK l k) := by
  have : cmpD .NotIn (ke k) (.dict (encK ke ve l)) = if M.keyIn (encK ke ve l) (ke k) = true then some (!hasD (encK ke ve l) (ke k)) else none := by
    obtain ⟨ds, e⟩ := h.tup k
    rw [e]
    rfl
  rw [this, if_pos (h.keyIn l k), h.has]
theorem KeyE.set (h : KeyE ke) (l : List (κ × ν)) (k : κ) (v : ν) (hz : l.length < sizeLine) : setD (.dict (encK ke ve l)) (ke k) (ve v) = some (.dict (encK ke ve (M.put l k v))) := by
  simp only [setD]
  rw [if_pos ⟨h.keyIn l k, by unfold encK; rw [List.length_map]; exact hz⟩, h.put]
theorem KeyE.get (h : KeyE ke) (l : List (κ × ν)) (k : κ) (e : PyData) : getD (.dict (encK ke ve l)) (ke k) e = some (((lkp l k).map ve).getD e) := by
  simp only [getD]
  rw [if_pos (by rw [Bool.and_eq_true]; exact ⟨h.keyIn l k, h.tupK l⟩), h.find]
theorem hasK_lkp (l : List (κ × ν)) (k : κ) : hasK l k = (lkp l k).isSome := by
  unfold hasK lkp
  rw [Option.isSome_map]
  induction l with
  | nil => rfl
  | cons p r ih =>
    rw [List.any_cons, List.find?_cons]
    cases decide (p.1 = k) with
    | true => rfl
    | false => rw [Bool.false_or]; exact ih
theorem hasK_mem (l : List (κ × ν)) (k : κ) : hasK l k = true ↔ k ∈ l.map (·.1) := by
  unfold hasK
  rw [List.any_eq_true, List.mem_map]
  constructor
  · rintro ⟨p, hp, e⟩; exact ⟨p, hp, by simpa using e⟩
  · rintro ⟨p, hp, e⟩; exact ⟨p, hp, by simpa using e⟩
theorem put_new (l : List (κ × ν)) (k : κ) (v : ν) (h : k ∉ l.map (·.1)) : M.put l k v = l ++ [(k, v)] := by
  unfold M.put
  rw [if_neg (fun z => h ((hasK_mem l k).mp z))]
theorem lkp_put (l : List (κ × ν)) (k j : κ) (v : ν) : lkp (M.put l k v) j = if j = k then some v else lkp l j := by
  unfold M.put
  have lm : ∀ l : List (κ × ν), lkp (l.map fun p => if p.1 = k then (p.1, v) else p) j = if j = k then (lkp l j).map (fun _ => v) else lkp l j := by
    intro l
    induction l with
    | nil => simp [lkp]
    | cons p r ih =>
      unfold lkp at ih ⊢
      rw [List.map_cons, List.find?_cons, List.find?_cons]
      by_cases e : p.1 = j
      · by_cases e2 : p.1 = k
        · have e3 : j = k := e.symm.trans e2
          simp [e, e2, e3]
        · have e3 : ¬ j = k := fun z => e2 (e.trans z)
          simp [e, e2, e3]
      · by_cases e2 : p.1 = k
        · simp only [e2, if_true]
          have : ¬ k = j := fun z => e (e2.trans z)
          simp only [this, decide_false]
          simpa [e2] using ih
        · simp only [e2, if_false, e, decide_false]
          exact ih
  have la : ∀ l : List (κ × ν), lkp (l ++ [(k, v)]) j = (lkp l j).or (if j = k then some v else none) := by
    intro l
    unfold lkp
    rw [List.find?_append]
    cases l.find? fun p => decide (p.1 = j) with
    | some p => simp
    | none =>
      by_cases e : j = k
      · subst e; simp
      · have : ¬ k = j := fun z => e z.symm
        simp [e, this]
  by_cases z : hasK l k = true
  · rw [if_pos z, lm]
    by_cases e : j = k
    · subst e
      rw [if_pos rfl, if_pos rfl]
      rw [hasK_lkp] at z
      obtain ⟨x, hx⟩ := Option.isSome_iff_exists.mp z
      rw [hx]; rfl
    · rw [if_neg e, if_neg e]
  · rw [if_neg z, la]
    by_cases e : j = k
    · subst e
      have : lkp l j = none := by
        rw [hasK_lkp] at z
        cases q : lkp l j with
        | none => rfl
        | some x => rw [q] at z; exact absurd rfl z
      rw [this, if_pos rfl]; rfl
    · rw [if_neg e, if_neg e]; simp
theorem put_length (l : List (κ × ν)) (k : κ) (v : ν) : (M.put l k v).length ≤ l.length + 1 := by
  unfold M.put
  split
  · rw [List.length_map]; omega
  · rw [List.length_append]; exact Nat.le_refl _
theorem put_keys (l : List (κ × ν)) (k : κ) (v : ν) : (M.put l k v).map (·.1) = if hasK l k = true then l.map (·.1) else l.map (·.1) ++ [k] := by
  unfold M.put
  split
  · rw [List.map_map]
    refine List.map_congr_left fun p _ => ?_
    simp only [Function.comp_apply]
    split <;> rfl
  · rw [List.map_append]; rfl
theorem KeyE.dct (h : KeyE ke) : ∀ (l acc : List (κ × ν)), dctD (l.map fun p => .tuple [ke p.1, ve p.2]) (encK ke ve acc) = some (encK ke ve (l.foldl (fun a p => M.put a p.1 p.2) acc))
  | [], acc => rfl
  | p :: l, acc => by
    rw [List.map_cons, List.foldl_cons]
    simp only [dctD]
    rw [if_pos (by rw [Bool.and_eq_true]; exact ⟨h.isTup p.1, h.keyIn acc p.1⟩), h.put]
    exact KeyE.dct h l _
theorem foldl_put_nodup : ∀ (l acc : List (κ × ν)), (acc.map (·.1) ++ l.map (·.1)).Nodup → l.foldl (fun a p => M.put a p.1 p.2) acc = acc ++ l
  | [], acc, _ => by simp
  | p :: l, acc, h => by
    rw [List.foldl_cons, put_new]
    · rw [foldl_put_nodup l]
      · simp
      · simpa using h
    · intro z
      rw [List.map_cons, List.nodup_append] at h
      exact h.2.2 _ z _ List.mem_cons_self rfl
theorem KeyE.dct_nd (h : KeyE ke) (l : List (κ × ν)) (hn : (l.map (·.1)).Nodup) : dctD (l.map fun p => .tuple [ke p.1, ve p.2]) [] = some (encK ke ve l) := by
  have := h.dct (ve := ve) l []
  rw [foldl_put_nodup l [] (by simpa using hn), List.nil_append] at this
  exact this
theorem lkp_mem {l : List (κ × ν)} (hn : (l.map (·.1)).Nodup) {p : κ × ν} (hp : p ∈ l) : lkp l p.1 = some p.2 := by
  induction l with
  | nil => cases hp
  | cons q r ih =>
    rw [List.map_cons, List.nodup_cons] at hn
    unfold lkp
    rw [List.find?_cons]
    rcases List.mem_cons.mp hp with z | z
    · subst z; simp
    · have : ¬ q.1 = p.1 := fun e => hn.1 (by rw [e]; exact List.mem_map.mpr ⟨p, z, rfl⟩)
      simp only [this, decide_false]
      exact ih hn.2 z
end
/-- a loop that keeps something -/
theorem for_mem {f : PyData → Env → RE SR} (I : Env → Prop) : ∀ (l : List PyData) (env : Env), I env → (∀ x ∈ l, ∀ env, I env → ∃ env', f x env = .ok (.nx env') ∧ I env') → ∃ env', forLoop f l env = .ok (.nx env') ∧ I env'
  | [], env, h, _ => ⟨env, rfl, h⟩
  | x :: l, env, h, st => by
    obtain ⟨env1, e1, h1⟩ := st x List.mem_cons_self env h
    obtain ⟨env2, e2, h2⟩ := for_mem I l env1 h1 fun y hy env hi => st y (List.mem_cons_of_mem _ hy) env hi
    refine ⟨env2, ?_, h2⟩
    rw [forLoop, e1]
    exact e2
/-! ### pairs of numbers as keys -/
theorem keyP : KeyE pD where
  eq := fun a b => by
    simp only [pD, eqv_tuple, eqva_cons, eqva_nil, eqv_int, Bool.and_true]
    rw [Bool.eq_iff_iff]
    simp only [Bool.and_eq_true, decide_eq_true_eq, beq_iff_eq, Prod.ext_iff]
  key := fun a => rfl
  tup := fun a => ⟨_, rfl⟩
end M
/-! printed by tr.py -/
namespace K07
open PySem PySem.Spec L2 PyProof.Rows M
abbrev fi_is_number : Nat := 0
abbrev fi_numbers_fit : Nat := 1
abbrev fi_inner_of : Nat := 2
abbrev fi_deep_of : Nat := 3
abbrev fi_is_formula : Nat := 4
abbrev fi_names_in : Nat := 5
abbrev fi_is_from : Nat := 6
abbrev fi_is_sign : Nat := 7
abbrev fi_worths_of_place : Nat := 8
abbrev fi_names_told : Nat := 9
abbrev fi_is_making : Nat := 10
abbrev fi_is_rule : Nat := 11
abbrev fi_is_book : Nat := 12
abbrev fi_law_mixed : Nat := 13
abbrev fi_law_cell : Nat := 14
abbrev fi_law_take : Nat := 15
abbrev fi_law_formula : Nat := 16
abbrev fi_law_told : Nat := 17
abbrev fi_law_names : Nat := 18
abbrev fi_law_rule : Nat := 19
abbrev fi_law_book : Nat := 20
abbrev fi_law_found : Nat := 21
abbrev fi_law_parts : Nat := 22
abbrev fi_law_sign : Nat := 23
abbrev fi_law_from : Nat := 24
abbrev fi_law_is_rule : Nat := 25
abbrev fi_law_is_book : Nat := 26
abbrev fi_law_bent_rule : Nat := 27
abbrev fi_law_bent_book : Nat := 28
abbrev fi_law : Nat := 29
abbrev gi_MOST_PARTS_formulas : Nat := 0
abbrev gi_MOST_DEEP_formulas : Nat := 1
abbrev gi_WORDS : Nat := 2
abbrev gi_MOST_SIGNS : Nat := 3
abbrev gi_MOST_RULES : Nat := 4
abbrev gi_MOST_WORTHS : Nat := 5
abbrev gi_MOST_PARTS_books : Nat := 6
def nm : Nm := ⟨[(("is_number" : PySem.Str), [false]), (("numbers_fit" : PySem.Str), [false]), (("inner_of" : PySem.Str), [false]), (("deep_of" : PySem.Str), [false, false]), (("is_formula" : PySem.Str), [false]), (("names_in" : PySem.Str), [false]), (("is_from" : PySem.Str), [false, false, false]), (("is_sign" : PySem.Str), [false]), (("worths_of_place" : PySem.Str), [false, false, false]), (("names_told" : PySem.Str), [false, false]), (("is_making" : PySem.Str), [false, false, false]), (("is_rule" : PySem.Str), [false, false]), (("is_book" : PySem.Str), [false]), (("_law_mixed" : PySem.Str), [false, false]), (("_law_cell" : PySem.Str), [false, false]), (("_law_take" : PySem.Str), [true, false]), (("_law_formula" : PySem.Str), [true, false, false]), (("_law_told" : PySem.Str), [false, false, false]), (("_law_names" : PySem.Str), [false, false, false, false]), (("_law_rule" : PySem.Str), [true, false, false, false, false]), (("_law_book" : PySem.Str), [false, false]), (("_law_found" : PySem.Str), [false]), (("_law_parts" : PySem.Str), [false, false]), (("_law_sign" : PySem.Str), [false]), (("_law_from" : PySem.Str), [false, false]), (("_law_is_rule" : PySem.Str), [false, false]), (("_law_is_book" : PySem.Str), [false]), (("_law_bent_rule" : PySem.Str), [true, false, false]), (("_law_bent_book" : PySem.Str), [true, false]), (("law" : PySem.Str), [false])], [("MOST_PARTS_formulas" : PySem.Str), ("MOST_DEEP" : PySem.Str), ("WORDS" : PySem.Str), ("MOST_SIGNS" : PySem.Str), ("MOST_RULES" : PySem.Str), ("MOST_WORTHS" : PySem.Str), ("MOST_PARTS_books" : PySem.Str)], [], []⟩
def N_is_number : List PySem.Str := ["thing"]
def b_is_number : List M.MS :=
  [.ret (.and (.isi (.var 0) .int) (.not (.isi (.var 0) .bool)))]
def f_is_number : MFn := ⟨[false], 1, b_is_number⟩
def N_numbers_fit : List PySem.Str := ["thing", "part"]
def b_numbers_fit : List M.MS :=
  [.ite (.cmp .Eq (.sub (.var 0) (.cst (.int 0))) (.cst (.str "num"))) [.ret (.and (.cmp .Eq (.blt .len [(.var 0)]) (.cst (.int 2))) (.and (.call fi_is_number [(.sub (.var 0) (.cst (.int 1)))]) (.cmp .Lt (.blt .abs [(.sub (.var 0) (.cst (.int 1)))]) (.bin .Pow (.cst (.int 10)) (.cst (.int 6))))))] [],
   .ite (.cmp .Eq (.sub (.var 0) (.cst (.int 0))) (.cst (.str "worth"))) [.ret (.and (.cmp .Eq (.blt .len [(.var 0)]) (.cst (.int 3))) (.blt .all [(.lc (.nm 1) .ex [(.slc (.var 0) (some (.cst (.int 1))) none)] [] (.and (.call fi_is_number [(.var 1)]) (.cmp .GtE (.var 1) (.cst (.int 0)))))]))] [],
   .ite (.cmp .Eq (.sub (.var 0) (.cst (.int 0))) (.cst (.str "times"))) [.ret (.and (.cmp .Eq (.blt .len [(.var 0)]) (.cst (.int 3))) (.and (.call fi_is_number [(.sub (.var 0) (.cst (.int 1)))]) (.cmp .Lt (.blt .abs [(.sub (.var 0) (.cst (.int 1)))]) (.bin .Pow (.cst (.int 10)) (.cst (.int 4))))))] [],
   .ite (.cmp .Eq (.sub (.var 0) (.cst (.int 0))) (.cst (.str "rest"))) [.ret (.and (.cmp .Eq (.blt .len [(.var 0)]) (.cst (.int 3))) (.and (.call fi_is_number [(.sub (.var 0) (.cst (.int 1)))]) (.chn .Lt .Lt (.cst (.int 0)) (.sub (.var 0) (.cst (.int 1))) (.bin .Pow (.cst (.int 10)) (.cst (.int 4))))))] [],
   .ret (.cmp .Eq (.blt .len [(.var 0)]) (.bin .Add (.cst (.int 1)) (.sub (.glo gi_WORDS) (.sub (.var 0) (.cst (.int 0))))))]
def f_numbers_fit : MFn := ⟨[false], 2, b_numbers_fit⟩
def N_inner_of : List PySem.Str := ["formula", "many"]
def b_inner_of : List M.MS :=
  [.set 1 (.sub (.glo gi_WORDS) (.sub (.var 0) (.cst (.int 0)))),
   .ret (.slc (.var 0) (some (.bin .Sub (.blt .len [(.var 0)]) (.var 1))) none)]
def f_inner_of : MFn := ⟨[false], 2, b_inner_of⟩
def N_deep_of : List PySem.Str := ["thing", "deep", "part"]
def b_deep_of : List M.MS :=
  [.ite (.or (.cmp .Gt (.var 1) (.glo gi_MOST_DEEP_formulas)) (.or (.not (.isi (.var 0) .tuple)) (.or (.cmp .Eq (.blt .len [(.var 0)]) (.cst (.int 0))) (.not (.isi (.sub (.var 0) (.cst (.int 0))) .str))))) [.ret (.bin .Add (.glo gi_MOST_PARTS_formulas) (.cst (.int 1)))] [],
   .ite (.or (.cmp .NotIn (.sub (.var 0) (.cst (.int 0))) (.glo gi_WORDS)) (.not (.call fi_numbers_fit [(.var 0)]))) [.ret (.bin .Add (.glo gi_MOST_PARTS_formulas) (.cst (.int 1)))] [],
   .ret (.bin .Add (.cst (.int 1)) (.blt .sum [(.lc (.nm 2) .ex [(.call fi_inner_of [(.var 0)])] [] (.call fi_deep_of [(.var 2), (.bin .Add (.var 1) (.cst (.int 1)))]))]))]
def f_deep_of : MFn := ⟨[false, false], 3, b_deep_of⟩
def N_is_formula : List PySem.Str := ["thing"]
def b_is_formula : List M.MS :=
  [.ret (.cmp .LtE (.call fi_deep_of [(.var 0), (.cst (.int 1))]) (.glo gi_MOST_PARTS_formulas))]
def f_is_formula : MFn := ⟨[false], 1, b_is_formula⟩
def N_names_in : List PySem.Str := ["formula", "found", "part"]
def b_names_in : List M.MS :=
  [.ite (.cmp .Eq (.sub (.var 0) (.cst (.int 0))) (.cst (.str "worth"))) [.ret (.lst [(.tup [(.sub (.var 0) (.cst (.int 1))), (.sub (.var 0) (.cst (.int 2)))])])] [],
   .set 1 (.lst []),
   .forr (.nm 2) .ex [(.call fi_inner_of [(.var 0)])] [.set 1 (.bin .Add (.var 1) (.call fi_names_in [(.var 2)]))],
   .ret (.var 1)]
def f_names_in : MFn := ⟨[false], 3, b_names_in⟩
def N_is_from : List PySem.Str := ["thing", "low", "high"]
def b_is_from : List M.MS :=
  [.ret (.and (.call fi_is_number [(.var 0)]) (.chn .LtE .LtE (.var 1) (.var 0) (.var 2)))]
def f_is_from : MFn := ⟨[false, false, false], 3, b_is_from⟩
def N_is_sign : List PySem.Str := ["thing", "part"]
def b_is_sign : List M.MS :=
  [.ret (.and (.isi (.var 0) .tuple) (.and (.cmp .Eq (.blt .len [(.var 0)]) (.cst (.int 2))) (.blt .all [(.lc (.nm 1) .ex [(.var 0)] [] (.call fi_is_from [(.var 1), (.cst (.int 0)), (.glo gi_MOST_WORTHS)]))])))]
def f_is_sign : MFn := ⟨[false], 2, b_is_sign⟩
def N_worths_of_place : List PySem.Str := ["signs", "rule", "place", "places"]
def b_worths_of_place : List M.MS :=
  [.set 3 (.bin .Add (.tup [(.sub (.var 1) (.cst (.int 0)))]) (.sub (.var 1) (.cst (.int 1)))),
   .ite (.cmp .GtE (.var 2) (.blt .len [(.var 3)])) [.ret (.cst (.int 0))] [],
   .ret (.blt .sum [(.sub (.var 0) (.sub (.var 3) (.var 2)))])]
def f_worths_of_place : MFn := ⟨[false, false, false], 4, b_worths_of_place⟩
def N_names_told : List PySem.Str := ["signs", "rule", "downs", "ups", "found", "k", "place", "part"]
def b_names_told : List M.MS :=
  [.setT [(.nm 2), (.nm 3)] (.sub (.var 0) (.sub (.var 1) (.cst (.int 0)))),
   .set 4 (.lc (.nm 5) .r1 [(.var 3)] [] (.tup [(.cst (.int 0)), (.bin .Add (.var 2) (.var 5))])),
   .forr (.tp [(.nm 6), (.nm 7)]) .en [(.sub (.var 1) (.cst (.int 1)))] [.set 4 (.bin .Add (.var 4) (.lc (.nm 5) .r1 [(.sub (.sub (.var 0) (.var 7)) (.cst (.int 0)))] [] (.tup [(.bin .Add (.var 6) (.cst (.int 1))), (.var 5)])))],
   .ret (.var 4)]
def f_names_told : MFn := ⟨[false, false], 8, b_names_told⟩
def N_is_making : List PySem.Str := ["signs", "rule", "thing", "place", "number"]
def b_is_making : List M.MS :=
  [.ite (.not (.call fi_is_formula [(.var 2)])) [.ret (.cst (.bool false))] [],
   .ret (.blt .all [(.lc (.tp [(.nm 3), (.nm 4)]) .ex [(.call fi_names_in [(.var 2)])] [] (.cmp .Lt (.var 4) (.call fi_worths_of_place [(.var 0), (.var 1), (.var 3)])))])]
def f_is_making : MFn := ⟨[false, false, false], 5, b_is_making⟩
def N_is_rule : List PySem.Str := ["signs", "thing", "part"]
def b_is_rule : List M.MS :=
  [.ite (.or (.not (.isi (.var 1) .tuple)) (.or (.cmp .NotEq (.blt .len [(.var 1)]) (.cst (.int 3))) (.not (.call fi_is_from [(.sub (.var 1) (.cst (.int 0))), (.cst (.int 0)), (.bin .Sub (.blt .len [(.var 0)]) (.cst (.int 1)))])))) [.ret (.cst (.bool false))] [],
   .ite (.or (.not (.isi (.sub (.var 1) (.cst (.int 1))) .tuple)) (.or (.cmp .Gt (.blt .len [(.sub (.var 1) (.cst (.int 1)))]) (.glo gi_MOST_PARTS_books)) (.not (.isi (.sub (.var 1) (.cst (.int 2))) .list)))) [.ret (.cst (.bool false))] [],
   .ite (.not (.blt .all [(.lc (.nm 2) .ex [(.sub (.var 1) (.cst (.int 1)))] [] (.call fi_is_from [(.var 2), (.cst (.int 0)), (.bin .Sub (.blt .len [(.var 0)]) (.cst (.int 1)))]))])) [.ret (.cst (.bool false))] [],
   .ite (.cmp .NotEq (.blt .len [(.sub (.var 1) (.cst (.int 2)))]) (.blt .len [(.call fi_names_told [(.var 0), (.var 1)])])) [.ret (.cst (.bool false))] [],
   .ret (.blt .all [(.lc (.nm 2) .ex [(.sub (.var 1) (.cst (.int 2)))] [] (.call fi_is_making [(.var 0), (.var 1), (.var 2)]))])]
def f_is_rule : MFn := ⟨[false, false], 3, b_is_rule⟩
def N_is_book : List PySem.Str := ["thing", "part", "signs", "rules", "sign", "rule"]
def b_is_book : List M.MS :=
  [.ite (.or (.not (.isi (.var 0) .tuple)) (.or (.cmp .NotEq (.blt .len [(.var 0)]) (.cst (.int 2))) (.not (.blt .all [(.lc (.nm 1) .ex [(.var 0)] [] (.isi (.var 1) .list))])))) [.ret (.cst (.bool false))] [],
   .setT [(.nm 2), (.nm 3)] (.var 0),
   .ite (.or (.cmp .Lt (.blt .len [(.var 2)]) (.cst (.int 1))) (.or (.cmp .Gt (.blt .len [(.var 2)]) (.glo gi_MOST_SIGNS)) (.cmp .Gt (.blt .len [(.var 3)]) (.glo gi_MOST_RULES)))) [.ret (.cst (.bool false))] [],
   .ret (.and (.blt .all [(.lc (.nm 4) .ex [(.var 2)] [] (.call fi_is_sign [(.var 4)]))]) (.blt .all [(.lc (.nm 5) .ex [(.var 3)] [] (.call fi_is_rule [(.var 2), (.var 5)]))]))]
def f_is_book : MFn := ⟨[false], 6, b_is_book⟩
def N_law_mixed : List PySem.Str := ["_law_cell_here", "_law_k", "_law_number"]
def b_law_mixed : List M.MS :=
  [.set 2 (.bin .Mod (.bin .Add (.bin .Add (.bin .Mult (.bin .Mod (.var 0) (.cst (.int 2147483647))) (.cst (.int 48271))) (.bin .Mult (.var 1) (.cst (.int 69621)))) (.cst (.int 1048583))) (.cst (.int 2147483629))),
   .set 2 (.bin .Mod (.bin .Mult (.var 2) (.var 2)) (.cst (.int 2147483587))),
   .ret (.bin .Mod (.bin .Mult (.var 2) (.bin .Add (.var 2) (.cst (.int 2)))) (.cst (.int 2147483579)))]
def f_law_mixed : MFn := ⟨[false, false], 3, b_law_mixed⟩
def N_law_cell : List PySem.Str := ["_law_script", "_law_k", "_law_cell_here", "_law_found_here", "_law_j"]
def b_law_cell : List M.MS :=
  [.set 2 (.cst (.int 0)),
   .ite (.cmp .Lt (.var 1) (.blt .len [(.var 0)])) [.set 2 (.sub (.var 0) (.var 1))] [],
   .ite (.cmp .GtE (.var 2) (.bin .Pow (.cst (.int 10)) (.cst (.int 18)))) [.ret (.bin .Mod (.bin .Sub (.var 2) (.bin .Pow (.cst (.int 10)) (.cst (.int 18)))) (.bin .Mult (.bin .Mult (.bin .Mult (.bin .Pow (.cst (.int 10)) (.cst (.int 60))) (.bin .Pow (.cst (.int 10)) (.cst (.int 60)))) (.bin .Pow (.cst (.int 10)) (.cst (.int 60)))) (.bin .Pow (.cst (.int 10)) (.cst (.int 60)))))] [],
   .set 3 (.cst (.int 0)),
   .forr (.nm 4) .r1 [(.cst (.int 24))] [.set 3 (.bin .Add (.bin .Mult (.var 3) (.cst (.int 2147483579))) (.call fi_law_mixed [(.var 2), (.bin .Add (.bin .Add (.bin .Mult (.cst (.int 7)) (.var 1)) (.bin .Mult (.cst (.int 100)) (.var 4))) (.bin .Mult (.var 4) (.var 4)))]))],
   .ret (.var 3)]
def f_law_cell : MFn := ⟨[false, false], 5, b_law_cell⟩
def N_law_take : List PySem.Str := ["_law_pile", "_law_size", "_law_digit"]
def b_law_take : List M.MS :=
  [.set 2 (.bin .Mod (.sub (.var 0) (.cst (.int 0))) (.var 1)),
   .setI 0 (.cst (.int 0)) (.bin .FloorDiv (.sub (.var 0) (.cst (.int 0))) (.var 1)),
   .ret (.var 2)]
def f_law_take : MFn := ⟨[true, false], 3, b_law_take⟩
def N_law_formula : List PySem.Str := ["_law_pile", "_law_names_here", "_law_deep", "_law_way", "_law_word", "_law_inner", "_law_k"]
def b_law_formula : List M.MS :=
  [.set 3 (.call fi_law_take [(.ref 0), (.cst (.int 10))]),
   .ite (.or (.cmp .Eq (.var 2) (.cst (.int 0))) (.cmp .Lt (.var 3) (.cst (.int 3)))) [.ite (.or (.cmp .Eq (.var 1) (.lst [])) (.cmp .Eq (.call fi_law_take [(.ref 0), (.cst (.int 5))]) (.cst (.int 0)))) [.ret (.tup [(.cst (.str "num")), (.bin .Sub (.call fi_law_take [(.ref 0), (.cst (.int 19))]) (.cst (.int 9)))])] [], .ret (.bin .Add (.tup [(.cst (.str "worth"))]) (.sub (.var 1) (.call fi_law_take [(.ref 0), (.blt .len [(.var 1)])])))] [],
   .set 4 (.sub (.lst [(.cst (.str "sum")), (.cst (.str "less")), (.cst (.str "least")), (.cst (.str "greatest")), (.cst (.str "times")), (.cst (.str "rest")), (.cst (.str "pick"))]) (.bin .Sub (.var 3) (.cst (.int 3)))),
   .set 5 (.blt .tup [(.lc (.nm 6) .r1 [(.sub (.lst [(.cst (.int 2)), (.cst (.int 2)), (.cst (.int 2)), (.cst (.int 2)), (.cst (.int 1)), (.cst (.int 1)), (.cst (.int 3))]) (.bin .Sub (.var 3) (.cst (.int 3))))] [] (.call fi_law_formula [(.ref 0), (.var 1), (.bin .Sub (.var 2) (.cst (.int 1)))]))]),
   .ite (.cmp .Eq (.var 4) (.cst (.str "times"))) [.ret (.bin .Add (.tup [(.var 4), (.bin .Sub (.call fi_law_take [(.ref 0), (.cst (.int 7))]) (.cst (.int 3)))]) (.var 5))] [],
   .ite (.cmp .Eq (.var 4) (.cst (.str "rest"))) [.ret (.bin .Add (.tup [(.var 4), (.bin .Add (.cst (.int 1)) (.call fi_law_take [(.ref 0), (.cst (.int 7))]))]) (.var 5))] [],
   .ret (.bin .Add (.tup [(.var 4)]) (.var 5))]
def f_law_formula : MFn := ⟨[true, false, false], 7, b_law_formula⟩
def N_law_told : List PySem.Str := ["_law_signs", "_law_sign_here", "_law_parts_here", "_law_downs", "_law_ups", "_law_found_here", "_law_k", "_law_place", "_law_part"]
def b_law_told : List M.MS :=
  [.setT [(.nm 3), (.nm 4)] (.sub (.var 0) (.var 1)),
   .set 5 (.lc (.nm 6) .r1 [(.var 4)] [] (.tup [(.cst (.int 0)), (.bin .Add (.var 3) (.var 6))])),
   .forr (.tp [(.nm 7), (.nm 8)]) .en [(.var 2)] [.set 5 (.bin .Add (.var 5) (.lc (.nm 6) .r1 [(.sub (.sub (.var 0) (.var 8)) (.cst (.int 0)))] [] (.tup [(.bin .Add (.var 7) (.cst (.int 1))), (.var 6)])))],
   .ret (.var 5)]
def f_law_told : MFn := ⟨[false, false, false], 9, b_law_told⟩
def N_law_names : List PySem.Str := ["_law_signs", "_law_sign_here", "_law_parts_here", "_law_free", "_law_found_here", "_law_place", "_law_part", "_law_k", "_law_told_here", "_law_name"]
def b_law_names : List M.MS :=
  [.set 4 (.lst []),
   .forr (.tp [(.nm 5), (.nm 6)]) .en [(.bin .Add (.tup [(.var 1)]) (.var 2))] [.set 4 (.bin .Add (.var 4) (.lc (.nm 7) .r1 [(.blt .sum [(.sub (.var 0) (.var 6))])] [] (.tup [(.var 5), (.var 7)])))],
   .ite (.var 3) [.ret (.var 4)] [],
   .set 8 (.call fi_law_told [(.var 0), (.var 1), (.var 2)]),
   .ret (.lc (.nm 9) .ex [(.var 4)] [(.cmp .NotIn (.var 9) (.var 8))] (.var 9))]
def f_law_names : MFn := ⟨[false, false, false, false], 10, b_law_names⟩
def N_law_rule : List PySem.Str := ["_law_pile", "_law_signs", "_law_sign_here", "_law_most", "_law_free", "_law_parts_here", "_law_k", "_law_names_here", "_law_name"]
def b_law_rule : List M.MS :=
  [.set 5 (.blt .tup [(.lc (.nm 6) .r1 [(.call fi_law_take [(.ref 0), (.bin .Add (.var 3) (.cst (.int 1)))])] [] (.call fi_law_take [(.ref 0), (.blt .len [(.var 1)])]))]),
   .set 7 (.call fi_law_names [(.var 1), (.var 2), (.var 5), (.var 4)]),
   .ret (.tup [(.var 2), (.var 5), (.lc (.nm 8) .ex [(.call fi_law_told [(.var 1), (.var 2), (.var 5)])] [] (.call fi_law_formula [(.ref 0), (.var 7), (.cst (.int 2))]))])]
def f_law_rule : MFn := ⟨[true, false, false, false, false], 9, b_law_rule⟩
def N_law_book : List PySem.Str := ["_law_script", "_law_start", "_law_pile", "_law_signs", "_law_k", "_law_leaves", "_law_free", "_law_rules", "_law_own", "_law_sign_here", "_law_most"]
def b_law_book : List M.MS :=
  [.set 2 (.lst [(.call fi_law_cell [(.var 0), (.var 1)])]),
   .set 3 (.lc (.nm 4) .r1 [(.bin .Add (.cst (.int 1)) (.call fi_law_take [(.ref 2), (.cst (.int 4))]))] [] (.tup [(.call fi_law_take [(.ref 2), (.cst (.int 3))]), (.call fi_law_take [(.ref 2), (.cst (.int 3))])])),
   .set 5 (.cmp .Gt (.call fi_law_take [(.ref 2), (.cst (.int 4))]) (.cst (.int 0))),
   .set 6 (.cmp .Eq (.call fi_law_take [(.ref 2), (.cst (.int 4))]) (.cst (.int 0))),
   .set 7 (.lst []),
   .forr (.nm 4) .r1 [(.call fi_law_take [(.ref 2), (.cst (.int 9))])] [.set 8 (.lst [(.call fi_law_cell [(.var 0), (.bin .Add (.bin .Add (.var 1) (.cst (.int 1))) (.var 4))])]), .set 9 (.call fi_law_take [(.ref 8), (.blt .len [(.var 3)])]), .set 10 (.cst (.int 2)), .ite (.and (.var 5) (.cmp .Lt (.var 4) (.blt .len [(.var 3)]))) [.set 9 (.var 4), .set 10 (.cst (.int 0))] [], .mut 7 .append [(.call fi_law_rule [(.ref 8), (.var 3), (.var 9), (.var 10), (.var 6)])]],
   .ret (.tup [(.var 3), (.var 7)])]
def f_law_book : MFn := ⟨[false, false], 11, b_law_book⟩
def N_law_found : List PySem.Str := ["_law_formula_here", "_law_found_here", "_law_one"]
def b_law_found : List M.MS :=
  [.ite (.cmp .Eq (.sub (.var 0) (.cst (.int 0))) (.cst (.str "worth"))) [.ret (.lst [(.slc (.var 0) (some (.cst (.int 1))) none)])] [],
   .set 1 (.lst []),
   .forr (.nm 2) .ex [(.slc (.var 0) (some (.cst (.int 1))) none)] [.ite (.isi (.var 2) .tuple) [.set 1 (.bin .Add (.var 1) (.call fi_law_found [(.var 2)]))] []],
   .ret (.var 1)]
def f_law_found : MFn := ⟨[false], 3, b_law_found⟩
def N_law_parts : List PySem.Str := ["_law_thing", "_law_deep", "_law_words", "_law_way", "_law_own", "_law_one"]
def b_law_parts : List M.MS :=
  [.set 2 (.lst [(.cst (.str "sum")), (.cst (.str "less")), (.cst (.str "least")), (.cst (.str "greatest")), (.cst (.str "pick")), (.cst (.str "times")), (.cst (.str "rest")), (.cst (.str "num")), (.cst (.str "worth"))]),
   .ite (.or (.cmp .Gt (.var 1) (.cst (.int 4))) (.or (.not (.isi (.var 0) .tuple)) (.or (.cmp .Eq (.blt .len [(.var 0)]) (.cst (.int 0))) (.not (.isi (.sub (.var 0) (.cst (.int 0))) .str))))) [.ret (.cst (.int 99))] [],
   .ite (.or (.cmp .NotIn (.sub (.var 0) (.cst (.int 0))) (.var 2)) (.cmp .NotEq (.blt .len [(.var 0)]) (.sub (.lst [(.cst (.int 3)), (.cst (.int 3)), (.cst (.int 3)), (.cst (.int 3)), (.cst (.int 4)), (.cst (.int 3)), (.cst (.int 3)), (.cst (.int 2)), (.cst (.int 3))]) (.idx (.var 2) (.sub (.var 0) (.cst (.int 0))))))) [.ret (.cst (.int 99))] [],
   .set 3 (.idx (.var 2) (.sub (.var 0) (.cst (.int 0)))),
   .set 4 (.slc (.var 0) (some (.cst (.int 1))) (some (.sub (.lst [(.cst (.int 1)), (.cst (.int 1)), (.cst (.int 1)), (.cst (.int 1)), (.cst (.int 1)), (.cst (.int 2)), (.cst (.int 2)), (.cst (.int 2)), (.cst (.int 3))]) (.var 3)))),
   .ite (.cmp .Gt (.blt .len [(.lc (.nm 5) .ex [(.var 4)] [(.or (.not (.isi (.var 5) .int)) (.isi (.var 5) .bool))] (.var 5))]) (.cst (.int 0))) [.ret (.cst (.int 99))] [],
   .ite (.or (.and (.cmp .Eq (.var 3) (.cst (.int 5))) (.cmp .Gt (.blt .abs [(.sub (.var 0) (.cst (.int 1)))]) (.cst (.int 9999)))) (.and (.cmp .Eq (.var 3) (.cst (.int 6))) (.or (.cmp .Lt (.sub (.var 0) (.cst (.int 1))) (.cst (.int 1))) (.cmp .Gt (.sub (.var 0) (.cst (.int 1))) (.cst (.int 9999)))))) [.ret (.cst (.int 99))] [],
   .ite (.or (.and (.cmp .Eq (.var 3) (.cst (.int 7))) (.cmp .Gt (.blt .abs [(.sub (.var 0) (.cst (.int 1)))]) (.cst (.int 999999)))) (.and (.cmp .Eq (.var 3) (.cst (.int 8))) (.cmp .Lt (.blt .min1 [(.slc (.var 0) (some (.cst (.int 1))) none)]) (.cst (.int 0))))) [.ret (.cst (.int 99))] [],
   .ret (.bin .Add (.cst (.int 1)) (.blt .sum [(.lc (.nm 5) .ex [(.slc (.var 0) (some (.bin .Add (.cst (.int 1)) (.blt .len [(.var 4)]))) none)] [] (.call fi_law_parts [(.var 5), (.bin .Add (.var 1) (.cst (.int 1)))]))]))]
def f_law_parts : MFn := ⟨[false, false], 6, b_law_parts⟩
def N_law_sign : List PySem.Str := ["_law_thing", "_law_one"]
def b_law_sign : List M.MS :=
  [.ite (.or (.not (.isi (.var 0) .tuple)) (.cmp .NotEq (.blt .len [(.var 0)]) (.cst (.int 2)))) [.ret (.cst (.bool false))] [],
   .ret (.cmp .Eq (.blt .len [(.lc (.nm 1) .ex [(.var 0)] [(.or (.isi (.var 1) .bool) (.cmp .NotIn (.var 1) (.tup [(.cst (.int 0)), (.cst (.int 1)), (.cst (.int 2))])))] (.var 1))]) (.cst (.int 0)))]
def f_law_sign : MFn := ⟨[false], 2, b_law_sign⟩
def N_law_from : List PySem.Str := ["_law_thing", "_law_most"]
def b_law_from : List M.MS :=
  [.ret (.and (.isi (.var 0) .int) (.and (.not (.isi (.var 0) .bool)) (.and (.cmp .GtE (.var 0) (.cst (.int 0))) (.cmp .Lt (.var 0) (.var 1)))))]
def f_law_from : MFn := ⟨[false, false], 2, b_law_from⟩
def N_law_is_rule : List PySem.Str := ["_law_signs", "_law_thing", "_law_sign_here", "_law_parts_here", "_law_makings", "_law_part", "_law_names_here", "_law_making", "_law_name"]
def b_law_is_rule : List M.MS :=
  [.ite (.or (.not (.isi (.var 1) .tuple)) (.or (.cmp .NotEq (.blt .len [(.var 1)]) (.cst (.int 3))) (.not (.call fi_law_from [(.sub (.var 1) (.cst (.int 0))), (.blt .len [(.var 0)])])))) [.ret (.cst (.bool false))] [],
   .setT [(.nm 2), (.nm 3), (.nm 4)] (.var 1),
   .ite (.or (.not (.isi (.var 3) .tuple)) (.or (.cmp .Gt (.blt .len [(.var 3)]) (.cst (.int 2))) (.not (.isi (.var 4) .list)))) [.ret (.cst (.bool false))] [],
   .ite (.cmp .Gt (.blt .len [(.lc (.nm 5) .ex [(.var 3)] [(.not (.call fi_law_from [(.var 5), (.blt .len [(.var 0)])]))] (.var 5))]) (.cst (.int 0))) [.ret (.cst (.bool false))] [],
   .ite (.cmp .NotEq (.blt .len [(.var 4)]) (.blt .len [(.call fi_law_told [(.var 0), (.var 2), (.var 3)])])) [.ret (.cst (.bool false))] [],
   .set 6 (.call fi_law_names [(.var 0), (.var 2), (.var 3), (.cst (.bool true))]),
   .forr (.nm 7) .ex [(.var 4)] [.ite (.or (.cmp .Gt (.call fi_law_parts [(.var 7), (.cst (.int 1))]) (.cst (.int 15))) (.cmp .Gt (.blt .len [(.lc (.nm 8) .ex [(.call fi_law_found [(.var 7)])] [(.cmp .NotIn (.var 8) (.var 6))] (.var 8))]) (.cst (.int 0)))) [.ret (.cst (.bool false))] []],
   .ret (.cst (.bool true))]
def f_law_is_rule : MFn := ⟨[false, false], 9, b_law_is_rule⟩
def N_law_is_book : List PySem.Str := ["_law_thing", "_law_signs", "_law_rules", "_law_one", "_law_rule_here"]
def b_law_is_book : List M.MS :=
  [.ite (.or (.not (.isi (.var 0) .tuple)) (.cmp .NotEq (.blt .len [(.var 0)]) (.cst (.int 2)))) [.ret (.cst (.bool false))] [],
   .ite (.or (.not (.isi (.sub (.var 0) (.cst (.int 0))) .list)) (.not (.isi (.sub (.var 0) (.cst (.int 1))) .list))) [.ret (.cst (.bool false))] [],
   .setT [(.nm 1), (.nm 2)] (.var 0),
   .ite (.or (.cmp .Lt (.blt .len [(.var 1)]) (.cst (.int 1))) (.or (.cmp .Gt (.blt .len [(.var 1)]) (.cst (.int 4))) (.cmp .Gt (.blt .len [(.var 2)]) (.cst (.int 8))))) [.ret (.cst (.bool false))] [],
   .ite (.cmp .Gt (.blt .len [(.lc (.nm 3) .ex [(.var 1)] [(.not (.call fi_law_sign [(.var 3)]))] (.var 3))]) (.cst (.int 0))) [.ret (.cst (.bool false))] [],
   .ret (.cmp .Eq (.blt .len [(.lc (.nm 4) .ex [(.var 2)] [(.not (.call fi_law_is_rule [(.var 1), (.var 4)]))] (.var 4))]) (.cst (.int 0)))]
def f_law_is_book : MFn := ⟨[false], 5, b_law_is_book⟩
def N_law_bent_rule : List PySem.Str := ["_law_pile", "_law_signs", "_law_rule_here", "_law_sign_here", "_law_parts_here", "_law_makings", "_law_some", "_law_odd", "_law_at", "_law_one"]
def b_law_bent_rule : List M.MS :=
  [.setT [(.nm 3), (.nm 4), (.nm 5)] (.var 2),
   .set 6 (.lst [(.cst .none), (.blt .lst [(.var 2)]), (.bin .Add (.var 2) (.tup [(.cst (.int 0))])), (.slc (.var 2) none (some (.cst (.int 2)))), (.tup [(.blt .len [(.var 1)]), (.var 4), (.var 5)]), (.tup [(.cst (.bool true)), (.var 4), (.var 5)])]),
   .set 6 (.bin .Add (.var 6) (.lst [(.tup [(.var 3), (.blt .lst [(.var 4)]), (.var 5)]), (.tup [(.var 3), (.bin .Add (.var 4) (.tup [(.cst (.int 0)), (.cst (.int 0)), (.cst (.int 0))])), (.var 5)]), (.tup [(.var 3), (.var 4), (.blt .tup [(.var 5)])])])),
   .set 6 (.bin .Add (.var 6) (.lst [(.tup [(.var 3), (.var 4), (.bin .Add (.var 5) (.lst [(.tup [(.cst (.str "num")), (.cst (.int 0))])]))]), (.tup [(.var 3), (.var 4), (.slc (.var 5) (some (.cst (.int 1))) none)]), (.tup [(.neg (.cst (.int 1))), (.var 4), (.var 5)])])),
   .set 6 (.bin .Add (.var 6) (.lst [(.tup [(.var 3), (.bin .Add (.slc (.var 4) none (some (.neg (.cst (.int 1))))) (.tup [(.blt .len [(.var 1)])])), (.var 5)]), (.tup [(.var 3), (.bin .Add (.var 4) (.tup [(.cst (.int 0))])), (.var 5)])])),
   .set 6 (.bin .Add (.var 6) (.lst [(.tup [(.var 3), (.bin .Add (.tup [(.neg (.cst (.int 1)))]) (.slc (.var 4) (some (.cst (.int 1))) none)), (.var 5)]), (.tup [(.var 3), (.bin .Add (.slc (.var 4) none (some (.neg (.cst (.int 1))))) (.tup [(.neg (.cst (.int 1)))])), (.var 5)]), (.tup [(.var 3), (.tup [(.cst (.bool true))]), (.var 5)])])),
   .set 6 (.bin .Add (.var 6) (.lst [(.tup [(.var 3), (.bin .Add (.tup [(.cst (.bool false))]) (.slc (.var 4) (some (.cst (.int 1))) none)), (.var 5)]), (.tup [(.var 3), (.bin .Add (.tup [(.cst .none)]) (.slc (.var 4) (some (.cst (.int 1))) none)), (.var 5)])])),
   .set 7 (.lst [(.tup [(.cst (.str "worth")), (.cst (.int 3)), (.cst (.int 0))]), (.tup [(.cst (.str "worth")), (.cst (.int 0)), (.blt .sum [(.sub (.var 1) (.var 3))])]), (.tup [(.cst (.str "worth")), (.bin .Add (.blt .len [(.var 4)]) (.cst (.int 1))), (.cst (.int 0))]), (.tup [(.cst (.str "num")), (.cst (.str "0"))]), (.cst .none)]),
   .set 7 (.bin .Add (.var 7) (.lst [(.tup [(.cst (.str "num")), (.cst (.bool true))]), (.tup [(.cst (.str "num")), (.cst (.int 0))]), (.tup [(.cst (.str "worth")), (.blt .len [(.var 4)]), (.cst (.int 0))]), (.tup [(.cst (.str "sum")), (.tup [(.cst (.str "num")), (.cst (.int 1))]), (.tup [(.cst (.str "worth")), (.cst (.int 0)), (.cst (.int 0))])])])),
   .set 7 (.bin .Add (.var 7) (.lst [(.tup [(.cst (.str "times")), (.bin .Pow (.cst (.int 10)) (.cst (.int 4))), (.tup [(.cst (.str "num")), (.cst (.int 1))])]), (.tup [(.cst (.str "times")), (.neg (.bin .Pow (.cst (.int 10)) (.cst (.int 4)))), (.tup [(.cst (.str "num")), (.cst (.int 1))])]), (.tup [(.cst (.str "rest")), (.cst (.bool true)), (.tup [(.cst (.str "num")), (.cst (.int 1))])]), (.tup [(.lst []), (.cst (.int 1))])])),
   .set 8 (.call fi_law_take [(.ref 0), (.blt .max2 [(.cst (.int 1)), (.blt .len [(.var 5)])])]),
   .forr (.nm 9) .ex [(.var 7)] [.mut 6 .append [(.tup [(.var 3), (.var 4), (.bin .Add (.bin .Add (.slc (.var 5) none (some (.var 8))) (.lst [(.var 9)])) (.slc (.var 5) (some (.bin .Add (.var 8) (.cst (.int 1)))) none))])]],
   .ret (.sub (.var 6) (.call fi_law_take [(.ref 0), (.blt .len [(.var 6)])]))]
def f_law_bent_rule : MFn := ⟨[true, false, false], 10, b_law_bent_rule⟩
def N_law_bent_book : List PySem.Str := ["_law_pile", "_law_book_here", "_law_signs", "_law_rules", "_law_way", "_law_at", "_law_odd", "_law_sign_here", "_law_some"]
def b_law_bent_book : List M.MS :=
  [.setT [(.nm 2), (.nm 3)] (.var 1),
   .set 4 (.call fi_law_take [(.ref 0), (.cst (.int 4))]),
   .ite (.and (.cmp .Lt (.var 4) (.cst (.int 2))) (.cmp .NotEq (.var 3) (.lst []))) [.set 5 (.call fi_law_take [(.ref 0), (.blt .len [(.var 3)])]), .ret (.tup [(.var 2), (.bin .Add (.bin .Add (.slc (.var 3) none (some (.var 5))) (.lst [(.call fi_law_bent_rule [(.ref 0), (.var 2), (.sub (.var 3) (.var 5))])])) (.slc (.var 3) (some (.bin .Add (.var 5) (.cst (.int 1)))) none))])] [],
   .ite (.cmp .Eq (.var 4) (.cst (.int 2))) [.set 5 (.call fi_law_take [(.ref 0), (.blt .len [(.var 2)])]), .set 6 (.lst [(.tup [(.cst (.int 3)), (.cst (.int 0))]), (.tup [(.cst (.int 0)), (.neg (.cst (.int 1)))]), (.tup [(.cst (.bool true)), (.cst (.int 1))]), (.lst [(.cst (.int 1)), (.cst (.int 1))]), (.tup [(.cst (.int 1))]), (.tup [(.cst (.int 1)), (.cst (.int 1)), (.cst (.int 1))]), (.cst .none), (.tup [(.cst (.int 1)), (.cst (.int 0))]), (.tup [(.cst (.int 0)), (.cst (.int 2))]), (.tup [(.cst (.int 2)), (.cst (.int 2))])]), .set 6 (.bin .Add (.var 6) (.lst [(.tup [(.cst (.int 1)), (.cst (.bool true))]), (.tup [(.cst (.int 0)), (.cst (.bool false))]), (.tup [(.cst (.int 0)), (.cst (.int 3))]), (.tup [(.cst (.int 1)), (.cst .none)]), (.tup [(.cst (.bool false)), (.cst (.int 0))])])), .set 7 (.sub (.var 6) (.call fi_law_take [(.ref 0), (.cst (.int 15))])), .ret (.tup [(.bin .Add (.bin .Add (.slc (.var 2) none (some (.var 5))) (.lst [(.var 7)])) (.slc (.var 2) (some (.bin .Add (.var 5) (.cst (.int 1)))) none)), (.var 3)])] [],
   .set 8 (.lst [(.lst [(.var 2), (.var 3)]), (.tup [(.var 2)]), (.tup [(.var 2), (.var 3), (.lst [])]), (.tup [(.blt .tup [(.var 2)]), (.var 3)]), (.tup [(.var 2), (.blt .tup [(.var 3)])]), (.tup [(.var 3), (.var 2)])]),
   .set 8 (.bin .Add (.var 8) (.lst [(.tup [(.lst []), (.lst [])]), (.tup [(.bin .Add (.var 2) (.lst [(.tup [(.cst (.int 0)), (.cst (.int 0))])])), (.var 3)]), (.tup [(.slc (.var 2) none (some (.neg (.cst (.int 1))))), (.var 3)]), (.tup [(.var 2), (.bin .Mult (.var 3) (.cst (.int 9)))]), (.tup [(.bin .Mult (.var 2) (.cst (.int 5))), (.var 3)])])),
   .set 8 (.bin .Add (.var 8) (.lst [(.cst .none), (.tup [(.var 2), (.bin .Add (.var 3) (.lst [(.cst .none)]))]), (.cst (.str "book")), (.tup [(.var 2), (.cst .none)]), (.tup [(.var 2), (.rev (.var 3))])])),
   .ret (.sub (.var 8) (.call fi_law_take [(.ref 0), (.cst (.int 16))]))]
def f_law_bent_book : MFn := ⟨[true, false], 9, b_law_bent_book⟩
def N_law : List PySem.Str := ["_law_script", "_law_book_here", "_law_some", "_law_sign_here", "_law_parts_here", "_law_k", "_law_thing", "_law_kept", "_law_found_here"]
def b_law : List M.MS :=
  [.set 1 (.call fi_law_book [(.var 0), (.cst (.int 0))]),
   .set 2 (.lst [(.var 1), (.tup [(.sub (.var 1) (.cst (.int 0))), (.lst [])]), (.tup [(.lst [(.tup [(.cst (.int 0)), (.cst (.int 0))])]), (.lst [])]), (.cst .none), (.cst (.bool true)), (.cst (.int 5)), (.lst []), (.tup []), (.tup [(.lst [(.tup [(.cst (.int 2)), (.cst (.int 2))])]), (.lst [(.tup [(.cst (.int 0)), (.tup []), (.lst [(.tup [(.cst (.str "num")), (.cst (.int 1))]), (.tup [(.cst (.str "num")), (.cst (.int 2))])])])])])]),
   .forr (.nm 3) .ex [(.lst [(.tup [(.cst (.int 0)), (.cst (.bool true))]), (.tup [(.cst (.bool false)), (.cst (.int 0))]), (.tup [(.cst (.int 0)), (.cst (.int 3))]), (.tup [(.cst (.int 0)), (.neg (.cst (.int 1)))])])] [.mut 2 .append [(.tup [(.lst [(.var 3)]), (.lst [])])]],
   .forr (.nm 4) .ex [(.lst [(.tup [(.neg (.cst (.int 1)))]), (.tup [(.cst (.bool false))]), (.tup [(.cst (.int 0)), (.cst (.bool true))]), (.tup [(.cst .none)]), (.tup [(.cst (.int 1))]), (.tup [(.cst (.int 0)), (.cst (.int 0))])])] [.mut 2 .append [(.tup [(.lst [(.tup [(.cst (.int 0)), (.cst (.int 0))])]), (.lst [(.tup [(.cst (.int 0)), (.var 4), (.lst [])])])])]],
   .forr (.nm 5) .r1 [(.cst (.int 8))] [.mut 2 .append [(.calln fi_law_bent_book [(.nw (.lst [(.call fi_law_cell [(.var 0), (.bin .Add (.cst (.int 9)) (.var 5))])])), (.var 1)])]],
   .forr (.nm 6) .ex [(.var 2)] [.set 7 (.blt .repr [(.var 6)]), .set 8 (.call fi_is_book [(.var 6)]), .ite (.or (.not (.isi (.var 8) .bool)) (.or (.cmp .NotEq (.var 8) (.call fi_law_is_book [(.var 6)])) (.cmp .NotEq (.blt .repr [(.var 6)]) (.var 7)))) [.ret (.cst (.bool false))] []],
   .ret (.cst (.bool true))]
def f_law : MFn := ⟨[false], 9, b_law⟩
def F : List MFn := [f_is_number, f_numbers_fit, f_inner_of, f_deep_of, f_is_formula, f_names_in, f_is_from, f_is_sign, f_worths_of_place, f_names_told, f_is_making, f_is_rule, f_is_book, f_law_mixed, f_law_cell, f_law_take, f_law_formula, f_law_told, f_law_names, f_law_rule, f_law_book, f_law_found, f_law_parts, f_law_sign, f_law_from, f_law_is_rule, f_law_is_book, f_law_bent_rule, f_law_bent_book, f_law]
def kv_WORDS : List (PySem.Str × Int) := [("sum", 2), ("less", 2), ("least", 2), ("greatest", 2), ("pick", 3), ("times", 1), ("rest", 1), ("num", 0), ("worth", 0)]
def G : List PyData := [(.int 15), (.int 4), (.dict (kvD kv_WORDS)), (.int 4), (.int 8), (.int 2), (.int 2)]
theorem gv_MOST_PARTS_formulas : G[gi_MOST_PARTS_formulas]? = some (.int 15) := rfl
theorem gv_MOST_DEEP_formulas : G[gi_MOST_DEEP_formulas]? = some (.int 4) := rfl
theorem gv_WORDS : G[gi_WORDS]? = some (.dict (kvD kv_WORDS)) := rfl
theorem gv_MOST_SIGNS : G[gi_MOST_SIGNS]? = some (.int 4) := rfl
theorem gv_MOST_RULES : G[gi_MOST_RULES]? = some (.int 8) := rfl
theorem gv_MOST_WORTHS : G[gi_MOST_WORTHS]? = some (.int 2) := rfl
theorem gv_MOST_PARTS_books : G[gi_MOST_PARTS_books]? = some (.int 2) := rfl
abbrev rw0 : PySem.W.OpenLaw := PySem.Challenge.rw_updownworths_k07_what_is_a_book
def top (i : Nat) : Stmt := rw0.prog.main.body.getD i (.Pass ⟨0, 0, 0, 0⟩)
def dd (x : PySem.Str) (i : Nat) : He.DefD := ⟨(x, none), x, x, defArgs (top i), defBody (top i), defScope (top i), [], []⟩
def fn : List He.DefD := [dd "is_number" 4, dd "numbers_fit" 5, dd "inner_of" 6, dd "deep_of" 7, dd "is_formula" 8, dd "names_in" 9, dd "is_from" 15, dd "is_sign" 16, dd "worths_of_place" 17, dd "names_told" 18, dd "is_making" 19, dd "is_rule" 20, dd "is_book" 21, dd "_law_mixed" 23, dd "_law_cell" 24, dd "_law_take" 25, dd "_law_formula" 26, dd "_law_told" 27, dd "_law_names" 28, dd "_law_rule" 29, dd "_law_book" 30, dd "_law_found" 31, dd "_law_parts" 32, dd "_law_sign" 33, dd "_law_from" 34, dd "_law_is_rule" 35, dd "_law_is_book" 36, dd "_law_bent_rule" 37, dd "_law_bent_book" 38, dd "law" 39]
def fa : List He.Fa := [.glo "is_number", .glo "numbers_fit", .glo "inner_of", .glo "deep_of", .glo "is_formula", .glo "names_in", .glo "is_from", .glo "is_sign", .glo "worths_of_place", .glo "names_told", .glo "is_making", .glo "is_rule", .glo "is_book", .glo "_law_mixed", .glo "_law_cell", .glo "_law_take", .glo "_law_formula", .glo "_law_told", .glo "_law_names", .glo "_law_rule", .glo "_law_book", .glo "_law_found", .glo "_law_parts", .glo "_law_sign", .glo "_law_from", .glo "_law_is_rule", .glo "_law_is_book", .glo "_law_bent_rule", .glo "_law_bent_book", .glo "law", .free "len", .free "abs", .free "sum", .free "all", .free "any", .free "min", .free "max", .free "list", .free "tuple", .free "isinstance", .free "sorted", .free "set", .free "range", .free "enumerate", .free "zip", .free "int", .free "bool", .free "str", .free "repr", .free "dict", .int "MOST_PARTS_formulas" 15, .int "MOST_DEEP" 4, .glo "WORDS", .int "MOST_SIGNS" 4, .int "MOST_RULES" 8, .int "MOST_WORTHS" 2, .int "MOST_PARTS_books" 2, .free "ValueError"]
def ts : List He.Tab := [(fun K => He.ga K "WORDS", kv_WORDS.map (·.1))]
def ca (K : PySem.W.Frag) (c : Nat) : Addr :=  0
def ex (K : PySem.W.Frag) : Bool := He.valsB K (He.ga K "WORDS") (kvV kv_WORDS) && xcB K (ca K) 0
abbrev R : PySem.W.OpenRow := PySem.W.OpenLaw.row rw0
abbrev hk : PySem.W.Hook := He.hookX 5 fa fn ts [] ex
def ob (s : PySem.W.SharedT) : He.AlX := He.obsX 5 fa fn ts [] ex (HandSHeadRun.getT s)
theorem ob_eq (s : PySem.W.SharedT) : ob s = hk.obs s.abs := He.obsX_eq (HandSHeadRun.getT_eq s)
def loose : List PySem.Str := [("__name__" : PySem.Str), ("MOST_PARTS_formulas" : PySem.Str), ("MOST_DEEP" : PySem.Str), ("WORDS" : PySem.Str), ("is_number" : PySem.Str), ("numbers_fit" : PySem.Str), ("inner_of" : PySem.Str), ("deep_of" : PySem.Str), ("is_formula" : PySem.Str), ("names_in" : PySem.Str), ("MOST_SIGNS" : PySem.Str), ("MOST_RULES" : PySem.Str), ("MOST_WORTHS" : PySem.Str), ("MOST_PARTS_books" : PySem.Str), ("is_from" : PySem.Str), ("is_sign" : PySem.Str), ("worths_of_place" : PySem.Str), ("names_told" : PySem.Str), ("is_making" : PySem.Str), ("is_rule" : PySem.Str), ("is_book" : PySem.Str), ("_law_mixed" : PySem.Str), ("_law_cell" : PySem.Str), ("_law_take" : PySem.Str), ("_law_formula" : PySem.Str), ("_law_told" : PySem.Str), ("_law_names" : PySem.Str), ("_law_rule" : PySem.Str), ("_law_book" : PySem.Str), ("_law_found" : PySem.Str), ("_law_parts" : PySem.Str), ("_law_sign" : PySem.Str), ("_law_from" : PySem.Str), ("_law_is_rule" : PySem.Str), ("_law_is_book" : PySem.Str), ("_law_bent_rule" : PySem.Str), ("_law_bent_book" : PySem.Str)]
theorem run_f (w : World) : HandSHeadRun.RunEq R (PySem.W.view R.prog [39]) hk ob 20000 loose (w.withFollow "special-get-raises" false) := by
  intro os
  kernel_rfl
theorem run_t (w : World) : HandSHeadRun.RunEq R (PySem.W.view R.prog [39]) hk ob 20000 loose (w.withFollow "special-get-raises" true) := by
  intro os
  kernel_rfl
theorem run (w : World) : HandSHeadRun.RunEq R (PySem.W.view R.prog [39]) hk ob 20000 loose w := PySem.W.byRow2 "special-get-raises" (P := fun w => HandSHeadRun.RunEq R (PySem.W.view R.prog [39]) hk ob 20000 loose w) run_f run_t w
def wd (w : World) (K : PySem.W.Frag) : Wd := ⟨K, fun a kvs => (a = He.ga K "WORDS" ∧ kvs = kvD kv_WORDS), ca K, 0, w, fun a kvs e => by obtain ⟨rfl, rfl⟩ := e; exact kv_nt (by simp [kv_WORDS]), fun a kvs e => by obtain ⟨rfl, rfl⟩ := e; exact kv_nsp _⟩
theorem ex_of {K : PySem.W.Frag} (h : ex K = true) : He.valsB K (He.ga K "WORDS") (kvV kv_WORDS) = true ∧ xcB K (ca K) 0 = true := by
  unfold ex at h
  simp only [Bool.and_eq_true] at h
  exact h
section
variable {w : World} {K : PySem.W.Frag} {h : Heap} {mg : PySem.Str → Option Value}
theorem d_is_number (X : K.In h) (Gm : h.Ns mainGlobals mg) (c : He.SaysX fa fn ts [] ex w h K) {fd : FuncData} (Fl : FunD K "is_number" "is_number" (defArgs (top 4)) (defBody (top 4)) (defScope (top 4)) [] [] (He.ga K "is_number") fd) : DefAt K mg nm F 0 "is_number" [false] (He.ga K "is_number") fd ["thing"] :=
  defAt_of (fn := f_is_number) (N := N_is_number) (n := 60) (He.glo_ok X Gm (c.t.d.fact 0 (f := .glo "is_number") rfl)) Fl (fun _ _ _ _ _ _ us hl => match us, hl with | [_], _ => rfl) (by decide +kernel) rfl rfl rfl rfl (by kernel_rfl)
theorem d_numbers_fit (X : K.In h) (Gm : h.Ns mainGlobals mg) (c : He.SaysX fa fn ts [] ex w h K) {fd : FuncData} (Fl : FunD K "numbers_fit" "numbers_fit" (defArgs (top 5)) (defBody (top 5)) (defScope (top 5)) [] [] (He.ga K "numbers_fit") fd) : DefAt K mg nm F 1 "numbers_fit" [false] (He.ga K "numbers_fit") fd ["thing"] :=
  defAt_of (fn := f_numbers_fit) (N := N_numbers_fit) (n := 60) (He.glo_ok X Gm (c.t.d.fact 1 (f := .glo "numbers_fit") rfl)) Fl (fun _ _ _ _ _ _ us hl => match us, hl with | [_], _ => rfl) (by decide +kernel) rfl rfl rfl rfl (by kernel_rfl)
theorem d_inner_of (X : K.In h) (Gm : h.Ns mainGlobals mg) (c : He.SaysX fa fn ts [] ex w h K) {fd : FuncData} (Fl : FunD K "inner_of" "inner_of" (defArgs (top 6)) (defBody (top 6)) (defScope (top 6)) [] [] (He.ga K "inner_of") fd) : DefAt K mg nm F 2 "inner_of" [false] (He.ga K "inner_of") fd ["formula"] :=
  defAt_of (fn := f_inner_of) (N := N_inner_of) (n := 60) (He.glo_ok X Gm (c.t.d.fact 2 (f := .glo "inner_of") rfl)) Fl (fun _ _ _ _ _ _ us hl => match us, hl with | [_], _ => rfl) (by decide +kernel) rfl rfl rfl rfl (by kernel_rfl)
theorem d_deep_of (X : K.In h) (Gm : h.Ns mainGlobals mg) (c : He.SaysX fa fn ts [] ex w h K) {fd : FuncData} (Fl : FunD K "deep_of" "deep_of" (defArgs (top 7)) (defBody (top 7)) (defScope (top 7)) [] [] (He.ga K "deep_of") fd) : DefAt K mg nm F 3 "deep_of" [false, false] (He.ga K "deep_of") fd ["thing", "deep"] :=
  defAt_of (fn := f_deep_of) (N := N_deep_of) (n := 60) (He.glo_ok X Gm (c.t.d.fact 3 (f := .glo "deep_of") rfl)) Fl (fun _ _ _ _ _ _ us hl => match us, hl with | [_, _], _ => rfl) (by decide +kernel) rfl rfl rfl rfl (by kernel_rfl)
theorem d_is_formula (X : K.In h) (Gm : h.Ns mainGlobals mg) (c : He.SaysX fa fn ts [] ex w h K) {fd : FuncData} (Fl : FunD K "is_formula" "is_formula" (defArgs (top 8)) (defBody (top 8)) (defScope (top 8)) [] [] (He.ga K "is_formula") fd) : DefAt K mg nm F 4 "is_formula" [false] (He.ga K "is_formula") fd ["thing"] :=
  defAt_of (fn := f_is_formula) (N := N_is_formula) (n := 60) (He.glo_ok X Gm (c.t.d.fact 4 (f := .glo "is_formula") rfl)) Fl (fun _ _ _ _ _ _ us hl => match us, hl with | [_], _ => rfl) (by decide +kernel) rfl rfl rfl rfl (by kernel_rfl)
theorem d_names_in (X : K.In h) (Gm : h.Ns mainGlobals mg) (c : He.SaysX fa fn ts [] ex w h K) {fd : FuncData} (Fl : FunD K "names_in" "names_in" (defArgs (top 9)) (defBody (top 9)) (defScope (top 9)) [] [] (He.ga K "names_in") fd) : DefAt K mg nm F 5 "names_in" [false] (He.ga K "names_in") fd ["formula"] :=
  defAt_of (fn := f_names_in) (N := N_names_in) (n := 60) (He.glo_ok X Gm (c.t.d.fact 5 (f := .glo "names_in") rfl)) Fl (fun _ _ _ _ _ _ us hl => match us, hl with | [_], _ => rfl) (by decide +kernel) rfl rfl rfl rfl (by kernel_rfl)
theorem d_is_from (X : K.In h) (Gm : h.Ns mainGlobals mg) (c : He.SaysX fa fn ts [] ex w h K) {fd : FuncData} (Fl : FunD K "is_from" "is_from" (defArgs (top 15)) (defBody (top 15)) (defScope (top 15)) [] [] (He.ga K "is_from") fd) : DefAt K mg nm F 6 "is_from" [false, false, false] (He.ga K "is_from") fd ["thing", "low", "high"] :=
  defAt_of (fn := f_is_from) (N := N_is_from) (n := 60) (He.glo_ok X Gm (c.t.d.fact 6 (f := .glo "is_from") rfl)) Fl (fun _ _ _ _ _ _ us hl => match us, hl with | [_, _, _], _ => rfl) (by decide +kernel) rfl rfl rfl rfl (by kernel_rfl)
theorem d_is_sign (X : K.In h) (Gm : h.Ns mainGlobals mg) (c : He.SaysX fa fn ts [] ex w h K) {fd : FuncData} (Fl : FunD K "is_sign" "is_sign" (defArgs (top 16)) (defBody (top 16)) (defScope (top 16)) [] [] (He.ga K "is_sign") fd) : DefAt K mg nm F 7 "is_sign" [false] (He.ga K "is_sign") fd ["thing"] :=
  defAt_of (fn := f_is_sign) (N := N_is_sign) (n := 60) (He.glo_ok X Gm (c.t.d.fact 7 (f := .glo "is_sign") rfl)) Fl (fun _ _ _ _ _ _ us hl => match us, hl with | [_], _ => rfl) (by decide +kernel) rfl rfl rfl rfl (by kernel_rfl)
theorem d_worths_of_place (X : K.In h) (Gm : h.Ns mainGlobals mg) (c : He.SaysX fa fn ts [] ex w h K) {fd : FuncData} (Fl : FunD K "worths_of_place" "worths_of_place" (defArgs (top 17)) (defBody (top 17)) (defScope (top 17)) [] [] (He.ga K "worths_of_place") fd) : DefAt K mg nm F 8 "worths_of_place" [false, false, false] (He.ga K "worths_of_place") fd ["signs", "rule", "place"] :=
  defAt_of (fn := f_worths_of_place) (N := N_worths_of_place) (n := 60) (He.glo_ok X Gm (c.t.d.fact 8 (f := .glo "worths_of_place") rfl)) Fl (fun _ _ _ _ _ _ us hl => match us, hl with | [_, _, _], _ => rfl) (by decide +kernel) rfl rfl rfl rfl (by kernel_rfl)
theorem d_names_told (X : K.In h) (Gm : h.Ns mainGlobals mg) (c : He.SaysX fa fn ts [] ex w h K) {fd : FuncData} (Fl : FunD K "names_told" "names_told" (defArgs (top 18)) (defBody (top 18)) (defScope (top 18)) [] [] (He.ga K "names_told") fd) : DefAt K mg nm F 9 "names_told" [false, false] (He.ga K "names_told") fd ["signs", "rule"] :=
  defAt_of (fn := f_names_told) (N := N_names_told) (n := 60) (He.glo_ok X Gm (c.t.d.fact 9 (f := .glo "names_told") rfl)) Fl (fun _ _ _ _ _ _ us hl => match us, hl with | [_, _], _ => rfl) (by decide +kernel) rfl rfl rfl rfl (by kernel_rfl)
theorem d_is_making (X : K.In h) (Gm : h.Ns mainGlobals mg) (c : He.SaysX fa fn ts [] ex w h K) {fd : FuncData} (Fl : FunD K "is_making" "is_making" (defArgs (top 19)) (defBody (top 19)) (defScope (top 19)) [] [] (He.ga K "is_making") fd) : DefAt K mg nm F 10 "is_making" [false, false, false] (He.ga K "is_making") fd ["signs", "rule", "thing"] :=
  defAt_of (fn := f_is_making) (N := N_is_making) (n := 60) (He.glo_ok X Gm (c.t.d.fact 10 (f := .glo "is_making") rfl)) Fl (fun _ _ _ _ _ _ us hl => match us, hl with | [_, _, _], _ => rfl) (by decide +kernel) rfl rfl rfl rfl (by kernel_rfl)
theorem d_is_rule (X : K.In h) (Gm : h.Ns mainGlobals mg) (c : He.SaysX fa fn ts [] ex w h K) {fd : FuncData} (Fl : FunD K "is_rule" "is_rule" (defArgs (top 20)) (defBody (top 20)) (defScope (top 20)) [] [] (He.ga K "is_rule") fd) : DefAt K mg nm F 11 "is_rule" [false, false] (He.ga K "is_rule") fd ["signs", "thing"] :=
  defAt_of (fn := f_is_rule) (N := N_is_rule) (n := 60) (He.glo_ok X Gm (c.t.d.fact 11 (f := .glo "is_rule") rfl)) Fl (fun _ _ _ _ _ _ us hl => match us, hl with | [_, _], _ => rfl) (by decide +kernel) rfl rfl rfl rfl (by kernel_rfl)
theorem d_is_book (X : K.In h) (Gm : h.Ns mainGlobals mg) (c : He.SaysX fa fn ts [] ex w h K) {fd : FuncData} (Fl : FunD K "is_book" "is_book" (defArgs (top 21)) (defBody (top 21)) (defScope (top 21)) [] [] (He.ga K "is_book") fd) : DefAt K mg nm F 12 "is_book" [false] (He.ga K "is_book") fd ["thing"] :=
  defAt_of (fn := f_is_book) (N := N_is_book) (n := 60) (He.glo_ok X Gm (c.t.d.fact 12 (f := .glo "is_book") rfl)) Fl (fun _ _ _ _ _ _ us hl => match us, hl with | [_], _ => rfl) (by decide +kernel) rfl rfl rfl rfl (by kernel_rfl)
theorem d_law_mixed (X : K.In h) (Gm : h.Ns mainGlobals mg) (c : He.SaysX fa fn ts [] ex w h K) {fd : FuncData} (Fl : FunD K "_law_mixed" "_law_mixed" (defArgs (top 23)) (defBody (top 23)) (defScope (top 23)) [] [] (He.ga K "_law_mixed") fd) : DefAt K mg nm F 13 "_law_mixed" [false, false] (He.ga K "_law_mixed") fd ["_law_cell_here", "_law_k"] :=
  defAt_of (fn := f_law_mixed) (N := N_law_mixed) (n := 60) (He.glo_ok X Gm (c.t.d.fact 13 (f := .glo "_law_mixed") rfl)) Fl (fun _ _ _ _ _ _ us hl => match us, hl with | [_, _], _ => rfl) (by decide +kernel) rfl rfl rfl rfl (by kernel_rfl)
theorem d_law_cell (X : K.In h) (Gm : h.Ns mainGlobals mg) (c : He.SaysX fa fn ts [] ex w h K) {fd : FuncData} (Fl : FunD K "_law_cell" "_law_cell" (defArgs (top 24)) (defBody (top 24)) (defScope (top 24)) [] [] (He.ga K "_law_cell") fd) : DefAt K mg nm F 14 "_law_cell" [false, false] (He.ga K "_law_cell") fd ["_law_script", "_law_k"] :=
  defAt_of (fn := f_law_cell) (N := N_law_cell) (n := 60) (He.glo_ok X Gm (c.t.d.fact 14 (f := .glo "_law_cell") rfl)) Fl (fun _ _ _ _ _ _ us hl => match us, hl with | [_, _], _ => rfl) (by decide +kernel) rfl rfl rfl rfl (by kernel_rfl)
theorem d_law_take (X : K.In h) (Gm : h.Ns mainGlobals mg) (c : He.SaysX fa fn ts [] ex w h K) {fd : FuncData} (Fl : FunD K "_law_take" "_law_take" (defArgs (top 25)) (defBody (top 25)) (defScope (top 25)) [] [] (He.ga K "_law_take") fd) : DefAt K mg nm F 15 "_law_take" [true, false] (He.ga K "_law_take") fd ["_law_pile", "_law_size"] :=
  defAt_of (fn := f_law_take) (N := N_law_take) (n := 60) (He.glo_ok X Gm (c.t.d.fact 15 (f := .glo "_law_take") rfl)) Fl (fun _ _ _ _ _ _ us hl => match us, hl with | [_, _], _ => rfl) (by decide +kernel) rfl rfl rfl rfl (by kernel_rfl)
theorem d_law_formula (X : K.In h) (Gm : h.Ns mainGlobals mg) (c : He.SaysX fa fn ts [] ex w h K) {fd : FuncData} (Fl : FunD K "_law_formula" "_law_formula" (defArgs (top 26)) (defBody (top 26)) (defScope (top 26)) [] [] (He.ga K "_law_formula") fd) : DefAt K mg nm F 16 "_law_formula" [true, false, false] (He.ga K "_law_formula") fd ["_law_pile", "_law_names_here", "_law_deep"] :=
  defAt_of (fn := f_law_formula) (N := N_law_formula) (n := 60) (He.glo_ok X Gm (c.t.d.fact 16 (f := .glo "_law_formula") rfl)) Fl (fun _ _ _ _ _ _ us hl => match us, hl with | [_, _, _], _ => rfl) (by decide +kernel) rfl rfl rfl rfl (by kernel_rfl)
theorem d_law_told (X : K.In h) (Gm : h.Ns mainGlobals mg) (c : He.SaysX fa fn ts [] ex w h K) {fd : FuncData} (Fl : FunD K "_law_told" "_law_told" (defArgs (top 27)) (defBody (top 27)) (defScope (top 27)) [] [] (He.ga K "_law_told") fd) : DefAt K mg nm F 17 "_law_told" [false, false, false] (He.ga K "_law_told") fd ["_law_signs", "_law_sign_here", "_law_parts_here"] :=
  defAt_of (fn := f_law_told) (N := N_law_told) (n := 60) (He.glo_ok X Gm (c.t.d.fact 17 (f := .glo "_law_told") rfl)) Fl (fun _ _ _ _ _ _ us hl => match us, hl with | [_, _, _], _ => rfl) (by decide +kernel) rfl rfl rfl rfl (by kernel_rfl)
theorem d_law_names (X : K.In h) (Gm : h.Ns mainGlobals mg) (c : He.SaysX fa fn ts [] ex w h K) {fd : FuncData} (Fl : FunD K "_law_names" "_law_names" (defArgs (top 28)) (defBody (top 28)) (defScope (top 28)) [] [] (He.ga K "_law_names") fd) : DefAt K mg nm F 18 "_law_names" [false, false, false, false] (He.ga K "_law_names") fd ["_law_signs", "_law_sign_here", "_law_parts_here", "_law_free"] :=
  defAt_of (fn := f_law_names) (N := N_law_names) (n := 60) (He.glo_ok X Gm (c.t.d.fact 18 (f := .glo "_law_names") rfl)) Fl (fun _ _ _ _ _ _ us hl => match us, hl with | [_, _, _, _], _ => rfl) (by decide +kernel) rfl rfl rfl rfl (by kernel_rfl)
theorem d_law_rule (X : K.In h) (Gm : h.Ns mainGlobals mg) (c : He.SaysX fa fn ts [] ex w h K) {fd : FuncData} (Fl : FunD K "_law_rule" "_law_rule" (defArgs (top 29)) (defBody (top 29)) (defScope (top 29)) [] [] (He.ga K "_law_rule") fd) : DefAt K mg nm F 19 "_law_rule" [true, false, false, false, false] (He.ga K "_law_rule") fd ["_law_pile", "_law_signs", "_law_sign_here", "_law_most", "_law_free"] :=
  defAt_of (fn := f_law_rule) (N := N_law_rule) (n := 60) (He.glo_ok X Gm (c.t.d.fact 19 (f := .glo "_law_rule") rfl)) Fl (fun _ _ _ _ _ _ us hl => match us, hl with | [_, _, _, _, _], _ => rfl) (by decide +kernel) rfl rfl rfl rfl (by kernel_rfl)
theorem d_law_book (X : K.In h) (Gm : h.Ns mainGlobals mg) (c : He.SaysX fa fn ts [] ex w h K) {fd : FuncData} (Fl : FunD K "_law_book" "_law_book" (defArgs (top 30)) (defBody (top 30)) (defScope (top 30)) [] [] (He.ga K "_law_book") fd) : DefAt K mg nm F 20 "_law_book" [false, false] (He.ga K "_law_book") fd ["_law_script", "_law_start"] :=
  defAt_of (fn := f_law_book) (N := N_law_book) (n := 60) (He.glo_ok X Gm (c.t.d.fact 20 (f := .glo "_law_book") rfl)) Fl (fun _ _ _ _ _ _ us hl => match us, hl with | [_, _], _ => rfl) (by decide +kernel) rfl rfl rfl rfl (by kernel_rfl)
theorem d_law_found (X : K.In h) (Gm : h.Ns mainGlobals mg) (c : He.SaysX fa fn ts [] ex w h K) {fd : FuncData} (Fl : FunD K "_law_found" "_law_found" (defArgs (top 31)) (defBody (top 31)) (defScope (top 31)) [] [] (He.ga K "_law_found") fd) : DefAt K mg nm F 21 "_law_found" [false] (He.ga K "_law_found") fd ["_law_formula_here"] :=
  defAt_of (fn := f_law_found) (N := N_law_found) (n := 60) (He.glo_ok X Gm (c.t.d.fact 21 (f := .glo "_law_found") rfl)) Fl (fun _ _ _ _ _ _ us hl => match us, hl with | [_], _ => rfl) (by decide +kernel) rfl rfl rfl rfl (by kernel_rfl)
theorem d_law_parts (X : K.In h) (Gm : h.Ns mainGlobals mg) (c : He.SaysX fa fn ts [] ex w h K) {fd : FuncData} (Fl : FunD K "_law_parts" "_law_parts" (defArgs (top 32)) (defBody (top 32)) (defScope (top 32)) [] [] (He.ga K "_law_parts") fd) : DefAt K mg nm F 22 "_law_parts" [false, false] (He.ga K "_law_parts") fd ["_law_thing", "_law_deep"] :=
  defAt_of (fn := f_law_parts) (N := N_law_parts) (n := 60) (He.glo_ok X Gm (c.t.d.fact 22 (f := .glo "_law_parts") rfl)) Fl (fun _ _ _ _ _ _ us hl => match us, hl with | [_, _], _ => rfl) (by decide +kernel) rfl rfl rfl rfl (by kernel_rfl)
theorem d_law_sign (X : K.In h) (Gm : h.Ns mainGlobals mg) (c : He.SaysX fa fn ts [] ex w h K) {fd : FuncData} (Fl : FunD K "_law_sign" "_law_sign" (defArgs (top 33)) (defBody (top 33)) (defScope (top 33)) [] [] (He.ga K "_law_sign") fd) : DefAt K mg nm F 23 "_law_sign" [false] (He.ga K "_law_sign") fd ["_law_thing"] :=
  defAt_of (fn := f_law_sign) (N := N_law_sign) (n := 60) (He.glo_ok X Gm (c.t.d.fact 23 (f := .glo "_law_sign") rfl)) Fl (fun _ _ _ _ _ _ us hl => match us, hl with | [_], _ => rfl) (by decide +kernel) rfl rfl rfl rfl (by kernel_rfl)
theorem d_law_from (X : K.In h) (Gm : h.Ns mainGlobals mg) (c : He.SaysX fa fn ts [] ex w h K) {fd : FuncData} (Fl : FunD K "_law_from" "_law_from" (defArgs (top 34)) (defBody (top 34)) (defScope (top 34)) [] [] (He.ga K "_law_from") fd) : DefAt K mg nm F 24 "_law_from" [false, false] (He.ga K "_law_from") fd ["_law_thing", "_law_most"] :=
  defAt_of (fn := f_law_from) (N := N_law_from) (n := 60) (He.glo_ok X Gm (c.t.d.fact 24 (f := .glo "_law_from") rfl)) Fl (fun _ _ _ _ _ _ us hl => match us, hl with | [_, _], _ => rfl) (by decide +kernel) rfl rfl rfl rfl (by kernel_rfl)
theorem d_law_is_rule (X : K.In h) (Gm : h.Ns mainGlobals mg) (c : He.SaysX fa fn ts [] ex w h K) {fd : FuncData} (Fl : FunD K "_law_is_rule" "_law_is_rule" (defArgs (top 35)) (defBody (top 35)) (defScope (top 35)) [] [] (He.ga K "_law_is_rule") fd) : DefAt K mg nm F 25 "_law_is_rule" [false, false] (He.ga K "_law_is_rule") fd ["_law_signs", "_law_thing"] :=
  defAt_of (fn := f_law_is_rule) (N := N_law_is_rule) (n := 60) (He.glo_ok X Gm (c.t.d.fact 25 (f := .glo "_law_is_rule") rfl)) Fl (fun _ _ _ _ _ _ us hl => match us, hl with | [_, _], _ => rfl) (by decide +kernel) rfl rfl rfl rfl (by kernel_rfl)
theorem d_law_is_book (X : K.In h) (Gm : h.Ns mainGlobals mg) (c : He.SaysX fa fn ts [] ex w h K) {fd : FuncData} (Fl : FunD K "_law_is_book" "_law_is_book" (defArgs (top 36)) (defBody (top 36)) (defScope (top 36)) [] [] (He.ga K "_law_is_book") fd) : DefAt K mg nm F 26 "_law_is_book" [false] (He.ga K "_law_is_book") fd ["_law_thing"] :=
  defAt_of (fn := f_law_is_book) (N := N_law_is_book) (n := 60) (He.glo_ok X Gm (c.t.d.fact 26 (f := .glo "_law_is_book") rfl)) Fl (fun _ _ _ _ _ _ us hl => match us, hl with | [_], _ => rfl) (by decide +kernel) rfl rfl rfl rfl (by kernel_rfl)
theorem d_law_bent_rule (X : K.In h) (Gm : h.Ns mainGlobals mg) (c : He.SaysX fa fn ts [] ex w h K) {fd : FuncData} (Fl : FunD K "_law_bent_rule" "_law_bent_rule" (defArgs (top 37)) (defBody (top 37)) (defScope (top 37)) [] [] (He.ga K "_law_bent_rule") fd) : DefAt K mg nm F 27 "_law_bent_rule" [true, false, false] (He.ga K "_law_bent_rule") fd ["_law_pile", "_law_signs", "_law_rule_here"] :=
  defAt_of (fn := f_law_bent_rule) (N := N_law_bent_rule) (n := 60) (He.glo_ok X Gm (c.t.d.fact 27 (f := .glo "_law_bent_rule") rfl)) Fl (fun _ _ _ _ _ _ us hl => match us, hl with | [_, _, _], _ => rfl) (by decide +kernel) rfl rfl rfl rfl (by kernel_rfl)
theorem d_law_bent_book (X : K.In h) (Gm : h.Ns mainGlobals mg) (c : He.SaysX fa fn ts [] ex w h K) {fd : FuncData} (Fl : FunD K "_law_bent_book" "_law_bent_book" (defArgs (top 38)) (defBody (top 38)) (defScope (top 38)) [] [] (He.ga K "_law_bent_book") fd) : DefAt K mg nm F 28 "_law_bent_book" [true, false] (He.ga K "_law_bent_book") fd ["_law_pile", "_law_book_here"] :=
  defAt_of (fn := f_law_bent_book) (N := N_law_bent_book) (n := 60) (He.glo_ok X Gm (c.t.d.fact 28 (f := .glo "_law_bent_book") rfl)) Fl (fun _ _ _ _ _ _ us hl => match us, hl with | [_, _], _ => rfl) (by decide +kernel) rfl rfl rfl rfl (by kernel_rfl)
theorem d_law (X : K.In h) (Gm : h.Ns mainGlobals mg) (c : He.SaysX fa fn ts [] ex w h K) {fd : FuncData} (Fl : FunD K "law" "law" (defArgs (top 39)) (defBody (top 39)) (defScope (top 39)) [] [] (He.ga K "law") fd) : DefAt K mg nm F 29 "law" [false] (He.ga K "law") fd ["_law_script"] :=
  defAt_of (fn := f_law) (N := N_law) (n := 60) (He.glo_ok X Gm (c.t.d.fact 29 (f := .glo "law") rfl)) Fl (fun _ _ _ _ _ _ us hl => match us, hl with | [_], _ => rfl) (by decide +kernel) rfl rfl rfl rfl (by kernel_rfl)
theorem md (X : K.In h) (Gm : h.Ns mainGlobals mg) (c : He.SaysX fa fn ts [] ex w h K) : Md w K mg nm F G (wd w K) where
  kk := rfl
  ww := rfl
  dk := fun a kvs e X eK ew => by
    obtain ⟨rfl, rfl⟩ := e
    refine dk_of (by simp [kv_WORDS]) ?_ (ex_of c.more).1 X eK ew
    have e := congrArg (fun z : He.AlT => z.2) c.t
    exact List.head_eq_of_cons_eq e
  xc := xc_of (W := wd w K) (ex_of c.more).2
  nc := rfl
  vgl := He.free_ok X Gm (c.t.d.fact 57 (f := .free "ValueError") rfl)
  clg := fun j x b e => by
    match j, e with
    | j + 0, e => cases e
  gls := fun j x e => by
    match j, e with
    | 0, e => cases e; obtain ⟨t, e⟩ := He.int_ok X Gm (c.t.d.fact 50 (f := .int "MOST_PARTS_formulas" 15) rfl); exact ⟨_, _, .int 15, rfl, e, ⟨t, rfl⟩, fun H A => by simp only [Rep]⟩
    | 1, e => cases e; obtain ⟨t, e⟩ := He.int_ok X Gm (c.t.d.fact 51 (f := .int "MOST_DEEP" 4) rfl); exact ⟨_, _, .int 4, rfl, e, ⟨t, rfl⟩, fun H A => by simp only [Rep]⟩
    | 2, e => cases e; exact ⟨_, _, .ref (He.ga K "WORDS"), rfl, He.glo_ok X Gm (c.t.d.fact 52 (f := .glo "WORDS") rfl), rfl, fun H A => by simp only [Rep]; exact ⟨_, rfl, .inl ⟨rfl, rfl⟩⟩⟩
    | 3, e => cases e; obtain ⟨t, e⟩ := He.int_ok X Gm (c.t.d.fact 53 (f := .int "MOST_SIGNS" 4) rfl); exact ⟨_, _, .int 4, rfl, e, ⟨t, rfl⟩, fun H A => by simp only [Rep]⟩
    | 4, e => cases e; obtain ⟨t, e⟩ := He.int_ok X Gm (c.t.d.fact 54 (f := .int "MOST_RULES" 8) rfl); exact ⟨_, _, .int 8, rfl, e, ⟨t, rfl⟩, fun H A => by simp only [Rep]⟩
    | 5, e => cases e; obtain ⟨t, e⟩ := He.int_ok X Gm (c.t.d.fact 55 (f := .int "MOST_WORTHS" 2) rfl); exact ⟨_, _, .int 2, rfl, e, ⟨t, rfl⟩, fun H A => by simp only [Rep]⟩
    | 6, e => cases e; obtain ⟨t, e⟩ := He.int_ok X Gm (c.t.d.fact 56 (f := .int "MOST_PARTS_books" 2) rfl); exact ⟨_, _, .int 2, rfl, e, ⟨t, rfl⟩, fun H A => by simp only [Rep]⟩
    | j + 7, e => cases e
  cls := fun j x e => by
    match j, e with
    | j + 0, e => cases e
  blt := fun x hx => by
    simp only [bltNames, List.mem_cons, List.not_mem_nil, or_false] at hx
    rcases hx with rfl | rfl | rfl | rfl | rfl | rfl | rfl | rfl | rfl | rfl | rfl | rfl | rfl | rfl | rfl | rfl | rfl | rfl | rfl | rfl
    · exact He.free_ok X Gm (c.t.d.fact 30 (f := .free "len") rfl)
    · exact He.free_ok X Gm (c.t.d.fact 31 (f := .free "abs") rfl)
    · exact He.free_ok X Gm (c.t.d.fact 32 (f := .free "sum") rfl)
    · exact He.free_ok X Gm (c.t.d.fact 33 (f := .free "all") rfl)
    · exact He.free_ok X Gm (c.t.d.fact 34 (f := .free "any") rfl)
    · exact He.free_ok X Gm (c.t.d.fact 35 (f := .free "min") rfl)
    · exact He.free_ok X Gm (c.t.d.fact 36 (f := .free "max") rfl)
    · exact He.free_ok X Gm (c.t.d.fact 37 (f := .free "list") rfl)
    · exact He.free_ok X Gm (c.t.d.fact 38 (f := .free "tuple") rfl)
    · exact He.free_ok X Gm (c.t.d.fact 39 (f := .free "isinstance") rfl)
    · exact He.free_ok X Gm (c.t.d.fact 40 (f := .free "sorted") rfl)
    · exact He.free_ok X Gm (c.t.d.fact 41 (f := .free "set") rfl)
    · exact He.free_ok X Gm (c.t.d.fact 42 (f := .free "range") rfl)
    · exact He.free_ok X Gm (c.t.d.fact 43 (f := .free "enumerate") rfl)
    · exact He.free_ok X Gm (c.t.d.fact 44 (f := .free "zip") rfl)
    · exact He.free_ok X Gm (c.t.d.fact 45 (f := .free "int") rfl)
    · exact He.free_ok X Gm (c.t.d.fact 46 (f := .free "bool") rfl)
    · exact He.free_ok X Gm (c.t.d.fact 47 (f := .free "str") rfl)
    · exact He.free_ok X Gm (c.t.d.fact 48 (f := .free "repr") rfl)
    · exact He.free_ok X Gm (c.t.d.fact 49 (f := .free "dict") rfl)
  defs := fun f x refs e => by
    obtain ⟨fd0, F0⟩ := c.t.d.def_ 0 (d := dd "is_number" 4) rfl
    obtain ⟨fd1, F1⟩ := c.t.d.def_ 1 (d := dd "numbers_fit" 5) rfl
    obtain ⟨fd2, F2⟩ := c.t.d.def_ 2 (d := dd "inner_of" 6) rfl
    obtain ⟨fd3, F3⟩ := c.t.d.def_ 3 (d := dd "deep_of" 7) rfl
    obtain ⟨fd4, F4⟩ := c.t.d.def_ 4 (d := dd "is_formula" 8) rfl
    obtain ⟨fd5, F5⟩ := c.t.d.def_ 5 (d := dd "names_in" 9) rfl
    obtain ⟨fd6, F6⟩ := c.t.d.def_ 6 (d := dd "is_from" 15) rfl
    obtain ⟨fd7, F7⟩ := c.t.d.def_ 7 (d := dd "is_sign" 16) rfl
    obtain ⟨fd8, F8⟩ := c.t.d.def_ 8 (d := dd "worths_of_place" 17) rfl
    obtain ⟨fd9, F9⟩ := c.t.d.def_ 9 (d := dd "names_told" 18) rfl
    obtain ⟨fd10, F10⟩ := c.t.d.def_ 10 (d := dd "is_making" 19) rfl
    obtain ⟨fd11, F11⟩ := c.t.d.def_ 11 (d := dd "is_rule" 20) rfl
    obtain ⟨fd12, F12⟩ := c.t.d.def_ 12 (d := dd "is_book" 21) rfl
    obtain ⟨fd13, F13⟩ := c.t.d.def_ 13 (d := dd "_law_mixed" 23) rfl
    obtain ⟨fd14, F14⟩ := c.t.d.def_ 14 (d := dd "_law_cell" 24) rfl
    obtain ⟨fd15, F15⟩ := c.t.d.def_ 15 (d := dd "_law_take" 25) rfl
    obtain ⟨fd16, F16⟩ := c.t.d.def_ 16 (d := dd "_law_formula" 26) rfl
    obtain ⟨fd17, F17⟩ := c.t.d.def_ 17 (d := dd "_law_told" 27) rfl
    obtain ⟨fd18, F18⟩ := c.t.d.def_ 18 (d := dd "_law_names" 28) rfl
    obtain ⟨fd19, F19⟩ := c.t.d.def_ 19 (d := dd "_law_rule" 29) rfl
    obtain ⟨fd20, F20⟩ := c.t.d.def_ 20 (d := dd "_law_book" 30) rfl
    obtain ⟨fd21, F21⟩ := c.t.d.def_ 21 (d := dd "_law_found" 31) rfl
    obtain ⟨fd22, F22⟩ := c.t.d.def_ 22 (d := dd "_law_parts" 32) rfl
    obtain ⟨fd23, F23⟩ := c.t.d.def_ 23 (d := dd "_law_sign" 33) rfl
    obtain ⟨fd24, F24⟩ := c.t.d.def_ 24 (d := dd "_law_from" 34) rfl
    obtain ⟨fd25, F25⟩ := c.t.d.def_ 25 (d := dd "_law_is_rule" 35) rfl
    obtain ⟨fd26, F26⟩ := c.t.d.def_ 26 (d := dd "_law_is_book" 36) rfl
    obtain ⟨fd27, F27⟩ := c.t.d.def_ 27 (d := dd "_law_bent_rule" 37) rfl
    obtain ⟨fd28, F28⟩ := c.t.d.def_ 28 (d := dd "_law_bent_book" 38) rfl
    obtain ⟨fd29, F29⟩ := c.t.d.def_ 29 (d := dd "law" 39) rfl
    have := AllD.get (K := K) (mg := mg) (nm := nm) (F := F) (i := 0) (l := nm.fns) ⟨⟨_, _, _, d_is_number X Gm c F0⟩, ⟨_, _, _, d_numbers_fit X Gm c F1⟩, ⟨_, _, _, d_inner_of X Gm c F2⟩, ⟨_, _, _, d_deep_of X Gm c F3⟩, ⟨_, _, _, d_is_formula X Gm c F4⟩, ⟨_, _, _, d_names_in X Gm c F5⟩, ⟨_, _, _, d_is_from X Gm c F6⟩, ⟨_, _, _, d_is_sign X Gm c F7⟩, ⟨_, _, _, d_worths_of_place X Gm c F8⟩, ⟨_, _, _, d_names_told X Gm c F9⟩, ⟨_, _, _, d_is_making X Gm c F10⟩, ⟨_, _, _, d_is_rule X Gm c F11⟩, ⟨_, _, _, d_is_book X Gm c F12⟩, ⟨_, _, _, d_law_mixed X Gm c F13⟩, ⟨_, _, _, d_law_cell X Gm c F14⟩, ⟨_, _, _, d_law_take X Gm c F15⟩, ⟨_, _, _, d_law_formula X Gm c F16⟩, ⟨_, _, _, d_law_told X Gm c F17⟩, ⟨_, _, _, d_law_names X Gm c F18⟩, ⟨_, _, _, d_law_rule X Gm c F19⟩, ⟨_, _, _, d_law_book X Gm c F20⟩, ⟨_, _, _, d_law_found X Gm c F21⟩, ⟨_, _, _, d_law_parts X Gm c F22⟩, ⟨_, _, _, d_law_sign X Gm c F23⟩, ⟨_, _, _, d_law_from X Gm c F24⟩, ⟨_, _, _, d_law_is_rule X Gm c F25⟩, ⟨_, _, _, d_law_is_book X Gm c F26⟩, ⟨_, _, _, d_law_bent_rule X Gm c F27⟩, ⟨_, _, _, d_law_bent_book X Gm c F28⟩, ⟨_, _, _, d_law X Gm c F29⟩, trivial⟩ f x refs e
    rwa [Nat.zero_add] at this
end
theorem holds {k : Nat} (hk1 : Room (k + 1) callerA) (eq : ∀ ns : List Int, ns.length ≤ 63 → callF F G (k + 1) fi_law [.v (.list (ns.map PyData.int))] = .ok ⟨.bool true, false, []⟩) : rw0.Holds := by
  w_on; o_law
  refine HandSHeadRun.head_any (r := PySem.W.OpenLaw.row rw0) (q := PySem.W.view (PySem.W.OpenLaw.row rw0).prog [39]) (H := hk) (ob := ob) (M := 20000) (loose := loose) (d := HandSHeadRun.topDef (PySem.W.OpenLaw.row rw0).prog 39) (kwd := []) ob_eq
    (by kernel_rfl) (fun s => by kernel_rfl) run (by kernel_rfl) (by kernel_rfl) (by kernel_rfl) (by rfl) (by first | assumption | decide +kernel) (by decide +kernel) ⟨rfl, rfl, rfl, rfl, rfl, by decide +kernel⟩ ?hw ?hc
  case hw => w_witness2
  case hc =>
    refine walk_M (l := rw0) (n := 63) (k := k + 1) (x := "_law_script") rfl (by decide) (by kernel_rfl) hk1 ?F
    intro w mg fa h Y Gm hmg0
    obtain ⟨K, KX, c⟩ := Y
    have hmg : mg ("law" : PySem.Str) = some (.ref fa) := by
      have e : (HandSHeadRun.topDef (PySem.W.OpenLaw.row rw0).prog 39).name = ("law" : PySem.Str) := by kernel_rfl
      rw [← e]
      exact hmg0
    have e := hmg.symm.trans (He.glo_ok KX Gm (c.t.d.fact 29 (f := .glo "law") rfl))
    cases e
    obtain ⟨fd, Fl⟩ := c.t.d.def_ 29 (d := dd "law" 39) rfl
    have b := FunD.bindsA (ps := ["_law_script"]) Fl fun _ _ _ _ _ _ us hl => match us, hl with | [_], _ => rfl
    exact ⟨K, fd, _, KX, fun s u => b s [u] rfl, fun H a ns hl hS => sp_law (W := wd w K) (Nat.le_trans hl (by decide)) hS (eq ns hl), fun base _ _ => fn_at (md KX Gm c) (d_law KX Gm c Fl) (fns_ok (md KX Gm c) k)⟩
end K07
/-! the equations of the evaluator, for simp (printed) -/
namespace M.EVS
open PySem M
@[simp] def e1 := @M.rbind_ok
@[simp] def e2 := @M.rbind_exc
@[simp] def e3 := @M.rbind_stuck
@[simp] def e4 := @M.ofO_some
@[simp] def e5 := @M.ofO_none
@[simp] def e6 := @M.seqS_nx
@[simp] def e7 := @M.seqS_rt
@[simp] def e8 := @M.seqS_exc
@[simp] def e9 := @M.lcNext_E
@[simp] def e10 := @M.lcStep_ok
@[simp] def e11 := @M.lcCons_ok
@[simp] def e12 := @M.foNext_E
@[simp] def e13 := @M.ssNext_E
@[simp] def e14 := @M.evSs_nil
@[simp] def e15 := @M.evSs_cons
@[simp] def e16 := @M.x_var
@[simp] def e17 := @M.x_cst
@[simp] def e18 := @M.x_glo
@[simp] def e19 := @M.x_bin
@[simp] def e20 := @M.y_bin
@[simp] def e21 := @M.x_neg
@[simp] def e22 := @M.x_not
@[simp] def e23 := @M.x_and
@[simp] def e24 := @M.y_and
@[simp] def e25 := @M.z_and
@[simp] def e26 := @M.x_or
@[simp] def e27 := @M.y_or
@[simp] def e28 := @M.z_or
@[simp] def e29 := @M.x_cmp
@[simp] def e30 := @M.y_cmp
@[simp] def e31 := @M.x_chn
@[simp] def e32 := @M.y_chn
@[simp] def e33 := @M.z_chn
@[simp] def e34 := @M.w_chnT
@[simp] def e35 := @M.w_chnF
@[simp] def e36 := @M.x_ife
@[simp] def e37 := @M.y_ife
@[simp] def e38 := @M.z_ife
@[simp] def e39 := @M.x_call
@[simp] def e40 := @M.x_blt
@[simp] def e41 := @M.x_isi
@[simp] def e42 := @M.x_sub
@[simp] def e43 := @M.y_sub
@[simp] def e44 := @M.x_slc
@[simp] def e45 := @M.y_slc
@[simp] def e46 := @M.z_slc
@[simp] def e47 := @M.x_rev
@[simp] def e48 := @M.x_pop
@[simp] def e49 := @M.popD.eq_1
@[simp] def e50 := @M.popD.eq_2
@[simp] def e51 := @M.popD.eq_3
@[simp] def e52 := @M.x_idx
@[simp] def e53 := @M.y_idx
@[simp] def e54 := @M.z_idx
@[simp] def e55 := @M.g_c19
@[simp] def e56 := @M.g_c20
@[simp] def e57 := @M.x_tup
@[simp] def e58 := @M.x_lst
@[simp] def e59 := @M.x_dic0
@[simp] def e60 := @M.x_dic1
@[simp] def e61 := @M.y_dic1
@[simp] def e62 := @M.z_dic1
@[simp] def e63 := @M.w_dic1
@[simp] def e64 := @M.x_get1
@[simp] def e65 := @M.y_get1
@[simp] def e66 := @M.z_get1
@[simp] def e67 := @M.x_get2
@[simp] def e68 := @M.y_get2
@[simp] def e69 := @M.z_get2
@[simp] def e70 := @M.w_get2
@[simp] def e71 := @M.v_get2
@[simp] def e72 := @M.g_d0
@[simp] def e73 := @M.g_d1
@[simp] def e74 := @M.g_d2
@[simp] def e75 := @M.g_d3
@[simp] def e76 := @M.tupDic.eq_1
@[simp] def e77 := @M.tupDic.eq_2
@[simp] def e78 := @M.a_nil
@[simp] def e79 := @M.a_cons
@[simp] def e80 := @M.a_cons1
@[simp] def e81 := @M.a_cons2
@[simp] def e82 := @M.e_nil
@[simp] def e83 := @M.e_cons
@[simp] def e84 := @M.e_cons1
@[simp] def e85 := @M.g_nil
@[simp] def e86 := @M.g_ref
@[simp] def e87 := @M.g_c0
@[simp] def e88 := @M.g_c1
@[simp] def e89 := @M.g_c2
@[simp] def e90 := @M.g_c3
@[simp] def e91 := @M.g_c4
@[simp] def e92 := @M.g_c5
@[simp] def e93 := @M.g_c6
@[simp] def e94 := @M.g_c7
@[simp] def e95 := @M.g_c8
@[simp] def e96 := @M.g_c9
@[simp] def e97 := @M.g_c10
@[simp] def e98 := @M.g_c11
@[simp] def e99 := @M.g_c12
@[simp] def e100 := @M.g_c13
@[simp] def e101 := @M.g_c14
@[simp] def e102 := @M.g_c15
@[simp] def e103 := @M.g_c16
@[simp] def e104 := @M.g_c17
@[simp] def e105 := @M.g_c18
@[simp] def e106 := @M.g_cons1
@[simp] def e107 := @M.g_cons2
@[simp] def e108 := @M.o_none
@[simp] def e109 := @M.o_some
@[simp] def e110 := @M.c_nil
@[simp] def e111 := @M.c_cons
@[simp] def e112 := @M.c_cons1
@[simp] def e113 := @M.c_cons2
@[simp] def e114 := @M.t_E
@[simp] def e115 := @M.truW_E
@[simp] def e116 := @M.rdAll_nil
@[simp] def e117 := @M.rdAll_cons
@[simp] def e118 := @M.lcEnd_ok
@[simp] def e119 := @M.turn_E
@[simp] def e120 := @M.turn_E1
@[simp] def e121 := @M.turn_E2
@[simp] def e122 := @M.turn_E3
@[simp] def e123 := @M.x_lc
@[simp] def e124 := @M.y_lc
@[simp] def e125 := @M.z_lc
@[simp] def e126 := @M.s_for
@[simp] def e127 := @M.s_for1
@[simp] def e128 := @M.s_for2
@[simp] def e129 := @M.fturn_E
@[simp] def e130 := @M.fturn_E1
@[simp] def e131 := @M.unlR_ok
@[simp] def e132 := @M.s_nop
@[simp] def e133 := @M.s_set
@[simp] def e134 := @M.s_setT
@[simp] def e135 := @M.s_setI
@[simp] def e136 := @M.s_setI1
@[simp] def e137 := @M.s_mut
@[simp] def e138 := @M.s_ext
@[simp] def e139 := @M.s_expr
@[simp] def e140 := @M.s_ret
@[simp] def e141 := @M.s_retN
@[simp] def e142 := @M.s_ite
@[simp] def e143 := @M.s_ite1
@[simp] def e144 := @M.s_rais
@[simp] def e145 := @List.zip_nil_left
@[simp] def e146 := @M.s_try
@[simp] def e147 := @M.tr_ok
@[simp] def e148 := @M.tr_exc
@[simp] def e149 := @M.ct_keep
@[simp] def e150 := @M.ct_non
@[simp] def e151 := @M.x_isx
@[simp] def e152 := @M.x_xtup
@[simp] def e153 := @M.xl_nil
@[simp] def e154 := @M.xl_cons
@[simp] def e155 := @M.xl_cons1
@[simp] def e156 := @M.xl_cons2
@[simp] def e157 := @M.g_x0
@[simp] def e158 := @M.g_x1
@[simp] def e159 := @M.excX_D
@[simp] def e160 := @M.excOf_D
@[simp] def e161 := @M.bt_xt
@[simp] def e162 := @M.isn_x
@[simp] def e163 := @M.is_x
@[simp] def e164 := @M.subX.eq_1
@[simp] def e165 := @M.subX.eq_2
@[simp] def e166 := @M.callEnd_ok
@[simp] def e167 := @M.callEnd_exc
@[simp] def e168 := @M.callAt_E
@[simp] def e169 := @M.callAt_E1
@[simp] def e170 := @M.retOf.eq_1
@[simp] def e171 := @M.retOf.eq_2
@[simp] def e172 := @M.retOf.eq_3
@[simp] def e173 := @M.retOf.eq_4
@[simp] def e174 := @M.rfs.eq_1
@[simp] def e175 := @M.rfs.eq_2
@[simp] def e176 := @M.rfs.eq_3
@[simp] def e177 := @M.rfs.eq_4
@[simp] def e178 := @M.startE.eq_1
@[simp] def e179 := @M.slotOf.eq_1
@[simp] def e180 := @M.slotOf.eq_2
@[simp] def e181 := @M.isR.eq_1
@[simp] def e182 := @M.isR.eq_2
@[simp] def e183 := @M.refsOf.eq_1
@[simp] def e184 := @M.refsOf.eq_2
@[simp] def e185 := @M.refsOf.eq_3
@[simp] def e186 := @M.argsAt.eq_1
@[simp] def e187 := @M.argsAt.eq_2
@[simp] def e188 := @M.argsAt.eq_3
@[simp] def e189 := @M.putRefs.eq_1
@[simp] def e190 := @M.putRefs.eq_2
@[simp] def e191 := @M.putRefs.eq_3
@[simp] def e192 := @M.fzv.eq_1
@[simp] def e193 := @M.fzv.eq_2
@[simp] def e194 := @M.fzn.eq_1
@[simp] def e195 := @M.rdv.eq_1
@[simp] def e196 := @M.rdv.eq_2
@[simp] def e197 := @M.setS.eq_1
@[simp] def e198 := @M.fr_none
@[simp] def e199 := @M.fr_sh
@[simp] def e200 := @M.fr_ow
@[simp] def e201 := @M.fr_rf
@[simp] def e202 := @M.fr_ln
@[simp] def e203 := @M.bt_nm
@[simp] def e204 := @M.bt_tp
@[simp] def e205 := @M.bts_nil
@[simp] def e206 := @M.bts_cons
@[simp] def e207 := @M.MT.vars.eq_1
@[simp] def e208 := @M.MT.vars.eq_2
@[simp] def e209 := @M.MT.varsL.eq_1
@[simp] def e210 := @M.MT.varsL.eq_2
@[simp] def e211 := @M.mutS.eq_1
@[simp] def e212 := @M.ownS.eq_1
@[simp] def e213 := @M.ownS.eq_2
@[simp] def e214 := @M.ownS.eq_3
@[simp] def e215 := @M.ownL.eq_1
@[simp] def e216 := @M.ownL.eq_2
@[simp] def e217 := @M.ownL.eq_3
@[simp] def e218 := @M.isd_int_none
@[simp] def e219 := @M.isd_int_bool
@[simp] def e220 := @M.isd_int_int
@[simp] def e221 := @M.isd_int_str
@[simp] def e222 := @M.isd_int_list
@[simp] def e223 := @M.isd_int_tuple
@[simp] def e224 := @M.isd_bool_none
@[simp] def e225 := @M.isd_bool_bool
@[simp] def e226 := @M.isd_bool_int
@[simp] def e227 := @M.isd_bool_str
@[simp] def e228 := @M.isd_bool_list
@[simp] def e229 := @M.isd_bool_tuple
@[simp] def e230 := @M.isd_str_none
@[simp] def e231 := @M.isd_str_bool
@[simp] def e232 := @M.isd_str_int
@[simp] def e233 := @M.isd_str_str
@[simp] def e234 := @M.isd_str_list
@[simp] def e235 := @M.isd_str_tuple
@[simp] def e236 := @M.isd_tuple_none
@[simp] def e237 := @M.isd_tuple_bool
@[simp] def e238 := @M.isd_tuple_int
@[simp] def e239 := @M.isd_tuple_str
@[simp] def e240 := @M.isd_tuple_list
@[simp] def e241 := @M.isd_tuple_tuple
@[simp] def e242 := @M.isd_list_none
@[simp] def e243 := @M.isd_list_bool
@[simp] def e244 := @M.isd_list_int
@[simp] def e245 := @M.isd_list_str
@[simp] def e246 := @M.isd_list_list
@[simp] def e247 := @M.isd_list_tuple
@[simp] def e248 := @M.isd_int_d
@[simp] def e249 := @M.isd_bool_d
@[simp] def e250 := @M.isd_str_d
@[simp] def e251 := @M.isd_list_d
@[simp] def e252 := @M.isd_tuple_d0
@[simp] def e253 := @M.isd_tuple_ds
@[simp] def e254 := @M.isd_tuple_di
@[simp] def e255 := @M.isd_tuple_dt
@[simp] def e256 := @M.eqOk.eq_1
@[simp] def e257 := @M.lendE.eq_1
@[simp] def e258 := @M.lendE.eq_2
@[simp] def e259 := @M.lend1.eq_1
@[simp] def e260 := @M.backE.eq_1
@[simp] def e261 := @M.backE.eq_2
@[simp] def e262 := @M.wipeE.eq_1
@[simp] def e263 := @M.wipeE.eq_2
@[simp] def e264 := @M.lent.eq_1
@[simp] def e265 := @M.slots.eq_1
@[simp] def e266 := @M.slots.eq_2
@[simp] def e267 := @M.slots.eq_3
@[simp] def e268 := @M.normW.eq_1
@[simp] def e269 := @M.normW.eq_2
@[simp] def e270 := @M.unlend.eq_1
@[simp] def e271 := @M.unlend.eq_2
@[simp] def e272 := @M.ati0
@[simp] def e273 := @M.ati1
@[simp] def e274 := @M.ati2
@[simp] def e275 := @M.ati3
@[simp] def e276 := @M.cutD.eq_1
@[simp] def e277 := @M.eqv_int
@[simp] def e278 := @M.eqv_str
@[simp] def e279 := @M.eqv_bool
@[simp] def e280 := @M.eqv_list
@[simp] def e281 := @M.eqv_tuple
@[simp] def e282 := @M.eqva_nil
@[simp] def e283 := @M.eqva_cons
@[simp] def e284 := @M.eqva_l
@[simp] def e285 := @M.eqva_r
@[simp] def e286 := @M.dp_int
@[simp] def e287 := @M.dp_str
@[simp] def e288 := @M.dp_bool
@[simp] def e289 := @M.dp_list
@[simp] def e290 := @M.dp_tuple
@[simp] def e291 := @M.dpa_nil
@[simp] def e292 := @M.dpa_cons
@[simp] def e293 := @M.ofStr_beq
@[simp] def e294 := @M.intsD.eq_1
@[simp] def e295 := @M.intsD.eq_2
@[simp] def e296 := @M.intsD.eq_3
@[simp] def e297 := @M.boolsD.eq_1
@[simp] def e298 := @M.boolsD.eq_2
@[simp] def e299 := @M.boolsD.eq_3
@[simp] def e300 := @M.nd_int
@[simp] def e301 := @M.nd_bool
@[simp] def e302 := @M.nd_str
@[simp] def e303 := @M.nd_none
@[simp] def e304 := @M.nd_list
@[simp] def e305 := @M.nd_tuple
@[simp] def e306 := @M.szl
@[simp] def e307 := @M.truD.eq_1
@[simp] def e308 := @M.truD.eq_2
@[simp] def e309 := @M.truD.eq_3
@[simp] def e310 := @M.truD.eq_4
@[simp] def e311 := @M.truD.eq_5
@[simp] def e312 := @M.truD.eq_6
@[simp] def e313 := @M.truD.eq_7
@[simp] def e314 := @M.setD.eq_1
@[simp] def e315 := @M.subD.eq_1
@[simp] def e316 := @M.subD.eq_2
@[simp] def e317 := @M.slcD.eq_1
@[simp] def e318 := @M.slcD.eq_2
@[simp] def e319 := @M.itemsD.eq_1
@[simp] def e320 := @M.itemsD.eq_2
@[simp] def e321 := @M.itemsD.eq_4
@[simp] def e322 := @M.itemsD.eq_5
@[simp] def e323 := @M.itemsD.eq_6
@[simp] def e324 := @M.itemsD.eq_7
@[simp] def e325 := @M.itemsD.eq_8
@[simp] def e326 := @M.cmpD.eq_1
@[simp] def e327 := @M.cmpD.eq_2
@[simp] def e328 := @M.cmpD.eq_3
@[simp] def e329 := @M.cmpD.eq_4
@[simp] def e330 := @M.cmpD.eq_5
@[simp] def e331 := @M.cmpD.eq_6
@[simp] def e332 := @M.cmpD.eq_7
@[simp] def e333 := @M.cmpD.eq_9
@[simp] def e334 := @M.cmpD.eq_11
@[simp] def e335 := @M.cmpD.eq_12
@[simp] def e336 := @M.cmpD.eq_15
@[simp] def e337 := @M.cmpD.eq_16
@[simp] def e338 := @M.cmpD.eq_17
@[simp] def e339 := @M.cmpD.eq_18
@[simp] def e340 := @M.cmpD.eq_19
@[simp] def e341 := @M.cmpD.eq_20
@[simp] def e342 := @M.cmpD.eq_21
@[simp] def e343 := @M.cmpD.eq_22
@[simp] def e344 := @M.is_t
@[simp] def e345 := @M.is_l
@[simp] def e346 := @M.is_i
@[simp] def e347 := @M.isn_t
@[simp] def e348 := @M.isn_l
@[simp] def e349 := @M.isn_i
@[simp] def e350 := @M.binD.eq_1
@[simp] def e351 := @M.binD.eq_2
@[simp] def e352 := @M.binD.eq_3
@[simp] def e353 := @M.binD.eq_4
@[simp] def e354 := @M.binD.eq_5
@[simp] def e355 := @M.binD.eq_6
@[simp] def e356 := @M.binD.eq_7
@[simp] def e357 := @M.binD.eq_8
@[simp] def e358 := @M.binD.eq_9
@[simp] def e359 := @M.bltD.eq_1
@[simp] def e360 := @M.bltD.eq_2
@[simp] def e361 := @M.bltD.eq_3
@[simp] def e362 := @M.bltD.eq_4
@[simp] def e363 := @M.bltD.eq_5
@[simp] def e364 := @M.bltD.eq_6
@[simp] def e365 := @M.bltD.eq_7
@[simp] def e366 := @M.bltD.eq_8
@[simp] def e367 := @M.bltD.eq_9
@[simp] def e368 := @M.bltD.eq_10
@[simp] def e369 := @M.bltD.eq_11
@[simp] def e370 := @M.bltD.eq_12
@[simp] def e371 := @M.bltD.eq_13
@[simp] def e372 := @M.bltD.eq_14
@[simp] def e373 := @M.bltD.eq_15
@[simp] def e374 := @M.bltD.eq_16
@[simp] def e375 := @M.bltD.eq_17
@[simp] def e376 := @M.bltD.eq_18
@[simp] def e377 := @M.bltD.eq_19
@[simp] def e378 := @M.bltD.eq_20
@[simp] def e379 := @M.bltD.eq_21
@[simp] def e380 := @M.bltD.eq_22
@[simp] def e381 := @M.bltD.eq_23
@[simp] def e382 := @M.bltD.eq_24
@[simp] def e383 := @M.mutD.eq_1
@[simp] def e384 := @M.mutD.eq_2
@[simp] def e385 := @M.extD.eq_1
@[simp] def e386 := @HT.sIx.eq_1
@[simp] def e387 := @HT.sIx.eq_2
@[simp] def e388 := @M.rgB_iff
@[simp] def e389 := @M.rsB_iff
@[simp] def e390 := @M.fdB_iff
@[simp] def e391 := @M.x_calln
@[simp] def e392 := @M.y_calln
@[simp] def e393 := @M.z_calln
@[simp] def e394 := @M.n_nil
@[simp] def e395 := @M.n_ref
@[simp] def e396 := @M.n_c0
@[simp] def e397 := @M.n_c1
@[simp] def e398 := @M.n_c2
@[simp] def e399 := @M.n_c3
@[simp] def e400 := @M.n_cons1
@[simp] def e401 := @M.n_cons2
@[simp] def e402 := @M.n_nw
@[simp] def e403 := @M.n_nw1
@[simp] def e404 := @M.n_nw2
end M.EVS
namespace K07
open PySem M
theorem e_take (k : Nat) (x n : Int) (h : 0 < n) (h2 : n < 1073741824) : callF F G (k + 1) fi_law_take [.r (.list [.int x]), .v (.int n)] = .ok ⟨.int (x % n), false, [.list [.int (x / n)]]⟩ := by
  rw [callF_at (fn := f_law_take) rfl rfl (Nat.le_of_ble_eq_true rfl)]
  simp [forLoop_nil, forLoop_step, lcLoop_nil, lcLoop_step, M.itemsD.eq_3, L2.atI, L2.ixN, f_law_take, b_law_take, h, h2]
inductive Wo where
  | sum | less | least | greatest
def Wo.s : Wo → PySem.Str
  | .sum => "sum"
  | .less => "less"
  | .least => "least"
  | .greatest => "greatest"
inductive Fm where
  | num (n : Int)
  | worth (i j : Int)
  | two (w : Wo) (a b : Fm)
  | times (c : Int) (a : Fm)
  | rest (c : Int) (a : Fm)
  | pick (a b c : Fm)
def enc : Fm → PyData
  | .num n => .tuple [.str "num", .int n]
  | .worth i j => .tuple [.str "worth", .int i, .int j]
  | .two w a b => .tuple [.str w.s, enc a, enc b]
  | .times c a => .tuple [.str "times", .int c, enc a]
  | .rest c a => .tuple [.str "rest", .int c, enc a]
  | .pick a b c => .tuple [.str "pick", enc a, enc b, enc c]
def Fit : Fm → Prop
  | .num n => -1000000 < n ∧ n < 1000000
  | .worth i j => 0 ≤ i ∧ 0 ≤ j
  | .two _ a b => Fit a ∧ Fit b
  | .times c a => (-10000 < c ∧ c < 10000) ∧ Fit a
  | .rest c a => (0 < c ∧ c < 10000) ∧ Fit a
  | .pick a b c => Fit a ∧ Fit b ∧ Fit c
def kids : Fm → List Fm
  | .num _ | .worth _ _ => []
  | .two _ a b => [a, b]
  | .times _ a | .rest _ a => [a]
  | .pick a b c => [a, b, c]
def deep : Fm → Nat
  | .num _ | .worth _ _ => 1
  | .two _ a b => max (deep a) (deep b) + 1
  | .times _ a | .rest _ a => deep a + 1
  | .pick a b c => max (deep a) (max (deep b) (deep c)) + 1
def parts : Fm → Int
  | .num _ | .worth _ _ => 1
  | .two _ a b => 1 + (parts a + parts b)
  | .times _ a | .rest _ a => 1 + parts a
  | .pick a b c => 1 + (parts a + (parts b + parts c))
def names : Fm → List (Int × Int)
  | .num _ => []
  | .worth i j => [(i, j)]
  | .two _ a b => names a ++ names b
  | .times _ a | .rest _ a => names a
  | .pick a b c => names a ++ (names b ++ names c)
def WD : PyData := .dict (kvD kv_WORDS)
theorem wd1 : subD WD (.str "sum") = some (.int 2) ∧ subD WD (.str "less") = some (.int 2) ∧ subD WD (.str "least") = some (.int 2) ∧ subD WD (.str "greatest") = some (.int 2) ∧ subD WD (.str "pick") = some (.int 3) ∧ subD WD (.str "times") = some (.int 1) ∧ subD WD (.str "rest") = some (.int 1) ∧ subD WD (.str "num") = some (.int 0) ∧ subD WD (.str "worth") = some (.int 0) := by
  simp [WD, kvD, kv_WORDS, subD, keyIn, keyB, kdD, findD, PyData.eqv, ofStr_beq]
theorem wd2 : cmpD .NotIn (.str "sum") WD = some false ∧ cmpD .NotIn (.str "less") WD = some false ∧ cmpD .NotIn (.str "least") WD = some false ∧ cmpD .NotIn (.str "greatest") WD = some false ∧ cmpD .NotIn (.str "pick") WD = some false ∧ cmpD .NotIn (.str "times") WD = some false ∧ cmpD .NotIn (.str "rest") WD = some false ∧ cmpD .NotIn (.str "num") WD = some false ∧ cmpD .NotIn (.str "worth") WD = some false := by
  simp [WD, kvD, kv_WORDS, cmpD, keyIn, keyB, kdD, hasD, PyData.eqv, ofStr_beq]
theorem gw : G[gi_MOST_PARTS_formulas]? = some (.int 15) ∧ G[gi_MOST_DEEP_formulas]? = some (.int 4) ∧ G[gi_WORDS]? = some WD := ⟨rfl, rfl, rfl⟩
theorem enc_nd (f : Fm) : ndB (enc f) = true := by cases f <;> simp [enc, ndB]
theorem e_num (k : Nat) (n : Int) : callF F G (k + 1) fi_is_number [.v (.int n)] = .ok ⟨.bool true, false, []⟩ := rfl
theorem w_all {w : Wo} : (w = .sum ∨ w = .less) ∨ (w = .least ∨ w = .greatest) := by cases w <;> simp
theorem e_inner (k : Nat) (f : Fm) : callF F G (k + 1) fi_inner_of [.v (enc f)] = .ok ⟨.tuple ((kids f).map enc), false, []⟩ := by
  rw [callF_at (fn := f_inner_of) rfl rfl (Nat.le_of_ble_eq_true rfl)]
  cases f with
  | two w a b => cases w <;> simp [forLoop_nil, forLoop_step, lcLoop_nil, lcLoop_step, M.itemsD.eq_3, L2.atI, L2.ixN, f_inner_of, b_inner_of, gw, wd1, wd2, enc, kids, Wo.s]
  | _ => simp [forLoop_nil, forLoop_step, lcLoop_nil, lcLoop_step, M.itemsD.eq_3, L2.atI, L2.ixN, f_inner_of, b_inner_of, gw, wd1, wd2, enc, kids]
theorem e_fit (k : Nat) (f : Fm) (h : Fit f) : callF F G (k + 2) fi_numbers_fit [.v (enc f)] = .ok ⟨.bool true, false, []⟩ := by
  rw [callF_at (fn := f_numbers_fit) rfl rfl (Nat.le_of_ble_eq_true rfl)]
  cases f with
  | two w a b => cases w <;> simp [forLoop_nil, forLoop_step, lcLoop_nil, lcLoop_step, M.itemsD.eq_3, L2.atI, L2.ixN, f_numbers_fit, b_numbers_fit, gw, wd1, wd2, enc, Wo.s]
  | num n =>
    have : (if n < 0 then -n else n) < 1000000 := by simp only [Fit] at h; omega
    simp [forLoop_nil, forLoop_step, lcLoop_nil, lcLoop_step, M.itemsD.eq_3, L2.atI, L2.ixN, f_numbers_fit, b_numbers_fit, gw, wd1, wd2, enc, e_num, this]
  | worth i j =>
    obtain ⟨h1, h2⟩ := h
    simp [forLoop_nil, forLoop_step, lcLoop_nil, lcLoop_step, M.itemsD.eq_3, L2.atI, L2.ixN, f_numbers_fit, b_numbers_fit, gw, wd1, wd2, enc, e_num, h1, h2]
  | times c a =>
    have : (if c < 0 then -c else c) < 10000 := by simp only [Fit] at h; omega
    simp [forLoop_nil, forLoop_step, lcLoop_nil, lcLoop_step, M.itemsD.eq_3, L2.atI, L2.ixN, f_numbers_fit, b_numbers_fit, gw, wd1, wd2, enc, e_num, this]
  | rest c a =>
    obtain ⟨⟨h1, h2⟩, _⟩ := h
    simp [forLoop_nil, forLoop_step, lcLoop_nil, lcLoop_step, M.itemsD.eq_3, L2.atI, L2.ixN, f_numbers_fit, b_numbers_fit, gw, wd1, wd2, enc, e_num, h1, h2]
  | pick a b c => simp [forLoop_nil, forLoop_step, lcLoop_nil, lcLoop_step, M.itemsD.eq_3, L2.atI, L2.ixN, f_numbers_fit, b_numbers_fit, gw, wd1, wd2, enc]
theorem deep_pos (f : Fm) : 1 ≤ deep f := by cases f <;> simp [deep]
theorem e_fit2 (n : Nat) (f : Fm) (h : Fit f) (hn : 2 ≤ n) : callF F G n fi_numbers_fit [.v (enc f)] = .ok ⟨.bool true, false, []⟩ := by
  obtain ⟨m, rfl⟩ : ∃ m, n = m + 2 := ⟨n - 2, by omega⟩
  exact e_fit m f h
theorem e_deep : ∀ (f : Fm) (n : Nat) (d : Int), Fit f → d + deep f ≤ 5 → deep f + 2 ≤ n → callF F G n fi_deep_of [.v (enc f), .v (.int d)] = .ok ⟨.int (parts f), false, []⟩
  | f, 0, d, _, _, h => by omega
  | f, 1, d, _, _, h => by omega
  | f, n + 2, d, hf, hd, hn => by
    rw [callF_at (fn := f_deep_of) rfl rfl (Nat.le_of_ble_eq_true rfl)]
    have h4 : ¬ (4 : Int) < d := by have := deep_pos f; omega
    have e1 := e_inner n f
    have e2 := e_fit2 (n + 1) f hf (by have := deep_pos f; omega)
    match f, hf, hd, hn, e1, e2 with
    | .num i, hf, hd, hn, e1, e2 =>
      simp only [enc] at e1 e2
      simp [forLoop_nil, forLoop_step, lcLoop_nil, lcLoop_step, M.itemsD.eq_3, L2.atI, L2.ixN, f_deep_of, b_deep_of, gw, wd1, wd2, enc, h4, e1, e2, kids, parts]
    | .worth i j, hf, hd, hn, e1, e2 =>
      simp only [enc] at e1 e2
      simp [forLoop_nil, forLoop_step, lcLoop_nil, lcLoop_step, M.itemsD.eq_3, L2.atI, L2.ixN, f_deep_of, b_deep_of, gw, wd1, wd2, enc, h4, e1, e2, kids, parts]
    | .two w a b, hf, hd, hn, e1, e2 =>
      simp only [deep] at hd hn
      have i1 := e_deep a (n + 1) (d + 1) hf.1 (by omega) (by omega)
      have i2 := e_deep b (n + 1) (d + 1) hf.2 (by omega) (by omega)
      simp only [enc] at e1 e2
      cases w <;> simp only [Wo.s] at e1 e2 <;> simp [forLoop_nil, forLoop_step, lcLoop_nil, lcLoop_step, M.itemsD.eq_3, L2.atI, L2.ixN, f_deep_of, b_deep_of, gw, wd1, wd2, enc, h4, e1, e2, kids, parts, i1, i2, Wo.s]
    | .times c a, hf, hd, hn, e1, e2 =>
      simp only [deep] at hd hn
      have i1 := e_deep a (n + 1) (d + 1) hf.2 (by omega) (by omega)
      simp only [enc] at e1 e2
      simp [forLoop_nil, forLoop_step, lcLoop_nil, lcLoop_step, M.itemsD.eq_3, L2.atI, L2.ixN, f_deep_of, b_deep_of, gw, wd1, wd2, enc, h4, e1, e2, kids, parts, i1]
    | .rest c a, hf, hd, hn, e1, e2 =>
      simp only [deep] at hd hn
      have i1 := e_deep a (n + 1) (d + 1) hf.2 (by omega) (by omega)
      simp only [enc] at e1 e2
      simp [forLoop_nil, forLoop_step, lcLoop_nil, lcLoop_step, M.itemsD.eq_3, L2.atI, L2.ixN, f_deep_of, b_deep_of, gw, wd1, wd2, enc, h4, e1, e2, kids, parts, i1]
    | .pick a b c, hf, hd, hn, e1, e2 =>
      simp only [deep] at hd hn
      have i1 := e_deep a (n + 1) (d + 1) hf.1 (by omega) (by omega)
      have i2 := e_deep b (n + 1) (d + 1) hf.2.1 (by omega) (by omega)
      have i3 := e_deep c (n + 1) (d + 1) hf.2.2 (by omega) (by omega)
      simp only [enc] at e1 e2
      simp [forLoop_nil, forLoop_step, lcLoop_nil, lcLoop_step, M.itemsD.eq_3, L2.atI, L2.ixN, f_deep_of, b_deep_of, gw, wd1, wd2, enc, h4, e1, e2, kids, parts, i1, i2, i3]
theorem enc_isT (f : Fm) : isD .tuple (enc f) = true := by cases f <;> rfl
theorem e_names : ∀ (f : Fm) (n : Nat), (names f).length ≤ 60 → deep f + 1 ≤ n → callF F G n fi_names_in [.v (enc f)] = .ok ⟨.list ((names f).map pD), true, []⟩
  | f, 0, _, h => by omega
  | f, n + 1, hz, hn => by
    rw [callF_at (fn := f_names_in) rfl rfl (Nat.le_of_ble_eq_true rfl)]
    obtain ⟨m, rfl⟩ : ∃ m, n = m + 1 := ⟨n - 1, by have := deep_pos f; omega⟩
    have e1 := e_inner m f
    match f, hz, hn, e1 with
    | .num i, hz, hn, e1 =>
      simp only [enc] at e1
      simp [forLoop_nil, forLoop_step, lcLoop_nil, lcLoop_step, M.itemsD.eq_3, L2.atI, L2.ixN, f_names_in, b_names_in, gw, wd1, wd2, enc, e1, kids, names]
    | .worth i j, hz, hn, e1 =>
      simp [forLoop_nil, forLoop_step, lcLoop_nil, lcLoop_step, M.itemsD.eq_3, L2.atI, L2.ixN, f_names_in, b_names_in, gw, wd1, wd2, enc, names, pD]
    | .two w a b, hz, hn, e1 =>
      simp only [deep, names, List.length_append] at hz hn
      have i1 := e_names a (m + 1) (by omega) (by omega)
      have i2 := e_names b (m + 1) (by omega) (by omega)
      have z1 : (names a).length ≤ 16777216 := by omega
      have z2 : (names a).length + (names b).length ≤ 16777216 := by omega
      simp only [enc] at e1
      cases w <;> simp only [Wo.s] at e1 <;> simp [forLoop_nil, forLoop_step, lcLoop_nil, lcLoop_step, M.itemsD.eq_3, L2.atI, L2.ixN, f_names_in, b_names_in, gw, wd1, wd2, enc, e1, kids, names, i1, i2, z1, z2, Wo.s]
    | .times c a, hz, hn, e1 =>
      simp only [deep, names] at hz hn
      have i1 := e_names a (m + 1) (by omega) (by omega)
      have z1 : (names a).length ≤ 16777216 := by omega
      simp only [enc] at e1
      simp [forLoop_nil, forLoop_step, lcLoop_nil, lcLoop_step, M.itemsD.eq_3, L2.atI, L2.ixN, f_names_in, b_names_in, gw, wd1, wd2, enc, e1, kids, names, i1, z1]
    | .rest c a, hz, hn, e1 =>
      simp only [deep, names] at hz hn
      have i1 := e_names a (m + 1) (by omega) (by omega)
      have z1 : (names a).length ≤ 16777216 := by omega
      simp only [enc] at e1
      simp [forLoop_nil, forLoop_step, lcLoop_nil, lcLoop_step, M.itemsD.eq_3, L2.atI, L2.ixN, f_names_in, b_names_in, gw, wd1, wd2, enc, e1, kids, names, i1, z1]
    | .pick a b c, hz, hn, e1 =>
      simp only [deep, names, List.length_append] at hz hn
      have i1 := e_names a (m + 1) (by omega) (by omega)
      have i2 := e_names b (m + 1) (by omega) (by omega)
      have i3 := e_names c (m + 1) (by omega) (by omega)
      have z1 : (names a).length ≤ 16777216 := by omega
      have z2 : (names a).length + (names b).length ≤ 16777216 := by omega
      have z3 : (names a).length + ((names b).length + (names c).length) ≤ 16777216 := by omega
      have z4 : (names a).length + (names b).length + (names c).length ≤ 16777216 := by omega
      simp only [enc] at e1
      simp [forLoop_nil, forLoop_step, lcLoop_nil, lcLoop_step, M.itemsD.eq_3, L2.atI, L2.ixN, f_names_in, b_names_in, gw, wd1, wd2, enc, e1, kids, names, i1, i2, i3, z1, z2, z3, z4]
def mix1 (c j : Int) : Int := (c % 2147483647 * 48271 + j * 69621 + 1048583) % 2147483629
def mix (c j : Int) : Int := (mix1 c j * mix1 c j % 2147483587) * (mix1 c j * mix1 c j % 2147483587 + 2) % 2147483579
theorem e_mixed (n : Nat) (c j : Int) : ∃ y, callF F G (n + 1) fi_law_mixed [.v (.int c), .v (.int j)] = .ok ⟨.int y, false, []⟩ := by
  have m1 : ∀ i, mulOk i 48271 = true := fun i => mulOk_r (by decide)
  have m2 : ∀ i, mulOk i 69621 = true := fun i => mulOk_r (by decide)
  refine ⟨mix c j, ?_⟩
  rw [callF_at (fn := f_law_mixed) rfl rfl (Nat.le_of_ble_eq_true rfl)]
  simp [forLoop_nil, forLoop_step, lcLoop_nil, lcLoop_step, M.itemsD.eq_3, L2.atI, L2.ixN, f_law_mixed, b_law_mixed, m1, m2, mulOk_modl, mix, mix1]
def bCell : List MS := [.set 3 (.bin .Add (.bin .Mult (.var 3) (.cst (.int 2147483579))) (.call fi_law_mixed [(.var 2), (.bin .Add (.bin .Add (.bin .Mult (.cst (.int 7)) (.var 1)) (.bin .Mult (.cst (.int 100)) (.var 4))) (.bin .Mult (.var 4) (.var 4)))]))]
theorem cell_loop (n : Nat) (s : Option Slot) (kk c : Int) : ∀ (l : List PyData), (∀ d ∈ l, ∃ j : Int, d = .int j ∧ 0 ≤ j ∧ j < 24) → ∀ (acc : Int) (o : Option Slot), freeS (some o) = true → ∃ acc' o', forLoop (M.forTurn (callF F G (n + 1)) G (.nm 4) bCell) l [s, some (.int kk, .sh), some (.int c, .sh), some (.int acc, .sh), o] = .ok (.nx [s, some (.int kk, .sh), some (.int c, .sh), some (.int acc', .sh), o'])
  | [], _, acc, o, _ => ⟨acc, o, rfl⟩
  | d :: l, hl, acc, o, ho => by
    obtain ⟨j, rfl, j0, j1⟩ := hl d List.mem_cons_self
    obtain ⟨y, hy⟩ := e_mixed n c (7 * kk + 100 * j + j * j)
    obtain ⟨acc', o', h⟩ := cell_loop n s kk c l (fun d hd => hl d (List.mem_cons_of_mem _ hd)) (acc * 2147483579 + y) (some (.int j, .sh)) rfl
    refine ⟨acc', o', ?_⟩
    have m1 : ∀ i, mulOk i 2147483579 = true := fun i => mulOk_r (by decide)
    have m2 : ∀ i, mulOk 7 i = true := fun i => mulOk_l (by decide)
    have m3 : ∀ i, mulOk 100 i = true := fun i => mulOk_l (by decide)
    have m4 : mulOk j j = true := mulOk_r ⟨by omega, by omega⟩
    rw [forLoop_step, ← h]
    have e : M.forTurn (callF F G (n + 1)) G (.nm 4) bCell (.int j) [s, some (.int kk, .sh), some (.int c, .sh), some (.int acc, .sh), o] = .ok (.nx [s, some (.int kk, .sh), some (.int c, .sh), some (.int (acc * 2147483579 + y), .sh), some (.int j, .sh)]) := by
      have hb : bindT (.nm 4) (.int j) [s, some (.int kk, .sh), some (.int c, .sh), some (.int acc, .sh), o] = some [s, some (.int kk, .sh), some (.int c, .sh), some (.int acc, .sh), some (.int j, .sh)] := by
        match o, ho with
        | none, _ => rfl
        | some (d, .sh), _ => rfl
        | some (d, .ow), _ => rfl
      unfold M.forTurn
      rw [hb]
      simp [forLoop_nil, forLoop_step, lcLoop_nil, lcLoop_step, M.itemsD.eq_3, L2.atI, L2.ixN, bCell, m1, m2, m3, m4, hy]
    rw [e]
    rfl
def mBig : ME := (.bin .Mult (.bin .Mult (.bin .Mult (.bin .Pow (.cst (.int 10)) (.cst (.int 60))) (.bin .Pow (.cst (.int 10)) (.cst (.int 60)))) (.bin .Pow (.cst (.int 10)) (.cst (.int 60)))) (.bin .Pow (.cst (.int 10)) (.cst (.int 60))))
theorem e_big (C : CallT) (env : M.Env) : ev C G mBig env = .ok (.va (.int (10 ^ 240)) false, env) := by kernel_rfl
theorem b_cell : b_law_cell = [.set 2 (.cst (.int 0)),
   .ite (.cmp .Lt (.var 1) (.blt .len [(.var 0)])) [.set 2 (.sub (.var 0) (.var 1))] [],
   .ite (.cmp .GtE (.var 2) (.bin .Pow (.cst (.int 10)) (.cst (.int 18)))) [.ret (.bin .Mod (.bin .Sub (.var 2) (.bin .Pow (.cst (.int 10)) (.cst (.int 18)))) mBig)] [],
   .set 3 (.cst (.int 0)),
   .forr (.nm 4) .r1 [(.cst (.int 24))] bCell,
   .ret (.var 3)] := rfl
theorem range_ok : ∀ d ∈ (List.range 24).map (fun (i : Nat) => PyData.int i), ∃ j : Int, d = .int j ∧ 0 ≤ j ∧ j < 24 := fun d hd => by
  obtain ⟨i, hi, rfl⟩ := List.mem_map.mp hd
  have := List.mem_range.mp hi
  exact ⟨i, rfl, by omega, by omega⟩
theorem cell_tail (n : Nat) (s : Option Slot) (kk c : Int) : ∃ x, retOf [false, false] (evSs (callF F G (n + 1)) G [.ite (.cmp .GtE (.var 2) (.bin .Pow (.cst (.int 10)) (.cst (.int 18)))) [.ret (.bin .Mod (.bin .Sub (.var 2) (.bin .Pow (.cst (.int 10)) (.cst (.int 18)))) mBig)] [],
   .set 3 (.cst (.int 0)),
   .forr (.nm 4) .r1 [(.cst (.int 24))] bCell,
   .ret (.var 3)] [s, some (.int kk, .sh), some (.int c, .sh), none, none]) = .ok ⟨.int x, false, []⟩ := by
  by_cases hc : 1000000000000000000 ≤ c
  · refine ⟨(c - 1000000000000000000) % 10 ^ 240, ?_⟩
    simp [forLoop_nil, forLoop_step, lcLoop_nil, lcLoop_step, M.itemsD.eq_3, L2.atI, L2.ixN, ↓e_big, hc]
  · obtain ⟨acc', o', h⟩ := cell_loop n s kk c _ range_ok 0 none rfl
    refine ⟨acc', ?_⟩
    simp [lcLoop_nil, lcLoop_step, M.itemsD.eq_3, L2.atI, L2.ixN, hc, h]
theorem at_ints (ns : List Int) (k : Nat) (h : k < ns.length) : L2.atI (ns.map PyData.int) (k : Int) = some (.int ns[k]) := by
  unfold L2.atI L2.ixN
  rw [if_pos (by omega), if_pos (by rw [List.length_map]; omega)]
  simp [h]
theorem e_cell (n : Nat) (ns : List Int) (k : Nat) : ∃ x, callF F G (n + 2) fi_law_cell [.v (.list (ns.map PyData.int)), .v (.int k)] = .ok ⟨.int x, false, []⟩ := by
  rw [callF_at (fn := f_law_cell) rfl rfl (Nat.le_of_ble_eq_true rfl)]
  have s1 : evS (callF F G (n + 1)) G (.set 2 (.cst (.int 0))) [some (.list (ns.map PyData.int), .sh), some (.int k, .sh), none, none, none] = .ok (.nx [some (.list (ns.map PyData.int), .sh), some (.int k, .sh), some (.int 0, .sh), none, none]) := rfl
  have s2 : ∃ c, evS (callF F G (n + 1)) G (.ite (.cmp .Lt (.var 1) (.blt .len [(.var 0)])) [.set 2 (.sub (.var 0) (.var 1))] []) [some (.list (ns.map PyData.int), .sh), some (.int k, .sh), some (.int 0, .sh), none, none] = .ok (.nx [some (.list (ns.map PyData.int), .sh), some (.int k, .sh), some (.int c, .sh), none, none]) := by
    by_cases hk : k < ns.length
    · have ha := at_ints ns k hk
      refine ⟨ns[k], ?_⟩
      simp [forLoop_nil, forLoop_step, lcLoop_nil, lcLoop_step, M.itemsD.eq_3, ha, hk]
    · refine ⟨0, ?_⟩
      simp [forLoop_nil, forLoop_step, lcLoop_nil, lcLoop_step, M.itemsD.eq_3, hk]
  obtain ⟨c, s2⟩ := s2
  obtain ⟨x, h⟩ := cell_tail n (some (.list (ns.map PyData.int), .sh)) k c
  refine ⟨x, ?_⟩
  rw [← h]
  show retOf [false, false] (evSs _ _ b_law_cell [some (.list (ns.map PyData.int), .sh), some (.int k, .sh), none, none, none]) = _
  rw [b_cell, evSs_cons, s1, seqS_nx, ssNext_E, evSs_cons, s2, seqS_nx, ssNext_E]
end K07
namespace K07
open PySem M
theorem eqva_map_nil {nms : List (Int × Int)} (h : nms ≠ []) : PyData.eqvAll (nms.map pD) [] = false := by
  cases nms with
  | nil => exact absurd rfl h
  | cons p r => simp only [List.map_cons, PyData.eqvAll]
theorem at_nms {nms : List (Int × Int)} (h : nms ≠ []) (y : Int) : ∃ p ∈ nms, L2.atI (nms.map pD) (y % (nms.length : Int)) = some (pD p) := by
  have hl : 0 < nms.length := List.length_pos_iff.mpr h
  have h1 := Int.emod_nonneg y (show (nms.length : Int) ≠ 0 by omega)
  have h2 := Int.emod_lt_of_pos y (show 0 < (nms.length : Int) by omega)
  have hj : (y % (nms.length : Int)).toNat < nms.length := by omega
  refine ⟨nms[(y % (nms.length : Int)).toNat], List.getElem_mem hj, ?_⟩
  unfold L2.atI L2.ixN
  rw [if_pos h1, if_pos (by rw [List.length_map]; exact h2)]
  simp [hj]
def pm : Nat → Int
  | 0 => 1
  | d + 1 => 1 + 3 * pm d
def tm : Nat → Nat
  | 0 => 1
  | d + 1 => 3 * tm d
/-- small numbers -/
def Sml : Fm → Prop
  | .num n => n.natAbs < 10 ^ 30
  | .worth i j => i.natAbs < 10 ^ 30 ∧ j.natAbs < 10 ^ 30
  | .two _ a b => Sml a ∧ Sml b
  | .times c a => c.natAbs < 10 ^ 30 ∧ Sml a
  | .rest c a => c.natAbs < 10 ^ 30 ∧ Sml a
  | .pick a b c => Sml a ∧ Sml b ∧ Sml c
structure Good (nms : List (Int × Int)) (d : Nat) (f : Fm) : Prop where
  fit : Fit f
  deep : deep f ≤ d + 1
  few : (names f).length ≤ tm d
  parts : parts f ≤ pm d
  sml : Sml f
  nms : ∀ p ∈ names f, p ∈ nms
theorem pm_pos : ∀ d, 1 ≤ pm d
  | 0 => by decide
  | d + 1 => by have := pm_pos d; simp only [pm]; omega
theorem tm_pos : ∀ d, 1 ≤ tm d
  | 0 => by decide
  | d + 1 => by have := tm_pos d; simp only [tm]; omega
/-- names that may stand in formulas -/
def NmOk (nms : List (Int × Int)) : Prop := nms.length < 1000 ∧ ∀ p ∈ nms, (0 ≤ p.1 ∧ p.1.natAbs < 10 ^ 30) ∧ (0 ≤ p.2 ∧ p.2.natAbs < 10 ^ 30)
theorem small_lt {i : Int} (h1 : -100 ≤ i) (h2 : i ≤ 100) : i.natAbs < 10 ^ 30 := Nat.lt_of_le_of_lt (show i.natAbs ≤ 100 by omega) (by decide)
theorem gen_leaf (nms : List (Int × Int)) (hk : NmOk nms) (n d : Nat) (x : Int) (hn : 1 ≤ n) (h : (d : Int) = 0 ∨ x % 10 < 3) : ∃ f x', callF F G (n + 1) fi_law_formula [.r (.list [.int x]), .v (.list (nms.map pD)), .v (.int d)] = .ok ⟨enc f, false, [.list [.int x']]⟩ ∧ Good nms d f := by
  obtain ⟨n, rfl⟩ : ∃ m, n = m + 1 := ⟨n - 1, by omega⟩
  have hp := pm_pos d
  have ht := tm_pos d
  have key : ∀ f x', callF F G (n + 1 + 1) fi_law_formula [.r (.list [.int x]), .v (.list (nms.map pD)), .v (.int d)] = .ok ⟨enc f, false, [.list [.int x']]⟩ → Good nms d f → ∃ f x', callF F G (n + 1 + 1) fi_law_formula [.r (.list [.int x]), .v (.list (nms.map pD)), .v (.int d)] = .ok ⟨enc f, false, [.list [.int x']]⟩ ∧ Good nms d f := fun f x' a b => ⟨f, x', a, b⟩
  have hd : decide ((d : Int) = 0) = true ∨ (decide ((d : Int) = 0) = false ∧ decide (x % 10 < 3) = true) := by
    by_cases h0 : (d : Int) = 0
    · exact .inl (by simp [h0])
    · exact .inr ⟨by simp; omega, by rcases h with h | h; exact absurd h h0; simp [h]⟩
  have h00 : ((d : Int) = 0) = (d = 0) := by simp
  by_cases hz : nms = []
  · subst hz
    refine key (.num (x / 10 % 19 - 9)) (x / 10 / 19) ?_ ⟨by simp only [Fit]; omega, by show 1 ≤ d + 1; omega, by show 0 ≤ _; omega, by show 1 ≤ _; omega, small_lt (by omega) (by omega), fun p hp => by cases hp⟩
    rw [callF_at (fn := f_law_formula) rfl rfl (Nat.le_of_ble_eq_true rfl)]
    rcases h with h | h
    · simp [forLoop_nil, forLoop_step, lcLoop_nil, lcLoop_step, M.itemsD.eq_3, f_law_formula, b_law_formula, e_take, h, enc]
    · by_cases h0 : d = 0
      · simp [forLoop_nil, forLoop_step, lcLoop_nil, lcLoop_step, M.itemsD.eq_3, f_law_formula, b_law_formula, e_take, h0, enc]
      · simp [forLoop_nil, forLoop_step, lcLoop_nil, lcLoop_step, M.itemsD.eq_3, f_law_formula, b_law_formula, e_take, h0, h, enc]
  · have hne := eqva_map_nil hz
    have hl1 : 0 < nms.length := List.length_pos_iff.mpr hz
    have hl2 : (nms.length : Int) < 1073741824 := by have := hk.1; omega
    by_cases h5 : x / 10 % 5 = 0
    · refine key (.num (x / 10 / 5 % 19 - 9)) (x / 10 / 5 / 19) ?_ ⟨by simp only [Fit]; omega, by show 1 ≤ d + 1; omega, by show 0 ≤ _; omega, by show 1 ≤ _; omega, small_lt (by omega) (by omega), fun p hp => by cases hp⟩
      rw [callF_at (fn := f_law_formula) rfl rfl (Nat.le_of_ble_eq_true rfl)]
      rcases h with h | h
      · simp [forLoop_nil, forLoop_step, lcLoop_nil, lcLoop_step, M.itemsD.eq_3, f_law_formula, b_law_formula, e_take, h, h5, hne, enc]
      · by_cases h0 : d = 0
        · simp [forLoop_nil, forLoop_step, lcLoop_nil, lcLoop_step, M.itemsD.eq_3, f_law_formula, b_law_formula, e_take, h0, h5, hne, enc]
        · simp [forLoop_nil, forLoop_step, lcLoop_nil, lcLoop_step, M.itemsD.eq_3, f_law_formula, b_law_formula, e_take, h0, h, h5, hne, enc]
    · obtain ⟨⟨i, j⟩, hm, hi⟩ := at_nms hz (x / 10 / 5)
      have hm' := hk.2 _ hm
      refine key (.worth i j) (x / 10 / 5 / nms.length) ?_ ⟨⟨hm'.1.1, hm'.2.1⟩, by show 1 ≤ d + 1; omega, by show 1 ≤ _; omega, by show 1 ≤ _; omega, ⟨hm'.1.2, hm'.2.2⟩, fun p hp => by
        simp only [names, List.mem_singleton] at hp
        subst hp
        exact hm⟩
      rw [callF_at (fn := f_law_formula) rfl rfl (Nat.le_of_ble_eq_true rfl)]
      rcases h with h | h
      · simp [forLoop_nil, forLoop_step, lcLoop_nil, lcLoop_step, M.itemsD.eq_3, f_law_formula, b_law_formula, e_take, h, h5, hne, enc, hi, hl1, hl2, pD]
      · by_cases h0 : d = 0
        · simp [forLoop_nil, forLoop_step, lcLoop_nil, lcLoop_step, M.itemsD.eq_3, f_law_formula, b_law_formula, e_take, h0, h5, hne, enc, hi, hl1, hl2, pD]
        · simp [forLoop_nil, forLoop_step, lcLoop_nil, lcLoop_step, M.itemsD.eq_3, f_law_formula, b_law_formula, e_take, h0, h, h5, hne, enc, hi, hl1, hl2, pD]
def GenOk (nms : List (Int × Int)) (n d : Nat) : Prop := ∀ x : Int, ∃ f x', callF F G n fi_law_formula [.r (.list [.int x]), .v (.list (nms.map pD)), .v (.int d)] = .ok ⟨enc f, false, [.list [.int x']]⟩ ∧ Good nms d f
theorem gen_step (nms : List (Int × Int)) (hk : NmOk nms) (n d : Nat) (hn : 1 ≤ n) (ih : GenOk nms n d) : GenOk nms (n + 1) (d + 1) := by
  intro x
  by_cases h3 : x % 10 < 3
  · exact gen_leaf nms hk n (d + 1) x hn (.inr h3)
  · obtain ⟨n, rfl⟩ : ∃ m, n = m + 1 := ⟨n - 1, by omega⟩
    obtain ⟨f1, x1, i1, g1⟩ := ih (x / 10)
    obtain ⟨f2, x2, i2, g2⟩ := ih x1
    obtain ⟨f3, x3, i3, g3⟩ := ih x2
    obtain ⟨a1, a2, a3, a4, a5, a6⟩ := g1
    obtain ⟨b1, b2, b3, b4, b5, b6⟩ := g2
    obtain ⟨c1, c2, c3, c4, c5, c6⟩ := g3
    have hp := pm_pos d
    have ht := tm_pos d
    have good : ∀ f, Fit f → deep f ≤ d + 2 → (names f).length ≤ 3 * tm d → parts f ≤ 1 + 3 * pm d → Sml f → (∀ p ∈ names f, p ∈ nms) → Good nms (d + 1) f := fun f q1 q2 q3 q4 q5 q6 => ⟨q1, q2, q3, q4, q5, q6⟩
    have key : ∀ f x', callF F G (n + 1 + 1) fi_law_formula [.r (.list [.int x]), .v (.list (nms.map pD)), .v (.int ((d + 1 : Nat) : Int))] = .ok ⟨enc f, false, [.list [.int x']]⟩ → Good nms (d + 1) f → ∃ f x', callF F G (n + 1 + 1) fi_law_formula [.r (.list [.int x]), .v (.list (nms.map pD)), .v (.int ((d + 1 : Nat) : Int))] = .ok ⟨enc f, false, [.list [.int x']]⟩ ∧ Good nms (d + 1) f := fun f x' a b => ⟨f, x', a, b⟩
    have h0 : ¬ ((d : Int) + 1 = 0) := by omega
    have hs : ((d : Int) + 1 - 1) = d := by omega
    have two : ∀ w : Wo, Good nms (d + 1) (.two w f1 f2) := fun w => good _ ⟨a1, b1⟩ (by simp only [deep]; omega) (by simp only [names, List.length_append]; omega) (by simp only [parts]; omega) ⟨a5, b5⟩ (fun p hp => (List.mem_append.mp hp).elim (a6 p) (b6 p))
    have hw : x % 10 = 3 ∨ x % 10 = 4 ∨ x % 10 = 5 ∨ x % 10 = 6 ∨ x % 10 = 7 ∨ x % 10 = 8 ∨ x % 10 = 9 := by omega
    rcases hw with hw | hw | hw | hw | hw | hw | hw
    · refine key (.two .sum f1 f2) x2 ?_ (two _)
      rw [callF_at (fn := f_law_formula) rfl rfl (Nat.le_of_ble_eq_true rfl)]
      simp [forLoop_nil, forLoop_step, lcLoop_nil, lcLoop_step, M.itemsD.eq_3, L2.atI, L2.ixN, f_law_formula, b_law_formula, e_take, h0, hs, hw, i1, i2, enc, enc_nd, Wo.s, List.range_succ, List.range_zero]
    · refine key (.two .less f1 f2) x2 ?_ (two _)
      rw [callF_at (fn := f_law_formula) rfl rfl (Nat.le_of_ble_eq_true rfl)]
      simp [forLoop_nil, forLoop_step, lcLoop_nil, lcLoop_step, M.itemsD.eq_3, L2.atI, L2.ixN, f_law_formula, b_law_formula, e_take, h0, hs, hw, i1, i2, enc, enc_nd, Wo.s, List.range_succ, List.range_zero]
    · refine key (.two .least f1 f2) x2 ?_ (two _)
      rw [callF_at (fn := f_law_formula) rfl rfl (Nat.le_of_ble_eq_true rfl)]
      simp [forLoop_nil, forLoop_step, lcLoop_nil, lcLoop_step, M.itemsD.eq_3, L2.atI, L2.ixN, f_law_formula, b_law_formula, e_take, h0, hs, hw, i1, i2, enc, enc_nd, Wo.s, List.range_succ, List.range_zero]
    · refine key (.two .greatest f1 f2) x2 ?_ (two _)
      rw [callF_at (fn := f_law_formula) rfl rfl (Nat.le_of_ble_eq_true rfl)]
      simp [forLoop_nil, forLoop_step, lcLoop_nil, lcLoop_step, M.itemsD.eq_3, L2.atI, L2.ixN, f_law_formula, b_law_formula, e_take, h0, hs, hw, i1, i2, enc, enc_nd, Wo.s, List.range_succ, List.range_zero]
    · refine key (.times (x1 % 7 - 3) f1) (x1 / 7) ?_ (good _ ⟨by omega, a1⟩ (by simp only [deep]; omega) (by simp only [names]; omega) (by simp only [parts]; omega) ⟨small_lt (by omega) (by omega), a5⟩ a6)
      rw [callF_at (fn := f_law_formula) rfl rfl (Nat.le_of_ble_eq_true rfl)]
      simp [forLoop_nil, forLoop_step, lcLoop_nil, lcLoop_step, M.itemsD.eq_3, L2.atI, L2.ixN, f_law_formula, b_law_formula, e_take, h0, hs, hw, i1, enc, enc_nd, List.range_succ, List.range_zero]
    · refine key (.rest (1 + x1 % 7) f1) (x1 / 7) ?_ (good _ ⟨by omega, a1⟩ (by simp only [deep]; omega) (by simp only [names]; omega) (by simp only [parts]; omega) ⟨small_lt (by omega) (by omega), a5⟩ a6)
      rw [callF_at (fn := f_law_formula) rfl rfl (Nat.le_of_ble_eq_true rfl)]
      simp [forLoop_nil, forLoop_step, lcLoop_nil, lcLoop_step, M.itemsD.eq_3, L2.atI, L2.ixN, f_law_formula, b_law_formula, e_take, h0, hs, hw, i1, enc, enc_nd, List.range_succ, List.range_zero]
    · refine key (.pick f1 f2 f3) x3 ?_ (good _ ⟨a1, b1, c1⟩ (by simp only [deep]; omega) (by simp only [names, List.length_append]; omega) (by simp only [parts]; omega) ⟨a5, b5, c5⟩ (fun p hp => (List.mem_append.mp hp).elim (a6 p) fun hp => (List.mem_append.mp hp).elim (b6 p) (c6 p)))
      rw [callF_at (fn := f_law_formula) rfl rfl (Nat.le_of_ble_eq_true rfl)]
      simp [forLoop_nil, forLoop_step, lcLoop_nil, lcLoop_step, M.itemsD.eq_3, L2.atI, L2.ixN, f_law_formula, b_law_formula, e_take, h0, hs, hw, i1, i2, i3, enc, enc_nd, List.range_succ, List.range_zero]
theorem gen0 (nms : List (Int × Int)) (hk : NmOk nms) (n : Nat) (hn : 2 ≤ n) : GenOk nms n 0 := fun x => by
  obtain ⟨n, rfl⟩ : ∃ m, n = m + 1 := ⟨n - 1, by omega⟩
  exact gen_leaf nms hk n 0 x (by omega) (.inl rfl)
theorem gen1 (nms : List (Int × Int)) (hk : NmOk nms) (n : Nat) (hn : 3 ≤ n) : GenOk nms n 1 := by
  obtain ⟨n, rfl⟩ : ∃ m, n = m + 3 := ⟨n - 3, by omega⟩
  exact gen_step nms hk (n + 2) 0 (by omega) (gen0 nms hk (n + 2) (by omega))
theorem gen2 (nms : List (Int × Int)) (hk : NmOk nms) (n : Nat) (hn : 4 ≤ n) : GenOk nms n 2 := by
  obtain ⟨n, rfl⟩ : ∃ m, n = m + 4 := ⟨n - 4, by omega⟩
  exact gen_step nms hk (n + 3) 1 (by omega) (gen1 nms hk (n + 3) (by omega))
theorem gen3 (nms : List (Int × Int)) (hk : NmOk nms) (n : Nat) (hn : 5 ≤ n) : GenOk nms n 3 := by
  obtain ⟨n, rfl⟩ : ∃ m, n = m + 5 := ⟨n - 5, by omega⟩
  exact gen_step nms hk (n + 4) 2 (by omega) (gen2 nms hk (n + 4) (by omega))
/-! ### formulas shown -/
theorem wo_sh (w : Wo) : Sh (.str w.s) 10 := by
  cases w <;> exact ⟨by decide +kernel, by decide +kernel, by decide +kernel, by decide +kernel⟩
theorem sh_num : Sh (.str "num") 10 := ⟨by decide +kernel, by decide +kernel, by decide +kernel, by decide +kernel⟩
theorem sh_worth : Sh (.str "worth") 10 := ⟨by decide +kernel, by decide +kernel, by decide +kernel, by decide +kernel⟩
theorem sh_times : Sh (.str "times") 10 := ⟨by decide +kernel, by decide +kernel, by decide +kernel, by decide +kernel⟩
theorem sh_rest : Sh (.str "rest") 10 := ⟨by decide +kernel, by decide +kernel, by decide +kernel, by decide +kernel⟩
theorem sh_pick : Sh (.str "pick") 10 := ⟨by decide +kernel, by decide +kernel, by decide +kernel, by decide +kernel⟩
theorem parts_pos : ∀ f, 1 ≤ parts f
  | .num _ | .worth _ _ => by simp [parts]
  | .two _ a b => by have := parts_pos a; have := parts_pos b; simp only [parts]; omega
  | .times _ a | .rest _ a => by have := parts_pos a; simp only [parts]; omega
  | .pick a b c => by have := parts_pos a; have := parts_pos b; have := parts_pos c; simp only [parts]; omega
theorem enc_sh : ∀ f, Sml f → Sh (enc f) (100 * (parts f).toNat)
  | .num i, h => (sh_tuple (shAll_cons sh_num (shAll_cons (sh_int h) shAll_nil))).le (by simp [parts])
  | .worth i j, h => (sh_tuple (shAll_cons sh_worth (shAll_cons (sh_int h.1) (shAll_cons (sh_int h.2) shAll_nil)))).le (by simp [parts])
  | .two w a b, h => (sh_tuple (shAll_cons (wo_sh w) (shAll_cons (enc_sh a h.1) (shAll_cons (enc_sh b h.2) shAll_nil)))).le (by have := parts_pos a; have := parts_pos b; simp only [parts]; omega)
  | .times c a, h => (sh_tuple (shAll_cons sh_times (shAll_cons (sh_int h.1) (shAll_cons (enc_sh a h.2) shAll_nil)))).le (by have := parts_pos a; simp only [parts]; omega)
  | .rest c a, h => (sh_tuple (shAll_cons sh_rest (shAll_cons (sh_int h.1) (shAll_cons (enc_sh a h.2) shAll_nil)))).le (by have := parts_pos a; simp only [parts]; omega)
  | .pick a b c, h => (sh_tuple (shAll_cons sh_pick (shAll_cons (enc_sh a h.1) (shAll_cons (enc_sh b h.2.1) (shAll_cons (enc_sh c h.2.2) shAll_nil))))).le (by have := parts_pos a; have := parts_pos b; have := parts_pos c; simp only [parts]; omega)
theorem enc_dp : ∀ f, (enc f).depth ≤ deep f
  | .num i => by simp [enc, deep, dp_tuple, dpa_cons, dpa_nil, dp_str, dp_int]
  | .worth i j => by simp [enc, deep, dp_tuple, dpa_cons, dpa_nil, dp_str, dp_int]
  | .two w a b => by have := enc_dp a; have := enc_dp b; simp only [enc, deep, dp_tuple, dpa_cons, dpa_nil, dp_str, dp_int]; omega
  | .times c a => by have := enc_dp a; simp only [enc, deep, dp_tuple, dpa_cons, dpa_nil, dp_str, dp_int]; omega
  | .rest c a => by have := enc_dp a; simp only [enc, deep, dp_tuple, dpa_cons, dpa_nil, dp_str, dp_int]; omega
  | .pick a b c => by have := enc_dp a; have := enc_dp b; have := enc_dp c; simp only [enc, deep, dp_tuple, dpa_cons, dpa_nil, dp_str, dp_int]; omega
end K07
namespace K07
open PySem M
/-! ### books -/
structure Ru where
  sign : Nat
  parts : List Nat
  mks : List Fm
structure Bk where
  signs : List (Nat × Nat)
  rules : List Ru
def encS (s : Nat × Nat) : PyData := .tuple [.int (s.1 : Nat), .int (s.2 : Nat)]
def encP (l : List Nat) : List PyData := l.map fun (p : Nat) => .int (p : Int)
def encR (r : Ru) : PyData := .tuple [.int (r.sign : Nat), .tuple (encP r.parts), .list (r.mks.map enc)]
def encB (b : Bk) : PyData := .tuple [.list (b.signs.map encS), .list (b.rules.map encR)]
def sgAt (sg : List (Nat × Nat)) (i : Nat) : Nat × Nat := sg.getD i (0, 0)
def rw1 (k : Int) (m : Nat) : List (Int × Int) := (List.range m).map fun (j : Nat) => (k, (j : Int))
def dn (sg : List (Nat × Nat)) : Int → List Nat → List (Int × Int)
  | _, [] => []
  | k, p :: r => rw1 k (sgAt sg p).1 ++ dn sg (k + 1) r
def told (sg : List (Nat × Nat)) (s : Nat) (ps : List Nat) : List (Int × Int) := (List.range (sgAt sg s).2).map (fun (j : Nat) => ((0 : Int), ((sgAt sg s).1 : Int) + (j : Int))) ++ dn sg 1 ps
def all1 (sg : List (Nat × Nat)) : Int → List Nat → List (Int × Int)
  | _, [] => []
  | k, p :: r => rw1 k ((sgAt sg p).1 + (sgAt sg p).2) ++ all1 sg (k + 1) r
structure SgOk (sg : List (Nat × Nat)) : Prop where
  pos : 1 ≤ sg.length
  most : sg.length ≤ 4
  two : ∀ s ∈ sg, s.1 ≤ 2 ∧ s.2 ≤ 2
theorem SgOk.at {sg : List (Nat × Nat)} (h : SgOk sg) (i : Nat) : (sgAt sg i).1 ≤ 2 ∧ (sgAt sg i).2 ≤ 2 := by
  unfold sgAt
  by_cases hi : i < sg.length
  · simp only [List.getD_eq_getElem?_getD, List.getElem?_eq_getElem hi, Option.getD_some]
    exact h.two _ (List.getElem_mem hi)
  · simp only [List.getD_eq_getElem?_getD, List.getElem?_eq_none (show sg.length ≤ i by omega), Option.getD_none]
    exact ⟨by decide, by decide⟩
theorem at_nat {α : Type} (f : α → PyData) (l : List α) (i : Nat) (h : i < l.length) : L2.atI (l.map f) (i : Int) = some (f l[i]) := by
  unfold L2.atI L2.ixN
  rw [if_pos (by omega), if_pos (by rw [List.length_map]; omega)]
  simp [h]
theorem at_sg (sg : List (Nat × Nat)) (i : Nat) (h : i < sg.length) : L2.atI (sg.map encS) (i : Int) = some (.tuple [.int ((sgAt sg i).1 : Nat), .int ((sgAt sg i).2 : Nat)]) := by
  rw [at_nat encS sg i h]
  unfold sgAt
  simp only [List.getD_eq_getElem?_getD, List.getElem?_eq_getElem h, Option.getD_some]
  rfl
theorem rng (m : Nat) (h : m ≤ 16777216) : itemsD .r1 [.int (m : Int)] = some ((List.range m).map fun (i : Nat) => .int (i : Int)) := by
  rw [M.itemsD.eq_3, if_pos ((rgB_iff _).mpr ⟨by omega, by omega⟩)]
  rfl
theorem bd_le {sg : List (Nat × Nat)} (h : SgOk sg) (i : Nat) : (sgAt sg i).1 ≤ 16777216 ∧ (sgAt sg i).2 ≤ 16777216 := by have := h.at i; omega
theorem lc_told0 (C : CallT) (s0 s1 s2 s4 s5 s7 s8 : Option Slot) (d : Int) (m : Nat) : lcLoop (lcTurn C G (.nm 6) [] (.tup [(.cst (.int 0)), (.bin .Add (.var 3) (.var 6))])) ((List.range m).map fun (i : Nat) => .int (i : Int)) [s0, s1, s2, some (.int d, .sh), s4, s5, none, s7, s8] = .ok ((List.range m).map fun (k : Nat) => .tuple [.int 0, .int (d + (k : Int))], [s0, s1, s2, some (.int d, .sh), s4, s5, none, s7, s8]) :=
  lc_map (fun k _ => by simp [forLoop_nil, forLoop_step, lcLoop_nil, lcLoop_step, M.itemsD.eq_3, L2.atI, L2.ixN])
theorem lc_told1 (C : CallT) (s0 s1 s2 s3 s4 s5 s8 : Option Slot) (d : Int) (m : Nat) : lcLoop (lcTurn C G (.nm 6) [] (.tup [(.bin .Add (.var 7) (.cst (.int 1))), (.var 6)])) ((List.range m).map fun (i : Nat) => .int (i : Int)) [s0, s1, s2, s3, s4, s5, none, some (.int d, .sh), s8] = .ok ((List.range m).map fun (k : Nat) => .tuple [.int (d + 1), .int (k : Int)], [s0, s1, s2, s3, s4, s5, none, some (.int d, .sh), s8]) :=
  lc_map (fun k _ => by simp [forLoop_nil, forLoop_step, lcLoop_nil, lcLoop_step, M.itemsD.eq_3, L2.atI, L2.ixN])
theorem e_told (n : Nat) (sg : List (Nat × Nat)) (h : SgOk sg) (s : Nat) (hs : s < sg.length) (ps : List Nat) (hp : ∀ p ∈ ps, p < sg.length) (hl : ps.length ≤ 2) : callF F G (n + 1) fi_law_told [.v (.list (sg.map encS)), .v (.int (s : Int)), .v (.tuple (encP ps))] = .ok ⟨.list ((told sg s ps).map pD), true, []⟩ := by
  rw [callF_at (fn := f_law_told) rfl rfl (Nat.le_of_ble_eq_true rfl)]
  have e0 := at_sg sg s hs
  have r0 := rng (sgAt sg s).2 (bd_le h s).2
  have b0 := h.at s
  match ps, hp, hl with
  | [], hp, hl =>
    simp [forLoop_nil, forLoop_step, f_law_told, b_law_told, e0, r0, lc_told0, encP, told, dn, pD]
  | [a], hp, hl =>
    have e1 := at_sg sg a (hp a (by simp))
    have r1 := rng (sgAt sg a).1 (bd_le h a).1
    have b1 := h.at a
    have z1 : (sgAt sg s).2 + (sgAt sg a).1 ≤ 16777216 := by omega
    simp [forLoop_nil, forLoop_step, f_law_told, b_law_told, e0, r0, lc_told0, encP, told, dn, rw1, pD, e1, r1, lc_told1, z1]
    rfl
  | [a, b], hp, hl =>
    have e1 := at_sg sg a (hp a (by simp))
    have r1 := rng (sgAt sg a).1 (bd_le h a).1
    have b1 := h.at a
    have e2 := at_sg sg b (hp b (by simp))
    have r2 := rng (sgAt sg b).1 (bd_le h b).1
    have b2 := h.at b
    have z1 : (sgAt sg s).2 + (sgAt sg a).1 ≤ 16777216 := by omega
    have z2 : (sgAt sg s).2 + ((sgAt sg a).1 + (sgAt sg b).1) ≤ 16777216 := by omega
    have z3 : (sgAt sg s).2 + (sgAt sg a).1 + (sgAt sg b).1 ≤ 16777216 := by omega
    simp [forLoop_nil, forLoop_step, f_law_told, b_law_told, e0, r0, lc_told0, encP, told, dn, rw1, pD, e1, r1, e2, r2, lc_told1, z1, z2, z3]
    rfl
theorem lc_names0 (C : CallT) (s0 s1 s2 s3 s4 s6 s8 s9 : Option Slot) (d : Int) (m : Nat) : lcLoop (lcTurn C G (.nm 7) [] (.tup [(.var 5), (.var 7)])) ((List.range m).map fun (i : Nat) => .int (i : Int)) [s0, s1, s2, s3, s4, some (.int d, .sh), s6, none, s8, s9] = .ok ((List.range m).map fun (k : Nat) => .tuple [.int d, .int (k : Int)], [s0, s1, s2, s3, s4, some (.int d, .sh), s6, none, s8, s9]) :=
  lc_map (fun k _ => by simp [forLoop_nil, forLoop_step, lcLoop_nil, lcLoop_step, M.itemsD.eq_3, L2.atI, L2.ixN])
theorem pD_any (l : List (Int × Int)) (p : Int × Int) : ((l.map pD).any fun z => PyData.eqv z (pD p)) = decide (p ∈ l) := by
  induction l with
  | nil => rfl
  | cons q r ih =>
    rw [List.map_cons, List.any_cons, ih]
    have e : PyData.eqv (pD q) (pD p) = decide (p = q) := by
      simp only [pD, eqv_tuple, eqva_cons, eqva_nil, eqv_int, Bool.and_true]
      rw [Bool.eq_iff_iff]
      simp only [Bool.and_eq_true, decide_eq_true_eq, beq_iff_eq, Prod.ext_iff]
      exact ⟨fun h => ⟨h.1.symm, h.2.symm⟩, fun h => ⟨h.1.symm, h.2.symm⟩⟩
    rw [e, Bool.eq_iff_iff]
    simp
theorem pD_dp (p : Int × Int) : (pD p).depth ≤ 64 := by simp [pD, dp_tuple, dpa_cons, dpa_nil, dp_int]
def opP (tl : List (Int × Int)) (p : Int × Int) : Option PyData := if p ∈ tl then none else some (pD p)
theorem lc_names1 (C : CallT) (s0 s1 s2 s3 s5 s6 s7 : Option Slot) (sf : Slot) (tl : List (Int × Int)) (l : List (Int × Int)) : lcLoop (lcTurn C G (.nm 9) [(.cmp .NotIn (.var 9) (.var 8))] (.var 9)) (l.map pD) [s0, s1, s2, s3, some sf, s5, s6, s7, some (.list (tl.map pD), .ow), none] = .ok (l.filterMap (opP tl), [s0, s1, s2, s3, some sf, s5, s6, s7, some (.list (tl.map pD), .ow), none]) :=
  lc_fm (fun p _ => by
    have h1 := pD_any tl p
    have h2 := pD_dp p
    unfold opP
    by_cases h : p ∈ tl
    · simp only [h, decide_true] at h1
      have h1' : (tl.any fun z => PyData.eqv (pD z) (pD p)) = true := by rw [← h1, List.any_map]; rfl
      simp [forLoop_nil, forLoop_step, lcLoop_nil, lcLoop_step, M.itemsD.eq_3, L2.atI, L2.ixN, h1, h2, h, h1', show ndB (pD p) = true from rfl]
    · simp only [h, decide_false] at h1
      have h1' : (tl.any fun z => PyData.eqv (pD z) (pD p)) = false := by rw [← h1, List.any_map]; rfl
      simp [forLoop_nil, forLoop_step, lcLoop_nil, lcLoop_step, M.itemsD.eq_3, L2.atI, L2.ixN, h1, h2, h, h1', show ndB (pD p) = true from rfl])
theorem fm_opP (tl l : List (Int × Int)) : l.filterMap (opP tl) = (l.filter fun p => decide (p ∉ tl)).map pD := by
  induction l with
  | nil => rfl
  | cons p r ih =>
    rw [List.filterMap_cons, List.filter_cons]
    unfold opP at ih ⊢
    by_cases h : p ∈ tl
    · simp [h, ih]
    · simp [h, ih]
def nams (sg : List (Nat × Nat)) (s : Nat) (ps : List Nat) (free : Bool) : List (Int × Int) := if free = true then all1 sg 0 (s :: ps) else (all1 sg 0 (s :: ps)).filter fun p => decide (p ∉ told sg s ps)
theorem sum2 (a b : Int) : bltD .sum [.tuple [.int a, .int b]] = some (.int (a + b), false) := by simp [bltD, intsD]
theorem rng2 (a b : Nat) (h : a + b ≤ 16777216) : itemsD .r1 [.int ((a : Int) + (b : Int))] = some ((List.range (a + b)).map fun (i : Nat) => .int (i : Int)) := by
  have := rng (a + b) h
  rw [← this]
  congr 2
def stNames : MS := .forr (.tp [(.nm 5), (.nm 6)]) .en [(.bin .Add (.tup [(.var 1)]) (.var 2))] [.set 4 (.bin .Add (.var 4) (.lc (.nm 7) .r1 [(.blt .sum [(.sub (.var 0) (.var 6))])] [] (.tup [(.var 5), (.var 7)])))]
theorem names_loop (C : CallT) (sg : List (Nat × Nat)) (h : SgOk sg) (s : Nat) (hs : s < sg.length) (ps : List Nat) (hp : ∀ p ∈ ps, p < sg.length) (hl : ps.length ≤ 2) (s3 : Option Slot) : ∃ o5 o6, evS C G stNames [some (.list (sg.map encS), .sh), some (.int (s : Int), .sh), some (.tuple (encP ps), .sh), s3, some (.list [], .ow), none, none, none, none, none] = .ok (.nx [some (.list (sg.map encS), .sh), some (.int (s : Int), .sh), some (.tuple (encP ps), .sh), s3, some (.list ((all1 sg 0 (s :: ps)).map pD), .ow), o5, o6, none, none, none]) := by
  have e0 := at_sg sg s hs
  have b0 := h.at s
  have r0 := rng2 (sgAt sg s).1 (sgAt sg s).2 (by omega)
  match ps, hp, hl with
  | [], hp, hl =>
    have z0 : (sgAt sg s).1 + (sgAt sg s).2 ≤ 16777216 := by omega
    exact ⟨some (.int 0, .sh), some (.int s, .sh), by simp [forLoop_nil, forLoop_step, stNames, sum2, e0, r0, lc_names0, encP, all1, rw1, pD, z0]; try rfl⟩
  | [a], hp, hl =>
    have e1 := at_sg sg a (hp a (by simp))
    have b1 := h.at a
    have r1 := rng2 (sgAt sg a).1 (sgAt sg a).2 (by omega)
    have z0 : (sgAt sg s).1 + (sgAt sg s).2 ≤ 16777216 := by omega
    have z1 : (sgAt sg s).1 + (sgAt sg s).2 + ((sgAt sg a).1 + (sgAt sg a).2) ≤ 16777216 := by omega
    exact ⟨some (.int 1, .sh), some (.int a, .sh), by simp [forLoop_nil, forLoop_step, stNames, sum2, e0, r0, e1, r1, lc_names0, encP, all1, rw1, pD, z0, z1]; try rfl⟩
  | [a, b], hp, hl =>
    have e1 := at_sg sg a (hp a (by simp))
    have b1 := h.at a
    have r1 := rng2 (sgAt sg a).1 (sgAt sg a).2 (by omega)
    have e2 := at_sg sg b (hp b (by simp))
    have b2 := h.at b
    have r2 := rng2 (sgAt sg b).1 (sgAt sg b).2 (by omega)
    have z0 : (sgAt sg s).1 + (sgAt sg s).2 ≤ 16777216 := by omega
    have z1 : (sgAt sg s).1 + (sgAt sg s).2 + ((sgAt sg a).1 + (sgAt sg a).2) ≤ 16777216 := by omega
    have z2 : (sgAt sg s).1 + (sgAt sg s).2 + ((sgAt sg a).1 + (sgAt sg a).2 + ((sgAt sg b).1 + (sgAt sg b).2)) ≤ 16777216 := by omega
    have z3 : (sgAt sg s).1 + (sgAt sg s).2 + ((sgAt sg a).1 + (sgAt sg a).2) + ((sgAt sg b).1 + (sgAt sg b).2) ≤ 16777216 := by omega
    exact ⟨some (.int 2, .sh), some (.int b, .sh), by simp [forLoop_nil, forLoop_step, stNames, sum2, e0, r0, e1, r1, e2, r2, lc_names0, encP, all1, rw1, pD, z0, z1, z2, z3]; try rfl⟩
theorem e_names1 (n : Nat) (sg : List (Nat × Nat)) (h : SgOk sg) (s : Nat) (hs : s < sg.length) (ps : List Nat) (hp : ∀ p ∈ ps, p < sg.length) (hl : ps.length ≤ 2) (fr : Bool) : callF F G (n + 2) fi_law_names [.v (.list (sg.map encS)), .v (.int (s : Int)), .v (.tuple (encP ps)), .v (.bool fr)] = .ok ⟨.list ((nams sg s ps fr).map pD), true, []⟩ := by
  rw [callF_at (fn := f_law_names) rfl rfl (Nat.le_of_ble_eq_true rfl)]
  have t0 := e_told n sg h s hs ps hp hl
  obtain ⟨o5, o6, e⟩ := names_loop (callF F G (n + 1)) sg h s hs ps hp hl (some (.bool fr, .sh))
  have eb : b_law_names = [.set 4 (.lst []), stNames, .ite (.var 3) [.ret (.var 4)] [], .set 8 (.call fi_law_told [(.var 0), (.var 1), (.var 2)]), .ret (.lc (.nm 9) .ex [(.var 4)] [(.cmp .NotIn (.var 9) (.var 8))] (.var 9))] := rfl
  cases fr with
  | true => simp [forLoop_nil, forLoop_step, f_law_names, eb, e, nams]
  | false => simp [forLoop_nil, forLoop_step, f_law_names, eb, e, nams, t0, lc_names1, fm_opP]
end K07
namespace K07
open PySem M
theorem mem_rw1 {k : Int} {m : Nat} {p : Int × Int} : p ∈ rw1 k m ↔ p.1 = k ∧ 0 ≤ p.2 ∧ p.2 < (m : Int) := by
  unfold rw1
  rw [List.mem_map]
  constructor
  · rintro ⟨j, hj, rfl⟩
    have := List.mem_range.mp hj
    exact ⟨rfl, by simp, by simp; omega⟩
  · rintro ⟨h1, h2, h3⟩
    exact ⟨p.2.toNat, List.mem_range.mpr (by omega), Prod.ext h1.symm (by simp; omega)⟩
theorem mem_all1 {sg : List (Nat × Nat)} : ∀ {l : List Nat} {k : Int} {p : Int × Int}, p ∈ all1 sg k l ↔ ∃ i, ∃ h : i < l.length, p.1 = k + (i : Int) ∧ 0 ≤ p.2 ∧ p.2 < (((sgAt sg l[i]).1 + (sgAt sg l[i]).2 : Nat) : Int)
  | [], k, p => by simp [all1]
  | a :: l, k, p => by
    simp only [all1, List.mem_append, mem_rw1, mem_all1 (l := l)]
    constructor
    · rintro (⟨h1, h2, h3⟩ | ⟨i, hi, h1, h2, h3⟩)
      · exact ⟨0, by simp, by simp [h1], h2, by simpa using h3⟩
      · exact ⟨i + 1, by simpa using hi, by rw [h1]; omega, h2, by simpa using h3⟩
    · rintro ⟨i, hi, h1, h2, h3⟩
      cases i with
      | zero => exact .inl ⟨by simpa using h1, h2, by simpa using h3⟩
      | succ i => exact .inr ⟨i, by simpa using hi, by rw [h1]; omega, h2, by simpa using h3⟩
theorem len_rw1 (k : Int) (m : Nat) : (rw1 k m).length = m := by simp [rw1]
theorem len_all1 {sg : List (Nat × Nat)} (h : SgOk sg) : ∀ (l : List Nat) (k : Int), (all1 sg k l).length ≤ 4 * l.length
  | [], k => by simp [all1]
  | a :: l, k => by
    have := len_all1 h l (k + 1)
    have := h.at a
    simp only [all1, List.length_append, len_rw1, List.length_cons]
    omega
theorem len_dn {sg : List (Nat × Nat)} (h : SgOk sg) : ∀ (l : List Nat) (k : Int), (dn sg k l).length ≤ 2 * l.length
  | [], k => by simp [dn]
  | a :: l, k => by
    have := len_dn h l (k + 1)
    have := h.at a
    simp only [dn, List.length_append, len_rw1, List.length_cons]
    omega
theorem len_told {sg : List (Nat × Nat)} (h : SgOk sg) (s : Nat) (ps : List Nat) : (told sg s ps).length ≤ 2 + 2 * ps.length := by
  have := len_dn h ps 1
  have := h.at s
  simp only [told, List.length_append, List.length_map, List.length_range]
  omega
theorem nams_sub {sg : List (Nat × Nat)} {s : Nat} {ps : List Nat} {fr : Bool} {p : Int × Int} (h : p ∈ nams sg s ps fr) : p ∈ all1 sg 0 (s :: ps) := by
  unfold nams at h
  split at h
  · exact h
  · exact (List.mem_filter.mp h).1
theorem nams_ok {sg : List (Nat × Nat)} (h : SgOk sg) (s : Nat) (ps : List Nat) (hl : ps.length ≤ 2) (fr : Bool) : NmOk (nams sg s ps fr) := by
  refine ⟨?_, fun p hp => ?_⟩
  · have h1 := len_all1 h (s :: ps) 0
    have h2 : (nams sg s ps fr).length ≤ (all1 sg 0 (s :: ps)).length := by
      unfold nams
      split
      · exact Nat.le_refl _
      · exact List.length_filter_le _ _
    simp only [List.length_cons] at h1
    omega
  · obtain ⟨i, hi, h1, h2, h3⟩ := mem_all1.mp (nams_sub hp)
    have := h.at (s :: ps)[i]
    simp only [List.length_cons] at hi
    exact ⟨⟨by omega, small_lt (by omega) (by omega)⟩, h2, small_lt (by omega) (by omega)⟩
structure RuOk (sg : List (Nat × Nat)) (r : Ru) : Prop where
  sign : r.sign < sg.length
  few : r.parts.length ≤ 2
  parts : ∀ p ∈ r.parts, p < sg.length
  len : r.mks.length = (told sg r.sign r.parts).length
  good : ∀ f ∈ r.mks, Good (all1 sg 0 (r.sign :: r.parts)) 2 f
theorem Good.sub {nms nms' : List (Int × Int)} {d : Nat} {f : Fm} (h : Good nms d f) (hs : ∀ p ∈ nms, p ∈ nms') : Good nms' d f := ⟨h.fit, h.deep, h.few, h.parts, h.sml, fun p hp => hs p (h.nms p hp)⟩
/-- the pile stands at slot 0, by reference -/
theorem lc_rule (n : Nat) (nms nms' : List (Int × Int)) (hk : NmOk nms) (hs : ∀ p ∈ nms, p ∈ nms') (s1 s2 s3 s4 s5 s6 s7 : Option Slot) (hs7 : s7 = some (.list (nms.map pD), .sh) ∨ s7 = some (.list (nms.map pD), .ow)) (l : List PyData) (x : Int) : ∃ (fs : List Fm) (x' : Int) (s7' : Option Slot), lcLoop (lcTurn (callF F G (n + 4)) G (.nm 8) [] (.call fi_law_formula [(.ref 0), (.var 7), (.cst (.int 2))])) l [some (.list [.int x], .rf), s1, s2, s3, s4, s5, s6, s7, none] = .ok (fs.map enc, [some (.list [.int x'], .rf), s1, s2, s3, s4, s5, s6, s7', none]) ∧ fs.length = l.length ∧ ∀ f ∈ fs, Good nms' 2 f := by
  have hf : s7 = some (.list (nms.map pD), .sh) ∨ s7 = some (.list (nms.map pD), .ow) → freeS (some s7) = true := by rintro (rfl | rfl) <;> rfl
  obtain ⟨ys, env', e1, e2, fs, x', s7', e3, e4, e5⟩ := lc_st (α := Unit) (f := lcTurn (callF F G (n + 4)) G (.nm 8) [] (.call fi_law_formula [(.ref 0), (.var 7), (.cst (.int 2))])) (g := id)
    (fun acc env => ∃ (fs : List Fm) (x' : Int) (s7' : Option Slot), (s7' = some (.list (nms.map pD), .sh) ∨ s7' = some (.list (nms.map pD), .ow)) ∧ env = [some (.list [.int x'], .rf), s1, s2, s3, s4, s5, s6, s7', none] ∧ acc = fs.map enc ∧ ∀ f ∈ fs, Good nms' 2 f) l [] _ ⟨[], x, s7, hs7, rfl, rfl, fun f hf => by cases hf⟩ (fun y acc env _ ⟨fs, x', s7', h1, h2, h3, h4⟩ => by
      obtain ⟨f, x2, e, g⟩ := gen2 nms hk (n + 4) (by omega) x'
      have e : callF F G (n + 4) fi_law_formula [.r (.list [.int x']), .v (.list (nms.map pD)), .v (.int 2)] = .ok ⟨enc f, false, [.list [.int x2]]⟩ := e
      refine ⟨enc f, [some (.list [.int x2], .rf), s1, s2, s3, s4, s5, s6, some (.list (nms.map pD), .sh), none], ?_, fs ++ [f], x2, _, .inl rfl, rfl, by rw [h3, List.map_append]; rfl, fun z hz => ?_⟩
      · subst h2
        rcases h1 with rfl | rfl
        · simp [forLoop_nil, forLoop_step, lcLoop_nil, lcLoop_step, M.itemsD.eq_3, L2.atI, L2.ixN, e, enc_nd]
        · simp [forLoop_nil, forLoop_step, lcLoop_nil, lcLoop_step, M.itemsD.eq_3, L2.atI, L2.ixN, e, enc_nd]
      · rcases List.mem_append.mp hz with hz | hz
        · exact h4 z hz
        · rw [List.mem_singleton.mp hz]; exact g.sub hs)
  rw [List.map_id] at e1
  obtain ⟨e6, e7⟩ := e5
  rw [List.nil_append] at e6
  refine ⟨fs, x', s7', ?_, ?_, e7⟩
  · rw [e1, e4, e6]
  · rw [← e2, e6, List.length_map]
theorem told_nd (sg : List (Nat × Nat)) (s : Nat) (ps : List Nat) : True := trivial
/-- behind the parts -/
theorem rule_tail (n : Nat) (sg : List (Nat × Nat)) (h : SgOk sg) (s : Nat) (hs : s < sg.length) (ps : List Nat) (hp : ∀ p ∈ ps, p < sg.length) (hl : ps.length ≤ 2) (fr : Bool) (x most : Int) : ∃ (fs : List Fm) (x' : Int), retOf [true, false, false, false, false] (evSs (callF F G (n + 4)) G [.set 7 (.call fi_law_names [(.var 1), (.var 2), (.var 5), (.var 4)]),
   .ret (.tup [(.var 2), (.var 5), (.lc (.nm 8) .ex [(.call fi_law_told [(.var 1), (.var 2), (.var 5)])] [] (.call fi_law_formula [(.ref 0), (.var 7), (.cst (.int 2))]))])] [some (.list [.int x], .rf), some (.list (sg.map encS), .sh), some (.int (s : Int), .sh), some (.int most, .sh), some (.bool fr, .sh), some (.tuple (encP ps), .sh), none, none, none]) = .ok ⟨encR ⟨s, ps, fs⟩, false, [.list [.int x']]⟩ ∧ RuOk sg ⟨s, ps, fs⟩ := by
  have t0 := e_told (n + 3) sg h s hs ps hp hl
  have t1 := e_names1 (n + 2) sg h s hs ps hp hl fr
  obtain ⟨fs, x', s7', e1, e2, e3⟩ := lc_rule n (nams sg s ps fr) (all1 sg 0 (s :: ps)) (nams_ok h s ps hl fr) (fun p hp => nams_sub hp) (some (.list (sg.map encS), .sh)) (some (.int (s : Int), .sh)) (some (.int most, .sh)) (some (.bool fr, .sh)) (some (.tuple (encP ps), .sh)) none (some (.list ((nams sg s ps fr).map pD), .ow)) (.inr rfl) ((told sg s ps).map pD) x
  refine ⟨fs, x', ?_, hs, hl, hp, by rw [e2, List.length_map], e3⟩
  simp [forLoop_nil, forLoop_step, t0, t1, e1, encR]
theorem e_rule (n : Nat) (sg : List (Nat × Nat)) (h : SgOk sg) (s : Nat) (hs : s < sg.length) (most : Int) (hm : most = 0 ∨ most = 2) (fr : Bool) (x : Int) : ∃ (ps : List Nat) (fs : List Fm) (x' : Int), callF F G (n + 5) fi_law_rule [.r (.list [.int x]), .v (.list (sg.map encS)), .v (.int (s : Int)), .v (.int most), .v (.bool fr)] = .ok ⟨encR ⟨s, ps, fs⟩, false, [.list [.int x']]⟩ ∧ RuOk sg ⟨s, ps, fs⟩ ∧ (most = 0 → ps = []) := by
  have hg : (0 : Int) < sg.length := by have := h.pos; omega
  have hg' : 0 < sg.length := by omega
  have hg2 : (sg.length : Int) < 1073741824 := by have := h.most; omega
  have eb : b_law_rule = .set 5 (.blt .tup [(.lc (.nm 6) .r1 [(.call fi_law_take [(.ref 0), (.bin .Add (.var 3) (.cst (.int 1)))])] [] (.call fi_law_take [(.ref 0), (.blt .len [(.var 1)])]))]) :: [.set 7 (.call fi_law_names [(.var 1), (.var 2), (.var 5), (.var 4)]),
   .ret (.tup [(.var 2), (.var 5), (.lc (.nm 8) .ex [(.call fi_law_told [(.var 1), (.var 2), (.var 5)])] [] (.call fi_law_formula [(.ref 0), (.var 7), (.cst (.int 2))]))])] := rfl
  have key : ∀ (ps : List Nat) (x1 : Int), (∀ p ∈ ps, p < sg.length) → ps.length ≤ 2 → (most = 0 → ps = []) → evS (callF F G (n + 4)) G (.set 5 (.blt .tup [(.lc (.nm 6) .r1 [(.call fi_law_take [(.ref 0), (.bin .Add (.var 3) (.cst (.int 1)))])] [] (.call fi_law_take [(.ref 0), (.blt .len [(.var 1)])]))])) [some (.list [.int x], .rf), some (.list (sg.map encS), .sh), some (.int (s : Int), .sh), some (.int most, .sh), some (.bool fr, .sh), none, none, none, none] = .ok (.nx [some (.list [.int x1], .rf), some (.list (sg.map encS), .sh), some (.int (s : Int), .sh), some (.int most, .sh), some (.bool fr, .sh), some (.tuple (encP ps), .sh), none, none, none]) → ∃ (ps : List Nat) (fs : List Fm) (x' : Int), callF F G (n + 5) fi_law_rule [.r (.list [.int x]), .v (.list (sg.map encS)), .v (.int (s : Int)), .v (.int most), .v (.bool fr)] = .ok ⟨encR ⟨s, ps, fs⟩, false, [.list [.int x']]⟩ ∧ RuOk sg ⟨s, ps, fs⟩ ∧ (most = 0 → ps = []) := fun ps x1 hp hl hz e => by
    obtain ⟨fs, x', e1, e2⟩ := rule_tail n sg h s hs ps hp hl fr x1 most
    refine ⟨ps, fs, x', ?_, e2, hz⟩
    rw [callF_at (fn := f_law_rule) rfl rfl (Nat.le_of_ble_eq_true rfl), ← e1]
    show retOf _ (evSs _ _ b_law_rule _) = _
    rw [eb, evSs_cons]
    show retOf _ (seqS (evS (callF F G (n + 4)) G _ [some (.list [.int x], .rf), some (.list (sg.map encS), .sh), some (.int (s : Int), .sh), some (.int most, .sh), some (.bool fr, .sh), none, none, none, none]) _) = _
    rw [e, seqS_nx]
    rfl
  have pt : ∀ y : Int, (y % (sg.length : Int)).toNat < sg.length ∧ (((y % (sg.length : Int)).toNat : Nat) : Int) = y % (sg.length : Int) := fun y => by
    have h1 := Int.emod_nonneg y (show (sg.length : Int) ≠ 0 by omega)
    have h2 := Int.emod_lt_of_pos y hg
    exact ⟨by omega, by omega⟩
  rcases hm with rfl | rfl
  · refine key [] (x / 1) (fun p hp => by cases hp) (by simp) (fun _ => rfl) ?_
    simp [forLoop_nil, forLoop_step, lcLoop_nil, lcLoop_step, M.itemsD.eq_3, L2.atI, L2.ixN, e_take, encP]
  · have h3 : x % 3 = 0 ∨ x % 3 = 1 ∨ x % 3 = 2 := by omega
    rcases h3 with h3 | h3 | h3
    · refine key [] (x / 3) (fun p hp => by cases hp) (by simp) (fun _ => rfl) ?_
      simp [forLoop_nil, forLoop_step, lcLoop_nil, lcLoop_step, M.itemsD.eq_3, L2.atI, L2.ixN, e_take, encP, h3]
    · refine key [(x / 3 % (sg.length : Int)).toNat] (x / 3 / sg.length) (fun p hp => by rw [List.mem_singleton.mp hp]; exact (pt _).1) (by simp) (fun z => by omega) ?_
      simp [forLoop_nil, forLoop_step, lcLoop_nil, lcLoop_step, M.itemsD.eq_3, L2.atI, L2.ixN, e_take, encP, h3, hg, hg', hg2, (pt _).2, List.range_succ, List.range_zero]
    · refine key [(x / 3 % (sg.length : Int)).toNat, (x / 3 / sg.length % (sg.length : Int)).toNat] (x / 3 / sg.length / sg.length) (fun p hp => by
        simp only [List.mem_cons, List.not_mem_nil, or_false] at hp
        rcases hp with rfl | rfl
        · exact (pt _).1
        · exact (pt _).1) (by simp) (fun z => by omega) ?_
      simp [forLoop_nil, forLoop_step, lcLoop_nil, lcLoop_step, M.itemsD.eq_3, L2.atI, L2.ixN, e_take, encP, h3, hg, hg', hg2, (pt _).2, List.range_succ, List.range_zero]
end K07
namespace K07
open PySem M
theorem rngI (i : Int) (h0 : 0 ≤ i) (h : i ≤ 16777216) : itemsD .r1 [.int i] = some ((List.range i.toNat).map fun (i : Nat) => .int (i : Int)) := by
  rw [M.itemsD.eq_3, if_pos ((rgB_iff _).mpr ⟨by omega, by omega⟩)]
theorem e_cellI (n : Nat) (ns : List Int) (i : Int) (h : 0 ≤ i) : ∃ x, callF F G (n + 2) fi_law_cell [.v (.list (ns.map PyData.int)), .v (.int i)] = .ok ⟨.int x, false, []⟩ := by
  obtain ⟨k, rfl⟩ : ∃ k : Nat, i = k := ⟨i.toNat, by omega⟩
  exact e_cell n ns k
theorem lc_sg (n : Nat) (s0 s1 s3 s5 s6 s7 s8 s9 s10 : Option Slot) (l : List PyData) (x : Int) : ∃ (sg : List (Nat × Nat)) (x' : Int), lcLoop (lcTurn (callF F G (n + 1)) G (.nm 4) [] (.tup [(.call fi_law_take [(.ref 2), (.cst (.int 3))]), (.call fi_law_take [(.ref 2), (.cst (.int 3))])])) l [s0, s1, some (.list [.int x], .ow), s3, none, s5, s6, s7, s8, s9, s10] = .ok (sg.map encS, [s0, s1, some (.list [.int x'], .ow), s3, none, s5, s6, s7, s8, s9, s10]) ∧ sg.length = l.length ∧ ∀ s ∈ sg, s.1 ≤ 2 ∧ s.2 ≤ 2 := by
  obtain ⟨ys, env', e1, e2, sg, x', e4, e6, e7⟩ := lc_st (α := Unit) (f := lcTurn (callF F G (n + 1)) G (.nm 4) [] (.tup [(.call fi_law_take [(.ref 2), (.cst (.int 3))]), (.call fi_law_take [(.ref 2), (.cst (.int 3))])])) (g := id)
    (fun acc env => ∃ (sg : List (Nat × Nat)) (x' : Int), env = [s0, s1, some (.list [.int x'], .ow), s3, none, s5, s6, s7, s8, s9, s10] ∧ acc = sg.map encS ∧ ∀ s ∈ sg, s.1 ≤ 2 ∧ s.2 ≤ 2) l [] _ ⟨[], x, rfl, rfl, fun f hf => by cases hf⟩ (fun y acc env _ ⟨sg, x', h2, h3, h4⟩ => by
      refine ⟨.tuple [.int (x' % 3), .int (x' / 3 % 3)], [s0, s1, some (.list [.int (x' / 3 / 3)], .ow), s3, none, s5, s6, s7, s8, s9, s10], ?_, sg ++ [((x' % 3).toNat, (x' / 3 % 3).toNat)], x' / 3 / 3, rfl, ?_, fun z hz => ?_⟩
      · subst h2
        simp [forLoop_nil, forLoop_step, lcLoop_nil, lcLoop_step, M.itemsD.eq_3, L2.atI, L2.ixN, e_take]
      · rw [h3, List.map_append]
        congr 1
        show _ = [encS _]
        unfold encS
        have a1 : (((x' % 3).toNat : Nat) : Int) = x' % 3 := by omega
        have a2 : (((x' / 3 % 3).toNat : Nat) : Int) = x' / 3 % 3 := by omega
        simp only [a1, a2]
      · rcases List.mem_append.mp hz with hz | hz
        · exact h4 z hz
        · rw [List.mem_singleton.mp hz]
          exact ⟨by show (x' % 3).toNat ≤ 2; omega, by show (x' / 3 % 3).toNat ≤ 2; omega⟩)
  rw [List.map_id] at e1
  rw [List.nil_append] at e6
  refine ⟨sg, x', ?_, ?_, e7⟩
  · rw [e1, e4, e6]
  · rw [← e2, e6, List.length_map]
structure BkOk (b : Bk) : Prop where
  sg : SgOk b.signs
  few : b.rules.length ≤ 8
  rules : ∀ r ∈ b.rules, RuOk b.signs r
def bBook : List MS := [.set 8 (.lst [(.call fi_law_cell [(.var 0), (.bin .Add (.bin .Add (.var 1) (.cst (.int 1))) (.var 4))])]), .set 9 (.call fi_law_take [(.ref 8), (.blt .len [(.var 3)])]), .set 10 (.cst (.int 2)), .ite (.and (.var 5) (.cmp .Lt (.var 4) (.blt .len [(.var 3)]))) [.set 9 (.var 4), .set 10 (.cst (.int 0))] [], .mut 7 .append [(.call fi_law_rule [(.ref 8), (.var 3), (.var 9), (.var 10), (.var 6)])]]
def ShB (ns : List Int) (st : Int) (sg : List (Nat × Nat)) (lv fr : Bool) (i : Nat) (env : M.Env) : Prop := ∃ (rs : List Ru) (y : Int) (s3 o4 o8 o9 o10 : Option Slot), env = [some (.list (ns.map PyData.int), .sh), some (.int st, .sh), some (.list [.int y], .ow), s3, o4, some (.bool lv, .sh), some (.bool fr, .sh), some (.list (rs.map encR), .ow), o8, o9, o10] ∧ (s3 = some (.list (sg.map encS), .ow) ∨ s3 = some (.list (sg.map encS), .sh)) ∧ freeS (some o4) = true ∧ freeS (some o8) = true ∧ freeS (some o9) = true ∧ freeS (some o10) = true ∧ rs.length = i ∧ ∀ r ∈ rs, RuOk sg r
theorem book_turn (n : Nat) (ns : List Int) (st : Int) (h0 : 0 ≤ st) (sg : List (Nat × Nat)) (h : SgOk sg) (lv fr : Bool) (i k : Nat) (hi : i ≤ 8) (env : M.Env) (hs : ShB ns st sg lv fr i env) : ∃ env', M.forTurn (callF F G (n + 5)) G (.nm 4) bBook (.int (k : Int)) env = .ok (.nx env') ∧ ShB ns st sg lv fr (i + 1) env' := by
  obtain ⟨rs, y, s3, o4, o8, o9, o10, rfl, h3, f4, f8, f9, f10, hl, hr⟩ := hs
  obtain ⟨x, hx⟩ := e_cellI (n + 3) ns (st + 1 + k) (by omega)
  have hg : (0 : Int) < sg.length := by have := h.pos; omega
  have hg' : 0 < sg.length := by omega
  have hg2 : (sg.length : Int) < 1073741824 := by have := h.most; omega
  have h1 := Int.emod_nonneg x (show (sg.length : Int) ≠ 0 by omega)
  have h2 := Int.emod_lt_of_pos x hg
  have hz : rs.length < 16777216 := by omega
  have fin : ∀ (ps : List Nat) (fs : List Fm) (s : Nat) (z : Int) (o9' o10' : Option Slot), freeS (some o9') = true → freeS (some o10') = true → RuOk sg ⟨s, ps, fs⟩ → ShB ns st sg lv fr (i + 1) [some (.list (ns.map PyData.int), .sh), some (.int st, .sh), some (.list [.int y], .ow), some (.list (sg.map encS), .sh), some (.int (k : Int), .sh), some (.bool lv, .sh), some (.bool fr, .sh), some (.list (rs.map encR ++ [encR ⟨s, ps, fs⟩]), .ow), some (.list [.int z], .ow), o9', o10'] := fun ps fs s z o9' o10' g9 g10 ok =>
    ⟨rs ++ [⟨s, ps, fs⟩], y, _, _, _, _, _, by rw [List.map_append]; rfl, .inr rfl, rfl, rfl, g9, g10, by rw [List.length_append, hl]; rfl, fun r hr' => by
      rcases List.mem_append.mp hr' with z | z
      · exact hr r z
      · rw [List.mem_singleton.mp z]; exact ok⟩
  have nd : ∀ r : Ru, ndB (encR r) = true := fun r => rfl
  by_cases hc : lv = true ∧ k < sg.length
  · obtain ⟨rfl, hk⟩ := hc
    obtain ⟨ps, fs, x', er, ok, _⟩ := e_rule n sg h k hk 0 (.inl rfl) fr (x / sg.length)
    refine ⟨_, ?_, fin ps fs k x' (some (.int (k : Int), .sh)) (some (.int 0, .sh)) rfl rfl ok⟩
    rcases h3 with rfl | rfl
    · simp [forLoop_nil, forLoop_step, bBook, hx, e_take, f4, f8, f9, f10, hg, hg', hg2, hk, er, hz, nd]
    · simp [forLoop_nil, forLoop_step, bBook, hx, e_take, f4, f8, f9, f10, hg, hg', hg2, hk, er, hz, nd]
  · obtain ⟨ps, fs, x', er, ok, _⟩ := e_rule n sg h (x % (sg.length : Int)).toNat (by omega) 2 (.inr rfl) fr (x / sg.length)
    have ex : (((x % (sg.length : Int)).toNat : Nat) : Int) = x % (sg.length : Int) := by omega
    rw [ex] at er
    refine ⟨_, ?_, fin ps fs _ x' (some (.int (x % (sg.length : Int)), .sh)) (some (.int 2, .sh)) rfl rfl ok⟩
    have hc' : lv = false ∨ (lv = true ∧ ¬ k < sg.length) := by
      cases lv with
      | false => exact .inl rfl
      | true => exact .inr ⟨rfl, fun z => hc ⟨rfl, z⟩⟩
    rcases hc' with rfl | ⟨rfl, hk⟩
    · rcases h3 with rfl | rfl
      · simp [forLoop_nil, forLoop_step, bBook, hx, e_take, f4, f8, f9, f10, hg, hg', hg2, er, hz, nd]
      · simp [forLoop_nil, forLoop_step, bBook, hx, e_take, f4, f8, f9, f10, hg, hg', hg2, er, hz, nd]
    · rcases h3 with rfl | rfl
      · simp [forLoop_nil, forLoop_step, bBook, hx, e_take, f4, f8, f9, f10, hg, hg', hg2, hk, er, hz, nd]
      · simp [forLoop_nil, forLoop_step, bBook, hx, e_take, f4, f8, f9, f10, hg, hg', hg2, hk, er, hz, nd]
theorem e_book (n : Nat) (ns : List Int) (st : Int) (h0 : 0 ≤ st) : ∃ b : Bk, callF F G (n + 6) fi_law_book [.v (.list (ns.map PyData.int)), .v (.int st)] = .ok ⟨encB b, false, []⟩ ∧ BkOk b := by
  obtain ⟨x, hx⟩ := e_cellI (n + 3) ns st h0
  have c0 : 0 ≤ 1 + x % 4 ∧ 1 + x % 4 ≤ 16777216 := by omega
  obtain ⟨sg, x1, e1, l1, t1⟩ := lc_sg (n + 4) (some (.list (ns.map PyData.int), .sh)) (some (.int st, .sh)) none none none none none none none ((List.range (1 + x % 4).toNat).map fun (i : Nat) => .int (i : Int)) (x / 4)
  rw [List.length_map, List.length_range] at l1
  have h : SgOk sg := ⟨by omega, by omega, t1⟩
  have r1 := rngI (1 + x % 4) c0.1 c0.2
  have r2 := rngI (x1 / 4 / 4 % 9) (by omega) (by omega)
  obtain ⟨env', e2, rs, y, s3, o4, o8, o9, o10, rfl, h3, _, _, _, _, hl, hr⟩ := for_inv (f := M.forTurn (callF F G (n + 5)) G (.nm 4) bBook) (ShB ns st sg (decide (0 < x1 % 4)) (x1 / 4 % 4 == 0)) ((List.range (x1 / 4 / 4 % 9).toNat).map fun (i : Nat) => .int (i : Int)) 0
    [some (.list (ns.map PyData.int), .sh), some (.int st, .sh), some (.list [.int (x1 / 4 / 4 / 9)], .ow), some (.list (sg.map encS), .ow), none, some (.bool (decide (0 < x1 % 4)), .sh), some (.bool (x1 / 4 % 4 == 0), .sh), some (.list [], .ow), none, none, none]
    ⟨[], _, _, _, _, _, _, rfl, .inl rfl, rfl, rfl, rfl, rfl, rfl, fun r hr => by cases hr⟩
    (fun i z env hz hs => by
      rw [List.getElem?_map] at hz
      cases q : (List.range (x1 / 4 / 4 % 9).toNat)[i]? with
      | none => rw [q] at hz; cases hz
      | some j =>
        rw [q] at hz
        cases hz
        have := List.getElem?_eq_some_iff.mp q
        obtain ⟨q1, q2⟩ := this
        rw [List.length_range] at q1
        rw [Nat.zero_add] at hs ⊢
        exact book_turn n ns st h0 sg h _ _ i j (by omega) env hs)
  rw [List.length_map, List.length_range, Nat.zero_add] at hl
  refine ⟨⟨sg, rs⟩, ?_, h, by show rs.length ≤ 8; omega, hr⟩
  have eb : b_law_book = [.set 2 (.lst [(.call fi_law_cell [(.var 0), (.var 1)])]),
   .set 3 (.lc (.nm 4) .r1 [(.bin .Add (.cst (.int 1)) (.call fi_law_take [(.ref 2), (.cst (.int 4))]))] [] (.tup [(.call fi_law_take [(.ref 2), (.cst (.int 3))]), (.call fi_law_take [(.ref 2), (.cst (.int 3))])])),
   .set 5 (.cmp .Gt (.call fi_law_take [(.ref 2), (.cst (.int 4))]) (.cst (.int 0))),
   .set 6 (.cmp .Eq (.call fi_law_take [(.ref 2), (.cst (.int 4))]) (.cst (.int 0))),
   .set 7 (.lst []),
   .forr (.nm 4) .r1 [(.call fi_law_take [(.ref 2), (.cst (.int 9))])] bBook,
   .ret (.tup [(.var 3), (.var 7)])] := rfl
  rw [callF_at (fn := f_law_book) rfl rfl (Nat.le_of_ble_eq_true rfl)]
  have e2' := e2
  rcases h3 with rfl | rfl
  · simp [f_law_book, eb, hx, e_take, r1, e1, r2, e2', encB]
  · simp [f_law_book, eb, hx, e_take, r1, e1, r2, e2', encB]
end K07
namespace K07
open PySem M
def isN : PyData → Bool
  | .int _ => true
  | _ => false
theorem e_numD (k : Nat) (d : PyData) : callF F G (k + 1) fi_is_number [.v d] = .ok ⟨.bool (isN d), false, []⟩ := by cases d <;> rfl
def ab (n : Int) : Int := if n < 0 then -n else n
def innr : Nat → List PyData → Option (List PyData)
  | 0, [a, b] => some [a, b]
  | 1, [a, b] => some [a, b]
  | 2, [a, b] => some [a, b]
  | 3, [a, b] => some [a, b]
  | 4, [a, b, c] => some [a, b, c]
  | 5, [.int n, a] => if (if n < 0 then -n else n) < 10000 then some [a] else none
  | 6, [.int n, a] => if 0 < n ∧ n < 10000 then some [a] else none
  | 7, [.int n] => if (if n < 0 then -n else n) < 1000000 then some [] else none
  | 8, [.int n, .int m] => if 0 ≤ n ∧ 0 ≤ m then some [] else none
  | _, _ => none
theorem fit_0 (k : Nat) (r : List PyData) : callF F G (k + 2) fi_numbers_fit [.v (.tuple (.str "sum" :: r))] = .ok ⟨.bool (innr 0 r).isSome, false, []⟩ := by
  rw [callF_at (fn := f_numbers_fit) rfl rfl (Nat.le_of_ble_eq_true rfl)]
  match r with
  | [] => simp [forLoop_nil, forLoop_step, lcLoop_nil, lcLoop_step, M.itemsD.eq_3, L2.atI, L2.ixN, f_numbers_fit, b_numbers_fit, gw, wd1, wd2, innr]
  | [a] => simp [forLoop_nil, forLoop_step, lcLoop_nil, lcLoop_step, M.itemsD.eq_3, L2.atI, L2.ixN, f_numbers_fit, b_numbers_fit, gw, wd1, wd2, innr]
  | [a, b] => simp [forLoop_nil, forLoop_step, lcLoop_nil, lcLoop_step, M.itemsD.eq_3, L2.atI, L2.ixN, f_numbers_fit, b_numbers_fit, gw, wd1, wd2, innr]
  | a :: b :: c :: r' =>
    have z1 : ¬ ((r'.length : Int) + 1 + 1 + 1 + 1 = 3) := by omega
    have z2 : (0 : Int) < (r'.length : Int) + 1 + 1 + 1 + 1 := by omega
    simp [forLoop_nil, forLoop_step, lcLoop_nil, lcLoop_step, M.itemsD.eq_3, L2.atI, L2.ixN, f_numbers_fit, b_numbers_fit, gw, wd1, wd2, innr, z1, z2]
theorem fit_1 (k : Nat) (r : List PyData) : callF F G (k + 2) fi_numbers_fit [.v (.tuple (.str "less" :: r))] = .ok ⟨.bool (innr 1 r).isSome, false, []⟩ := by
  rw [callF_at (fn := f_numbers_fit) rfl rfl (Nat.le_of_ble_eq_true rfl)]
  match r with
  | [] => simp [forLoop_nil, forLoop_step, lcLoop_nil, lcLoop_step, M.itemsD.eq_3, L2.atI, L2.ixN, f_numbers_fit, b_numbers_fit, gw, wd1, wd2, innr]
  | [a] => simp [forLoop_nil, forLoop_step, lcLoop_nil, lcLoop_step, M.itemsD.eq_3, L2.atI, L2.ixN, f_numbers_fit, b_numbers_fit, gw, wd1, wd2, innr]
  | [a, b] => simp [forLoop_nil, forLoop_step, lcLoop_nil, lcLoop_step, M.itemsD.eq_3, L2.atI, L2.ixN, f_numbers_fit, b_numbers_fit, gw, wd1, wd2, innr]
  | a :: b :: c :: r' =>
    have z1 : ¬ ((r'.length : Int) + 1 + 1 + 1 + 1 = 3) := by omega
    have z2 : (0 : Int) < (r'.length : Int) + 1 + 1 + 1 + 1 := by omega
    simp [forLoop_nil, forLoop_step, lcLoop_nil, lcLoop_step, M.itemsD.eq_3, L2.atI, L2.ixN, f_numbers_fit, b_numbers_fit, gw, wd1, wd2, innr, z1, z2]
theorem fit_2 (k : Nat) (r : List PyData) : callF F G (k + 2) fi_numbers_fit [.v (.tuple (.str "least" :: r))] = .ok ⟨.bool (innr 2 r).isSome, false, []⟩ := by
  rw [callF_at (fn := f_numbers_fit) rfl rfl (Nat.le_of_ble_eq_true rfl)]
  match r with
  | [] => simp [forLoop_nil, forLoop_step, lcLoop_nil, lcLoop_step, M.itemsD.eq_3, L2.atI, L2.ixN, f_numbers_fit, b_numbers_fit, gw, wd1, wd2, innr]
  | [a] => simp [forLoop_nil, forLoop_step, lcLoop_nil, lcLoop_step, M.itemsD.eq_3, L2.atI, L2.ixN, f_numbers_fit, b_numbers_fit, gw, wd1, wd2, innr]
  | [a, b] => simp [forLoop_nil, forLoop_step, lcLoop_nil, lcLoop_step, M.itemsD.eq_3, L2.atI, L2.ixN, f_numbers_fit, b_numbers_fit, gw, wd1, wd2, innr]
  | a :: b :: c :: r' =>
    have z1 : ¬ ((r'.length : Int) + 1 + 1 + 1 + 1 = 3) := by omega
    have z2 : (0 : Int) < (r'.length : Int) + 1 + 1 + 1 + 1 := by omega
    simp [forLoop_nil, forLoop_step, lcLoop_nil, lcLoop_step, M.itemsD.eq_3, L2.atI, L2.ixN, f_numbers_fit, b_numbers_fit, gw, wd1, wd2, innr, z1, z2]
theorem fit_3 (k : Nat) (r : List PyData) : callF F G (k + 2) fi_numbers_fit [.v (.tuple (.str "greatest" :: r))] = .ok ⟨.bool (innr 3 r).isSome, false, []⟩ := by
  rw [callF_at (fn := f_numbers_fit) rfl rfl (Nat.le_of_ble_eq_true rfl)]
  match r with
  | [] => simp [forLoop_nil, forLoop_step, lcLoop_nil, lcLoop_step, M.itemsD.eq_3, L2.atI, L2.ixN, f_numbers_fit, b_numbers_fit, gw, wd1, wd2, innr]
  | [a] => simp [forLoop_nil, forLoop_step, lcLoop_nil, lcLoop_step, M.itemsD.eq_3, L2.atI, L2.ixN, f_numbers_fit, b_numbers_fit, gw, wd1, wd2, innr]
  | [a, b] => simp [forLoop_nil, forLoop_step, lcLoop_nil, lcLoop_step, M.itemsD.eq_3, L2.atI, L2.ixN, f_numbers_fit, b_numbers_fit, gw, wd1, wd2, innr]
  | a :: b :: c :: r' =>
    have z1 : ¬ ((r'.length : Int) + 1 + 1 + 1 + 1 = 3) := by omega
    have z2 : (0 : Int) < (r'.length : Int) + 1 + 1 + 1 + 1 := by omega
    simp [forLoop_nil, forLoop_step, lcLoop_nil, lcLoop_step, M.itemsD.eq_3, L2.atI, L2.ixN, f_numbers_fit, b_numbers_fit, gw, wd1, wd2, innr, z1, z2]
theorem fit_4 (k : Nat) (r : List PyData) : callF F G (k + 2) fi_numbers_fit [.v (.tuple (.str "pick" :: r))] = .ok ⟨.bool (innr 4 r).isSome, false, []⟩ := by
  rw [callF_at (fn := f_numbers_fit) rfl rfl (Nat.le_of_ble_eq_true rfl)]
  match r with
  | [] => simp [forLoop_nil, forLoop_step, lcLoop_nil, lcLoop_step, M.itemsD.eq_3, L2.atI, L2.ixN, f_numbers_fit, b_numbers_fit, gw, wd1, wd2, innr]
  | [a] => simp [forLoop_nil, forLoop_step, lcLoop_nil, lcLoop_step, M.itemsD.eq_3, L2.atI, L2.ixN, f_numbers_fit, b_numbers_fit, gw, wd1, wd2, innr]
  | [a, b] => simp [forLoop_nil, forLoop_step, lcLoop_nil, lcLoop_step, M.itemsD.eq_3, L2.atI, L2.ixN, f_numbers_fit, b_numbers_fit, gw, wd1, wd2, innr]
  | [a, b, c] => simp [forLoop_nil, forLoop_step, lcLoop_nil, lcLoop_step, M.itemsD.eq_3, L2.atI, L2.ixN, f_numbers_fit, b_numbers_fit, gw, wd1, wd2, innr]
  | a :: b :: c :: d :: r' =>
    have z1 : ¬ ((r'.length : Int) + 1 + 1 + 1 + 1 + 1 = 4) := by omega
    have z2 : (0 : Int) < (r'.length : Int) + 1 + 1 + 1 + 1 + 1 := by omega
    simp [forLoop_nil, forLoop_step, lcLoop_nil, lcLoop_step, M.itemsD.eq_3, L2.atI, L2.ixN, f_numbers_fit, b_numbers_fit, gw, wd1, wd2, innr, z1, z2]
theorem fit_5 (k : Nat) (r : List PyData) : callF F G (k + 2) fi_numbers_fit [.v (.tuple (.str "times" :: r))] = .ok ⟨.bool (innr 5 r).isSome, false, []⟩ := by
  rw [callF_at (fn := f_numbers_fit) rfl rfl (Nat.le_of_ble_eq_true rfl)]
  match r with
  | [] => simp [forLoop_nil, forLoop_step, lcLoop_nil, lcLoop_step, M.itemsD.eq_3, L2.atI, L2.ixN, f_numbers_fit, b_numbers_fit, gw, wd1, wd2, innr]
  | [a] => simp [forLoop_nil, forLoop_step, lcLoop_nil, lcLoop_step, M.itemsD.eq_3, L2.atI, L2.ixN, f_numbers_fit, b_numbers_fit, gw, wd1, wd2, innr]
  | [a, b] =>
    have e := e_numD k a
    cases a with
    | int n => by_cases h : (if n < 0 then -n else n) < 10000 <;> simp [forLoop_nil, forLoop_step, lcLoop_nil, lcLoop_step, M.itemsD.eq_3, L2.atI, L2.ixN, f_numbers_fit, b_numbers_fit, gw, wd1, wd2, innr, e, isN, h]
    | _ => simp [forLoop_nil, forLoop_step, lcLoop_nil, lcLoop_step, M.itemsD.eq_3, L2.atI, L2.ixN, f_numbers_fit, b_numbers_fit, gw, wd1, wd2, innr, e, isN]
  | a :: b :: c :: r' =>
    have z1 : ¬ ((r'.length : Int) + 1 + 1 + 1 + 1 = 3) := by omega
    have z2 : (0 : Int) < (r'.length : Int) + 1 + 1 + 1 + 1 := by omega
    simp [forLoop_nil, forLoop_step, lcLoop_nil, lcLoop_step, M.itemsD.eq_3, L2.atI, L2.ixN, f_numbers_fit, b_numbers_fit, gw, wd1, wd2, innr, z1, z2]
theorem fit_6 (k : Nat) (r : List PyData) : callF F G (k + 2) fi_numbers_fit [.v (.tuple (.str "rest" :: r))] = .ok ⟨.bool (innr 6 r).isSome, false, []⟩ := by
  rw [callF_at (fn := f_numbers_fit) rfl rfl (Nat.le_of_ble_eq_true rfl)]
  match r with
  | [] => simp [forLoop_nil, forLoop_step, lcLoop_nil, lcLoop_step, M.itemsD.eq_3, L2.atI, L2.ixN, f_numbers_fit, b_numbers_fit, gw, wd1, wd2, innr]
  | [a] => simp [forLoop_nil, forLoop_step, lcLoop_nil, lcLoop_step, M.itemsD.eq_3, L2.atI, L2.ixN, f_numbers_fit, b_numbers_fit, gw, wd1, wd2, innr]
  | [a, b] =>
    have e := e_numD k a
    cases a with
    | int n => by_cases h : 0 < n <;> by_cases h2 : n < 10000 <;> simp [forLoop_nil, forLoop_step, lcLoop_nil, lcLoop_step, M.itemsD.eq_3, L2.atI, L2.ixN, f_numbers_fit, b_numbers_fit, gw, wd1, wd2, innr, e, isN, h, h2]
    | _ => simp [forLoop_nil, forLoop_step, lcLoop_nil, lcLoop_step, M.itemsD.eq_3, L2.atI, L2.ixN, f_numbers_fit, b_numbers_fit, gw, wd1, wd2, innr, e, isN]
  | a :: b :: c :: r' =>
    have z1 : ¬ ((r'.length : Int) + 1 + 1 + 1 + 1 = 3) := by omega
    have z2 : (0 : Int) < (r'.length : Int) + 1 + 1 + 1 + 1 := by omega
    simp [forLoop_nil, forLoop_step, lcLoop_nil, lcLoop_step, M.itemsD.eq_3, L2.atI, L2.ixN, f_numbers_fit, b_numbers_fit, gw, wd1, wd2, innr, z1, z2]
theorem fit_7 (k : Nat) (r : List PyData) : callF F G (k + 2) fi_numbers_fit [.v (.tuple (.str "num" :: r))] = .ok ⟨.bool (innr 7 r).isSome, false, []⟩ := by
  rw [callF_at (fn := f_numbers_fit) rfl rfl (Nat.le_of_ble_eq_true rfl)]
  match r with
  | [] => simp [forLoop_nil, forLoop_step, lcLoop_nil, lcLoop_step, M.itemsD.eq_3, L2.atI, L2.ixN, f_numbers_fit, b_numbers_fit, gw, wd1, wd2, innr]
  | [a] =>
    have e := e_numD k a
    cases a with
    | int n => by_cases h : (if n < 0 then -n else n) < 1000000 <;> simp [forLoop_nil, forLoop_step, lcLoop_nil, lcLoop_step, M.itemsD.eq_3, L2.atI, L2.ixN, f_numbers_fit, b_numbers_fit, gw, wd1, wd2, innr, e, isN, h]
    | _ => simp [forLoop_nil, forLoop_step, lcLoop_nil, lcLoop_step, M.itemsD.eq_3, L2.atI, L2.ixN, f_numbers_fit, b_numbers_fit, gw, wd1, wd2, innr, e, isN]
  | a :: b :: r' =>
    have z1 : ¬ ((r'.length : Int) + 1 + 1 + 1 = 2) := by omega
    have z2 : (0 : Int) < (r'.length : Int) + 1 + 1 + 1 := by omega
    simp [forLoop_nil, forLoop_step, lcLoop_nil, lcLoop_step, M.itemsD.eq_3, L2.atI, L2.ixN, f_numbers_fit, b_numbers_fit, gw, wd1, wd2, innr, z1, z2]
theorem fit_8 (k : Nat) (r : List PyData) : callF F G (k + 2) fi_numbers_fit [.v (.tuple (.str "worth" :: r))] = .ok ⟨.bool (innr 8 r).isSome, false, []⟩ := by
  rw [callF_at (fn := f_numbers_fit) rfl rfl (Nat.le_of_ble_eq_true rfl)]
  match r with
  | [] => simp [forLoop_nil, forLoop_step, lcLoop_nil, lcLoop_step, M.itemsD.eq_3, L2.atI, L2.ixN, f_numbers_fit, b_numbers_fit, gw, wd1, wd2, innr]
  | [a] => simp [forLoop_nil, forLoop_step, lcLoop_nil, lcLoop_step, M.itemsD.eq_3, L2.atI, L2.ixN, f_numbers_fit, b_numbers_fit, gw, wd1, wd2, innr]
  | [a, b] =>
    have e := e_numD k a
    have e2 := e_numD k b
    cases a with
    | int n => cases b with
      | int m => by_cases h : 0 ≤ n <;> by_cases h2 : 0 ≤ m <;> simp [forLoop_nil, forLoop_step, lcLoop_nil, lcLoop_step, M.itemsD.eq_3, L2.atI, L2.ixN, f_numbers_fit, b_numbers_fit, gw, wd1, wd2, innr, e, e2, isN, h, h2]
      | _ => by_cases h : 0 ≤ n <;> simp [forLoop_nil, forLoop_step, lcLoop_nil, lcLoop_step, M.itemsD.eq_3, L2.atI, L2.ixN, f_numbers_fit, b_numbers_fit, gw, wd1, wd2, innr, e, e2, isN, h]
    | _ => cases b with
      | int m => by_cases h2 : 0 ≤ m <;> simp [forLoop_nil, forLoop_step, lcLoop_nil, lcLoop_step, M.itemsD.eq_3, L2.atI, L2.ixN, f_numbers_fit, b_numbers_fit, gw, wd1, wd2, innr, e, e2, isN, h2]
      | _ => simp [forLoop_nil, forLoop_step, lcLoop_nil, lcLoop_step, M.itemsD.eq_3, L2.atI, L2.ixN, f_numbers_fit, b_numbers_fit, gw, wd1, wd2, innr, e, e2, isN]
  | a :: b :: c :: r' =>
    have z1 : ¬ ((r'.length : Int) + 1 + 1 + 1 + 1 = 3) := by omega
    have z2 : (0 : Int) < (r'.length : Int) + 1 + 1 + 1 + 1 := by omega
    simp [forLoop_nil, forLoop_step, lcLoop_nil, lcLoop_step, M.itemsD.eq_3, L2.atI, L2.ixN, f_numbers_fit, b_numbers_fit, gw, wd1, wd2, innr, z1, z2]
end K07
namespace K07
open PySem M
theorem inv_0 {r ks : List PyData} (h : innr 0 r = some ks) : ∃ a b, r = [a, b] ∧ ks = [a, b] := by
  match r, h with
  | [a, b], h => cases h; exact ⟨a, b, rfl, rfl⟩
  | [], h => simp [innr] at h
  | [_], h => simp [innr] at h
  | _ :: _ :: _ :: _, h => simp [innr] at h
theorem inv_1 {r ks : List PyData} (h : innr 1 r = some ks) : ∃ a b, r = [a, b] ∧ ks = [a, b] := by
  match r, h with
  | [a, b], h => cases h; exact ⟨a, b, rfl, rfl⟩
  | [], h => simp [innr] at h
  | [_], h => simp [innr] at h
  | _ :: _ :: _ :: _, h => simp [innr] at h
theorem inv_2 {r ks : List PyData} (h : innr 2 r = some ks) : ∃ a b, r = [a, b] ∧ ks = [a, b] := by
  match r, h with
  | [a, b], h => cases h; exact ⟨a, b, rfl, rfl⟩
  | [], h => simp [innr] at h
  | [_], h => simp [innr] at h
  | _ :: _ :: _ :: _, h => simp [innr] at h
theorem inv_3 {r ks : List PyData} (h : innr 3 r = some ks) : ∃ a b, r = [a, b] ∧ ks = [a, b] := by
  match r, h with
  | [a, b], h => cases h; exact ⟨a, b, rfl, rfl⟩
  | [], h => simp [innr] at h
  | [_], h => simp [innr] at h
  | _ :: _ :: _ :: _, h => simp [innr] at h
theorem inv_4 {r ks : List PyData} (h : innr 4 r = some ks) : ∃ a b c, r = [a, b, c] ∧ ks = [a, b, c] := by
  match r, h with
  | [a, b, c], h => cases h; exact ⟨a, b, c, rfl, rfl⟩
  | [], h => simp [innr] at h
  | [_], h => simp [innr] at h
  | [_, _], h => simp [innr] at h
  | _ :: _ :: _ :: _ :: _, h => simp [innr] at h
theorem inv_5 {r ks : List PyData} (h : innr 5 r = some ks) : ∃ n a, r = [.int n, a] ∧ (if n < 0 then -n else n) < 10000 ∧ ks = [a] := by
  match r, h with
  | [x, a], h =>
    cases x with
    | int n =>
      simp only [innr] at h
      by_cases z : (if n < 0 then -n else n) < 10000
      · rw [if_pos z] at h; cases h; exact ⟨n, a, rfl, z, rfl⟩
      · rw [if_neg z] at h; cases h
    | _ => simp [innr] at h
  | [], h => simp [innr] at h
  | [_], h => simp [innr] at h
  | _ :: _ :: _ :: _, h => simp [innr] at h
theorem inv_6 {r ks : List PyData} (h : innr 6 r = some ks) : ∃ n a, r = [.int n, a] ∧ (0 < n ∧ n < 10000) ∧ ks = [a] := by
  match r, h with
  | [x, a], h =>
    cases x with
    | int n =>
      simp only [innr] at h
      split at h
      · rename_i z; cases h; exact ⟨n, a, rfl, z, rfl⟩
      · cases h
    | _ => simp [innr] at h
  | [], h => simp [innr] at h
  | [_], h => simp [innr] at h
  | _ :: _ :: _ :: _, h => simp [innr] at h
theorem inv_7 {r ks : List PyData} (h : innr 7 r = some ks) : ∃ n, r = [.int n] ∧ (if n < 0 then -n else n) < 1000000 ∧ ks = [] := by
  match r, h with
  | [x], h =>
    cases x with
    | int n =>
      simp only [innr] at h
      by_cases z : (if n < 0 then -n else n) < 1000000
      · rw [if_pos z] at h; cases h; exact ⟨n, rfl, z, rfl⟩
      · rw [if_neg z] at h; cases h
    | _ => simp [innr] at h
  | [], h => simp [innr] at h
  | _ :: _ :: _, h => simp [innr] at h
theorem inv_8 {r ks : List PyData} (h : innr 8 r = some ks) : ∃ n m, r = [.int n, .int m] ∧ (0 ≤ n ∧ 0 ≤ m) ∧ ks = [] := by
  match r, h with
  | [x, y], h =>
    cases x with
    | int n => cases y with
      | int m =>
        simp only [innr] at h
        split at h
        · rename_i z; cases h; exact ⟨n, m, rfl, z, rfl⟩
        · cases h
      | _ => simp [innr] at h
    | _ => simp [innr] at h
  | [], h => simp [innr] at h
  | [_], h => simp [innr] at h
  | _ :: _ :: _ :: _, h => simp [innr] at h
theorem inn_0 (k : Nat) {r ks : List PyData} (h : innr 0 r = some ks) : callF F G (k + 1) fi_inner_of [.v (.tuple (.str "sum" :: r))] = .ok ⟨.tuple ks, false, []⟩ := by
  obtain ⟨a, b, rfl, rfl⟩ := inv_0 h
  rw [callF_at (fn := f_inner_of) rfl rfl (Nat.le_of_ble_eq_true rfl)]
  simp [forLoop_nil, forLoop_step, lcLoop_nil, lcLoop_step, M.itemsD.eq_3, L2.atI, L2.ixN, f_inner_of, b_inner_of, gw, wd1, wd2]
theorem inn_1 (k : Nat) {r ks : List PyData} (h : innr 1 r = some ks) : callF F G (k + 1) fi_inner_of [.v (.tuple (.str "less" :: r))] = .ok ⟨.tuple ks, false, []⟩ := by
  obtain ⟨a, b, rfl, rfl⟩ := inv_1 h
  rw [callF_at (fn := f_inner_of) rfl rfl (Nat.le_of_ble_eq_true rfl)]
  simp [forLoop_nil, forLoop_step, lcLoop_nil, lcLoop_step, M.itemsD.eq_3, L2.atI, L2.ixN, f_inner_of, b_inner_of, gw, wd1, wd2]
theorem inn_2 (k : Nat) {r ks : List PyData} (h : innr 2 r = some ks) : callF F G (k + 1) fi_inner_of [.v (.tuple (.str "least" :: r))] = .ok ⟨.tuple ks, false, []⟩ := by
  obtain ⟨a, b, rfl, rfl⟩ := inv_2 h
  rw [callF_at (fn := f_inner_of) rfl rfl (Nat.le_of_ble_eq_true rfl)]
  simp [forLoop_nil, forLoop_step, lcLoop_nil, lcLoop_step, M.itemsD.eq_3, L2.atI, L2.ixN, f_inner_of, b_inner_of, gw, wd1, wd2]
theorem inn_3 (k : Nat) {r ks : List PyData} (h : innr 3 r = some ks) : callF F G (k + 1) fi_inner_of [.v (.tuple (.str "greatest" :: r))] = .ok ⟨.tuple ks, false, []⟩ := by
  obtain ⟨a, b, rfl, rfl⟩ := inv_3 h
  rw [callF_at (fn := f_inner_of) rfl rfl (Nat.le_of_ble_eq_true rfl)]
  simp [forLoop_nil, forLoop_step, lcLoop_nil, lcLoop_step, M.itemsD.eq_3, L2.atI, L2.ixN, f_inner_of, b_inner_of, gw, wd1, wd2]
theorem inn_4 (k : Nat) {r ks : List PyData} (h : innr 4 r = some ks) : callF F G (k + 1) fi_inner_of [.v (.tuple (.str "pick" :: r))] = .ok ⟨.tuple ks, false, []⟩ := by
  obtain ⟨a, b, c, rfl, rfl⟩ := inv_4 h
  rw [callF_at (fn := f_inner_of) rfl rfl (Nat.le_of_ble_eq_true rfl)]
  simp [forLoop_nil, forLoop_step, lcLoop_nil, lcLoop_step, M.itemsD.eq_3, L2.atI, L2.ixN, f_inner_of, b_inner_of, gw, wd1, wd2]
theorem inn_5 (k : Nat) {r ks : List PyData} (h : innr 5 r = some ks) : callF F G (k + 1) fi_inner_of [.v (.tuple (.str "times" :: r))] = .ok ⟨.tuple ks, false, []⟩ := by
  obtain ⟨n, a, rfl, z, rfl⟩ := inv_5 h
  rw [callF_at (fn := f_inner_of) rfl rfl (Nat.le_of_ble_eq_true rfl)]
  simp [forLoop_nil, forLoop_step, lcLoop_nil, lcLoop_step, M.itemsD.eq_3, L2.atI, L2.ixN, f_inner_of, b_inner_of, gw, wd1, wd2]
theorem inn_6 (k : Nat) {r ks : List PyData} (h : innr 6 r = some ks) : callF F G (k + 1) fi_inner_of [.v (.tuple (.str "rest" :: r))] = .ok ⟨.tuple ks, false, []⟩ := by
  obtain ⟨n, a, rfl, z, rfl⟩ := inv_6 h
  rw [callF_at (fn := f_inner_of) rfl rfl (Nat.le_of_ble_eq_true rfl)]
  simp [forLoop_nil, forLoop_step, lcLoop_nil, lcLoop_step, M.itemsD.eq_3, L2.atI, L2.ixN, f_inner_of, b_inner_of, gw, wd1, wd2]
theorem inn_7 (k : Nat) {r ks : List PyData} (h : innr 7 r = some ks) : callF F G (k + 1) fi_inner_of [.v (.tuple (.str "num" :: r))] = .ok ⟨.tuple ks, false, []⟩ := by
  obtain ⟨n, rfl, z, rfl⟩ := inv_7 h
  rw [callF_at (fn := f_inner_of) rfl rfl (Nat.le_of_ble_eq_true rfl)]
  simp [forLoop_nil, forLoop_step, lcLoop_nil, lcLoop_step, M.itemsD.eq_3, L2.atI, L2.ixN, f_inner_of, b_inner_of, gw, wd1, wd2]
theorem inn_8 (k : Nat) {r ks : List PyData} (h : innr 8 r = some ks) : callF F G (k + 1) fi_inner_of [.v (.tuple (.str "worth" :: r))] = .ok ⟨.tuple ks, false, []⟩ := by
  obtain ⟨n, m, rfl, z, rfl⟩ := inv_8 h
  rw [callF_at (fn := f_inner_of) rfl rfl (Nat.le_of_ble_eq_true rfl)]
  simp [forLoop_nil, forLoop_step, lcLoop_nil, lcLoop_step, M.itemsD.eq_3, L2.atI, L2.ixN, f_inner_of, b_inner_of, gw, wd1, wd2]
def wix (w : PySem.Str) : Option Nat := if w = "sum" then some 0 else if w = "less" then some 1 else if w = "least" then some 2 else if w = "greatest" then some 3 else if w = "pick" then some 4 else if w = "times" then some 5 else if w = "rest" then some 6 else if w = "num" then some 7 else if w = "worth" then some 8 else none
theorem wix_inv {w : PySem.Str} {i : Nat} (h : wix w = some i) : (w = "sum" ∧ i = 0) ∨ (w = "less" ∧ i = 1) ∨ (w = "least" ∧ i = 2) ∨ (w = "greatest" ∧ i = 3) ∨ (w = "pick" ∧ i = 4) ∨ (w = "times" ∧ i = 5) ∨ (w = "rest" ∧ i = 6) ∨ (w = "num" ∧ i = 7) ∨ (w = "worth" ∧ i = 8) := by
  unfold wix at h
  repeat' (split at h)
  all_goals first
    | (cases h; done)
    | (rename_i e; cases h; simp [e])
theorem wix_none {w : PySem.Str} (h : wix w = none) : cmpD .NotIn (.str w) WD = some true := by
  unfold wix at h
  have := h
  repeat' (split at this)
  all_goals first | (cases this; done) | skip
  rename_i h0 h1 h2 h3 h4 h5 h6 h7 h8
  have e : ∀ {x : PySem.Str}, ¬ w = x → (x == w) = false := fun {x} z => by
    simp only [beq_eq_false_iff_ne]
    exact fun y => z y.symm
  simp [WD, kvD, kv_WORDS, cmpD, keyIn, keyB, kdD, hasD, PyData.eqv, e h0, e h1, e h2, e h3, e h4, e h5, e h6, e h7, e h8]
def dM : Nat → PyData → Int
  | 0, _ => 16
  | L + 1, .tuple (.str w :: r) => match wix w with
    | none => 16
    | some i => match innr i r with
      | none => 16
      | some ks => 1 + (ks.map (dM L)).sum
  | _ + 1, _ => 16
theorem ints_map {α : Type} (f : α → Int) : ∀ l : List α, intsD (l.map fun d => .int (f d)) = some (l.map f)
  | [] => rfl
  | x :: r => by
    rw [List.map_cons, intsD, ints_map f r]
    rfl
theorem sum_map {α : Type} (f : α → Int) (l : List α) : bltD .sum [.list (l.map fun d => .int (f d))] = some (.int (l.map f).sum, false) := by
  simp only [bltD, ints_map]
  rfl
theorem lc_dp (n L : Nat) (s0 : Option Slot) (k : Int) (ks : List PyData) (h : ∀ d ∈ ks, callF F G n fi_deep_of [.v d, .v (.int (k + 1))] = .ok ⟨.int (dM L d), false, []⟩) : lcLoop (lcTurn (callF F G n) G (.nm 2) [] (.call fi_deep_of [(.var 2), (.bin .Add (.var 1) (.cst (.int 1)))])) ks [s0, some (.int k, .sh), none] = .ok (ks.map fun d => .int (dM L d), [s0, some (.int k, .sh), none]) := by
  have := lc_map (g := id) (h := fun d => PyData.int (dM L d)) (l := ks) (f := lcTurn (callF F G n) G (.nm 2) [] (.call fi_deep_of [(.var 2), (.bin .Add (.var 1) (.cst (.int 1)))])) (env := [s0, some (.int k, .sh), none]) fun d hd => by
    have e := h d hd
    simp [forLoop_nil, forLoop_step, lcLoop_nil, lcLoop_step, M.itemsD.eq_3, L2.atI, L2.ixN, e]
  rw [List.map_id] at this
  exact this
theorem lay_mem : ∀ {l : List PyData}, PyData.canLayAll0 l = true → ∀ x ∈ l, x.canLay0 = true
  | [], _, x, hx => by cases hx
  | y :: l, h, x, hx => by
    simp only [PyData.canLayAll0, Bool.and_eq_true] at h
    rcases List.mem_cons.mp hx with z | z
    · subst z; exact h.1
    · exact lay_mem h.2 x z
theorem innr_mem {i : Nat} {r ks : List PyData} (h : innr i r = some ks) : ∀ x ∈ ks, x ∈ r := by
  unfold innr at h
  split at h <;> (try split at h) <;> simp_all
  all_goals (subst h; intro x hx; simp_all)
theorem e_deepD : ∀ (L n : Nat) (d : PyData), d.canLay0 = true → L + 3 ≤ n → callF F G n fi_deep_of [.v d, .v (.int (5 - (L : Int)))] = .ok ⟨.int (dM L d), false, []⟩
  | L, 0, d, hcl, hn => by omega
  | L, 1, d, hcl, hn => by omega
  | L, 2, d, hcl, hn => by omega
  | 0, n + 3, d, hcl, hn => by
    rw [callF_at (fn := f_deep_of) rfl rfl (Nat.le_of_ble_eq_true rfl)]
    simp [forLoop_nil, forLoop_step, lcLoop_nil, lcLoop_step, M.itemsD.eq_3, L2.atI, L2.ixN, f_deep_of, b_deep_of, gw, dM]
  | L + 1, n + 3, d, hcl, hn => by
    rw [callF_at (fn := f_deep_of) rfl rfl (Nat.le_of_ble_eq_true rfl)]
    have h4 : ¬ (4 : Int) < 5 - ((L : Int) + 1) := by omega
    have hc : (((L + 1 : Nat) : Int)) = (L : Int) + 1 := by omega
    rw [hc]
    cases d with
    | tuple xs =>
      cases xs with
      | nil => simp [forLoop_nil, forLoop_step, lcLoop_nil, lcLoop_step, M.itemsD.eq_3, L2.atI, L2.ixN, f_deep_of, b_deep_of, gw, dM, h4]
      | cons x r =>
        have l0 : ¬ ((r.length : Int) + 1 = 0) := by omega
        cases x with
        | str w =>
          have hr : ∀ x ∈ r, x.canLay0 = true := fun x hx => by
            simp only [PyData.canLay0, PyData.canLayAll0, Bool.and_eq_true] at hcl
            exact lay_mem hcl.2 x hx
          have ih : ∀ d ∈ r, callF F G (n + 2) fi_deep_of [.v d, .v (.int (5 - ((L : Int) + 1) + 1))] = .ok ⟨.int (dM L d), false, []⟩ := fun d hd => by
            have := e_deepD L (n + 2) d (hr d hd) (by omega)
            rw [show (5 - ((L : Int) + 1) + 1) = 5 - (L : Int) by omega]
            exact this
          cases ew : wix w with
          | none =>
            have e := wix_none ew
            simp [forLoop_nil, forLoop_step, f_deep_of, b_deep_of, gw, dM, h4, l0, ew, e]
          | some i =>
            have e2 : dM (L + 1) (.tuple (.str w :: r)) = match innr i r with
              | none => 16
              | some ks => 1 + (ks.map (dM L)).sum := by simp only [dM, ew]
            rw [e2]
            rcases wix_inv ew with ⟨rfl, rfl⟩ | ⟨rfl, rfl⟩ | ⟨rfl, rfl⟩ | ⟨rfl, rfl⟩ | ⟨rfl, rfl⟩ | ⟨rfl, rfl⟩ | ⟨rfl, rfl⟩ | ⟨rfl, rfl⟩ | ⟨rfl, rfl⟩
            · have ef := fit_0 n r
              cases ei : innr 0 r with
              | none =>
                rw [ei] at ef
                simp only [Option.isSome_none] at ef
                simp [forLoop_nil, forLoop_step, f_deep_of, b_deep_of, gw, wd2, h4, l0, ef]
              | some ks =>
                rw [ei] at ef
                simp only [Option.isSome_some] at ef
                have ein := inn_0 (n + 1) ei
                have sm := sum_map (dM L) ks
                have lc := fun s0 => lc_dp (n + 2) L s0 (5 - ((L : Int) + 1)) ks fun d hd => ih d (innr_mem ei d hd)
                simp [forLoop_nil, forLoop_step, f_deep_of, b_deep_of, gw, wd2, h4, l0, ef, ein, ↓lc, sm]
            · have ef := fit_1 n r
              cases ei : innr 1 r with
              | none =>
                rw [ei] at ef
                simp only [Option.isSome_none] at ef
                simp [forLoop_nil, forLoop_step, f_deep_of, b_deep_of, gw, wd2, h4, l0, ef]
              | some ks =>
                rw [ei] at ef
                simp only [Option.isSome_some] at ef
                have ein := inn_1 (n + 1) ei
                have sm := sum_map (dM L) ks
                have lc := fun s0 => lc_dp (n + 2) L s0 (5 - ((L : Int) + 1)) ks fun d hd => ih d (innr_mem ei d hd)
                simp [forLoop_nil, forLoop_step, f_deep_of, b_deep_of, gw, wd2, h4, l0, ef, ein, ↓lc, sm]
            · have ef := fit_2 n r
              cases ei : innr 2 r with
              | none =>
                rw [ei] at ef
                simp only [Option.isSome_none] at ef
                simp [forLoop_nil, forLoop_step, f_deep_of, b_deep_of, gw, wd2, h4, l0, ef]
              | some ks =>
                rw [ei] at ef
                simp only [Option.isSome_some] at ef
                have ein := inn_2 (n + 1) ei
                have sm := sum_map (dM L) ks
                have lc := fun s0 => lc_dp (n + 2) L s0 (5 - ((L : Int) + 1)) ks fun d hd => ih d (innr_mem ei d hd)
                simp [forLoop_nil, forLoop_step, f_deep_of, b_deep_of, gw, wd2, h4, l0, ef, ein, ↓lc, sm]
            · have ef := fit_3 n r
              cases ei : innr 3 r with
              | none =>
                rw [ei] at ef
                simp only [Option.isSome_none] at ef
                simp [forLoop_nil, forLoop_step, f_deep_of, b_deep_of, gw, wd2, h4, l0, ef]
              | some ks =>
                rw [ei] at ef
                simp only [Option.isSome_some] at ef
                have ein := inn_3 (n + 1) ei
                have sm := sum_map (dM L) ks
                have lc := fun s0 => lc_dp (n + 2) L s0 (5 - ((L : Int) + 1)) ks fun d hd => ih d (innr_mem ei d hd)
                simp [forLoop_nil, forLoop_step, f_deep_of, b_deep_of, gw, wd2, h4, l0, ef, ein, ↓lc, sm]
            · have ef := fit_4 n r
              cases ei : innr 4 r with
              | none =>
                rw [ei] at ef
                simp only [Option.isSome_none] at ef
                simp [forLoop_nil, forLoop_step, f_deep_of, b_deep_of, gw, wd2, h4, l0, ef]
              | some ks =>
                rw [ei] at ef
                simp only [Option.isSome_some] at ef
                have ein := inn_4 (n + 1) ei
                have sm := sum_map (dM L) ks
                have lc := fun s0 => lc_dp (n + 2) L s0 (5 - ((L : Int) + 1)) ks fun d hd => ih d (innr_mem ei d hd)
                simp [forLoop_nil, forLoop_step, f_deep_of, b_deep_of, gw, wd2, h4, l0, ef, ein, ↓lc, sm]
            · have ef := fit_5 n r
              cases ei : innr 5 r with
              | none =>
                rw [ei] at ef
                simp only [Option.isSome_none] at ef
                simp [forLoop_nil, forLoop_step, f_deep_of, b_deep_of, gw, wd2, h4, l0, ef]
              | some ks =>
                rw [ei] at ef
                simp only [Option.isSome_some] at ef
                have ein := inn_5 (n + 1) ei
                have sm := sum_map (dM L) ks
                have lc := fun s0 => lc_dp (n + 2) L s0 (5 - ((L : Int) + 1)) ks fun d hd => ih d (innr_mem ei d hd)
                simp [forLoop_nil, forLoop_step, f_deep_of, b_deep_of, gw, wd2, h4, l0, ef, ein, ↓lc, sm]
            · have ef := fit_6 n r
              cases ei : innr 6 r with
              | none =>
                rw [ei] at ef
                simp only [Option.isSome_none] at ef
                simp [forLoop_nil, forLoop_step, f_deep_of, b_deep_of, gw, wd2, h4, l0, ef]
              | some ks =>
                rw [ei] at ef
                simp only [Option.isSome_some] at ef
                have ein := inn_6 (n + 1) ei
                have sm := sum_map (dM L) ks
                have lc := fun s0 => lc_dp (n + 2) L s0 (5 - ((L : Int) + 1)) ks fun d hd => ih d (innr_mem ei d hd)
                simp [forLoop_nil, forLoop_step, f_deep_of, b_deep_of, gw, wd2, h4, l0, ef, ein, ↓lc, sm]
            · have ef := fit_7 n r
              cases ei : innr 7 r with
              | none =>
                rw [ei] at ef
                simp only [Option.isSome_none] at ef
                simp [forLoop_nil, forLoop_step, f_deep_of, b_deep_of, gw, wd2, h4, l0, ef]
              | some ks =>
                rw [ei] at ef
                simp only [Option.isSome_some] at ef
                have ein := inn_7 (n + 1) ei
                have sm := sum_map (dM L) ks
                have lc := fun s0 => lc_dp (n + 2) L s0 (5 - ((L : Int) + 1)) ks fun d hd => ih d (innr_mem ei d hd)
                simp [forLoop_nil, forLoop_step, f_deep_of, b_deep_of, gw, wd2, h4, l0, ef, ein, ↓lc, sm]
            · have ef := fit_8 n r
              cases ei : innr 8 r with
              | none =>
                rw [ei] at ef
                simp only [Option.isSome_none] at ef
                simp [forLoop_nil, forLoop_step, f_deep_of, b_deep_of, gw, wd2, h4, l0, ef]
              | some ks =>
                rw [ei] at ef
                simp only [Option.isSome_some] at ef
                have ein := inn_8 (n + 1) ei
                have sm := sum_map (dM L) ks
                have lc := fun s0 => lc_dp (n + 2) L s0 (5 - ((L : Int) + 1)) ks fun d hd => ih d (innr_mem ei d hd)
                simp [forLoop_nil, forLoop_step, f_deep_of, b_deep_of, gw, wd2, h4, l0, ef, ein, ↓lc, sm]
        | _ => simp [forLoop_nil, forLoop_step, lcLoop_nil, lcLoop_step, M.itemsD.eq_3, L2.atI, L2.ixN, f_deep_of, b_deep_of, gw, dM, h4, l0]
    | dict _ => simp [PyData.canLay0] at hcl
    | _ => simp [forLoop_nil, forLoop_step, lcLoop_nil, lcLoop_step, M.itemsD.eq_3, L2.atI, L2.ixN, f_deep_of, b_deep_of, gw, dM, h4]
theorem e_isfD (n : Nat) (d : PyData) (hcl : d.canLay0 = true) (hn : 8 ≤ n) : callF F G n fi_is_formula [.v d] = .ok ⟨.bool (decide (dM 4 d ≤ 15)), false, []⟩ := by
  obtain ⟨m, rfl⟩ : ∃ m, n = m + 1 := ⟨n - 1, by omega⟩
  rw [callF_at (fn := f_is_formula) rfl rfl (Nat.le_of_ble_eq_true rfl)]
  have e := e_deepD 4 m d hcl (by omega)
  have e : callF F G m fi_deep_of [.v d, .v (.int 1)] = .ok ⟨.int (dM 4 d), false, []⟩ := e
  simp [forLoop_nil, forLoop_step, lcLoop_nil, lcLoop_step, M.itemsD.eq_3, L2.atI, L2.ixN, f_is_formula, b_is_formula, gw, e]
end K07
namespace K07
open PySem M
def lM : Nat → PyData → Int
  | 0, _ => 99
  | L + 1, .tuple (.str w :: r) => match wix w with
    | none => 99
    | some i => match innr i r with
      | none => 99
      | some ks => 1 + (ks.map (lM L)).sum
  | _ + 1, _ => 99
def wL : List PyData := [.str "sum", .str "less", .str "least", .str "greatest", .str "pick", .str "times", .str "rest", .str "num", .str "worth"]
theorem lc_lp (n L : Nat) (s0 s2 s3 s4 : Option Slot) (k : Int) (ks : List PyData) (h : ∀ d ∈ ks, callF F G n fi_law_parts [.v d, .v (.int (k + 1))] = .ok ⟨.int (lM L d), false, []⟩) : lcLoop (lcTurn (callF F G n) G (.nm 5) [] (.call fi_law_parts [(.var 5), (.bin .Add (.var 1) (.cst (.int 1)))])) ks [s0, some (.int k, .sh), s2, s3, s4, none] = .ok (ks.map fun d => .int (lM L d), [s0, some (.int k, .sh), s2, s3, s4, none]) := by
  have := lc_map (g := id) (h := fun d => PyData.int (lM L d)) (l := ks) (f := lcTurn (callF F G n) G (.nm 5) [] (.call fi_law_parts [(.var 5), (.bin .Add (.var 1) (.cst (.int 1)))])) (env := [s0, some (.int k, .sh), s2, s3, s4, none]) fun d hd => by
    have e := h d hd
    simp [forLoop_nil, forLoop_step, lcLoop_nil, lcLoop_step, M.itemsD.eq_3, L2.atI, L2.ixN, e]
  rw [List.map_id] at this
  exact this
theorem wL_in {w : PySem.Str} : cmpD .NotIn (.str w) (.list wL) = some (wix w).isNone := by
  have e : cmpD .NotIn (.str w) (.list wL) = some (!wL.any fun z => PyData.eqv z (.str w)) := rfl
  rw [e]
  have b : ∀ x : PySem.Str, PyData.eqv (.str x) (.str w) = decide (w = x) := fun x => by
    rw [eqv_str, Bool.eq_iff_iff]
    simp only [beq_iff_eq, decide_eq_true_eq]
    exact ⟨fun h => h.symm, fun h => h.symm⟩
  simp only [wL, List.any_cons, List.any_nil, b]
  unfold wix
  by_cases h0 : w = "sum"
  · subst h0; rfl
  rw [if_neg h0, decide_eq_false h0]
  by_cases h1 : w = "less"
  · subst h1; rfl
  rw [if_neg h1, decide_eq_false h1]
  by_cases h2 : w = "least"
  · subst h2; rfl
  rw [if_neg h2, decide_eq_false h2]
  by_cases h3 : w = "greatest"
  · subst h3; rfl
  rw [if_neg h3, decide_eq_false h3]
  by_cases h4 : w = "pick"
  · subst h4; rfl
  rw [if_neg h4, decide_eq_false h4]
  by_cases h5 : w = "times"
  · subst h5; rfl
  rw [if_neg h5, decide_eq_false h5]
  by_cases h6 : w = "rest"
  · subst h6; rfl
  rw [if_neg h6, decide_eq_false h6]
  by_cases h7 : w = "num"
  · subst h7; rfl
  rw [if_neg h7, decide_eq_false h7]
  by_cases h8 : w = "worth"
  · subst h8; rfl
  rw [if_neg h8, decide_eq_false h8]
  rfl
theorem ix_0 : idxD (.list wL) (.str "sum") = some 0 := by decide +kernel
theorem ix_1 : idxD (.list wL) (.str "less") = some 1 := by decide +kernel
theorem ix_2 : idxD (.list wL) (.str "least") = some 2 := by decide +kernel
theorem ix_3 : idxD (.list wL) (.str "greatest") = some 3 := by decide +kernel
theorem ix_4 : idxD (.list wL) (.str "pick") = some 4 := by decide +kernel
theorem ix_5 : idxD (.list wL) (.str "times") = some 5 := by decide +kernel
theorem ix_6 : idxD (.list wL) (.str "rest") = some 6 := by decide +kernel
theorem ix_7 : idxD (.list wL) (.str "num") = some 7 := by decide +kernel
theorem ix_8 : idxD (.list wL) (.str "worth") = some 8 := by decide +kernel
theorem la_0 : L2.atI ([.int 3, .int 3, .int 3, .int 3, .int 4, .int 3, .int 3, .int 2, .int 3] : List PyData) 0 = some (.int 3) := rfl
theorem lb_0 : L2.atI ([.int 1, .int 1, .int 1, .int 1, .int 1, .int 2, .int 2, .int 2, .int 3] : List PyData) 0 = some (.int 1) := rfl
theorem la_1 : L2.atI ([.int 3, .int 3, .int 3, .int 3, .int 4, .int 3, .int 3, .int 2, .int 3] : List PyData) 1 = some (.int 3) := rfl
theorem lb_1 : L2.atI ([.int 1, .int 1, .int 1, .int 1, .int 1, .int 2, .int 2, .int 2, .int 3] : List PyData) 1 = some (.int 1) := rfl
theorem la_2 : L2.atI ([.int 3, .int 3, .int 3, .int 3, .int 4, .int 3, .int 3, .int 2, .int 3] : List PyData) 2 = some (.int 3) := rfl
theorem lb_2 : L2.atI ([.int 1, .int 1, .int 1, .int 1, .int 1, .int 2, .int 2, .int 2, .int 3] : List PyData) 2 = some (.int 1) := rfl
theorem la_3 : L2.atI ([.int 3, .int 3, .int 3, .int 3, .int 4, .int 3, .int 3, .int 2, .int 3] : List PyData) 3 = some (.int 3) := rfl
theorem lb_3 : L2.atI ([.int 1, .int 1, .int 1, .int 1, .int 1, .int 2, .int 2, .int 2, .int 3] : List PyData) 3 = some (.int 1) := rfl
theorem la_4 : L2.atI ([.int 3, .int 3, .int 3, .int 3, .int 4, .int 3, .int 3, .int 2, .int 3] : List PyData) 4 = some (.int 4) := rfl
theorem lb_4 : L2.atI ([.int 1, .int 1, .int 1, .int 1, .int 1, .int 2, .int 2, .int 2, .int 3] : List PyData) 4 = some (.int 1) := rfl
theorem la_5 : L2.atI ([.int 3, .int 3, .int 3, .int 3, .int 4, .int 3, .int 3, .int 2, .int 3] : List PyData) 5 = some (.int 3) := rfl
theorem lb_5 : L2.atI ([.int 1, .int 1, .int 1, .int 1, .int 1, .int 2, .int 2, .int 2, .int 3] : List PyData) 5 = some (.int 2) := rfl
theorem la_6 : L2.atI ([.int 3, .int 3, .int 3, .int 3, .int 4, .int 3, .int 3, .int 2, .int 3] : List PyData) 6 = some (.int 3) := rfl
theorem lb_6 : L2.atI ([.int 1, .int 1, .int 1, .int 1, .int 1, .int 2, .int 2, .int 2, .int 3] : List PyData) 6 = some (.int 2) := rfl
theorem la_7 : L2.atI ([.int 3, .int 3, .int 3, .int 3, .int 4, .int 3, .int 3, .int 2, .int 3] : List PyData) 7 = some (.int 2) := rfl
theorem lb_7 : L2.atI ([.int 1, .int 1, .int 1, .int 1, .int 1, .int 2, .int 2, .int 2, .int 3] : List PyData) 7 = some (.int 2) := rfl
theorem la_8 : L2.atI ([.int 3, .int 3, .int 3, .int 3, .int 4, .int 3, .int 3, .int 2, .int 3] : List PyData) 8 = some (.int 3) := rfl
theorem lb_8 : L2.atI ([.int 1, .int 1, .int 1, .int 1, .int 1, .int 2, .int 2, .int 2, .int 3] : List PyData) 8 = some (.int 3) := rfl
def rest_lp : List MS := b_law_parts.tail
theorem lp_start (n : Nat) (d : PyData) (k : Int) : callF F G (n + 1) fi_law_parts [.v d, .v (.int k)] = retOf [false, false] (evSs (callF F G n) G rest_lp [some (d, .sh), some (.int k, .sh), some (.list wL, .ow), none, none, none]) := by
  rw [callF_at (fn := f_law_parts) rfl rfl (Nat.le_of_ble_eq_true rfl)]
  have e : evS (callF F G n) G (b_law_parts.headD .nop) [some (d, .sh), some (.int k, .sh), none, none, none, none] = .ok (.nx [some (d, .sh), some (.int k, .sh), some (.list wL, .ow), none, none, none]) := by
    simp [forLoop_nil, forLoop_step, lcLoop_nil, lcLoop_step, M.itemsD.eq_3, L2.atI, L2.ixN, b_law_parts, wL]
  show retOf [false, false] (evSs (callF F G n) G (b_law_parts.headD .nop :: rest_lp) [some (d, .sh), some (.int k, .sh), none, none, none, none]) = _
  rw [evSs_cons, e, seqS_nx, ssNext_E]
theorem lp_0 (n L : Nat) (k : Int) (hk : ¬ (4 : Int) < k) (r : List PyData) (hr : ∀ x ∈ r, x.canLay0 = true) (ih : ∀ d ∈ r, callF F G n fi_law_parts [.v d, .v (.int (k + 1))] = .ok ⟨.int (lM L d), false, []⟩) : callF F G (n + 1) fi_law_parts [.v (.tuple (.str "sum" :: r)), .v (.int k)] = .ok ⟨.int (match innr 0 r with | none => 99 | some ks => 1 + (ks.map (lM L)).sum), false, []⟩ := by
  rw [lp_start]
  have win : cmpD .NotIn (.str "sum") (.list wL) = some false := by rw [wL_in]; rfl
  match r with
  | [] => simp [forLoop_nil, forLoop_step, lcLoop_nil, lcLoop_step, M.itemsD.eq_3, rest_lp, b_law_parts, win, ix_0, la_0, lb_0, hk, innr]
  | [_] => simp [forLoop_nil, forLoop_step, lcLoop_nil, lcLoop_step, M.itemsD.eq_3, rest_lp, b_law_parts, win, ix_0, la_0, lb_0, hk, innr]
  | [a, b] =>
    have i1 := ih a (by simp)
    have i2 := ih b (by simp)
    simp [forLoop_nil, forLoop_step, lcLoop_nil, lcLoop_step, M.itemsD.eq_3, rest_lp, b_law_parts, win, ix_0, la_0, lb_0, hk, innr, i1, i2]
  | _ :: _ :: _ :: r' =>
    have z1 : ¬ ((r'.length : Int) + 1 + 1 + 1 + 1 = 3) := by omega
    have z2 : ¬ ((r'.length : Int) + 1 + 1 + 1 + 1 = 0) := by omega
    simp [forLoop_nil, forLoop_step, lcLoop_nil, lcLoop_step, M.itemsD.eq_3, rest_lp, b_law_parts, win, ix_0, la_0, lb_0, hk, innr, z1, z2]
theorem lp_1 (n L : Nat) (k : Int) (hk : ¬ (4 : Int) < k) (r : List PyData) (hr : ∀ x ∈ r, x.canLay0 = true) (ih : ∀ d ∈ r, callF F G n fi_law_parts [.v d, .v (.int (k + 1))] = .ok ⟨.int (lM L d), false, []⟩) : callF F G (n + 1) fi_law_parts [.v (.tuple (.str "less" :: r)), .v (.int k)] = .ok ⟨.int (match innr 1 r with | none => 99 | some ks => 1 + (ks.map (lM L)).sum), false, []⟩ := by
  rw [lp_start]
  have win : cmpD .NotIn (.str "less") (.list wL) = some false := by rw [wL_in]; rfl
  match r with
  | [] => simp [forLoop_nil, forLoop_step, lcLoop_nil, lcLoop_step, M.itemsD.eq_3, rest_lp, b_law_parts, win, ix_1, la_1, lb_1, hk, innr]
  | [_] => simp [forLoop_nil, forLoop_step, lcLoop_nil, lcLoop_step, M.itemsD.eq_3, rest_lp, b_law_parts, win, ix_1, la_1, lb_1, hk, innr]
  | [a, b] =>
    have i1 := ih a (by simp)
    have i2 := ih b (by simp)
    simp [forLoop_nil, forLoop_step, lcLoop_nil, lcLoop_step, M.itemsD.eq_3, rest_lp, b_law_parts, win, ix_1, la_1, lb_1, hk, innr, i1, i2]
  | _ :: _ :: _ :: r' =>
    have z1 : ¬ ((r'.length : Int) + 1 + 1 + 1 + 1 = 3) := by omega
    have z2 : ¬ ((r'.length : Int) + 1 + 1 + 1 + 1 = 0) := by omega
    simp [forLoop_nil, forLoop_step, lcLoop_nil, lcLoop_step, M.itemsD.eq_3, rest_lp, b_law_parts, win, ix_1, la_1, lb_1, hk, innr, z1, z2]
theorem lp_2 (n L : Nat) (k : Int) (hk : ¬ (4 : Int) < k) (r : List PyData) (hr : ∀ x ∈ r, x.canLay0 = true) (ih : ∀ d ∈ r, callF F G n fi_law_parts [.v d, .v (.int (k + 1))] = .ok ⟨.int (lM L d), false, []⟩) : callF F G (n + 1) fi_law_parts [.v (.tuple (.str "least" :: r)), .v (.int k)] = .ok ⟨.int (match innr 2 r with | none => 99 | some ks => 1 + (ks.map (lM L)).sum), false, []⟩ := by
  rw [lp_start]
  have win : cmpD .NotIn (.str "least") (.list wL) = some false := by rw [wL_in]; rfl
  match r with
  | [] => simp [forLoop_nil, forLoop_step, lcLoop_nil, lcLoop_step, M.itemsD.eq_3, rest_lp, b_law_parts, win, ix_2, la_2, lb_2, hk, innr]
  | [_] => simp [forLoop_nil, forLoop_step, lcLoop_nil, lcLoop_step, M.itemsD.eq_3, rest_lp, b_law_parts, win, ix_2, la_2, lb_2, hk, innr]
  | [a, b] =>
    have i1 := ih a (by simp)
    have i2 := ih b (by simp)
    simp [forLoop_nil, forLoop_step, lcLoop_nil, lcLoop_step, M.itemsD.eq_3, rest_lp, b_law_parts, win, ix_2, la_2, lb_2, hk, innr, i1, i2]
  | _ :: _ :: _ :: r' =>
    have z1 : ¬ ((r'.length : Int) + 1 + 1 + 1 + 1 = 3) := by omega
    have z2 : ¬ ((r'.length : Int) + 1 + 1 + 1 + 1 = 0) := by omega
    simp [forLoop_nil, forLoop_step, lcLoop_nil, lcLoop_step, M.itemsD.eq_3, rest_lp, b_law_parts, win, ix_2, la_2, lb_2, hk, innr, z1, z2]
theorem lp_3 (n L : Nat) (k : Int) (hk : ¬ (4 : Int) < k) (r : List PyData) (hr : ∀ x ∈ r, x.canLay0 = true) (ih : ∀ d ∈ r, callF F G n fi_law_parts [.v d, .v (.int (k + 1))] = .ok ⟨.int (lM L d), false, []⟩) : callF F G (n + 1) fi_law_parts [.v (.tuple (.str "greatest" :: r)), .v (.int k)] = .ok ⟨.int (match innr 3 r with | none => 99 | some ks => 1 + (ks.map (lM L)).sum), false, []⟩ := by
  rw [lp_start]
  have win : cmpD .NotIn (.str "greatest") (.list wL) = some false := by rw [wL_in]; rfl
  match r with
  | [] => simp [forLoop_nil, forLoop_step, lcLoop_nil, lcLoop_step, M.itemsD.eq_3, rest_lp, b_law_parts, win, ix_3, la_3, lb_3, hk, innr]
  | [_] => simp [forLoop_nil, forLoop_step, lcLoop_nil, lcLoop_step, M.itemsD.eq_3, rest_lp, b_law_parts, win, ix_3, la_3, lb_3, hk, innr]
  | [a, b] =>
    have i1 := ih a (by simp)
    have i2 := ih b (by simp)
    simp [forLoop_nil, forLoop_step, lcLoop_nil, lcLoop_step, M.itemsD.eq_3, rest_lp, b_law_parts, win, ix_3, la_3, lb_3, hk, innr, i1, i2]
  | _ :: _ :: _ :: r' =>
    have z1 : ¬ ((r'.length : Int) + 1 + 1 + 1 + 1 = 3) := by omega
    have z2 : ¬ ((r'.length : Int) + 1 + 1 + 1 + 1 = 0) := by omega
    simp [forLoop_nil, forLoop_step, lcLoop_nil, lcLoop_step, M.itemsD.eq_3, rest_lp, b_law_parts, win, ix_3, la_3, lb_3, hk, innr, z1, z2]
theorem lp_4 (n L : Nat) (k : Int) (hk : ¬ (4 : Int) < k) (r : List PyData) (hr : ∀ x ∈ r, x.canLay0 = true) (ih : ∀ d ∈ r, callF F G n fi_law_parts [.v d, .v (.int (k + 1))] = .ok ⟨.int (lM L d), false, []⟩) : callF F G (n + 1) fi_law_parts [.v (.tuple (.str "pick" :: r)), .v (.int k)] = .ok ⟨.int (match innr 4 r with | none => 99 | some ks => 1 + (ks.map (lM L)).sum), false, []⟩ := by
  rw [lp_start]
  have win : cmpD .NotIn (.str "pick") (.list wL) = some false := by rw [wL_in]; rfl
  match r with
  | [] => simp [forLoop_nil, forLoop_step, lcLoop_nil, lcLoop_step, M.itemsD.eq_3, rest_lp, b_law_parts, win, ix_4, la_4, lb_4, hk, innr]
  | [_] => simp [forLoop_nil, forLoop_step, lcLoop_nil, lcLoop_step, M.itemsD.eq_3, rest_lp, b_law_parts, win, ix_4, la_4, lb_4, hk, innr]
  | [_, _] => simp [forLoop_nil, forLoop_step, lcLoop_nil, lcLoop_step, M.itemsD.eq_3, rest_lp, b_law_parts, win, ix_4, la_4, lb_4, hk, innr]
  | [a, b, c] =>
    have i1 := ih a (by simp)
    have i2 := ih b (by simp)
    have i3 := ih c (by simp)
    simp [forLoop_nil, forLoop_step, lcLoop_nil, lcLoop_step, M.itemsD.eq_3, rest_lp, b_law_parts, win, ix_4, la_4, lb_4, hk, innr, i1, i2, i3]
  | _ :: _ :: _ :: _ :: r' =>
    have z1 : ¬ ((r'.length : Int) + 1 + 1 + 1 + 1 + 1 = 4) := by omega
    have z2 : ¬ ((r'.length : Int) + 1 + 1 + 1 + 1 + 1 = 0) := by omega
    simp [forLoop_nil, forLoop_step, lcLoop_nil, lcLoop_step, M.itemsD.eq_3, rest_lp, b_law_parts, win, ix_4, la_4, lb_4, hk, innr, z1, z2]
theorem lp_5 (n L : Nat) (k : Int) (hk : ¬ (4 : Int) < k) (r : List PyData) (hr : ∀ x ∈ r, x.canLay0 = true) (ih : ∀ d ∈ r, callF F G n fi_law_parts [.v d, .v (.int (k + 1))] = .ok ⟨.int (lM L d), false, []⟩) : callF F G (n + 1) fi_law_parts [.v (.tuple (.str "times" :: r)), .v (.int k)] = .ok ⟨.int (match innr 5 r with | none => 99 | some ks => 1 + (ks.map (lM L)).sum), false, []⟩ := by
  rw [lp_start]
  have win : cmpD .NotIn (.str "times") (.list wL) = some false := by rw [wL_in]; rfl
  match r with
  | [] => simp [forLoop_nil, forLoop_step, lcLoop_nil, lcLoop_step, M.itemsD.eq_3, rest_lp, b_law_parts, win, ix_5, la_5, lb_5, hk, innr]
  | [_] => simp [forLoop_nil, forLoop_step, lcLoop_nil, lcLoop_step, M.itemsD.eq_3, rest_lp, b_law_parts, win, ix_5, la_5, lb_5, hk, innr]
  | [x, a] =>
    have i1 := ih a (by simp)
    cases x with
    | int m =>
      by_cases h : (if m < 0 then -m else m) < 10000
      · have h2 : ¬ (9999 : Int) < (if m < 0 then -m else m) := by omega
        simp [forLoop_nil, forLoop_step, lcLoop_nil, lcLoop_step, M.itemsD.eq_3, rest_lp, b_law_parts, win, ix_5, la_5, lb_5, hk, innr, i1, h, h2]
      · have h2 : (9999 : Int) < (if m < 0 then -m else m) := by omega
        simp [forLoop_nil, forLoop_step, lcLoop_nil, lcLoop_step, M.itemsD.eq_3, rest_lp, b_law_parts, win, ix_5, la_5, lb_5, hk, innr, i1, h, h2]
    | dict kvs =>
      have hd := hr (.dict kvs) (by simp)
      simp [PyData.canLay0] at hd
    | _ => simp [forLoop_nil, forLoop_step, lcLoop_nil, lcLoop_step, M.itemsD.eq_3, rest_lp, b_law_parts, win, ix_5, la_5, lb_5, hk, innr, i1]
  | _ :: _ :: _ :: r' =>
    have z1 : ¬ ((r'.length : Int) + 1 + 1 + 1 + 1 = 3) := by omega
    have z2 : ¬ ((r'.length : Int) + 1 + 1 + 1 + 1 = 0) := by omega
    simp [forLoop_nil, forLoop_step, lcLoop_nil, lcLoop_step, M.itemsD.eq_3, rest_lp, b_law_parts, win, ix_5, la_5, lb_5, hk, innr, z1, z2]
theorem lp_6 (n L : Nat) (k : Int) (hk : ¬ (4 : Int) < k) (r : List PyData) (hr : ∀ x ∈ r, x.canLay0 = true) (ih : ∀ d ∈ r, callF F G n fi_law_parts [.v d, .v (.int (k + 1))] = .ok ⟨.int (lM L d), false, []⟩) : callF F G (n + 1) fi_law_parts [.v (.tuple (.str "rest" :: r)), .v (.int k)] = .ok ⟨.int (match innr 6 r with | none => 99 | some ks => 1 + (ks.map (lM L)).sum), false, []⟩ := by
  rw [lp_start]
  have win : cmpD .NotIn (.str "rest") (.list wL) = some false := by rw [wL_in]; rfl
  match r with
  | [] => simp [forLoop_nil, forLoop_step, lcLoop_nil, lcLoop_step, M.itemsD.eq_3, rest_lp, b_law_parts, win, ix_6, la_6, lb_6, hk, innr]
  | [_] => simp [forLoop_nil, forLoop_step, lcLoop_nil, lcLoop_step, M.itemsD.eq_3, rest_lp, b_law_parts, win, ix_6, la_6, lb_6, hk, innr]
  | [x, a] =>
    have i1 := ih a (by simp)
    cases x with
    | int m =>
      by_cases h : 0 < m
      · by_cases h2 : m < 10000
        · have h3 : ¬ m < 1 := by omega
          have h4 : ¬ (9999 : Int) < m := by omega
          simp [forLoop_nil, forLoop_step, lcLoop_nil, lcLoop_step, M.itemsD.eq_3, rest_lp, b_law_parts, win, ix_6, la_6, lb_6, hk, innr, i1, h, h2, h3, h4]
        · have h3 : ¬ m < 1 := by omega
          have h4 : (9999 : Int) < m := by omega
          simp [forLoop_nil, forLoop_step, lcLoop_nil, lcLoop_step, M.itemsD.eq_3, rest_lp, b_law_parts, win, ix_6, la_6, lb_6, hk, innr, i1, h, h2, h3, h4]
      · have h3 : m < 1 := by omega
        simp [forLoop_nil, forLoop_step, lcLoop_nil, lcLoop_step, M.itemsD.eq_3, rest_lp, b_law_parts, win, ix_6, la_6, lb_6, hk, innr, i1, h, h3]
    | dict kvs =>
      have hd := hr (.dict kvs) (by simp)
      simp [PyData.canLay0] at hd
    | _ => simp [forLoop_nil, forLoop_step, lcLoop_nil, lcLoop_step, M.itemsD.eq_3, rest_lp, b_law_parts, win, ix_6, la_6, lb_6, hk, innr, i1]
  | _ :: _ :: _ :: r' =>
    have z1 : ¬ ((r'.length : Int) + 1 + 1 + 1 + 1 = 3) := by omega
    have z2 : ¬ ((r'.length : Int) + 1 + 1 + 1 + 1 = 0) := by omega
    simp [forLoop_nil, forLoop_step, lcLoop_nil, lcLoop_step, M.itemsD.eq_3, rest_lp, b_law_parts, win, ix_6, la_6, lb_6, hk, innr, z1, z2]
theorem lp_7 (n L : Nat) (k : Int) (hk : ¬ (4 : Int) < k) (r : List PyData) (hr : ∀ x ∈ r, x.canLay0 = true) (ih : ∀ d ∈ r, callF F G n fi_law_parts [.v d, .v (.int (k + 1))] = .ok ⟨.int (lM L d), false, []⟩) : callF F G (n + 1) fi_law_parts [.v (.tuple (.str "num" :: r)), .v (.int k)] = .ok ⟨.int (match innr 7 r with | none => 99 | some ks => 1 + (ks.map (lM L)).sum), false, []⟩ := by
  rw [lp_start]
  have win : cmpD .NotIn (.str "num") (.list wL) = some false := by rw [wL_in]; rfl
  match r with
  | [] => simp [forLoop_nil, forLoop_step, lcLoop_nil, lcLoop_step, M.itemsD.eq_3, rest_lp, b_law_parts, win, ix_7, la_7, lb_7, hk, innr]
  | [x] =>
    cases x with
    | int m =>
      by_cases h : (if m < 0 then -m else m) < 1000000
      · have h2 : ¬ (999999 : Int) < (if m < 0 then -m else m) := by omega
        simp [forLoop_nil, forLoop_step, lcLoop_nil, lcLoop_step, M.itemsD.eq_3, rest_lp, b_law_parts, win, ix_7, la_7, lb_7, hk, innr, h, h2]
      · have h2 : (999999 : Int) < (if m < 0 then -m else m) := by omega
        simp [forLoop_nil, forLoop_step, lcLoop_nil, lcLoop_step, M.itemsD.eq_3, rest_lp, b_law_parts, win, ix_7, la_7, lb_7, hk, innr, h, h2]
    | dict kvs =>
      have hd := hr (.dict kvs) (by simp)
      simp [PyData.canLay0] at hd
    | _ => simp [forLoop_nil, forLoop_step, lcLoop_nil, lcLoop_step, M.itemsD.eq_3, rest_lp, b_law_parts, win, ix_7, la_7, lb_7, hk, innr]
  | _ :: _ :: r' =>
    have z1 : ¬ ((r'.length : Int) + 1 + 1 + 1 = 2) := by omega
    have z2 : ¬ ((r'.length : Int) + 1 + 1 + 1 = 0) := by omega
    simp [forLoop_nil, forLoop_step, lcLoop_nil, lcLoop_step, M.itemsD.eq_3, rest_lp, b_law_parts, win, ix_7, la_7, lb_7, hk, innr, z1, z2]
theorem lp_8 (n L : Nat) (k : Int) (hk : ¬ (4 : Int) < k) (r : List PyData) (hr : ∀ x ∈ r, x.canLay0 = true) (ih : ∀ d ∈ r, callF F G n fi_law_parts [.v d, .v (.int (k + 1))] = .ok ⟨.int (lM L d), false, []⟩) : callF F G (n + 1) fi_law_parts [.v (.tuple (.str "worth" :: r)), .v (.int k)] = .ok ⟨.int (match innr 8 r with | none => 99 | some ks => 1 + (ks.map (lM L)).sum), false, []⟩ := by
  rw [lp_start]
  have win : cmpD .NotIn (.str "worth") (.list wL) = some false := by rw [wL_in]; rfl
  match r with
  | [] => simp [forLoop_nil, forLoop_step, lcLoop_nil, lcLoop_step, M.itemsD.eq_3, rest_lp, b_law_parts, win, ix_8, la_8, lb_8, hk, innr]
  | [_] => simp [forLoop_nil, forLoop_step, lcLoop_nil, lcLoop_step, M.itemsD.eq_3, rest_lp, b_law_parts, win, ix_8, la_8, lb_8, hk, innr]
  | [x, y] =>
    cases x with
    | int m => cases y with
      | int q =>
        have e : ([m, q].foldl min m) = min m q := by simp [List.foldl]
        by_cases h : 0 ≤ m
        · by_cases h2 : 0 ≤ q
          · have h3 : ¬ min m q < 0 := by omega
            simp [forLoop_nil, forLoop_step, lcLoop_nil, lcLoop_step, M.itemsD.eq_3, rest_lp, b_law_parts, win, ix_8, la_8, lb_8, hk, innr, h, h2, minI, h3]
          · have h3 : min m q < 0 := by omega
            simp [forLoop_nil, forLoop_step, lcLoop_nil, lcLoop_step, M.itemsD.eq_3, rest_lp, b_law_parts, win, ix_8, la_8, lb_8, hk, innr, h, h2, minI, h3]
        · have h3 : min m q < 0 := by omega
          simp [forLoop_nil, forLoop_step, lcLoop_nil, lcLoop_step, M.itemsD.eq_3, rest_lp, b_law_parts, win, ix_8, la_8, lb_8, hk, innr, h, minI, h3]
      | dict kvs =>
        have hd := hr (.dict kvs) (by simp)
        simp [PyData.canLay0] at hd
      | _ => simp [forLoop_nil, forLoop_step, lcLoop_nil, lcLoop_step, M.itemsD.eq_3, rest_lp, b_law_parts, win, ix_8, la_8, lb_8, hk, innr]
    | dict kvs =>
      have hd := hr (.dict kvs) (by simp)
      simp [PyData.canLay0] at hd
    | _ =>
      cases y with
      | dict kvs =>
        have hd := hr (.dict kvs) (by simp)
        simp [PyData.canLay0] at hd
      | _ => simp [forLoop_nil, forLoop_step, lcLoop_nil, lcLoop_step, M.itemsD.eq_3, rest_lp, b_law_parts, win, ix_8, la_8, lb_8, hk, innr]
  | _ :: _ :: _ :: r' =>
    have z1 : ¬ ((r'.length : Int) + 1 + 1 + 1 + 1 = 3) := by omega
    have z2 : ¬ ((r'.length : Int) + 1 + 1 + 1 + 1 = 0) := by omega
    simp [forLoop_nil, forLoop_step, lcLoop_nil, lcLoop_step, M.itemsD.eq_3, rest_lp, b_law_parts, win, ix_8, la_8, lb_8, hk, innr, z1, z2]
theorem e_partsD : ∀ (L n : Nat) (d : PyData), d.canLay0 = true → L + 1 ≤ n → callF F G n fi_law_parts [.v d, .v (.int (5 - (L : Int)))] = .ok ⟨.int (lM L d), false, []⟩
  | L, 0, d, _, hn => by omega
  | 0, n + 1, d, _, hn => by
    rw [lp_start]
    simp [forLoop_nil, forLoop_step, lcLoop_nil, lcLoop_step, M.itemsD.eq_3, L2.atI, L2.ixN, rest_lp, b_law_parts, lM]
  | L + 1, n + 1, d, hcl, hn => by
    have h4 : ¬ (4 : Int) < 5 - ((L : Int) + 1) := by omega
    have hc : (((L + 1 : Nat) : Int)) = (L : Int) + 1 := by omega
    rw [hc]
    cases d with
    | tuple xs =>
      cases xs with
      | nil => rw [lp_start]; simp [forLoop_nil, forLoop_step, lcLoop_nil, lcLoop_step, M.itemsD.eq_3, L2.atI, L2.ixN, rest_lp, b_law_parts, lM, h4]
      | cons x r =>
        have l0 : ¬ ((r.length : Int) + 1 = 0) := by omega
        cases x with
        | str w =>
          have hr : ∀ x ∈ r, x.canLay0 = true := fun x hx => by
            simp only [PyData.canLay0, PyData.canLayAll0, Bool.and_eq_true] at hcl
            exact lay_mem hcl.2 x hx
          have ih : ∀ d ∈ r, callF F G n fi_law_parts [.v d, .v (.int (5 - ((L : Int) + 1) + 1))] = .ok ⟨.int (lM L d), false, []⟩ := fun d hd => by
            have := e_partsD L n d (hr d hd) (by omega)
            rw [show (5 - ((L : Int) + 1) + 1) = 5 - (L : Int) by omega]
            exact this
          cases ew : wix w with
          | none =>
            have e := wL_in (w := w)
            rw [ew] at e
            simp only [Option.isNone_none] at e
            rw [lp_start]
            simp [forLoop_nil, forLoop_step, lcLoop_nil, lcLoop_step, M.itemsD.eq_3, rest_lp, b_law_parts, lM, h4, l0, ew, e]
          | some i =>
            have e2 : lM (L + 1) (.tuple (.str w :: r)) = match innr i r with
              | none => 99
              | some ks => 1 + (ks.map (lM L)).sum := by simp only [lM, ew]
            rw [e2]
            rcases wix_inv ew with ⟨rfl, rfl⟩ | ⟨rfl, rfl⟩ | ⟨rfl, rfl⟩ | ⟨rfl, rfl⟩ | ⟨rfl, rfl⟩ | ⟨rfl, rfl⟩ | ⟨rfl, rfl⟩ | ⟨rfl, rfl⟩ | ⟨rfl, rfl⟩
            · exact lp_0 n L _ h4 r hr ih
            · exact lp_1 n L _ h4 r hr ih
            · exact lp_2 n L _ h4 r hr ih
            · exact lp_3 n L _ h4 r hr ih
            · exact lp_4 n L _ h4 r hr ih
            · exact lp_5 n L _ h4 r hr ih
            · exact lp_6 n L _ h4 r hr ih
            · exact lp_7 n L _ h4 r hr ih
            · exact lp_8 n L _ h4 r hr ih
        | _ => rw [lp_start]; simp [forLoop_nil, forLoop_step, lcLoop_nil, lcLoop_step, M.itemsD.eq_3, L2.atI, L2.ixN, rest_lp, b_law_parts, lM, h4, l0]
    | dict _ => simp [PyData.canLay0] at hcl
    | _ => rw [lp_start]; simp [forLoop_nil, forLoop_step, lcLoop_nil, lcLoop_step, M.itemsD.eq_3, L2.atI, L2.ixN, rest_lp, b_law_parts, lM, h4]
theorem dl_sum {α : Type} {f g : α → Int} : ∀ {l : List α}, (∀ x ∈ l, (f x = g x ∨ (15 < f x ∧ 15 < g x)) ∧ 1 ≤ f x ∧ 1 ≤ g x) → ((l.map f).sum = (l.map g).sum ∨ (15 < (l.map f).sum ∧ 15 < (l.map g).sum)) ∧ 0 ≤ (l.map f).sum ∧ 0 ≤ (l.map g).sum
  | [], _ => by simp
  | x :: r, h => by
    have h1 := h x List.mem_cons_self
    have h2 := dl_sum (l := r) fun y hy => h y (List.mem_cons_of_mem _ hy)
    simp only [List.map_cons, List.sum_cons]
    omega
theorem dl_M : ∀ (L : Nat) (d : PyData), (dM L d = lM L d ∨ (15 < dM L d ∧ 15 < lM L d)) ∧ 1 ≤ dM L d ∧ 1 ≤ lM L d
  | 0, d => by simp [dM, lM]
  | L + 1, d => by
    cases d with
    | tuple xs =>
      cases xs with
      | nil => simp [dM, lM]
      | cons x r =>
        cases x with
        | str w =>
          simp only [dM, lM]
          cases wix w with
          | none => simp
          | some i =>
            simp only
            cases innr i r with
            | none => simp
            | some ks =>
              simp only
              have := dl_sum (f := dM L) (g := lM L) (l := ks) fun x _ => dl_M L x
              omega
        | _ => simp [dM, lM]
    | _ => simp [dM, lM]
theorem dl_eq (d : PyData) : decide (lM 4 d ≤ 15) = decide (dM 4 d ≤ 15) := by
  have := dl_M 4 d
  rw [Bool.eq_iff_iff]
  simp only [decide_eq_true_eq]
  omega
end K07
namespace K07
open PySem M
theorem e_isf (n : Nat) (f : Fm) (h : Fit f) (hd : deep f ≤ 4) (hp : parts f ≤ 15) (hn : deep f + 3 ≤ n) : callF F G n fi_is_formula [.v (enc f)] = .ok ⟨.bool true, false, []⟩ := by
  obtain ⟨n, rfl⟩ : ∃ m, n = m + 1 := ⟨n - 1, by omega⟩
  rw [callF_at (fn := f_is_formula) rfl rfl (Nat.le_of_ble_eq_true rfl)]
  have e := e_deep f n 1 h (by omega) (by omega)
  simp [forLoop_nil, forLoop_step, lcLoop_nil, lcLoop_step, M.itemsD.eq_3, L2.atI, L2.ixN, f_is_formula, b_is_formula, gw, e, hp]
theorem e_found : ∀ (f : Fm) (n : Nat), (names f).length ≤ 60 → deep f + 1 ≤ n → callF F G n fi_law_found [.v (enc f)] = .ok ⟨.list ((names f).map pD), true, []⟩
  | f, 0, _, h => by omega
  | f, n + 1, hz, hn => by
    rw [callF_at (fn := f_law_found) rfl rfl (Nat.le_of_ble_eq_true rfl)]
    match f, hz, hn with
    | .num i, hz, hn =>
      simp [forLoop_nil, forLoop_step, lcLoop_nil, lcLoop_step, M.itemsD.eq_3, L2.atI, L2.ixN, f_law_found, b_law_found, enc, names]
    | .worth i j, hz, hn =>
      simp [forLoop_nil, forLoop_step, lcLoop_nil, lcLoop_step, M.itemsD.eq_3, L2.atI, L2.ixN, f_law_found, b_law_found, enc, names, pD]
    | .two w a b, hz, hn =>
      simp only [deep, names, List.length_append] at hz hn
      have i1 := e_found a n (by omega) (by omega)
      have i2 := e_found b n (by omega) (by omega)
      have z1 : (names a).length ≤ 16777216 := by omega
      have z2 : (names a).length + (names b).length ≤ 16777216 := by omega
      cases w <;> simp [forLoop_nil, forLoop_step, lcLoop_nil, lcLoop_step, M.itemsD.eq_3, L2.atI, L2.ixN, f_law_found, b_law_found, enc, names, i1, i2, z1, z2, Wo.s, enc_isT]
    | .times c a, hz, hn =>
      simp only [deep, names] at hz hn
      have i1 := e_found a n (by omega) (by omega)
      have z1 : (names a).length ≤ 16777216 := by omega
      simp [forLoop_nil, forLoop_step, lcLoop_nil, lcLoop_step, M.itemsD.eq_3, L2.atI, L2.ixN, f_law_found, b_law_found, enc, names, i1, z1, enc_isT]
    | .rest c a, hz, hn =>
      simp only [deep, names] at hz hn
      have i1 := e_found a n (by omega) (by omega)
      have z1 : (names a).length ≤ 16777216 := by omega
      simp [forLoop_nil, forLoop_step, lcLoop_nil, lcLoop_step, M.itemsD.eq_3, L2.atI, L2.ixN, f_law_found, b_law_found, enc, names, i1, z1, enc_isT]
    | .pick a b c, hz, hn =>
      simp only [deep, names, List.length_append] at hz hn
      have i1 := e_found a n (by omega) (by omega)
      have i2 := e_found b n (by omega) (by omega)
      have i3 := e_found c n (by omega) (by omega)
      have z1 : (names a).length ≤ 16777216 := by omega
      have z2 : (names a).length + (names b).length ≤ 16777216 := by omega
      have z3 : (names a).length + ((names b).length + (names c).length) ≤ 16777216 := by omega
      have z4 : (names a).length + (names b).length + (names c).length ≤ 16777216 := by omega
      simp [forLoop_nil, forLoop_step, lcLoop_nil, lcLoop_step, M.itemsD.eq_3, L2.atI, L2.ixN, f_law_found, b_law_found, enc, names, i1, i2, i3, z1, z2, z3, z4, enc_isT]
theorem bools_f {α : Type} (f : α → Bool) (l : List α) : boolsD (l.map fun x => PyData.bool (f x)) = some (l.map f) := by
  induction l with
  | nil => rfl
  | cons x l ih => simp only [List.map_cons, boolsD, ih]; rfl
theorem all_f {α : Type} (f : α → Bool) (l : List α) : bltD .all [.list (l.map fun x => PyData.bool (f x))] = some (.bool (l.all f), false) := by
  simp only [bltD, bools_f, Option.map_some]
  rw [List.all_map]
  rfl
theorem nd_lay {d : PyData} (h : d.canLay0 = true) : ndB d = true := by
  cases d <;> simp_all [ndB, PyData.canLay0]
theorem nm_le : ∀ f : Fm, ((names f).length : Int) ≤ parts f
  | .num _ => by simp [names, parts]
  | .worth _ _ => by simp [names, parts]
  | .two _ a b => by have := nm_le a; have := nm_le b; simp only [names, parts, List.length_append]; omega
  | .times _ a => by have := nm_le a; simp only [names, parts]; omega
  | .rest _ a => by have := nm_le a; simp only [names, parts]; omega
  | .pick a b c => by have := nm_le a; have := nm_le b; have := nm_le c; simp only [names, parts, List.length_append]; omega
theorem nm_nn : ∀ f : Fm, Fit f → ∀ p ∈ names f, 0 ≤ p.1 ∧ 0 ≤ p.2
  | .num _, _, p, hp => by simp [names] at hp
  | .worth i j, h, p, hp => by
    simp only [names, List.mem_singleton] at hp
    subst hp
    exact h
  | .two _ a b, h, p, hp => by
    simp only [names, List.mem_append] at hp
    rcases hp with z | z
    · exact nm_nn a h.1 p z
    · exact nm_nn b h.2 p z
  | .times _ a, h, p, hp => nm_nn a h.2 p hp
  | .rest _ a, h, p, hp => nm_nn a h.2 p hp
  | .pick a b c, h, p, hp => by
    simp only [names, List.mem_append] at hp
    rcases hp with z | z | z
    · exact nm_nn a h.1 p z
    · exact nm_nn b h.2.1 p z
    · exact nm_nn c h.2.2 p z
/-- a thing that is counted as a formula is one -/
theorem decF : ∀ (L : Nat) (d : PyData), dM L d ≤ 15 → ∃ f, d = enc f ∧ Fit f ∧ deep f ≤ L ∧ parts f = dM L d
  | 0, d, h => by simp [dM] at h
  | L + 1, d, h => by
    match d, h with
    | .tuple (.str w :: r), h =>
      simp only [dM] at h ⊢
      cases ew : wix w with
      | none => simp [ew] at h
      | some i =>
        simp only [ew] at h ⊢
        cases ei : innr i r with
        | none => simp [ei] at h
        | some ks =>
          simp only [ei] at h ⊢
          have two : ∀ a b : PyData, ks = [a, b] → ∃ f g, a = enc f ∧ b = enc g ∧ Fit f ∧ Fit g ∧ deep f ≤ L ∧ deep g ≤ L ∧ 1 + (parts f + parts g) = 1 + (ks.map (dM L)).sum := fun a b e => by
            subst e
            simp only [List.map_cons, List.map_nil, List.sum_cons, List.sum_nil] at h ⊢
            have h1 := (dl_M L a).2.1
            have h2 := (dl_M L b).2.1
            obtain ⟨f, e1, e2, e3, e4⟩ := decF L a (by omega)
            obtain ⟨g, g1, g2, g3, g4⟩ := decF L b (by omega)
            exact ⟨f, g, e1, g1, e2, g2, e3, g3, by omega⟩
          have one : ∀ a : PyData, ks = [a] → ∃ f, a = enc f ∧ Fit f ∧ deep f ≤ L ∧ 1 + parts f = 1 + (ks.map (dM L)).sum := fun a e => by
            subst e
            simp only [List.map_cons, List.map_nil, List.sum_cons, List.sum_nil] at h ⊢
            obtain ⟨f, e1, e2, e3, e4⟩ := decF L a (by omega)
            exact ⟨f, e1, e2, e3, by omega⟩
          rcases wix_inv ew with ⟨rfl, rfl⟩ | ⟨rfl, rfl⟩ | ⟨rfl, rfl⟩ | ⟨rfl, rfl⟩ | ⟨rfl, rfl⟩ | ⟨rfl, rfl⟩ | ⟨rfl, rfl⟩ | ⟨rfl, rfl⟩ | ⟨rfl, rfl⟩
          · obtain ⟨a, b, e1, e2⟩ := inv_0 ei
            obtain ⟨f, g, rfl, rfl, f1, g1, f2, g2, hs⟩ := two a b e2
            exact ⟨.two .sum f g, by rw [e1]; rfl, ⟨f1, g1⟩, by simp only [deep]; omega, hs⟩
          · obtain ⟨a, b, e1, e2⟩ := inv_1 ei
            obtain ⟨f, g, rfl, rfl, f1, g1, f2, g2, hs⟩ := two a b e2
            exact ⟨.two .less f g, by rw [e1]; rfl, ⟨f1, g1⟩, by simp only [deep]; omega, hs⟩
          · obtain ⟨a, b, e1, e2⟩ := inv_2 ei
            obtain ⟨f, g, rfl, rfl, f1, g1, f2, g2, hs⟩ := two a b e2
            exact ⟨.two .least f g, by rw [e1]; rfl, ⟨f1, g1⟩, by simp only [deep]; omega, hs⟩
          · obtain ⟨a, b, e1, e2⟩ := inv_3 ei
            obtain ⟨f, g, rfl, rfl, f1, g1, f2, g2, hs⟩ := two a b e2
            exact ⟨.two .greatest f g, by rw [e1]; rfl, ⟨f1, g1⟩, by simp only [deep]; omega, hs⟩
          · obtain ⟨a, b, c, e1, e2⟩ := inv_4 ei
            subst e2
            simp only [List.map_cons, List.map_nil, List.sum_cons, List.sum_nil] at h ⊢
            have h1 := (dl_M L a).2.1
            have h2 := (dl_M L b).2.1
            have h3 := (dl_M L c).2.1
            obtain ⟨f, rfl, f2, f3, f4⟩ := decF L a (by omega)
            obtain ⟨g, rfl, g2, g3, g4⟩ := decF L b (by omega)
            obtain ⟨k, rfl, k2, k3, k4⟩ := decF L c (by omega)
            exact ⟨.pick f g k, by rw [e1]; rfl, ⟨f2, g2, k2⟩, by simp only [deep]; omega, by simp only [parts]; omega⟩
          · obtain ⟨c, a, e1, e2, e3⟩ := inv_5 ei
            obtain ⟨f, rfl, f2, f3, f4⟩ := one a e3
            exact ⟨.times c f, by rw [e1]; rfl, ⟨by omega, f2⟩, by simp only [deep]; omega, f4⟩
          · obtain ⟨c, a, e1, e2, e3⟩ := inv_6 ei
            obtain ⟨f, rfl, f2, f3, f4⟩ := one a e3
            exact ⟨.rest c f, by rw [e1]; rfl, ⟨e2, f2⟩, by simp only [deep]; omega, f4⟩
          · obtain ⟨c, e1, e2, e3⟩ := inv_7 ei
            subst e3
            exact ⟨.num c, by rw [e1]; rfl, by simp only [Fit]; omega, by simp only [deep]; omega, by simp [parts]⟩
          · obtain ⟨i, j, e1, e2, e3⟩ := inv_8 ei
            subst e3
            exact ⟨.worth i j, by rw [e1]; rfl, e2, by simp only [deep]; omega, by simp [parts]⟩
    | .tuple [], h => simp [dM] at h
    | .tuple (.none :: r), h => simp [dM] at h
    | .tuple (.bool _ :: r), h => simp [dM] at h
    | .tuple (.int _ :: r), h => simp [dM] at h
    | .tuple (.tuple _ :: r), h => simp [dM] at h
    | .tuple (.list _ :: r), h => simp [dM] at h
    | .tuple (.dict _ :: r), h => simp [dM] at h
    | .none, h => simp [dM] at h
    | .bool _, h => simp [dM] at h
    | .int _, h => simp [dM] at h
    | .str _, h => simp [dM] at h
    | .list _, h => simp [dM] at h
    | .dict _, h => simp [dM] at h
theorem pD_inj {p q : Int × Int} (h : pD p = pD q) : p = q := by
  simp only [pD, PyData.tuple.injEq, List.cons.injEq, PyData.int.injEq, and_true] at h
  exact Prod.ext h.1 h.2
theorem enc_nm (f g : Fm) (hf : (names f).length ≤ 60) (hg : (names g).length ≤ 60) (h : enc f = enc g) : names f = names g := by
  have a := e_names f (deep f + deep g + 1) hf (by omega)
  have b := e_names g (deep f + deep g + 1) hg (by omega)
  rw [h, b] at a
  simp only [M.R.ok.injEq, Ret.mk.injEq, PyData.list.injEq, and_true] at a
  exact ((List.map_inj_right fun x y => pD_inj).mp a).symm
def MkP (sg : List (Nat × Nat)) (s : Nat) (ps : List Nat) (d : PyData) : Prop := ∃ f, d = enc f ∧ Fit f ∧ deep f ≤ 4 ∧ parts f ≤ 15 ∧ ∀ p ∈ names f, p ∈ all1 sg 0 (s :: ps)
theorem MkP.dM {sg : List (Nat × Nat)} {s : Nat} {ps : List Nat} {d : PyData} (h : MkP sg s ps d) (hc : d.canLay0 = true) : dM 4 d ≤ 15 := by
  obtain ⟨f, rfl, h1, h2, h3, _⟩ := h
  have e1 := e_isf 9 f h1 h2 h3 (by omega)
  rw [e_isfD 9 (enc f) hc (by omega)] at e1
  simpa using e1
def frm (hi : Int) : PyData → Bool
  | .int i => decide (0 ≤ i) && decide (i ≤ hi)
  | _ => false
theorem e_fromD (n : Nat) (d : PyData) (hi : Int) : callF F G (n + 2) fi_is_from [.v d, .v (.int 0), .v (.int hi)] = .ok ⟨.bool (frm hi d), false, []⟩ := by
  rw [callF_at (fn := f_is_from) rfl rfl (Nat.le_of_ble_eq_true rfl)]
  have e := e_numD n d
  cases d with
  | int i => by_cases h : 0 ≤ i <;> simp [forLoop_nil, forLoop_step, lcLoop_nil, lcLoop_step, M.itemsD.eq_3, L2.atI, L2.ixN, f_is_from, b_is_from, e, isN, frm, h]
  | _ => simp [forLoop_nil, forLoop_step, lcLoop_nil, lcLoop_step, M.itemsD.eq_3, L2.atI, L2.ixN, f_is_from, b_is_from, e, isN, frm]
def sgB : PyData → Bool
  | .tuple [a, b] => frm 2 a && frm 2 b
  | _ => false
theorem e_isSgD (n : Nat) (d : PyData) (hd : d.canLay0 = true) : callF F G (n + 3) fi_is_sign [.v d] = .ok ⟨.bool (sgB d), false, []⟩ := by
  rw [callF_at (fn := f_is_sign) rfl rfl (Nat.le_of_ble_eq_true rfl)]
  have g1 : G[gi_MOST_WORTHS]? = some (.int 2) := rfl
  match d, hd with
  | .tuple [], _ => simp [forLoop_nil, forLoop_step, lcLoop_nil, lcLoop_step, M.itemsD.eq_3, L2.atI, L2.ixN, f_is_sign, b_is_sign, sgB]
  | .tuple [a], _ => simp [forLoop_nil, forLoop_step, lcLoop_nil, lcLoop_step, M.itemsD.eq_3, L2.atI, L2.ixN, f_is_sign, b_is_sign, sgB]
  | .tuple [a, b], _ => simp [forLoop_nil, forLoop_step, lcLoop_nil, lcLoop_step, M.itemsD.eq_3, L2.atI, L2.ixN, f_is_sign, b_is_sign, sgB, g1, e_fromD]
  | .tuple (a :: b :: c :: r), _ =>
    have : ¬ ((r.length : Int) + 1 + 1 + 1 = 2) := by omega
    simp [forLoop_nil, forLoop_step, lcLoop_nil, lcLoop_step, M.itemsD.eq_3, L2.atI, L2.ixN, f_is_sign, b_is_sign, sgB, this]
  | .none, _ => simp [forLoop_nil, forLoop_step, lcLoop_nil, lcLoop_step, M.itemsD.eq_3, L2.atI, L2.ixN, f_is_sign, b_is_sign, sgB]
  | .bool _, _ => simp [forLoop_nil, forLoop_step, lcLoop_nil, lcLoop_step, M.itemsD.eq_3, L2.atI, L2.ixN, f_is_sign, b_is_sign, sgB]
  | .int _, _ => simp [forLoop_nil, forLoop_step, lcLoop_nil, lcLoop_step, M.itemsD.eq_3, L2.atI, L2.ixN, f_is_sign, b_is_sign, sgB]
  | .str _, _ => simp [forLoop_nil, forLoop_step, lcLoop_nil, lcLoop_step, M.itemsD.eq_3, L2.atI, L2.ixN, f_is_sign, b_is_sign, sgB]
  | .list _, _ => simp [forLoop_nil, forLoop_step, lcLoop_nil, lcLoop_step, M.itemsD.eq_3, L2.atI, L2.ixN, f_is_sign, b_is_sign, sgB]
  | .dict _, h => simp [PyData.canLay0] at h
def wop (sg : List (Nat × Nat)) (l : List Nat) (i : Int) : Int := if h : i.toNat < l.length then (((sgAt sg l[i.toNat]).1 + (sgAt sg l[i.toNat]).2 : Nat) : Int) else 0
theorem e_wopD (n : Nat) (sg : List (Nat × Nat)) (s : Nat) (ps : List Nat) (MM : PyData) (i : Int) (hi : 0 ≤ i) (hp : ∀ p ∈ s :: ps, p < sg.length) (hl : ps.length ≤ 2) : callF F G (n + 1) fi_worths_of_place [.v (.list (sg.map encS)), .v (.tuple [.int (s : Int), .tuple (encP ps), MM]), .v (.int i)] = .ok ⟨.int (wop sg (s :: ps) i), false, []⟩ := by
  rw [callF_at (fn := f_worths_of_place) rfl rfl (Nat.le_of_ble_eq_true rfl)]
  have h2 : ps.length + 1 ≤ 16777216 := by omega
  have h3 : 1 + ps.length ≤ 16777216 := by omega
  unfold wop
  by_cases h : i.toNat < (s :: ps).length
  · rw [dif_pos h]
    have e1 := at_nat (fun (p : Nat) => PyData.int (p : Int)) (s :: ps) i.toNat h
    have e2 := at_sg sg (s :: ps)[i.toNat] (hp _ (List.getElem_mem h))
    rw [List.map_cons, show ((i.toNat : Nat) : Int) = i by omega] at e1
    have h1 : ¬ ((ps.length : Int) + 1 ≤ i) := by simp only [List.length_cons] at h; omega
    simp [forLoop_nil, forLoop_step, lcLoop_nil, lcLoop_step, M.itemsD.eq_3, f_worths_of_place, b_worths_of_place, encP, e1, e2, h1, h2, h3, sum2]
  · rw [dif_neg h]
    have h1 : ((ps.length : Int) + 1 ≤ i) := by simp only [List.length_cons] at h; omega
    simp [forLoop_nil, forLoop_step, lcLoop_nil, lcLoop_step, M.itemsD.eq_3, f_worths_of_place, b_worths_of_place, encP, h1, h2, h3]
theorem wop_mem {sg : List (Nat × Nat)} {l : List Nat} {p : Int × Int} (h1 : 0 ≤ p.1) (h2 : 0 ≤ p.2) : decide (p.2 < wop sg l p.1) = decide (p ∈ all1 sg 0 l) := by
  rw [Bool.eq_iff_iff, decide_eq_true_eq, decide_eq_true_eq, mem_all1]
  unfold wop
  constructor
  · intro h
    by_cases hq : p.1.toNat < l.length
    · rw [dif_pos hq] at h
      exact ⟨p.1.toNat, hq, by omega, h2, h⟩
    · rw [dif_neg hq] at h
      omega
  · rintro ⟨i, hi, e, _, h⟩
    have e : i = p.1.toNat := by omega
    subst e
    rw [dif_pos hi]
    exact h
theorem e_mkD (n : Nat) (sg : List (Nat × Nat)) (s : Nat) (ps : List Nat) (MM : PyData) (hp : ∀ p ∈ s :: ps, p < sg.length) (hl : ps.length ≤ 2) (d : PyData) (hd : d.canLay0 = true) (g : Bool) (hg : g = true ↔ MkP sg s ps d) : callF F G (n + 9) fi_is_making [.v (.list (sg.map encS)), .v (.tuple [.int (s : Int), .tuple (encP ps), MM]), .v d] = .ok ⟨.bool g, false, []⟩ := by
  rw [callF_at (fn := f_is_making) rfl rfl (Nat.le_of_ble_eq_true rfl)]
  have e1 := e_isfD (n + 8) d hd (by omega)
  by_cases hf : dM 4 d ≤ 15
  · obtain ⟨f, rfl, f1, f2, f3⟩ := decF 4 d hf
    have nl := nm_le f
    have e2 := e_names f (n + 8) (by omega) (by omega)
    have e3 : lcLoop (lcTurn (callF F G (n + 8)) G (.tp [(.nm 3), (.nm 4)]) [] (.cmp .Lt (.var 4) (.call fi_worths_of_place [(.var 0), (.var 1), (.var 3)]))) ((names f).map pD) [some (.list (sg.map encS), .sh), some (.tuple [.int (s : Int), .tuple (encP ps), MM], .sh), some (enc f, .sh), none, none] = .ok ((names f).map (fun p => .bool (decide (p ∈ all1 sg 0 (s :: ps)))), [some (.list (sg.map encS), .sh), some (.tuple [.int (s : Int), .tuple (encP ps), MM], .sh), some (enc f, .sh), none, none]) :=
      lc_map (fun p hp' => by
        have q := nm_nn f f1 p hp'
        have e := e_wopD (n + 7) sg s ps MM p.1 q.1 hp hl
        have w := wop_mem (sg := sg) (l := s :: ps) q.1 q.2
        simp [forLoop_nil, forLoop_step, lcLoop_nil, lcLoop_step, M.itemsD.eq_3, L2.atI, L2.ixN, pD, e, w])
    have hg' : g = (names f).all fun p => decide (p ∈ all1 sg 0 (s :: ps)) := by
      rw [Bool.eq_iff_iff, hg, List.all_eq_true]
      simp only [decide_eq_true_eq]
      constructor
      · rintro ⟨f', e, _, _, h3, h⟩
        have nl' := nm_le f'
        have : names f = names f' := enc_nm f f' (by omega) (by omega) e
        rw [this]; exact h
      · intro h
        exact ⟨f, rfl, f1, f2, by omega, h⟩
    have af := all_f (fun p => decide (p ∈ all1 sg 0 (s :: ps))) (names f)
    simp only [hf, decide_true] at e1
    rw [hg']
    simp [forLoop_nil, forLoop_step, f_is_making, b_is_making, e1, e2, ↓e3, af]
  · have hg' : g = false := by
      cases g with
      | false => rfl
      | true => exact absurd ((hg.mp rfl).dM hd) hf
    simp only [hf, decide_false] at e1
    simp [forLoop_nil, forLoop_step, f_is_making, b_is_making, e1, hg']
end K07
namespace K07
open PySem M
theorem lc_nt0 (C : CallT) (s0 s1 s3 s4 s6 s7 : Option Slot) (d : Int) (m : Nat) : lcLoop (lcTurn C G (.nm 5) [] (.tup [(.cst (.int 0)), (.bin .Add (.var 2) (.var 5))])) ((List.range m).map fun (i : Nat) => .int (i : Int)) [s0, s1, some (.int d, .sh), s3, s4, none, s6, s7] = .ok ((List.range m).map fun (k : Nat) => .tuple [.int 0, .int (d + (k : Int))], [s0, s1, some (.int d, .sh), s3, s4, none, s6, s7]) :=
  lc_map (fun k _ => by simp [forLoop_nil, forLoop_step, lcLoop_nil, lcLoop_step, M.itemsD.eq_3, L2.atI, L2.ixN])
theorem lc_nt1 (C : CallT) (s0 s1 s2 s3 s4 s7 : Option Slot) (d : Int) (m : Nat) : lcLoop (lcTurn C G (.nm 5) [] (.tup [(.bin .Add (.var 6) (.cst (.int 1))), (.var 5)])) ((List.range m).map fun (i : Nat) => .int (i : Int)) [s0, s1, s2, s3, s4, none, some (.int d, .sh), s7] = .ok ((List.range m).map fun (k : Nat) => .tuple [.int (d + 1), .int (k : Int)], [s0, s1, s2, s3, s4, none, some (.int d, .sh), s7]) :=
  lc_map (fun k _ => by simp [forLoop_nil, forLoop_step, lcLoop_nil, lcLoop_step, M.itemsD.eq_3, L2.atI, L2.ixN])
theorem e_ntD (n : Nat) (sg : List (Nat × Nat)) (h : SgOk sg) (s : Nat) (ps : List Nat) (MM : PyData) (hs : s < sg.length) (hp : ∀ p ∈ ps, p < sg.length) (hl : ps.length ≤ 2) : callF F G (n + 1) fi_names_told [.v (.list (sg.map encS)), .v (.tuple [.int (s : Int), .tuple (encP ps), MM])] = .ok ⟨.list ((told sg s ps).map pD), true, []⟩ := by
  rw [callF_at (fn := f_names_told) rfl rfl (Nat.le_of_ble_eq_true rfl)]
  have e0 := at_sg sg s hs
  have r0 := rng (sgAt sg s).2 (bd_le h s).2
  have b0 := h.at s
  match ps, hp, hl with
  | [], hp, hl =>
    simp [forLoop_nil, forLoop_step, f_names_told, b_names_told, e0, r0, lc_nt0, encP, told, dn, pD]
    try rfl
  | [a], hp, hl =>
    have e1 := at_sg sg a (hp a (by simp))
    have r1 := rng (sgAt sg a).1 (bd_le h a).1
    have b1 := h.at a
    have z1 : (sgAt sg s).2 + (sgAt sg a).1 ≤ 16777216 := by omega
    simp [forLoop_nil, forLoop_step, f_names_told, b_names_told, e0, r0, lc_nt0, encP, told, dn, rw1, pD, e1, r1, lc_nt1, z1]
    try rfl
  | [a, b], hp, hl =>
    have e1 := at_sg sg a (hp a (by simp))
    have r1 := rng (sgAt sg a).1 (bd_le h a).1
    have b1 := h.at a
    have e2 := at_sg sg b (hp b (by simp))
    have r2 := rng (sgAt sg b).1 (bd_le h b).1
    have b2 := h.at b
    have z1 : (sgAt sg s).2 + (sgAt sg a).1 ≤ 16777216 := by omega
    have z2 : (sgAt sg s).2 + ((sgAt sg a).1 + (sgAt sg b).1) ≤ 16777216 := by omega
    have z3 : (sgAt sg s).2 + (sgAt sg a).1 + (sgAt sg b).1 ≤ 16777216 := by omega
    simp [forLoop_nil, forLoop_step, f_names_told, b_names_told, e0, r0, lc_nt0, encP, told, dn, rw1, pD, e1, r1, e2, r2, lc_nt1, z1, z2, z3]
    try rfl
theorem lc_id {f : PyData → M.Env → RE (Option PyData × M.Env)} {h : PyData → PyData} {env : M.Env} {l : List PyData} (H : ∀ x ∈ l, f x env = .ok (some (h x), env)) : lcLoop f l env = .ok (l.map h, env) := by
  have := lc_map (g := id) (h := h) (l := l) (f := f) (env := env) H
  rwa [List.map_id] at this
theorem lc_idf {f : PyData → M.Env → RE (Option PyData × M.Env)} {h : PyData → Option PyData} {env : M.Env} {l : List PyData} (H : ∀ x ∈ l, f x env = .ok (h x, env)) : lcLoop f l env = .ok (l.filterMap h, env) := by
  have := lc_fm (g := id) (h := h) (l := l) (f := f) (env := env) H
  rwa [List.map_id] at this
def toN : PyData → Nat
  | .int i => i.toNat
  | _ => 0
def toS : PyData → Nat × Nat
  | .tuple [a, b] => (toN a, toN b)
  | _ => (0, 0)
theorem frm_N {m : Nat} {x : PyData} (h : frm ((m : Int) - 1) x = true) : x = .int ((toN x : Nat) : Int) ∧ toN x < m := by
  cases x with
  | int i =>
    simp only [frm, Bool.and_eq_true, decide_eq_true_eq] at h
    simp only [toN, PyData.int.injEq]
    omega
  | _ => simp [frm] at h
theorem frms_N {m : Nat} : ∀ {l : List PyData}, l.all (frm ((m : Int) - 1)) = true → l = encP (l.map toN) ∧ ∀ p ∈ l.map toN, p < m
  | [], _ => ⟨rfl, by simp⟩
  | x :: l, h => by
    rw [List.all_cons, Bool.and_eq_true] at h
    obtain ⟨e1, e2⟩ := frm_N h.1
    obtain ⟨f1, f2⟩ := frms_N h.2
    refine ⟨?_, fun p hp => ?_⟩
    · rw [List.map_cons, encP, List.map_cons, ← e1]
      congr 1
    · rcases List.mem_cons.mp hp with z | z
      · rw [z]; exact e2
      · exact f2 p z
theorem sgs_S : ∀ {l : List PyData}, l.all sgB = true → l = (l.map toS).map encS ∧ ∀ s ∈ l.map toS, s.1 ≤ 2 ∧ s.2 ≤ 2
  | [], _ => ⟨rfl, by simp⟩
  | x :: l, h => by
    rw [List.all_cons, Bool.and_eq_true] at h
    obtain ⟨f1, f2⟩ := sgs_S h.2
    have hx := h.1
    match x, hx with
    | .tuple [a, b], hx =>
      simp only [sgB, Bool.and_eq_true] at hx
      obtain ⟨a1, a2⟩ := frm_N (m := 3) hx.1
      obtain ⟨b1, b2⟩ := frm_N (m := 3) hx.2
      refine ⟨?_, fun s hs => ?_⟩
      · rw [List.map_cons, List.map_cons]
        congr 1
        simp only [toS, encS]
        rw [← a1, ← b1]
      · rcases List.mem_cons.mp hs with z | z
        · rw [z]; simp only [toS]; omega
        · exact f2 s z
def ruB (g : Nat → List Nat → PyData → Bool) (sg : List (Nat × Nat)) : PyData → Bool
  | .tuple [x, .tuple ys, .list mks] => frm ((sg.length : Int) - 1) x && (decide (ys.length ≤ 2) && (ys.all (frm ((sg.length : Int) - 1)) && (decide (mks.length = (told sg (toN x) (ys.map toN)).length) && mks.all (g (toN x) (ys.map toN)))))
  | _ => false
theorem ruB_x {g : Nat → List Nat → PyData → Bool} {sg : List (Nat × Nat)} {x y z : PyData} (h : frm ((sg.length : Int) - 1) x = false) : ruB g sg (.tuple [x, y, z]) = false := by
  unfold ruB
  split
  · rename_i e
    simp only [PyData.tuple.injEq, List.cons.injEq, and_true] at e
    obtain ⟨rfl, _⟩ := e
    rw [h]; rfl
  · rfl
theorem lay3 {x y z : PyData} (h : (PyData.tuple [x, y, z]).canLay0 = true) : x.canLay0 = true ∧ y.canLay0 = true ∧ z.canLay0 = true := by
  simpa only [PyData.canLay0, PyData.canLayAll0, Bool.and_eq_true, Bool.and_true, and_true] using h
theorem lay2 {x y : PyData} (h : (PyData.tuple [x, y]).canLay0 = true) : x.canLay0 = true ∧ y.canLay0 = true := by
  simpa only [PyData.canLay0, PyData.canLayAll0, Bool.and_eq_true, Bool.and_true, and_true] using h
theorem layL {l : List PyData} (h : (PyData.list l).canLay0 = true) : ∀ x ∈ l, x.canLay0 = true := lay_mem (by simpa only [PyData.canLay0] using h)
theorem layT {l : List PyData} (h : (PyData.tuple l).canLay0 = true) : ∀ x ∈ l, x.canLay0 = true := lay_mem (by simpa only [PyData.canLay0] using h)
theorem e_ruD (n : Nat) (sg : List (Nat × Nat)) (h0 : SgOk sg) (g : Nat → List Nat → PyData → Bool) (hg : ∀ s ps d, g s ps d = true ↔ MkP sg s ps d) (d : PyData) (hd : d.canLay0 = true) : callF F G (n + 10) fi_is_rule [.v (.list (sg.map encS)), .v d] = .ok ⟨.bool (ruB g sg d), false, []⟩ := by
  rw [callF_at (fn := f_is_rule) rfl rfl (Nat.le_of_ble_eq_true rfl)]
  have g1 : G[gi_MOST_PARTS_books]? = some (.int 2) := rfl
  match d, hd with
  | .tuple [], _ => simp [forLoop_nil, forLoop_step, lcLoop_nil, lcLoop_step, M.itemsD.eq_3, L2.atI, L2.ixN, f_is_rule, b_is_rule, ruB]
  | .tuple [a], _ => simp [forLoop_nil, forLoop_step, lcLoop_nil, lcLoop_step, M.itemsD.eq_3, L2.atI, L2.ixN, f_is_rule, b_is_rule, ruB]
  | .tuple [a, b], _ => simp [forLoop_nil, forLoop_step, lcLoop_nil, lcLoop_step, M.itemsD.eq_3, L2.atI, L2.ixN, f_is_rule, b_is_rule, ruB]
  | .tuple (a :: b :: c :: e :: r), _ =>
    have : ¬ ((r.length : Int) + 1 + 1 + 1 + 1 = 3) := by omega
    simp [forLoop_nil, forLoop_step, lcLoop_nil, lcLoop_step, M.itemsD.eq_3, L2.atI, L2.ixN, f_is_rule, b_is_rule, ruB, this]
  | .none, _ => simp [forLoop_nil, forLoop_step, lcLoop_nil, lcLoop_step, M.itemsD.eq_3, L2.atI, L2.ixN, f_is_rule, b_is_rule, ruB]
  | .bool _, _ => simp [forLoop_nil, forLoop_step, lcLoop_nil, lcLoop_step, M.itemsD.eq_3, L2.atI, L2.ixN, f_is_rule, b_is_rule, ruB]
  | .int _, _ => simp [forLoop_nil, forLoop_step, lcLoop_nil, lcLoop_step, M.itemsD.eq_3, L2.atI, L2.ixN, f_is_rule, b_is_rule, ruB]
  | .str _, _ => simp [forLoop_nil, forLoop_step, lcLoop_nil, lcLoop_step, M.itemsD.eq_3, L2.atI, L2.ixN, f_is_rule, b_is_rule, ruB]
  | .list _, _ => simp [forLoop_nil, forLoop_step, lcLoop_nil, lcLoop_step, M.itemsD.eq_3, L2.atI, L2.ixN, f_is_rule, b_is_rule, ruB]
  | .dict _, h => simp [PyData.canLay0] at h
  | .tuple [x, y, z], hd =>
    obtain ⟨hx, hy, hz⟩ := lay3 hd
    have ef := e_fromD (n + 7) x ((sg.length : Int) - 1)
    cases qx : frm ((sg.length : Int) - 1) x with
    | false =>
      rw [ruB_x qx]
      rw [qx] at ef
      simp [forLoop_nil, forLoop_step, lcLoop_nil, lcLoop_step, M.itemsD.eq_3, f_is_rule, b_is_rule, ef]
    | true =>
      rw [qx] at ef
      match y, hy with
      | .none, _ => simp [forLoop_nil, forLoop_step, lcLoop_nil, lcLoop_step, M.itemsD.eq_3, f_is_rule, b_is_rule, ef, ruB]
      | .bool _, _ => simp [forLoop_nil, forLoop_step, lcLoop_nil, lcLoop_step, M.itemsD.eq_3, f_is_rule, b_is_rule, ef, ruB]
      | .int _, _ => simp [forLoop_nil, forLoop_step, lcLoop_nil, lcLoop_step, M.itemsD.eq_3, f_is_rule, b_is_rule, ef, ruB]
      | .str _, _ => simp [forLoop_nil, forLoop_step, lcLoop_nil, lcLoop_step, M.itemsD.eq_3, f_is_rule, b_is_rule, ef, ruB]
      | .list _, _ => simp [forLoop_nil, forLoop_step, lcLoop_nil, lcLoop_step, M.itemsD.eq_3, f_is_rule, b_is_rule, ef, ruB]
      | .dict _, h => simp [PyData.canLay0] at h
      | .tuple ys, hy =>
        by_cases hl : ys.length ≤ 2
        · have hl' : ¬ (2 : Int) < ys.length := by omega
          have hl'' : ¬ 2 < ys.length := by omega
          match z, hz with
          | .none, _ => simp [forLoop_nil, forLoop_step, lcLoop_nil, lcLoop_step, M.itemsD.eq_3, f_is_rule, b_is_rule, ef, ruB, g1, hl', hl'']
          | .bool _, _ => simp [forLoop_nil, forLoop_step, lcLoop_nil, lcLoop_step, M.itemsD.eq_3, f_is_rule, b_is_rule, ef, ruB, g1, hl', hl'']
          | .int _, _ => simp [forLoop_nil, forLoop_step, lcLoop_nil, lcLoop_step, M.itemsD.eq_3, f_is_rule, b_is_rule, ef, ruB, g1, hl', hl'']
          | .str _, _ => simp [forLoop_nil, forLoop_step, lcLoop_nil, lcLoop_step, M.itemsD.eq_3, f_is_rule, b_is_rule, ef, ruB, g1, hl', hl'']
          | .tuple _, _ => simp [forLoop_nil, forLoop_step, lcLoop_nil, lcLoop_step, M.itemsD.eq_3, f_is_rule, b_is_rule, ef, ruB, g1, hl', hl'']
          | .dict _, h => simp [PyData.canLay0] at h
          | .list mks, hz =>
            have e3 : lcLoop (lcTurn (callF F G (n + 9)) G (.nm 2) [] (.call fi_is_from [(.var 2), (.cst (.int 0)), (.bin .Sub (.blt .len [(.var 0)]) (.cst (.int 1)))])) ys [some (.list (sg.map encS), .sh), some (.tuple [x, .tuple ys, .list mks], .sh), none] = .ok (ys.map (fun p => .bool (frm ((sg.length : Int) - 1) p)), [some (.list (sg.map encS), .sh), some (.tuple [x, .tuple ys, .list mks], .sh), none]) :=
              lc_id fun p hp => by
                have e := e_fromD (n + 7) p ((sg.length : Int) - 1)
                simp [forLoop_nil, forLoop_step, lcLoop_nil, lcLoop_step, M.itemsD.eq_3, L2.atI, L2.ixN, e]
            have af := all_f (frm ((sg.length : Int) - 1)) ys
            cases qy : ys.all (frm ((sg.length : Int) - 1)) with
            | false =>
              rw [qy] at af
              simp [forLoop_nil, forLoop_step, f_is_rule, b_is_rule, ef, ruB, g1, hl', hl'', ↓e3, af, qy, qx]
            | true =>
              rw [qy] at af
              obtain ⟨ex, hx'⟩ := frm_N qx
              obtain ⟨ey, hy'⟩ := frms_N qy
              have hys : (ys.map toN).length ≤ 2 := by rw [List.length_map]; exact hl
              have e1 := e_ntD (n + 8) sg h0 (toN x) (ys.map toN) (.list mks) hx' hy' hys
              rw [← ex, ← ey] at e1
              by_cases hm : mks.length = (told sg (toN x) (ys.map toN)).length
              · have e2 : lcLoop (lcTurn (callF F G (n + 9)) G (.nm 2) [] (.call fi_is_making [(.var 0), (.var 1), (.var 2)])) mks [some (.list (sg.map encS), .sh), some (.tuple [x, .tuple ys, .list mks], .sh), none] = .ok (mks.map (fun p => .bool (g (toN x) (ys.map toN) p)), [some (.list (sg.map encS), .sh), some (.tuple [x, .tuple ys, .list mks], .sh), none]) :=
                  lc_id fun p hp => by
                    have e := e_mkD n sg (toN x) (ys.map toN) (.list mks) (fun q hq => by
                      rcases List.mem_cons.mp hq with z | z
                      · rw [z]; exact hx'
                      · exact hy' q z) hys p (layL hz p hp) _ (hg (toN x) (ys.map toN) p)
                    rw [← ex, ← ey] at e
                    simp [forLoop_nil, forLoop_step, lcLoop_nil, lcLoop_step, M.itemsD.eq_3, L2.atI, L2.ixN, e]
                have am := all_f (g (toN x) (ys.map toN)) mks
                simp [forLoop_nil, forLoop_step, f_is_rule, b_is_rule, ef, ruB, g1, hl, hl', hl'', ↓e3, af, qy, qx, e1, hm, ↓e2, am]
              · have hm' : ¬ ((mks.length : Int) = ((told sg (toN x) (ys.map toN)).length : Int)) := by omega
                simp [forLoop_nil, forLoop_step, f_is_rule, b_is_rule, ef, ruB, g1, hl, hl', hl'', ↓e3, af, qy, qx, e1, hm, hm']
        · have hl' : (2 : Int) < ys.length := by omega
          have hl'' : 2 < ys.length := by omega
          have : ruB g sg (.tuple [x, .tuple ys, z]) = false := by
            cases z <;> simp [ruB, hl]
          simp [forLoop_nil, forLoop_step, lcLoop_nil, lcLoop_step, M.itemsD.eq_3, f_is_rule, b_is_rule, ef, g1, hl', hl'', this]
def bkB (g : List (Nat × Nat) → Nat → List Nat → PyData → Bool) : PyData → Bool
  | .tuple [.list ss, .list rs] => decide (1 ≤ ss.length) && (decide (ss.length ≤ 4) && (decide (rs.length ≤ 8) && (ss.all sgB && rs.all (ruB (g (ss.map toS)) (ss.map toS)))))
  | _ => false
def GOk (g : List (Nat × Nat) → Nat → List Nat → PyData → Bool) : Prop := ∀ sg s ps d, g sg s ps d = true ↔ MkP sg s ps d
theorem g_ex : ∃ g, GOk g := by
  classical
  exact ⟨fun sg s ps d => decide (MkP sg s ps d), fun sg s ps d => by simp⟩
theorem e_bkD (n : Nat) (g : List (Nat × Nat) → Nat → List Nat → PyData → Bool) (hg : GOk g) (d : PyData) (hd : d.canLay0 = true) : callF F G (n + 11) fi_is_book [.v d] = .ok ⟨.bool (bkB g d), false, []⟩ := by
  rw [callF_at (fn := f_is_book) rfl rfl (Nat.le_of_ble_eq_true rfl)]
  have g1 : G[gi_MOST_SIGNS]? = some (.int 4) := rfl
  have g2 : G[gi_MOST_RULES]? = some (.int 8) := rfl
  match d, hd with
  | .tuple [], _ => simp [forLoop_nil, forLoop_step, lcLoop_nil, lcLoop_step, M.itemsD.eq_3, L2.atI, L2.ixN, f_is_book, b_is_book, bkB]
  | .tuple [a], _ => simp [forLoop_nil, forLoop_step, lcLoop_nil, lcLoop_step, M.itemsD.eq_3, L2.atI, L2.ixN, f_is_book, b_is_book, bkB]
  | .tuple (a :: b :: c :: r), _ =>
    have : ¬ ((r.length : Int) + 1 + 1 + 1 = 2) := by omega
    simp [forLoop_nil, forLoop_step, lcLoop_nil, lcLoop_step, M.itemsD.eq_3, L2.atI, L2.ixN, f_is_book, b_is_book, bkB, this]
  | .none, _ => simp [forLoop_nil, forLoop_step, lcLoop_nil, lcLoop_step, M.itemsD.eq_3, L2.atI, L2.ixN, f_is_book, b_is_book, bkB]
  | .bool _, _ => simp [forLoop_nil, forLoop_step, lcLoop_nil, lcLoop_step, M.itemsD.eq_3, L2.atI, L2.ixN, f_is_book, b_is_book, bkB]
  | .int _, _ => simp [forLoop_nil, forLoop_step, lcLoop_nil, lcLoop_step, M.itemsD.eq_3, L2.atI, L2.ixN, f_is_book, b_is_book, bkB]
  | .str _, _ => simp [forLoop_nil, forLoop_step, lcLoop_nil, lcLoop_step, M.itemsD.eq_3, L2.atI, L2.ixN, f_is_book, b_is_book, bkB]
  | .list _, _ => simp [forLoop_nil, forLoop_step, lcLoop_nil, lcLoop_step, M.itemsD.eq_3, L2.atI, L2.ixN, f_is_book, b_is_book, bkB]
  | .dict _, h => simp [PyData.canLay0] at h
  | .tuple [x, y], hd =>
    obtain ⟨hx, hy⟩ := lay2 hd
    cases qx : isD .list x with
    | false =>
      have : bkB g (.tuple [x, y]) = false := by cases x <;> simp [bkB] <;> simp [isD] at qx
      simp [forLoop_nil, forLoop_step, lcLoop_nil, lcLoop_step, M.itemsD.eq_3, L2.atI, L2.ixN, f_is_book, b_is_book, this, qx]
    | true =>
      cases qy : isD .list y with
      | false =>
        have : bkB g (.tuple [x, y]) = false := by cases x <;> cases y <;> simp [bkB] <;> simp [isD] at qx qy
        simp [forLoop_nil, forLoop_step, lcLoop_nil, lcLoop_step, M.itemsD.eq_3, L2.atI, L2.ixN, f_is_book, b_is_book, this, qx, qy]
      | true =>
        match x, y, hx, hy, qx, qy with
        | .list ss, .list rs, hx, hy, _, _ =>
          have e3 : ∀ s0 s2 s3 s4 s5 : Option Slot, lcLoop (lcTurn (callF F G (n + 10)) G (.nm 1) [] (.isi (.var 1) .list)) [PyData.list ss, .list rs] [s0, none, s2, s3, s4, s5] = .ok ([.bool true, .bool true], [s0, none, s2, s3, s4, s5]) := fun s0 s2 s3 s4 s5 => by simp [forLoop_nil, forLoop_step, lcLoop_nil, lcLoop_step, M.itemsD.eq_3, L2.atI, L2.ixN]
          by_cases h1 : 1 ≤ ss.length
          · have h1' : ¬ ((ss.length : Int) < 1) := by omega
            have h1'' : ¬ (ss.length < 1) := by omega
            have h1n : ¬ (ss = []) := by intro z; rw [z] at h1; simp at h1
            by_cases h2 : ss.length ≤ 4
            · have h2' : ¬ ((4 : Int) < ss.length) := by omega
              have h2'' : ¬ (4 < ss.length) := by omega
              by_cases h3 : rs.length ≤ 8
              · have h3' : ¬ ((8 : Int) < rs.length) := by omega
                have h3'' : ¬ (8 < rs.length) := by omega
                have e1 : ∀ s0 s1 s2 s3 s5 : Option Slot, lcLoop (lcTurn (callF F G (n + 10)) G (.nm 4) [] (.call fi_is_sign [(.var 4)])) ss [s0, s1, s2, s3, none, s5] = .ok (ss.map (fun d => .bool (sgB d)), [s0, s1, s2, s3, none, s5]) := fun s0 s1 s2 s3 s5 =>
                  lc_id fun p hp => by
                    have e := e_isSgD (n + 7) p (layL hx p hp)
                    simp [forLoop_nil, forLoop_step, lcLoop_nil, lcLoop_step, M.itemsD.eq_3, L2.atI, L2.ixN, e]
                have as := all_f sgB ss
                cases qs : ss.all sgB with
                | false =>
                  rw [qs] at as
                  simp [forLoop_nil, forLoop_step, f_is_book, b_is_book, ↓e3, e1, as, g1, g2, h1, h1', h1'', h1n, h2, h2', h2'', h3, h3', h3'', bkB, qs]
                | true =>
                  rw [qs] at as
                  obtain ⟨es, hs⟩ := sgs_S qs
                  have h0 : SgOk (ss.map toS) := ⟨by rw [List.length_map]; exact h1, by rw [List.length_map]; exact h2, hs⟩
                  have e2 : ∀ s0 s1 s3 s4 : Option Slot, lcLoop (lcTurn (callF F G (n + 10)) G (.nm 5) [] (.call fi_is_rule [(.var 2), (.var 5)])) rs [s0, s1, some (.list ss, .sh), s3, s4, none] = .ok (rs.map (fun d => .bool (ruB (g (ss.map toS)) (ss.map toS) d)), [s0, s1, some (.list ss, .sh), s3, s4, none]) := fun s0 s1 s3 s4 =>
                    lc_id fun p hp => by
                      have e := e_ruD n (ss.map toS) h0 (g (ss.map toS)) (hg (ss.map toS)) p (layL hy p hp)
                      rw [← es] at e
                      simp [forLoop_nil, forLoop_step, lcLoop_nil, lcLoop_step, M.itemsD.eq_3, L2.atI, L2.ixN, e]
                  have ar := all_f (ruB (g (ss.map toS)) (ss.map toS)) rs
                  simp [forLoop_nil, forLoop_step, f_is_book, b_is_book, ↓e3, e1, as, ↓e2, ar, g1, g2, h1, h1', h1'', h1n, h2, h2', h2'', h3, h3', h3'', bkB, qs]
              · have h3' : ((8 : Int) < rs.length) := by omega
                have h3'' : 8 < rs.length := by omega
                simp [forLoop_nil, forLoop_step, f_is_book, b_is_book, ↓e3, g1, g2, h1', h1'', h1n, h2', h2'', h3, h3', h3'', bkB]
            · have h2' : ((4 : Int) < ss.length) := by omega
              have h2'' : 4 < ss.length := by omega
              simp [forLoop_nil, forLoop_step, f_is_book, b_is_book, ↓e3, g1, g2, h1', h1'', h1n, h2, h2', h2'', bkB]
          · have h1' : ((ss.length : Int) < 1) := by omega
            have h1'' : ss.length < 1 := by omega
            have h1n : ss = [] := List.length_eq_zero_iff.mp (by omega)
            subst h1n
            simp [forLoop_nil, forLoop_step, lcLoop_nil, lcLoop_step, M.itemsD.eq_3, L2.atI, L2.ixN, f_is_book, b_is_book, g1, g2, bkB]
end K07
namespace K07
open PySem M
theorem eqv_id (i : Int) (d : PyData) (hb : isD .bool d = false) : PyData.eqv (.int i) d = match d with | .int j => i == j | _ => false := by
  cases d with
  | int j => simp only [eqv_int]
  | bool b => simp [isD] at hb
  | _ => simp only [PyData.eqv]
def nf2 (d : PyData) : Option PyData := if frm 2 d = true then none else some d
theorem sg_turn (C : CallT) (s0 : Option Slot) (d : PyData) (hd : d.canLay0 = true) (hp : d.depth ≤ 64) : lcTurn C G (.nm 1) [(.or (.isi (.var 1) .bool) (.cmp .NotIn (.var 1) (.tup [(.cst (.int 0)), (.cst (.int 1)), (.cst (.int 2))])))] (.var 1) d [s0, none] = .ok (nf2 d, [s0, none]) := by
  cases d with
  | int i =>
    by_cases h : 0 ≤ i ∧ i ≤ 2
    · have : i = 0 ∨ i = 1 ∨ i = 2 := by omega
      rcases this with rfl | rfl | rfl <;> simp [forLoop_nil, forLoop_step, lcLoop_nil, lcLoop_step, M.itemsD.eq_3, L2.atI, L2.ixN, nf2, frm]
    · have h0 : ¬ (0 : Int) = i := by omega
      have h1 : ¬ (1 : Int) = i := by omega
      have h2 : ¬ (2 : Int) = i := by omega
      have h3 : ¬ (i = 0) := by omega
      have h4 : ¬ (i = 1) := by omega
      have h5 : ¬ (i = 2) := by omega
      have hf : (decide (0 ≤ i) && decide (i ≤ 2)) = false := by simpa using h
      simp [forLoop_nil, forLoop_step, lcLoop_nil, lcLoop_step, M.itemsD.eq_3, L2.atI, L2.ixN, nf2, frm, h0, h1, h2, h3, h4, h5, hf]
      try omega
  | bool b => simp [forLoop_nil, forLoop_step, lcLoop_nil, lcLoop_step, M.itemsD.eq_3, L2.atI, L2.ixN, nf2, frm]
  | dict _ => simp [PyData.canLay0] at hd
  | none => simp [forLoop_nil, forLoop_step, lcLoop_nil, lcLoop_step, M.itemsD.eq_3, L2.atI, L2.ixN, nf2, frm, PyData.eqv, PyData.depth]
  | str x => simp [forLoop_nil, forLoop_step, lcLoop_nil, lcLoop_step, M.itemsD.eq_3, L2.atI, L2.ixN, nf2, frm, PyData.eqv, PyData.depth]
  | list x =>
    have e := fun i => eqv_id i (.list x) rfl
    have hp : PyData.depthAll x ≤ 63 := by simp only [dp_list] at hp; omega
    simp [forLoop_nil, forLoop_step, lcLoop_nil, lcLoop_step, M.itemsD.eq_3, L2.atI, L2.ixN, nf2, frm, e, hp]
  | tuple x =>
    have e := fun i => eqv_id i (.tuple x) rfl
    have hp : PyData.depthAll x ≤ 63 := by simp only [dp_tuple] at hp; omega
    simp [forLoop_nil, forLoop_step, lcLoop_nil, lcLoop_step, M.itemsD.eq_3, L2.atI, L2.ixN, nf2, frm, e, hp]
theorem e_lsgD (n : Nat) (d : PyData) (hd : d.canLay0 = true) (hp : d.depth ≤ 64) : callF F G (n + 1) fi_law_sign [.v d] = .ok ⟨.bool (sgB d), false, []⟩ := by
  rw [callF_at (fn := f_law_sign) rfl rfl (Nat.le_of_ble_eq_true rfl)]
  match d, hd, hp with
  | .tuple [], _, _ => simp [forLoop_nil, forLoop_step, lcLoop_nil, lcLoop_step, M.itemsD.eq_3, L2.atI, L2.ixN, f_law_sign, b_law_sign, sgB]
  | .tuple [a], _, _ => simp [forLoop_nil, forLoop_step, lcLoop_nil, lcLoop_step, M.itemsD.eq_3, L2.atI, L2.ixN, f_law_sign, b_law_sign, sgB]
  | .tuple [a, b], hd, hp =>
    obtain ⟨ha, hb⟩ := lay2 hd
    simp only [dp_tuple, dpa_cons, dpa_nil] at hp
    have e : ∀ s0, lcLoop (lcTurn (callF F G n) G (.nm 1) [(.or (.isi (.var 1) .bool) (.cmp .NotIn (.var 1) (.tup [(.cst (.int 0)), (.cst (.int 1)), (.cst (.int 2))])))] (.var 1)) [a, b] [s0, none] = .ok ([a, b].filterMap nf2, [s0, none]) := fun s0 => lc_idf fun x hx => sg_turn _ s0 x (layT hd x hx) (by
      rcases List.mem_cons.mp hx with z | z
      · rw [z]; omega
      · rw [List.mem_singleton.mp z]; omega)
    cases qa : frm 2 a <;> cases qb : frm 2 b <;> simp [forLoop_nil, forLoop_step, f_law_sign, b_law_sign, sgB, ↓e, nf2, qa, qb]
  | .tuple (a :: b :: c :: r), _, _ =>
    have : ¬ ((r.length : Int) + 1 + 1 + 1 = 2) := by omega
    simp [forLoop_nil, forLoop_step, lcLoop_nil, lcLoop_step, M.itemsD.eq_3, L2.atI, L2.ixN, f_law_sign, b_law_sign, sgB, this]
  | .none, _, _ => simp [forLoop_nil, forLoop_step, lcLoop_nil, lcLoop_step, M.itemsD.eq_3, L2.atI, L2.ixN, f_law_sign, b_law_sign, sgB]
  | .bool _, _, _ => simp [forLoop_nil, forLoop_step, lcLoop_nil, lcLoop_step, M.itemsD.eq_3, L2.atI, L2.ixN, f_law_sign, b_law_sign, sgB]
  | .int _, _, _ => simp [forLoop_nil, forLoop_step, lcLoop_nil, lcLoop_step, M.itemsD.eq_3, L2.atI, L2.ixN, f_law_sign, b_law_sign, sgB]
  | .str _, _, _ => simp [forLoop_nil, forLoop_step, lcLoop_nil, lcLoop_step, M.itemsD.eq_3, L2.atI, L2.ixN, f_law_sign, b_law_sign, sgB]
  | .list _, _, _ => simp [forLoop_nil, forLoop_step, lcLoop_nil, lcLoop_step, M.itemsD.eq_3, L2.atI, L2.ixN, f_law_sign, b_law_sign, sgB]
  | .dict _, h, _ => simp [PyData.canLay0] at h
theorem e_lfrD (n : Nat) (d : PyData) (m : Int) : callF F G (n + 1) fi_law_from [.v d, .v (.int m)] = .ok ⟨.bool (frm (m - 1) d), false, []⟩ := by
  rw [callF_at (fn := f_law_from) rfl rfl (Nat.le_of_ble_eq_true rfl)]
  cases d with
  | int i =>
    have e : decide (i ≤ m - 1) = decide (i < m) := by rw [Bool.eq_iff_iff]; simp only [decide_eq_true_eq]; omega
    by_cases h : 0 ≤ i <;> simp [forLoop_nil, forLoop_step, lcLoop_nil, lcLoop_step, M.itemsD.eq_3, L2.atI, L2.ixN, f_law_from, b_law_from, frm, h, e]
  | _ => simp [forLoop_nil, forLoop_step, lcLoop_nil, lcLoop_step, M.itemsD.eq_3, L2.atI, L2.ixN, f_law_from, b_law_from, frm]
def nfD (p : PyData → Bool) (d : PyData) : Option PyData := if p d = true then none else some d
theorem nf_len (p : PyData → Bool) : ∀ l : List PyData, (0 < (l.filterMap (nfD p)).length) ↔ l.all p = false
  | [] => by simp
  | x :: l => by
    have := nf_len p l
    rw [List.filterMap_cons, List.all_cons]
    unfold nfD at *
    cases q : p x <;> simp_all
theorem nf_gt (p : PyData → Bool) (l : List PyData) : decide ((0 : Int) < ((l.filterMap (nfD p)).length : Int)) = !l.all p := by
  have := nf_len p l
  rw [Bool.eq_iff_iff, decide_eq_true_eq, Bool.not_eq_true', ← this]
  omega
theorem nf_eq (p : PyData → Bool) (l : List PyData) : (((l.filterMap (nfD p)).length : Int) == 0) = l.all p := by
  have := nf_len p l
  rw [Bool.eq_iff_iff, beq_iff_eq]
  cases q : l.all p
  · have := this.mpr q
    simp only [Bool.false_eq_true, iff_false]; omega
  · simp only [q, Bool.true_eq_false, iff_false] at this
    simp only [iff_true]; omega
theorem for_chk {f : PyData → M.Env → RE SR} (I : M.Env → Prop) (p : PyData → Bool) (d : PyData) (fr : Bool) : ∀ (l : List PyData) (env : M.Env), I env → (∀ x env, x ∈ l → I env → if p x = true then ∃ env', f x env = .ok (.nx env') ∧ I env' else ∃ env', f x env = .ok (.rt d fr env') ∧ I env') → if l.all p = true then ∃ env', forLoop f l env = .ok (.nx env') ∧ I env' else ∃ env', forLoop f l env = .ok (.rt d fr env') ∧ I env'
  | [], env, h, _ => by rw [if_pos (by simp)]; exact ⟨env, rfl, h⟩
  | x :: l, env, h, st => by
    have h1 := st x env List.mem_cons_self h
    rw [List.all_cons]
    cases q : p x with
    | false =>
      rw [q, if_neg (by simp)] at h1
      obtain ⟨env', e, hi⟩ := h1
      rw [if_neg (by simp)]
      exact ⟨env', by rw [forLoop_step, e]; rfl, hi⟩
    | true =>
      rw [q, if_pos rfl] at h1
      obtain ⟨env', e, hi⟩ := h1
      have h2 := for_chk I p d fr l env' hi fun x env hx hi => st x env (List.mem_cons_of_mem _ hx) hi
      rw [forLoop_step, e, Bool.true_and]
      exact h2
theorem lc_chk (C : CallT) (s0 s1 s2 s3 s4 s5 s7 : Option Slot) (tl l : List (Int × Int)) : lcLoop (lcTurn C G (.nm 8) [(.cmp .NotIn (.var 8) (.var 6))] (.var 8)) (l.map pD) [s0, s1, s2, s3, s4, s5, some (.list (tl.map pD), .ow), s7, none] = .ok (l.filterMap (opP tl), [s0, s1, s2, s3, s4, s5, some (.list (tl.map pD), .ow), s7, none]) :=
  lc_fm (fun p _ => by
    have h1 := pD_any tl p
    have h2 := pD_dp p
    unfold opP
    by_cases h : p ∈ tl
    · simp only [h, decide_true] at h1
      have h1' : (tl.any fun z => PyData.eqv (pD z) (pD p)) = true := by rw [← h1, List.any_map]; rfl
      simp [forLoop_nil, forLoop_step, lcLoop_nil, lcLoop_step, M.itemsD.eq_3, L2.atI, L2.ixN, h1, h2, h, h1', show ndB (pD p) = true from rfl]
    · simp only [h, decide_false] at h1
      have h1' : (tl.any fun z => PyData.eqv (pD z) (pD p)) = false := by rw [← h1, List.any_map]; rfl
      simp [forLoop_nil, forLoop_step, lcLoop_nil, lcLoop_step, M.itemsD.eq_3, L2.atI, L2.ixN, h1, h2, h, h1', show ndB (pD p) = true from rfl])
theorem op_len (tl : List (Int × Int)) : ∀ l : List (Int × Int), (0 < (l.filterMap (opP tl)).length) ↔ ¬ ∀ p ∈ l, p ∈ tl
  | [] => by simp
  | x :: l => by
    have := op_len tl l
    rw [List.filterMap_cons]
    unfold opP at *
    by_cases q : x ∈ tl
    · rw [if_pos q]
      simp only [List.mem_cons, forall_eq_or_imp, q, true_and]
      exact this
    · rw [if_neg q]
      simp [q]
def bMk : List MS := [.ite (.or (.cmp .Gt (.call fi_law_parts [(.var 7), (.cst (.int 1))]) (.cst (.int 15))) (.cmp .Gt (.blt .len [(.lc (.nm 8) .ex [(.call fi_law_found [(.var 7)])] [(.cmp .NotIn (.var 8) (.var 6))] (.var 8))]) (.cst (.int 0)))) [.ret (.cst (.bool false))] []]
def IM (s0 s1 s2 s3 s4 s5 s6 : Option Slot) (env : M.Env) : Prop := ∃ o7, env = [s0, s1, s2, s3, s4, s5, s6, o7, none] ∧ freeS (some o7) = true
theorem mk_turn (n : Nat) (sg : List (Nat × Nat)) (s : Nat) (ps : List Nat) (s0 s1 s2 s3 s4 s5 : Option Slot) (d : PyData) (hd : d.canLay0 = true) (g : Bool) (hg : g = true ↔ MkP sg s ps d) (env : M.Env) (h : IM s0 s1 s2 s3 s4 s5 (some (.list ((all1 sg 0 (s :: ps)).map pD), .ow)) env) : if g = true then ∃ env', M.forTurn (callF F G (n + 6)) G (.nm 7) bMk d env = .ok (.nx env') ∧ IM s0 s1 s2 s3 s4 s5 (some (.list ((all1 sg 0 (s :: ps)).map pD), .ow)) env' else ∃ env', M.forTurn (callF F G (n + 6)) G (.nm 7) bMk d env = .ok (.rt (.bool false) false env') ∧ IM s0 s1 s2 s3 s4 s5 (some (.list ((all1 sg 0 (s :: ps)).map pD), .ow)) env' := by
  obtain ⟨o7, rfl, h7⟩ := h
  have e1 := e_partsD 4 (n + 6) d hd (by omega)
  have e1 : callF F G (n + 6) fi_law_parts [.v d, .v (.int 1)] = .ok ⟨.int (lM 4 d), false, []⟩ := e1
  have dl := dl_eq d
  have nd := nd_lay hd
  by_cases hf : dM 4 d ≤ 15
  · have hl : lM 4 d ≤ 15 := by simpa [hf] using dl
    have hl' : ¬ (15 : Int) < lM 4 d := by omega
    obtain ⟨f, rfl, f1, f2, f3⟩ := decF 4 d hf
    have nl := nm_le f
    have e2 := e_found f (n + 6) (by omega) (by omega)
    have ol := op_len (all1 sg 0 (s :: ps)) (names f)
    have e3 := lc_chk (callF F G (n + 6)) s0 s1 s2 s3 s4 s5 (some (enc f, .sh)) (all1 sg 0 (s :: ps)) (names f)
    have hg' : g = true ↔ ∀ p ∈ names f, p ∈ all1 sg 0 (s :: ps) := by
      rw [hg]
      constructor
      · rintro ⟨f', e, _, _, h3, h⟩
        have nl' := nm_le f'
        have : names f = names f' := enc_nm f f' (by omega) (by omega) e
        rw [this]; exact h
      · intro h
        exact ⟨f, rfl, f1, f2, by omega, h⟩
    by_cases hq : g = true
    · rw [if_pos hq]
      have hz : ¬ (0 < ((names f).filterMap (opP (all1 sg 0 (s :: ps)))).length) := by rw [ol]; exact fun z => z (hg'.mp hq)
      have hz0 : ((names f).filterMap (opP (all1 sg 0 (s :: ps)))).length = 0 := by omega
      refine ⟨[s0, s1, s2, s3, s4, s5, some (.list ((all1 sg 0 (s :: ps)).map pD), .ow), some (enc f, .sh), none], ?_, _, rfl, rfl⟩
      generalize (all1 sg 0 (s :: ps)).map pD = A at *
      generalize (names f).filterMap (opP (all1 sg 0 (s :: ps))) = B at *
      generalize (names f).map pD = Cn at *
      simp [bMk, e1, hl', e2, ↓e3, hz0, h7, nd]
    · rw [if_neg hq]
      have hz : 0 < ((names f).filterMap (opP (all1 sg 0 (s :: ps)))).length := by rw [ol]; exact fun z => hq (hg'.mpr z)
      have hz' : (0 : Int) < (((names f).filterMap (opP (all1 sg 0 (s :: ps)))).length : Int) := by omega
      refine ⟨[s0, s1, s2, s3, s4, s5, some (.list ((all1 sg 0 (s :: ps)).map pD), .ow), some (enc f, .sh), none], ?_, _, rfl, rfl⟩
      generalize (all1 sg 0 (s :: ps)).map pD = A at *
      generalize (names f).filterMap (opP (all1 sg 0 (s :: ps))) = B at *
      generalize (names f).map pD = Cn at *
      simp [bMk, e1, hl', e2, ↓e3, hz, hz', h7, nd]
  · have hl : ¬ lM 4 d ≤ 15 := by simpa [hf] using dl
    have hl' : (15 : Int) < lM 4 d := by omega
    have hq : ¬ (g = true) := fun z => hf ((hg.mp z).dM hd)
    rw [if_neg hq]
    refine ⟨[s0, s1, s2, s3, s4, s5, some (.list ((all1 sg 0 (s :: ps)).map pD), .ow), some (d, .sh), none], ?_, _, rfl, rfl⟩
    generalize (all1 sg 0 (s :: ps)).map pD = A at *
    simp [bMk, e1, hl', h7, nd]
end K07
namespace K07
open PySem M
theorem lru_body : b_law_is_rule = [.ite (.or (.not (.isi (.var 1) .tuple)) (.or (.cmp .NotEq (.blt .len [(.var 1)]) (.cst (.int 3))) (.not (.call fi_law_from [(.sub (.var 1) (.cst (.int 0))), (.blt .len [(.var 0)])])))) [.ret (.cst (.bool false))] [],
   .setT [(.nm 2), (.nm 3), (.nm 4)] (.var 1),
   .ite (.or (.not (.isi (.var 3) .tuple)) (.or (.cmp .Gt (.blt .len [(.var 3)]) (.cst (.int 2))) (.not (.isi (.var 4) .list)))) [.ret (.cst (.bool false))] [],
   .ite (.cmp .Gt (.blt .len [(.lc (.nm 5) .ex [(.var 3)] [(.not (.call fi_law_from [(.var 5), (.blt .len [(.var 0)])]))] (.var 5))]) (.cst (.int 0))) [.ret (.cst (.bool false))] [],
   .ite (.cmp .NotEq (.blt .len [(.var 4)]) (.blt .len [(.call fi_law_told [(.var 0), (.var 2), (.var 3)])])) [.ret (.cst (.bool false))] [],
   .set 6 (.call fi_law_names [(.var 0), (.var 2), (.var 3), (.cst (.bool true))]),
   .forr (.nm 7) .ex [(.var 4)] bMk,
   .ret (.cst (.bool true))] := rfl
theorem e_lruD (n : Nat) (sg : List (Nat × Nat)) (h0 : SgOk sg) (g : Nat → List Nat → PyData → Bool) (hg : ∀ s ps d, g s ps d = true ↔ MkP sg s ps d) (d : PyData) (hd : d.canLay0 = true) : callF F G (n + 7) fi_law_is_rule [.v (.list (sg.map encS)), .v d] = .ok ⟨.bool (ruB g sg d), false, []⟩ := by
  rw [callF_at (fn := f_law_is_rule) rfl rfl (Nat.le_of_ble_eq_true rfl)]
  match d, hd with
  | .tuple [], _ => simp [forLoop_nil, forLoop_step, lcLoop_nil, lcLoop_step, M.itemsD.eq_3, L2.atI, L2.ixN, f_law_is_rule, lru_body, ruB]
  | .tuple [a], _ => simp [forLoop_nil, forLoop_step, lcLoop_nil, lcLoop_step, M.itemsD.eq_3, L2.atI, L2.ixN, f_law_is_rule, lru_body, ruB]
  | .tuple [a, b], _ => simp [forLoop_nil, forLoop_step, lcLoop_nil, lcLoop_step, M.itemsD.eq_3, L2.atI, L2.ixN, f_law_is_rule, lru_body, ruB]
  | .tuple (a :: b :: c :: e :: r), _ =>
    have : ¬ ((r.length : Int) + 1 + 1 + 1 + 1 = 3) := by omega
    simp [forLoop_nil, forLoop_step, lcLoop_nil, lcLoop_step, M.itemsD.eq_3, L2.atI, L2.ixN, f_law_is_rule, lru_body, ruB, this]
  | .none, _ => simp [forLoop_nil, forLoop_step, lcLoop_nil, lcLoop_step, M.itemsD.eq_3, L2.atI, L2.ixN, f_law_is_rule, lru_body, ruB]
  | .bool _, _ => simp [forLoop_nil, forLoop_step, lcLoop_nil, lcLoop_step, M.itemsD.eq_3, L2.atI, L2.ixN, f_law_is_rule, lru_body, ruB]
  | .int _, _ => simp [forLoop_nil, forLoop_step, lcLoop_nil, lcLoop_step, M.itemsD.eq_3, L2.atI, L2.ixN, f_law_is_rule, lru_body, ruB]
  | .str _, _ => simp [forLoop_nil, forLoop_step, lcLoop_nil, lcLoop_step, M.itemsD.eq_3, L2.atI, L2.ixN, f_law_is_rule, lru_body, ruB]
  | .list _, _ => simp [forLoop_nil, forLoop_step, lcLoop_nil, lcLoop_step, M.itemsD.eq_3, L2.atI, L2.ixN, f_law_is_rule, lru_body, ruB]
  | .dict _, h => simp [PyData.canLay0] at h
  | .tuple [x, y, z], hd =>
    obtain ⟨hx, hy, hz⟩ := lay3 hd
    have ef := e_lfrD (n + 5) x (sg.length : Int)
    cases qx : frm ((sg.length : Int) - 1) x with
    | false =>
      rw [ruB_x qx]
      rw [qx] at ef
      simp [forLoop_nil, forLoop_step, lcLoop_nil, lcLoop_step, M.itemsD.eq_3, f_law_is_rule, lru_body, ef]
    | true =>
      rw [qx] at ef
      obtain ⟨ex, hx'⟩ := frm_N qx
      match y, hy with
      | .none, _ => simp [forLoop_nil, forLoop_step, lcLoop_nil, lcLoop_step, M.itemsD.eq_3, f_law_is_rule, lru_body, ef, ruB]
      | .bool _, _ => simp [forLoop_nil, forLoop_step, lcLoop_nil, lcLoop_step, M.itemsD.eq_3, f_law_is_rule, lru_body, ef, ruB]
      | .int _, _ => simp [forLoop_nil, forLoop_step, lcLoop_nil, lcLoop_step, M.itemsD.eq_3, f_law_is_rule, lru_body, ef, ruB]
      | .str _, _ => simp [forLoop_nil, forLoop_step, lcLoop_nil, lcLoop_step, M.itemsD.eq_3, f_law_is_rule, lru_body, ef, ruB]
      | .list _, _ => simp [forLoop_nil, forLoop_step, lcLoop_nil, lcLoop_step, M.itemsD.eq_3, f_law_is_rule, lru_body, ef, ruB]
      | .dict _, h => simp [PyData.canLay0] at h
      | .tuple ys, hy =>
        by_cases hl : ys.length ≤ 2
        · have hl' : ¬ (2 : Int) < ys.length := by omega
          have hl'' : ¬ 2 < ys.length := by omega
          match z, hz with
          | .none, _ => simp [forLoop_nil, forLoop_step, lcLoop_nil, lcLoop_step, M.itemsD.eq_3, f_law_is_rule, lru_body, ef, ruB, hl', hl'']
          | .bool _, _ => simp [forLoop_nil, forLoop_step, lcLoop_nil, lcLoop_step, M.itemsD.eq_3, f_law_is_rule, lru_body, ef, ruB, hl', hl'']
          | .int _, _ => simp [forLoop_nil, forLoop_step, lcLoop_nil, lcLoop_step, M.itemsD.eq_3, f_law_is_rule, lru_body, ef, ruB, hl', hl'']
          | .str _, _ => simp [forLoop_nil, forLoop_step, lcLoop_nil, lcLoop_step, M.itemsD.eq_3, f_law_is_rule, lru_body, ef, ruB, hl', hl'']
          | .tuple _, _ => simp [forLoop_nil, forLoop_step, lcLoop_nil, lcLoop_step, M.itemsD.eq_3, f_law_is_rule, lru_body, ef, ruB, hl', hl'']
          | .dict _, h => simp [PyData.canLay0] at h
          | .list mks, hz =>
            have e3 : ∀ s1 s2 s3 s4 s6 s7 s8 : Option Slot, lcLoop (lcTurn (callF F G (n + 6)) G (.nm 5) [(.not (.call fi_law_from [(.var 5), (.blt .len [(.var 0)])]))] (.var 5)) ys [some (.list (sg.map encS), .sh), s1, s2, s3, s4, none, s6, s7, s8] = .ok (ys.filterMap (nfD (frm ((sg.length : Int) - 1))), [some (.list (sg.map encS), .sh), s1, s2, s3, s4, none, s6, s7, s8]) := fun s1 s2 s3 s4 s6 s7 s8 =>
              lc_idf fun p hp => by
                have e := e_lfrD (n + 5) p (sg.length : Int)
                have nd := nd_lay (layT hy p hp)
                cases q : frm ((sg.length : Int) - 1) p <;> rw [q] at e <;> simp [forLoop_nil, forLoop_step, lcLoop_nil, lcLoop_step, M.itemsD.eq_3, L2.atI, L2.ixN, e, nfD, q, nd]
            have ng := nf_gt (frm ((sg.length : Int) - 1)) ys
            generalize ys.filterMap (nfD (frm ((sg.length : Int) - 1))) = fl at e3 ng
            cases qy : ys.all (frm ((sg.length : Int) - 1)) with
            | false =>
              have ng : (0 : Int) < (fl.length : Int) := by simpa [qy] using ng
              have ng' : 0 < fl.length := by omega
              have hr : ruB g sg (.tuple [x, .tuple ys, .list mks]) = false := by simp only [ruB, qy, Bool.false_and, Bool.and_false]
              rw [hr]
              generalize toN x = k at *
              subst ex
              simp [f_law_is_rule, lru_body, ef, hl', hl'', ↓e3, ng, ng']
            | true =>
              have ng : ¬ ((0 : Int) < (fl.length : Int)) := by simpa [qy] using ng
              have ng' : ¬ (0 < fl.length) := by omega
              have ng0 : fl.length = 0 := by omega
              have ng1 : fl = [] := List.length_eq_zero_iff.mp ng0
              subst ng1
              obtain ⟨ey, hy'⟩ := frms_N qy
              have hys : (ys.map toN).length ≤ 2 := by rw [List.length_map]; exact hl
              have e1 := e_told (n + 5) sg h0 (toN x) hx' (ys.map toN) hy' hys
              have e2 := e_names1 (n + 4) sg h0 (toN x) hx' (ys.map toN) hy' hys true
              rw [show nams sg (toN x) (ys.map toN) true = all1 sg 0 (toN x :: ys.map toN) from rfl] at e2
              rw [← ey] at e1 e2
              by_cases hm : mks.length = (told sg (toN x) (ys.map toN)).length
              · have hc := for_chk (f := M.forTurn (callF F G (n + 6)) G (.nm 7) bMk) (IM (some (.list (sg.map encS), .sh)) (some (.tuple [x, .tuple ys, .list mks], .sh)) (some (.int (toN x : Int), .sh)) (some (.tuple ys, .sh)) (some (.list mks, .sh)) none (some (.list ((all1 sg 0 (toN x :: ys.map toN)).map pD), .ow))) (g (toN x) (ys.map toN)) (.bool false) false mks [some (.list (sg.map encS), .sh), some (.tuple [x, .tuple ys, .list mks], .sh), some (.int (toN x : Int), .sh), some (.tuple ys, .sh), some (.list mks, .sh), none, some (.list ((all1 sg 0 (toN x :: ys.map toN)).map pD), .ow), none, none] ⟨none, rfl, rfl⟩
                  (fun p env hp hi => mk_turn n sg (toN x) (ys.map toN) _ _ _ _ _ _ p (layL hz p hp) _ (hg (toN x) (ys.map toN) p) env hi)
                have hr : ruB g sg (.tuple [x, .tuple ys, .list mks]) = mks.all (g (toN x) (ys.map toN)) := by simp [ruB, qx, qy, hl, hm]
                rw [hr]
                generalize (all1 sg 0 (toN x :: ys.map toN)).map pD = A at *
                generalize told sg (toN x) (ys.map toN) = T at *
                generalize toN x = k at *
                subst ex
                by_cases ha : mks.all (g k (ys.map toN)) = true
                · rw [if_pos ha] at hc
                  obtain ⟨env', ec, o7, rfl, h7⟩ := hc
                  rw [ha]
                  simp [f_law_is_rule, lru_body, ef, hl', hl'', ↓e3, e1, e2, hm, ↓ec]
                · rw [if_neg ha] at hc
                  obtain ⟨env', ec, o7, rfl, h7⟩ := hc
                  rw [Bool.not_eq_true] at ha
                  rw [ha]
                  simp [f_law_is_rule, lru_body, ef, hl', hl'', ↓e3, e1, e2, hm, ↓ec]
              · have hm' : ¬ ((mks.length : Int) = ((told sg (toN x) (ys.map toN)).length : Int)) := by omega
                have hr : ruB g sg (.tuple [x, .tuple ys, .list mks]) = false := by simp [ruB, hm]
                rw [hr]
                generalize told sg (toN x) (ys.map toN) = T at *
                generalize toN x = k at *
                subst ex
                simp [f_law_is_rule, lru_body, ef, hl', hl'', ↓e3, e1, hm, hm']
        · have hl' : (2 : Int) < ys.length := by omega
          have hl'' : 2 < ys.length := by omega
          have : ruB g sg (.tuple [x, .tuple ys, z]) = false := by
            cases z <;> simp [ruB, hl]
          simp [forLoop_nil, forLoop_step, lcLoop_nil, lcLoop_step, M.itemsD.eq_3, f_law_is_rule, lru_body, ef, hl', hl'', this]
theorem dpa_mem {l : List PyData} {x : PyData} (h : x ∈ l) : x.depth ≤ PyData.depthAll l := by
  induction l with
  | nil => cases h
  | cons y l ih =>
    simp only [PyData.depthAll]
    rcases List.mem_cons.mp h with z | z
    · rw [z]; omega
    · have := ih z; omega
theorem e_lbkD (n : Nat) (g : List (Nat × Nat) → Nat → List Nat → PyData → Bool) (hg : GOk g) (d : PyData) (hd : d.canLay0 = true) (hp : d.depth ≤ 64) : callF F G (n + 8) fi_law_is_book [.v d] = .ok ⟨.bool (bkB g d), false, []⟩ := by
  rw [callF_at (fn := f_law_is_book) rfl rfl (Nat.le_of_ble_eq_true rfl)]
  match d, hd, hp with
  | .tuple [], _, _ => simp [forLoop_nil, forLoop_step, lcLoop_nil, lcLoop_step, M.itemsD.eq_3, L2.atI, L2.ixN, f_law_is_book, b_law_is_book, bkB]
  | .tuple [a], _, _ => simp [forLoop_nil, forLoop_step, lcLoop_nil, lcLoop_step, M.itemsD.eq_3, L2.atI, L2.ixN, f_law_is_book, b_law_is_book, bkB]
  | .tuple (a :: b :: c :: r), _, _ =>
    have : ¬ ((r.length : Int) + 1 + 1 + 1 = 2) := by omega
    simp [forLoop_nil, forLoop_step, lcLoop_nil, lcLoop_step, M.itemsD.eq_3, L2.atI, L2.ixN, f_law_is_book, b_law_is_book, bkB, this]
  | .none, _, _ => simp [forLoop_nil, forLoop_step, lcLoop_nil, lcLoop_step, M.itemsD.eq_3, L2.atI, L2.ixN, f_law_is_book, b_law_is_book, bkB]
  | .bool _, _, _ => simp [forLoop_nil, forLoop_step, lcLoop_nil, lcLoop_step, M.itemsD.eq_3, L2.atI, L2.ixN, f_law_is_book, b_law_is_book, bkB]
  | .int _, _, _ => simp [forLoop_nil, forLoop_step, lcLoop_nil, lcLoop_step, M.itemsD.eq_3, L2.atI, L2.ixN, f_law_is_book, b_law_is_book, bkB]
  | .str _, _, _ => simp [forLoop_nil, forLoop_step, lcLoop_nil, lcLoop_step, M.itemsD.eq_3, L2.atI, L2.ixN, f_law_is_book, b_law_is_book, bkB]
  | .list _, _, _ => simp [forLoop_nil, forLoop_step, lcLoop_nil, lcLoop_step, M.itemsD.eq_3, L2.atI, L2.ixN, f_law_is_book, b_law_is_book, bkB]
  | .dict _, h, _ => simp [PyData.canLay0] at h
  | .tuple [x, y], hd, hp =>
    obtain ⟨hx, hy⟩ := lay2 hd
    cases qx : isD .list x with
    | false =>
      have : bkB g (.tuple [x, y]) = false := by cases x <;> simp [bkB] <;> simp [isD] at qx
      simp [forLoop_nil, forLoop_step, lcLoop_nil, lcLoop_step, M.itemsD.eq_3, L2.atI, L2.ixN, f_law_is_book, b_law_is_book, this, qx]
    | true =>
      cases qy : isD .list y with
      | false =>
        have : bkB g (.tuple [x, y]) = false := by cases x <;> cases y <;> simp [bkB] <;> simp [isD] at qx qy
        simp [forLoop_nil, forLoop_step, lcLoop_nil, lcLoop_step, M.itemsD.eq_3, L2.atI, L2.ixN, f_law_is_book, b_law_is_book, this, qx, qy]
      | true =>
        match x, y, hx, hy, qx, qy, hp with
        | .list ss, .list rs, hx, hy, _, _, hp =>
          have hpl : PyData.depthAll ss ≤ 63 := by
            simp only [dp_tuple, dpa_cons, dpa_nil, dp_list] at hp
            omega
          by_cases h1 : 1 ≤ ss.length
          · have h1' : ¬ ((ss.length : Int) < 1) := by omega
            have h1'' : ¬ (ss.length < 1) := by omega
            have h1n : ¬ (ss = []) := by intro z; rw [z] at h1; simp at h1
            by_cases h2 : ss.length ≤ 4
            · have h2' : ¬ ((4 : Int) < ss.length) := by omega
              have h2'' : ¬ (4 < ss.length) := by omega
              by_cases h3 : rs.length ≤ 8
              · have h3' : ¬ ((8 : Int) < rs.length) := by omega
                have h3'' : ¬ (8 < rs.length) := by omega
                have e1 : ∀ s0 s1 s2 s4 : Option Slot, lcLoop (lcTurn (callF F G (n + 7)) G (.nm 3) [(.not (.call fi_law_sign [(.var 3)]))] (.var 3)) ss [s0, s1, s2, none, s4] = .ok (ss.filterMap (nfD sgB), [s0, s1, s2, none, s4]) := fun s0 s1 s2 s4 =>
                  lc_idf fun p hq => by
                    have e := e_lsgD (n + 6) p (layL hx p hq) (Nat.le_trans (dpa_mem hq) (by omega))
                    have nd := nd_lay (layL hx p hq)
                    cases q : sgB p <;> rw [q] at e <;> simp [forLoop_nil, forLoop_step, lcLoop_nil, lcLoop_step, M.itemsD.eq_3, L2.atI, L2.ixN, e, nfD, q, nd]
                have ng := nf_gt sgB ss
                generalize ss.filterMap (nfD sgB) = fl at e1 ng
                cases qs : ss.all sgB with
                | false =>
                  have ng : (0 : Int) < (fl.length : Int) := by simpa [qs] using ng
                  have ng' : 0 < fl.length := by omega
                  simp [f_law_is_book, b_law_is_book, ↓e1, ng, ng', h1, h1', h1'', h1n, h2, h2', h2'', h3, h3', h3'', bkB, qs]
                | true =>
                  have ng : ¬ ((0 : Int) < (fl.length : Int)) := by simpa [qs] using ng
                  have ng1 : fl = [] := List.length_eq_zero_iff.mp (by omega)
                  subst ng1
                  obtain ⟨es, hs⟩ := sgs_S qs
                  have h0 : SgOk (ss.map toS) := ⟨by rw [List.length_map]; exact h1, by rw [List.length_map]; exact h2, hs⟩
                  have e2 : ∀ s0 s2 s3 : Option Slot, lcLoop (lcTurn (callF F G (n + 7)) G (.nm 4) [(.not (.call fi_law_is_rule [(.var 1), (.var 4)]))] (.var 4)) rs [s0, some (.list ss, .sh), s2, s3, none] = .ok (rs.filterMap (nfD (ruB (g (ss.map toS)) (ss.map toS))), [s0, some (.list ss, .sh), s2, s3, none]) := fun s0 s2 s3 =>
                    lc_idf fun p hq => by
                      have e := e_lruD n (ss.map toS) h0 (g (ss.map toS)) (hg (ss.map toS)) p (layL hy p hq)
                      rw [← es] at e
                      have nd := nd_lay (layL hy p hq)
                      cases q : ruB (g (ss.map toS)) (ss.map toS) p <;> rw [q] at e <;> simp [forLoop_nil, forLoop_step, lcLoop_nil, lcLoop_step, M.itemsD.eq_3, L2.atI, L2.ixN, e, nfD, q, nd]
                  have hr : bkB g (.tuple [.list ss, .list rs]) = rs.all (ruB (g (ss.map toS)) (ss.map toS)) := by simp [bkB, h1, h2, h3, qs]
                  have ne := nf_eq (ruB (g (ss.map toS)) (ss.map toS)) rs
                  rw [hr]
                  generalize rs.filterMap (nfD (ruB (g (ss.map toS)) (ss.map toS))) = fr at e2 ne
                  rw [← ne]
                  simp [f_law_is_book, b_law_is_book, ↓e1, ↓e2, h1', h1'', h1n, h2', h2'', h3', h3'']
              · have h3' : ((8 : Int) < rs.length) := by omega
                have h3'' : 8 < rs.length := by omega
                simp [f_law_is_book, b_law_is_book, h1', h1'', h1n, h2', h2'', h3, h3', h3'', bkB]
            · have h2' : ((4 : Int) < ss.length) := by omega
              have h2'' : 4 < ss.length := by omega
              simp [f_law_is_book, b_law_is_book, h1', h1'', h1n, h2, h2', h2'', bkB]
          · have h1n : ss = [] := List.length_eq_zero_iff.mp (by omega)
            subst h1n
            simp [forLoop_nil, forLoop_step, lcLoop_nil, lcLoop_step, M.itemsD.eq_3, L2.atI, L2.ixN, f_law_is_book, b_law_is_book, bkB]
end K07
namespace K07
open PySem M
def Nic (n m : Nat) (d : PyData) : Prop := Sh d n ∧ d.depth ≤ m
theorem Nic.le {n m n' m' : Nat} {d : PyData} (h : Nic n m d) (h1 : n ≤ n') (h2 : m ≤ m') : Nic n' m' d := ⟨h.1.le h1, Nat.le_trans h.2 h2⟩
theorem Nic.lay {n m : Nat} {d : PyData} (h : Nic n m d) : d.canLay0 = true := h.1.1
theorem nic_dec {d : PyData} {n m : Nat} (h : ((d.canLay0 && (d.showable && (PyData.strOk d.shown && decide (d.shown.length ≤ n)))) && decide (d.depth ≤ m)) = true) : Nic n m d := by
  simp only [Bool.and_eq_true, decide_eq_true_eq] at h
  exact ⟨⟨h.1.1, h.1.2.1, h.1.2.2.1, h.1.2.2.2⟩, h.2⟩
theorem nic_none (m : Nat) : Nic 31 m .none := ⟨sh_none.le (by omega), by simp [PyData.depth]⟩
theorem nic_bool (b : Bool) (m : Nat) : Nic 31 m (.bool b) := ⟨(sh_bool b).le (by omega), by simp [PyData.depth]⟩
theorem nic_int {i : Int} (h : i.natAbs < 1000000) (m : Nat) : Nic 31 m (.int i) := ⟨sh_int (Nat.lt_of_lt_of_le h (by decide)), by simp [PyData.depth]⟩
theorem shAll_of {l : List PyData} {k c : Nat} (h : ∀ x ∈ l, Sh x k) (hc : l.length ≤ c) : ShAll l (c * (k + 2)) := by
  have := shAll_map (f := id) (n := k) (l := l) h
  rw [List.map_id] at this
  exact this.le (Nat.mul_le_mul_right _ hc)
theorem dpa_of {l : List PyData} {m : Nat} (h : ∀ x ∈ l, x.depth ≤ m) : PyData.depthAll l ≤ m := by
  have := dpa_map (f := id) (n := m) (l := l) h
  rwa [List.map_id] at this
theorem nic_lst {l : List PyData} {k m : Nat} (c : Nat) (h : ∀ x ∈ l, Nic k m x) (hc : l.length ≤ c) : Nic (c * (k + 2) + 3) (m + 1) (.list l) :=
  ⟨(sh_list (shAll_of (fun x hx => (h x hx).1) hc)).le (by omega), by simp only [dp_list]; have := dpa_of (m := m) (fun x hx => (h x hx).2); omega⟩
theorem nic_tup {l : List PyData} {k m : Nat} (c : Nat) (h : ∀ x ∈ l, Nic k m x) (hc : l.length ≤ c) : Nic (c * (k + 2) + 3) (m + 1) (.tuple l) :=
  ⟨sh_tuple (shAll_of (fun x hx => (h x hx).1) hc), by simp only [dp_tuple]; have := dpa_of (m := m) (fun x hx => (h x hx).2); omega⟩
theorem cut_mem {l : List PyData} {a b : Option Int} {x : PyData} (h : x ∈ cutD l a b) : x ∈ l := by
  unfold cutD at h
  exact List.mem_of_mem_drop (List.mem_of_mem_take h)
theorem cut_len {l : List PyData} {a b : Option Int} : (cutD l a b).length ≤ l.length := by
  unfold cutD
  rw [List.length_take, List.length_drop]
  omega
theorem cut_sum {ms : List PyData} {a : Int} : (cutD ms none (some a)).length + (cutD ms (some (a + 1)) none).length ≤ ms.length + ms.length := by
  have q1 := cut_len (l := ms) (a := none) (b := some a)
  have q2 := cut_len (l := ms) (a := some (a + 1)) (b := none)
  omega
theorem slc_l {l : List PyData} {a b : Option Int} : slcD (.list l) a b = some (.list (cutD l a b), true) := rfl
theorem slc_t {l : List PyData} {a b : Option Int} : slcD (.tuple l) a b = some (.tuple (cutD l a b), false) := rfl
def c1 : PyData := .tuple [.str "num", .int 1]
def LA (N S : PyData) (ps ms : List PyData) : List PyData := [.none, .list [S, .tuple ps, .list ms], .tuple [S, .tuple ps, .list ms, .int 0], .tuple (cutD [S, .tuple ps, .list ms] none (some 2)), .tuple [N, .tuple ps, .list ms], .tuple [.bool true, .tuple ps, .list ms],
  .tuple [S, .list ps, .list ms], .tuple [S, .tuple (ps ++ [.int 0, .int 0, .int 0]), .list ms], .tuple [S, .tuple ps, .tuple ms],
  .tuple [S, .tuple ps, .list (ms ++ [.tuple [.str "num", .int 0]])], .tuple [S, .tuple ps, .list (cutD ms (some 1) none)], .tuple [.int (-1), .tuple ps, .list ms],
  .tuple [S, .tuple (cutD ps none (some (-1)) ++ [N]), .list ms], .tuple [S, .tuple (ps ++ [.int 0]), .list ms],
  .tuple [S, .tuple (.int (-1) :: cutD ps (some 1) none), .list ms], .tuple [S, .tuple (cutD ps none (some (-1)) ++ [.int (-1)]), .list ms], .tuple [S, .tuple [.bool true], .list ms],
  .tuple [S, .tuple (.bool false :: cutD ps (some 1) none), .list ms], .tuple [S, .tuple (.none :: cutD ps (some 1) none), .list ms]]
def LO (w l : Int) : List PyData := [.tuple [.str "worth", .int 3, .int 0], .tuple [.str "worth", .int 0, .int w], .tuple [.str "worth", .int (l + 1), .int 0], .tuple [.str "num", .str "0"], .none,
  .tuple [.str "num", .bool true], .tuple [.str "num", .int 0], .tuple [.str "worth", .int l, .int 0], .tuple [.str "sum", .tuple [.str "num", .int 1], .tuple [.str "worth", .int 0, .int 0]],
  .tuple [.str "times", .int 10000, .tuple [.str "num", .int 1]], .tuple [.str "times", .int (-10000), .tuple [.str "num", .int 1]], .tuple [.str "rest", .bool true, .tuple [.str "num", .int 1]], .tuple [.list [], .int 1]]
def bR1 : List MS := b_law_bent_rule.take 10
def bR3 : List MS := [.mut 6 .append [(.tup [(.var 3), (.var 4), (.bin .Add (.bin .Add (.slc (.var 5) none (some (.var 8))) (.lst [(.var 9)])) (.slc (.var 5) (some (.bin .Add (.var 8) (.cst (.int 1)))) none))])]]
theorem br_body : b_law_bent_rule = bR1 ++ [.set 8 (.call fi_law_take [(.ref 0), (.blt .max2 [(.cst (.int 1)), (.blt .len [(.var 5)])])]), .forr (.nm 9) .ex [(.var 7)] bR3, .ret (.sub (.var 6) (.call fi_law_take [(.ref 0), (.blt .len [(.var 6)])]))] := rfl
theorem br_1 (n : Nat) (x : Int) (SG : List PyData) (s a b : Int) (ps ms : List PyData) (hs : L2.atI SG s = some (.tuple [.int a, .int b])) (hp : ps.length ≤ 2) (hm : ms.length ≤ 100) : evSs (callF F G n) G bR1 [some (.list [.int x], .rf), some (.list SG, .sh), some (.tuple [.int s, .tuple ps, .list ms], .sh), none, none, none, none, none, none, none] = .ok (.nx [some (.list [.int x], .rf), some (.list SG, .sh), some (.tuple [.int s, .tuple ps, .list ms], .sh), some (.int s, .sh), some (.tuple ps, .sh), some (.list ms, .sh), some (.list (LA (.int SG.length) (.int s) ps ms), .ow), some (.list (LO (a + b) ps.length), .ow), none, none]) := by
  have c0 : (cutD ps none (some (-1))).length ≤ 2 := Nat.le_trans cut_len hp
  have c1 : (cutD ps (some 1) none).length ≤ 2 := Nat.le_trans cut_len hp
  have z1 : ps.length + 3 ≤ 16777216 := by omega
  have z2 : ms.length + 1 ≤ 16777216 := by omega
  have z3 : (cutD ps none (some (-1))).length + 1 ≤ 16777216 := by omega
  have z4 : 1 + (cutD ps (some 1) none).length ≤ 16777216 := by omega
  have z5 : ps.length + 1 ≤ 16777216 := by omega
  have z6 : ps.length ≤ 16777213 := by omega
  have z7 : ps.length ≤ 16777215 := by omega
  have z8 : ms.length ≤ 16777215 := by omega
  have z9 : (cutD ps none (some (-1))).length ≤ 16777215 := by omega
  simp [forLoop_nil, forLoop_step, lcLoop_nil, lcLoop_step, M.itemsD.eq_3, bR1, b_law_bent_rule, LA, LO, hs, z1, z2, z3, z4, z5, z6, z7, z8, z9, sum2, -M.EVS.e276, -M.EVS.e386, -M.EVS.e387]
def mkO (s : Int) (ps ms : List PyData) (a : Int) (o : PyData) : PyData := .tuple [.int s, .tuple ps, .list (cutD ms none (some a) ++ o :: cutD ms (some (a + 1)) none)]
theorem br_3 (n : Nat) (s0 s1 s2 : Option Slot) (s a : Int) (ps ms : List PyData) (L O : List PyData) (hO : ∀ d ∈ O, ndB d = true) (hm : ms.length ≤ 100) (hL : L.length + O.length ≤ 1000) : ∃ o9, evS (callF F G n) G (.forr (.nm 9) .ex [(.var 7)] bR3) [s0, s1, s2, some (.int s, .sh), some (.tuple ps, .sh), some (.list ms, .sh), some (.list L, .ow), some (.list O, .ow), some (.int a, .sh), none] = .ok (.nx [s0, s1, s2, some (.int s, .sh), some (.tuple ps, .sh), some (.list ms, .sh), some (.list (L ++ O.map (mkO s ps ms a)), .ow), some (.list O, .ow), some (.int a, .sh), o9]) := by
  obtain ⟨env', e, o9, rfl, h9⟩ := for_inv (f := M.forTurn (callF F G n) G (.nm 9) bR3) (fun (k : Nat) (env : M.Env) => ∃ o9, env = [s0, s1, s2, some (.int s, .sh), some (.tuple ps, .sh), some (.list ms, .sh), some (.list (L ++ (O.take k).map (mkO s ps ms a)), .ow), some (.list O, .ln), some (.int a, .sh), o9] ∧ freeS (some o9) = true) O 0
    [s0, s1, s2, some (.int s, .sh), some (.tuple ps, .sh), some (.list ms, .sh), some (.list L, .ow), some (.list O, .ln), some (.int a, .sh), none] ⟨none, by simp, rfl⟩ (fun i d env hd he => by
      obtain ⟨o9, rfl, h9⟩ := he
      rw [Nat.zero_add]
      have hi := (List.getElem?_eq_some_iff.mp hd).1
      have nd := hO d (List.mem_of_getElem? hd)
      have c0 : (cutD ms none (some a)).length ≤ 100 := Nat.le_trans cut_len hm
      have c1 : (cutD ms (some (a + 1)) none).length ≤ 100 := Nat.le_trans cut_len hm
      have z1 : (cutD ms none (some a)).length ≤ 16777215 := by omega
      have z2 : (cutD ms none (some a)).length + 1 + (cutD ms (some (a + 1)) none).length ≤ 16777216 := by omega
      have z3 : (cutD ms none (some a)).length + (1 + (cutD ms (some (a + 1)) none).length) ≤ 16777216 := by omega
      have z4 : (cutD ms none (some a)).length + 1 ≤ 16777216 := by omega
      have z5 : (cutD ms none (some a)).length + ((cutD ms (some (a + 1)) none).length + 1) ≤ 16777216 := by omega
      have ht : O.take (i + 1) = O.take i ++ [d] := by rw [List.take_succ, hd]; rfl
      have hl : (L ++ (O.take i).map (mkO s ps ms a)).length < 16777216 := by rw [List.length_append, List.length_map, List.length_take]; omega
      rw [ht, List.map_append, ← List.append_assoc]
      generalize L ++ (O.take i).map (mkO s ps ms a) = acc at *
      refine ⟨[s0, s1, s2, some (.int s, .sh), some (.tuple ps, .sh), some (.list ms, .sh), some (.list (acc ++ [mkO s ps ms a d]), .ow), some (.list O, .ln), some (.int a, .sh), some (d, .sh)], ?_, _, rfl, rfl⟩
      simp [bR3, mkO, nd, h9, z1, z2, z3, z4, z5, hl, -M.EVS.e276, -M.EVS.e386, -M.EVS.e387])
  refine ⟨o9, ?_⟩
  rw [Nat.zero_add, List.take_length] at e
  simp [↓e]
theorem at_any {l : List PyData} (h : l ≠ []) (y : Int) : ∃ p ∈ l, L2.atI l (y % (l.length : Int)) = some p := by
  have hl : 0 < l.length := List.length_pos_iff.mpr h
  have h1 := Int.emod_nonneg y (show (l.length : Int) ≠ 0 by omega)
  have h2 := Int.emod_lt_of_pos y (show 0 < (l.length : Int) by omega)
  have hj : (y % (l.length : Int)).toNat < l.length := by omega
  refine ⟨l[(y % (l.length : Int)).toNat], List.getElem_mem hj, ?_⟩
  unfold L2.atI L2.ixN
  rw [if_pos h1, if_pos h2]
  simp [hj]
theorem nic_s (m : Nat) (w : PySem.Str) (h : Sh (.str w) 31) : Nic 31 m (.str w) := ⟨h, by rw [dp_str]; omega⟩
theorem LO_nic {w l : Int} (hw : w.natAbs < 1000) (hl : l.natAbs < 1000) : ∀ d ∈ LO w l, Nic 2000 4 d := by
  intro d hd
  have i := fun (i : Int) (h : i.natAbs < 1000000) => nic_int h 0
  have sw : Nic 31 0 (.str "worth") := nic_dec (by decide +kernel)
  simp only [LO, List.mem_cons, List.not_mem_nil, or_false] at hd
  rcases hd with rfl | rfl | rfl | rfl | rfl | rfl | rfl | rfl | rfl | rfl | rfl | rfl | rfl
  · exact nic_dec (by decide +kernel)
  · exact (nic_tup (k := 31) (m := 0) 3 (by simp [sw, i w (by omega), i 0 (by decide)]) (by simp)).le (by omega) (by omega)
  · exact (nic_tup (k := 31) (m := 0) 3 (by simp [sw, i (l + 1) (by omega), i 0 (by decide)]) (by simp)).le (by omega) (by omega)
  · exact nic_dec (by decide +kernel)
  · exact nic_dec (by decide +kernel)
  · exact nic_dec (by decide +kernel)
  · exact nic_dec (by decide +kernel)
  · exact (nic_tup (k := 31) (m := 0) 3 (by simp [sw, i l (by omega), i 0 (by decide)]) (by simp)).le (by omega) (by omega)
  · exact nic_dec (by decide +kernel)
  · exact nic_dec (by decide +kernel)
  · exact nic_dec (by decide +kernel)
  · exact nic_dec (by decide +kernel)
  · exact nic_dec (by decide +kernel)
theorem m_snoc {l : List PyData} {P : PyData → Prop} {x : PyData} (h : ∀ y ∈ l, P y) (hx : P x) : ∀ y ∈ l ++ [x], P y := fun y hy => by
  rcases List.mem_append.mp hy with z | z
  · exact h y z
  · rw [List.mem_singleton.mp z]; exact hx
theorem m_cons {l : List PyData} {P : PyData → Prop} {x : PyData} (hx : P x) (h : ∀ y ∈ l, P y) : ∀ y ∈ x :: l, P y := fun y hy => by
  rcases List.mem_cons.mp hy with z | z
  · rw [z]; exact hx
  · exact h y z
theorem m_nil {P : PyData → Prop} : ∀ y ∈ ([] : List PyData), P y := fun y hy => by cases hy
theorem LA_nic {N S : PyData} {ps ms : List PyData} (hN : Nic 31 0 N) (hS : Nic 31 0 S) (hp : ∀ d ∈ ps, Nic 31 0 d) (hl : ps.length ≤ 2) (hm : ∀ d ∈ ms, Nic 2000 4 d) (hk : ms.length ≤ 6) : ∀ d ∈ LA N S ps ms, Nic 90000 6 d := by
  intro d hd
  have i := fun (i : Int) (h : i.natAbs < 1000000) => nic_int h 0
  have up : ∀ {d}, Nic 31 0 d → Nic 14020 5 d := fun h => h.le (by omega) (by omega)
  have pT : ∀ {l : List PyData}, (∀ d ∈ l, Nic 31 0 d) → l.length ≤ 5 → Nic 14020 5 (.tuple l) := fun h h2 => (nic_tup 5 h h2).le (by omega) (by omega)
  have pL : ∀ {l : List PyData}, (∀ d ∈ l, Nic 31 0 d) → l.length ≤ 5 → Nic 14020 5 (.list l) := fun h h2 => (nic_lst 5 h h2).le (by omega) (by omega)
  have mL : ∀ {l : List PyData}, (∀ d ∈ l, Nic 2000 4 d) → l.length ≤ 7 → Nic 14020 5 (.list l) := fun h h2 => (nic_lst 7 h h2).le (by omega) (by omega)
  have mT : ∀ {l : List PyData}, (∀ d ∈ l, Nic 2000 4 d) → l.length ≤ 7 → Nic 14020 5 (.tuple l) := fun h h2 => (nic_tup 7 h h2).le (by omega) (by omega)
  have R : ∀ {l : List PyData}, (∀ d ∈ l, Nic 14020 5 d) → l.length ≤ 4 → Nic 90000 6 (.tuple l) := fun h h2 => (nic_tup 4 h h2).le (by omega) (by omega)
  have R' : ∀ {l : List PyData}, (∀ d ∈ l, Nic 14020 5 d) → l.length ≤ 4 → Nic 90000 6 (.list l) := fun h h2 => (nic_lst 4 h h2).le (by omega) (by omega)
  have cp : ∀ {a b : Option Int}, ∀ d ∈ cutD ps a b, Nic 31 0 d := fun d hd => hp d (cut_mem hd)
  have cpl : ∀ {a b : Option Int}, (cutD ps a b).length ≤ 2 := Nat.le_trans cut_len hl
  have cm : ∀ {a b : Option Int}, ∀ d ∈ cutD ms a b, Nic 2000 4 d := fun d hd => hm d (cut_mem hd)
  have cml : ∀ {a b : Option Int}, (cutD ms a b).length ≤ 6 := Nat.le_trans cut_len hk
  have p0 := pT hp (by omega)
  have m0 := mL hm (by omega)
  have n0 : Nic 2000 4 (.tuple [.str "num", .int 0]) := nic_dec (by decide +kernel)
  have t3 : ∀ {x y z : PyData}, Nic 14020 5 x → Nic 14020 5 y → Nic 14020 5 z → Nic 90000 6 (.tuple [x, y, z]) := fun a b c => R (m_cons a (m_cons b (m_cons c m_nil))) (by simp)
  simp only [LA, List.mem_cons, List.not_mem_nil, or_false] at hd
  rcases hd with rfl | rfl | rfl | rfl | rfl | rfl | rfl | rfl | rfl | rfl | rfl | rfl | rfl | rfl | rfl | rfl | rfl | rfl | rfl
  · exact (nic_none 6).le (by omega) (by omega)
  · exact R' (m_cons (up hS) (m_cons p0 (m_cons m0 m_nil))) (by simp)
  · exact R (m_cons (up hS) (m_cons p0 (m_cons m0 (m_cons (up (i 0 (by decide))) m_nil)))) (by simp)
  · exact R (fun d hd => m_cons (up hS) (m_cons p0 (m_cons m0 m_nil)) d (cut_mem hd)) (Nat.le_trans cut_len (by simp))
  · exact t3 (up hN) p0 m0
  · exact t3 (up (nic_bool _ _)) p0 m0
  · exact t3 (up hS) (pL hp (by omega)) m0
  · exact t3 (up hS) (pT (fun d hd => by
      rcases List.mem_append.mp hd with z | z
      · exact hp d z
      · simp only [List.mem_cons, List.not_mem_nil, or_false, or_self] at z
        rw [z]; exact i 0 (by decide)) (by simp; omega)) m0
  · exact t3 (up hS) p0 (mT hm (by omega))
  · exact t3 (up hS) p0 (mL (m_snoc hm n0) (by simp; omega))
  · exact t3 (up hS) p0 (mL cm (Nat.le_trans cml (by omega)))
  · exact t3 (up (i (-1) (by decide))) p0 m0
  · exact t3 (up hS) (pT (m_snoc cp hN) (by have := cpl (a := none) (b := some (-1)); simp; omega)) m0
  · exact t3 (up hS) (pT (m_snoc hp (i 0 (by decide))) (by simp; omega)) m0
  · exact t3 (up hS) (pT (m_cons (i (-1) (by decide)) cp) (by have := cpl (a := some 1) (b := none); simp; omega)) m0
  · exact t3 (up hS) (pT (m_snoc cp (i (-1) (by decide))) (by have := cpl (a := none) (b := some (-1)); simp; omega)) m0
  · exact t3 (up hS) (pT (m_cons (nic_bool _ _) m_nil) (by simp)) m0
  · exact t3 (up hS) (pT (m_cons (nic_bool _ _) cp) (by have := cpl (a := some 1) (b := none); simp; omega)) m0
  · exact t3 (up hS) (pT (m_cons (nic_none _) cp) (by have := cpl (a := some 1) (b := none); simp; omega)) m0
theorem mkO_nic {s a : Int} {ps ms : List PyData} {o : PyData} (hS : s.natAbs < 1000) (hp : ∀ d ∈ ps, Nic 31 0 d) (hl : ps.length ≤ 2) (hm : ∀ d ∈ ms, Nic 2000 4 d) (hk : ms.length ≤ 6) (ho : Nic 2000 4 o) : Nic 90000 6 (mkO s ps ms a o) := by
  have q1 := cut_len (l := ms) (a := none) (b := some a)
  have q2 := cut_len (l := ms) (a := some (a + 1)) (b := none)
  refine (nic_tup (k := 27000) (m := 5) 3 (m_cons ((nic_int (i := s) (by omega) 0).le (by omega) (by omega)) (m_cons ((nic_tup 2 hp hl).le (by omega) (by omega)) (m_cons ((nic_lst (k := 2000) (m := 4) 13 ?_ ?_).le (by omega) (by omega)) m_nil))) (by simp)).le (by omega) (by omega)
  · intro d hd
    rcases List.mem_append.mp hd with z | z
    · exact hm d (cut_mem z)
    · rcases List.mem_cons.mp z with z | z
      · rw [z]; exact ho
      · exact hm d (cut_mem z)
  · rw [List.length_append, List.length_cons]
    have := cut_sum (ms := ms) (a := a)
    omega
theorem e_brule (n : Nat) (sg : List (Nat × Nat)) (h0 : SgOk sg) (r : Ru) (hr : RuOk sg r) (x : Int) : ∃ D x', callF F G (n + 2) fi_law_bent_rule [.r (.list [.int x]), .v (.list (sg.map encS)), .v (encR r)] = .ok ⟨D, false, [.list [.int x']]⟩ ∧ Nic 90000 6 D := by
  rw [callF_at (fn := f_law_bent_rule) rfl rfl (Nat.le_of_ble_eq_true rfl)]
  have hs := at_sg sg r.sign hr.sign
  have pl : (encP r.parts).length ≤ 2 := by unfold encP; rw [List.length_map]; exact hr.few
  have ml : (r.mks.map enc).length ≤ 6 := by rw [List.length_map]; have := hr.len; have := len_told h0 r.sign r.parts; have := hr.few; omega
  have sgl := h0.most
  have b1 := br_1 (n + 1) x (sg.map encS) r.sign ((sgAt sg r.sign).1 : Int) ((sgAt sg r.sign).2 : Int) (encP r.parts) (r.mks.map enc) hs pl (by omega)
  have ba := h0.at r.sign
  have hsg := hr.sign
  have pn : ∀ d ∈ encP r.parts, Nic 31 0 d := fun d hd => by
    unfold encP at hd
    obtain ⟨p, hp, rfl⟩ := List.mem_map.mp hd
    have := hr.parts p hp
    exact nic_int (by omega) 0
  have mn : ∀ d ∈ r.mks.map enc, Nic 2000 4 d := fun d hd => by
    obtain ⟨f, hf, rfl⟩ := List.mem_map.mp hd
    have gd := hr.good f hf
    have p2 : pm 2 = 13 := rfl
    exact ⟨(enc_sh f gd.sml).le (by have := gd.parts; omega), Nat.le_trans (enc_dp f) (by have := gd.deep; omega)⟩
  have an := LA_nic (N := .int (sg.map encS).length) (S := .int (r.sign : Int)) (nic_int (by rw [List.length_map]; omega) 0) (nic_int (by omega) 0) pn pl mn ml
  have on := LO_nic (w := ((sgAt sg r.sign).1 : Int) + ((sgAt sg r.sign).2 : Int)) (l := (encP r.parts).length) (by omega) (by omega)
  have ll : (LA (.int (sg.map encS).length) (.int (r.sign : Int)) (encP r.parts) (r.mks.map enc)).length = 19 := rfl
  have lo : (LO (((sgAt sg r.sign).1 : Int) + ((sgAt sg r.sign).2 : Int)) (encP r.parts).length).length = 13 := rfl
  have er : encR r = .tuple [.int (r.sign : Int), .tuple (encP r.parts), .list (r.mks.map enc)] := rfl
  rw [er]
  generalize LA (.int (sg.map encS).length) (.int (r.sign : Int)) (encP r.parts) (r.mks.map enc) = A at *
  generalize LO (((sgAt sg r.sign).1 : Int) + ((sgAt sg r.sign).2 : Int)) (encP r.parts).length = O at *
  generalize hms : r.mks.map enc = ms at *
  generalize hps : encP r.parts = ps at *
  have mx : (0 : Int) < (if ((ms.length : Int)) > 1 then (ms.length : Int) else 1) ∧ (if ((ms.length : Int)) > 1 then (ms.length : Int) else 1) < 1073741824 := by
    split <;> omega
  have et := e_take n x (if ((ms.length : Int)) > 1 then (ms.length : Int) else 1) mx.1 mx.2
  generalize hmx : (if ((ms.length : Int)) > 1 then (ms.length : Int) else 1) = mxv at *
  have hb : bltD .max2 [.int 1, .int (ms.length : Int)] = some (.int mxv, false) := by rw [← hmx]; rfl
  obtain ⟨o9, b3⟩ := br_3 (n + 1) (some (.list [.int (x / mxv)], .rf)) (some (.list (sg.map encS), .sh)) (some (.tuple [.int (r.sign : Int), .tuple ps, .list ms], .sh)) (r.sign : Int) (x % mxv) ps ms A O (fun d hd => nd_lay (on d hd).lay) (by omega) (by omega)
  have nn := fun (d : PyData) (hd : d ∈ A ++ O.map (mkO (r.sign : Int) ps ms (x % mxv))) => (show Nic 90000 6 d from by
    rcases List.mem_append.mp hd with z | z
    · exact an d z
    · obtain ⟨o, ho, rfl⟩ := List.mem_map.mp z
      exact mkO_nic (by omega) pn pl mn ml (on o ho))
  have l32 : (A ++ O.map (mkO (r.sign : Int) ps ms (x % mxv))).length = 32 := by rw [List.length_append, List.length_map, ll, lo]
  generalize A ++ O.map (mkO (r.sign : Int) ps ms (x % mxv)) = L at *
  obtain ⟨D, hD, eD⟩ := at_any (l := L) (by intro z; rw [z] at l32; simp at l32) (x / mxv)
  rw [l32] at eD
  have eD : L2.atI L (x / mxv % 32) = some D := eD
  have nd := nd_lay (nn D hD).lay
  refine ⟨D, x / mxv / 32, ?_, nn D hD⟩
  have et2 := e_take n (x / mxv) 32 (by decide) (by decide)
  have st : startE f_law_bent_rule.nsl [.r (.list [.int x]), .v (.list (sg.map encS)), .v (.tuple [.int (r.sign : Int), .tuple ps, .list ms])] = [some (.list [.int x], .rf), some (.list (sg.map encS), .sh), some (.tuple [.int (r.sign : Int), .tuple ps, .list ms], .sh), none, none, none, none, none, none, none] := rfl
  rw [st, show f_law_bent_rule.body = b_law_bent_rule from rfl, br_body, evSs_app, b1, seqS_nx]
  have b2 : evS (callF F G (n + 1)) G (.set 8 (.call fi_law_take [(.ref 0), (.blt .max2 [(.cst (.int 1)), (.blt .len [(.var 5)])])])) [some (.list [.int x], .rf), some (.list (sg.map encS), .sh), some (.tuple [.int (r.sign : Int), .tuple ps, .list ms], .sh), some (.int (r.sign : Int), .sh), some (.tuple ps, .sh), some (.list ms, .sh), some (.list A, .ow), some (.list O, .ow), none, none] = .ok (.nx [some (.list [.int (x / mxv)], .rf), some (.list (sg.map encS), .sh), some (.tuple [.int (r.sign : Int), .tuple ps, .list ms], .sh), some (.int (r.sign : Int), .sh), some (.tuple ps, .sh), some (.list ms, .sh), some (.list A, .ow), some (.list O, .ow), some (.int (x % mxv), .sh), none]) := by
    simp [hb, et, -M.EVS.e367]
  rw [evSs_cons, b2, seqS_nx, ssNext_E, evSs_cons, b3, seqS_nx, ssNext_E]
  simp [f_law_bent_rule, l32, et2, eD, nd]
end K07
namespace K07
open PySem M
def odS : List PyData := [.tuple [.int 3, .int 0], .tuple [.int 0, .int (-1)], .tuple [.bool true, .int 1], .list [.int 1, .int 1], .tuple [.int 1], .tuple [.int 1, .int 1, .int 1], .none, .tuple [.int 1, .int 0], .tuple [.int 0, .int 2], .tuple [.int 2, .int 2],
  .tuple [.int 1, .bool true], .tuple [.int 0, .bool false], .tuple [.int 0, .int 3], .tuple [.int 1, .none], .tuple [.bool false, .int 0]]
theorem odS_nic : ∀ d ∈ odS, Nic 200 2 d := by
  intro d hd
  have : (odS.all fun d => ((d.canLay0 && (d.showable && (PyData.strOk d.shown && decide (d.shown.length ≤ 200)))) && decide (d.depth ≤ 2))) = true := by decide +kernel
  exact nic_dec (List.all_eq_true.mp this d hd)
def LB (S R : List PyData) : List PyData := [.list [.list S, .list R], .tuple [.list S], .tuple [.list S, .list R, .list []], .tuple [.tuple S, .list R], .tuple [.list S, .tuple R], .tuple [.list R, .list S],
  .tuple [.list [], .list []], .tuple [.list (S ++ [.tuple [.int 0, .int 0]]), .list R], .tuple [.list (cutD S none (some (-1))), .list R], .tuple [.list S, .list (List.replicate 9 R).flatten], .tuple [.list (List.replicate 5 S).flatten, .list R],
  .none, .tuple [.list S, .list (R ++ [.none])], .str "book", .tuple [.list S, .none], .tuple [.list S, .list R.reverse]]
theorem rep_mem {n : Nat} {l : List PyData} {x : PyData} (h : x ∈ (List.replicate n l).flatten) : x ∈ l := by
  obtain ⟨y, hy, hx⟩ := List.mem_flatten.mp h
  rw [(List.mem_replicate.mp hy).2] at hx
  exact hx
theorem rep_len {n : Nat} {l : List PyData} : (List.replicate n l).flatten.length = n * l.length := by
  rw [List.length_flatten, List.map_replicate, List.sum_replicate_nat]
theorem LB_nic {S R : List PyData} (hS : ∀ d ∈ S, Nic 200 2 d) (lS : S.length ≤ 4) (hR : ∀ d ∈ R, Nic 25000 6 d) (lR : R.length ≤ 8) : ∀ d ∈ LB S R, Nic 6000010 8 d := by
  intro d hd
  have sL : ∀ {l : List PyData}, (∀ d ∈ l, Nic 200 2 d) → l.length ≤ 20 → Nic 2000000 7 (.list l) := fun h h2 => (nic_lst 20 h h2).le (by omega) (by omega)
  have sT : ∀ {l : List PyData}, (∀ d ∈ l, Nic 200 2 d) → l.length ≤ 20 → Nic 2000000 7 (.tuple l) := fun h h2 => (nic_tup 20 h h2).le (by omega) (by omega)
  have rL : ∀ {l : List PyData}, (∀ d ∈ l, Nic 25000 6 d) → l.length ≤ 72 → Nic 2000000 7 (.list l) := fun h h2 => (nic_lst 72 h h2).le (by omega) (by omega)
  have rT : ∀ {l : List PyData}, (∀ d ∈ l, Nic 25000 6 d) → l.length ≤ 72 → Nic 2000000 7 (.tuple l) := fun h h2 => (nic_tup 72 h h2).le (by omega) (by omega)
  have T : ∀ {l : List PyData}, (∀ d ∈ l, Nic 2000000 7 d) → l.length ≤ 3 → Nic 6000010 8 (.tuple l) := fun h h2 => (nic_tup 3 h h2).le (by omega) (by omega)
  have L : ∀ {l : List PyData}, (∀ d ∈ l, Nic 2000000 7 d) → l.length ≤ 3 → Nic 6000010 8 (.list l) := fun h h2 => (nic_lst 3 h h2).le (by omega) (by omega)
  have s0 := sL hS (by omega)
  have r0 := rL hR (by omega)
  have t2 : ∀ {x y : PyData}, Nic 2000000 7 x → Nic 2000000 7 y → Nic 6000010 8 (.tuple [x, y]) := fun a b => T (m_cons a (m_cons b m_nil)) (by simp)
  have n0 : Nic 2000000 7 .none := (nic_none 7).le (by omega) (by omega)
  have e0 : Nic 2000000 7 (.list []) := sL m_nil (by simp)
  simp only [LB, List.mem_cons, List.not_mem_nil, or_false] at hd
  rcases hd with rfl | rfl | rfl | rfl | rfl | rfl | rfl | rfl | rfl | rfl | rfl | rfl | rfl | rfl | rfl | rfl
  · exact L (m_cons s0 (m_cons r0 m_nil)) (by simp)
  · exact T (m_cons s0 m_nil) (by simp)
  · exact T (m_cons s0 (m_cons r0 (m_cons e0 m_nil))) (by simp)
  · exact t2 (sT hS (by omega)) r0
  · exact t2 s0 (rT hR (by omega))
  · exact t2 r0 s0
  · exact t2 e0 e0
  · exact t2 (sL (m_snoc hS (nic_dec (by decide +kernel))) (by simp; omega)) r0
  · exact t2 (sL (fun d hd => hS d (cut_mem hd)) (Nat.le_trans cut_len (by omega))) r0
  · exact t2 s0 (rL (fun d hd => hR d (rep_mem hd)) (by rw [rep_len]; omega))
  · exact t2 (sL (fun d hd => hS d (rep_mem hd)) (by rw [rep_len]; omega)) r0
  · exact n0.le (by omega) (by omega)
  · exact t2 s0 (rL (m_snoc hR ((nic_none 6).le (by omega) (by omega))) (by simp; omega))
  · exact nic_dec (by decide +kernel)
  · exact t2 s0 n0
  · exact t2 s0 (rL (fun d hd => hR d (List.mem_reverse.mp hd)) (by simp; omega))
theorem mul_l {xs : List PyData} {k : Nat} (h : xs.length * k ≤ 1000) (hk : k ≤ 9) : binD .Mult (.list xs) (.int (k : Int)) = some (PyData.list (List.replicate k xs).flatten, true) := by
  have : mlB xs.length (k : Int) = true := mlB_nat (by omega) (by omega)
  show (if mlB xs.length (k : Int) = true then some (PyData.list (List.replicate ((k : Int)).toNat xs).flatten, true) else none) = _
  rw [if_pos this, Int.toNat_natCast]
def bB1 : List MS := match b_law_bent_book with
  | [_, _, .ite _ b _, _, _, _, _, _] => b
  | _ => []
def bB2 : List MS := match b_law_bent_book with
  | [_, _, _, .ite _ b _, _, _, _, _] => b
  | _ => []
def bB3 : List MS := b_law_bent_book.drop 4
theorem bb_body : b_law_bent_book = .setT [(.nm 2), (.nm 3)] (.var 1) :: .set 4 (.call fi_law_take [(.ref 0), (.cst (.int 4))]) :: .ite (.and (.cmp .Lt (.var 4) (.cst (.int 2))) (.cmp .NotEq (.var 3) (.lst []))) bB1 [] :: .ite (.cmp .Eq (.var 4) (.cst (.int 2))) bB2 [] :: bB3 := rfl
theorem rs_nic {b : Bk} (hb : BkOk b) : ∀ d ∈ b.rules.map encR, Nic 25000 6 d := fun d hd => by
  obtain ⟨r, hr, rfl⟩ := List.mem_map.mp hd
  obtain ⟨h0, h1, h2⟩ := hb
  have k := h2 r hr
  have hs := k.sign
  have hm := h0.most
  have pl : (encP r.parts).length ≤ 2 := by unfold encP; rw [List.length_map]; exact k.few
  have ml : (r.mks.map enc).length ≤ 6 := by rw [List.length_map]; have := k.len; have := len_told h0 r.sign r.parts; have := k.few; omega
  have pn : ∀ d ∈ encP r.parts, Nic 31 0 d := fun d hd => by
    unfold encP at hd
    obtain ⟨p, hp, rfl⟩ := List.mem_map.mp hd
    have := k.parts p hp
    exact nic_int (by omega) 0
  have mn : ∀ d ∈ r.mks.map enc, Nic 1300 4 d := fun d hd => by
    obtain ⟨f, hf, rfl⟩ := List.mem_map.mp hd
    have gd := k.good f hf
    have p2 : pm 2 = 13 := rfl
    exact ⟨(enc_sh f gd.sml).le (by have := gd.parts; omega), Nat.le_trans (enc_dp f) (by have := gd.deep; omega)⟩
  exact (nic_tup (k := 7900) (m := 5) 3 (m_cons ((nic_int (by omega) 0).le (by omega) (by omega)) (m_cons ((nic_tup 2 pn pl).le (by omega) (by omega)) (m_cons ((nic_lst 6 mn ml).le (by omega) (by omega)) m_nil))) (by simp)).le (by omega) (by omega)
theorem ss_nic {b : Bk} (hb : BkOk b) : ∀ d ∈ b.signs.map encS, Nic 200 2 d := fun d hd => by
  obtain ⟨s, hs, rfl⟩ := List.mem_map.mp hd
  have := hb.sg.two s hs
  exact (nic_tup (k := 31) (m := 0) 2 (m_cons (nic_int (by omega) 0) (m_cons (nic_int (by omega) 0) m_nil)) (by simp)).le (by omega) (by omega)
theorem ne_nil {R : List PyData} : cmpD .NotEq (.list R) (.list []) = some (!R.isEmpty) := by
  cases R <;> simp [PyData.depth, PyData.depthAll]
theorem eqva_e {R : List PyData} : PyData.eqvAll R [] = R.isEmpty := by
  cases R <;> simp [eqva_nil, eqva_l, eqva_r]
theorem nic_mid {S : List PyData} {k m : Nat} {D : PyData} {a : Int} (hS : ∀ d ∈ S, Nic k m d) (hD : Nic k m D) : ∀ d ∈ cutD S none (some a) ++ D :: cutD S (some (a + 1)) none, Nic k m d := fun d hd => by
  rcases List.mem_append.mp hd with z | z
  · exact hS d (cut_mem z)
  · rcases List.mem_cons.mp z with z | z
    · rw [z]; exact hD
    · exact hS d (cut_mem z)
theorem len_mid {S : List PyData} {D : PyData} {a : Int} : (cutD S none (some a) ++ D :: cutD S (some (a + 1)) none).length ≤ 2 * S.length + 1 := by
  have := cut_sum (ms := S) (a := a)
  simp only [List.length_append, List.length_cons]
  omega
theorem e_bbook (n : Nat) (b : Bk) (hb : BkOk b) (x : Int) : ∃ D x', callF F G (n + 3) fi_law_bent_book [.r (.list [.int x]), .v (encB b)] = .ok ⟨D, false, [.list [.int x']]⟩ ∧ Nic 6000010 8 D := by
  rw [callF_at (fn := f_law_bent_book) rfl rfl (Nat.le_of_ble_eq_true rfl)]
  have hR := rs_nic hb
  have hS := ss_nic hb
  have lS : (b.signs.map encS).length ≤ 4 := by rw [List.length_map]; exact hb.sg.most
  have lS1 : 1 ≤ (b.signs.map encS).length := by rw [List.length_map]; exact hb.sg.pos
  have lR : (b.rules.map encR).length ≤ 8 := by rw [List.length_map]; exact hb.few
  have eb : encB b = .tuple [.list (b.signs.map encS), .list (b.rules.map encR)] := rfl
  have et := e_take (n + 1) x 4 (by decide) (by decide)
  by_cases hA : x % 4 < 2 ∧ b.rules ≠ []
  · obtain ⟨h2, hne⟩ := hA
    have rl : 0 < b.rules.length := List.length_pos_iff.mpr hne
    have et2 := e_take (n + 1) (x / 4) (b.rules.length : Int) (by omega) (by have := hb.few; omega)
    have a1 := Int.emod_nonneg (x / 4) (show (b.rules.length : Int) ≠ 0 by omega)
    have a2 := Int.emod_lt_of_pos (x / 4) (show 0 < (b.rules.length : Int) by omega)
    have hj : (x / 4 % (b.rules.length : Int)).toNat < b.rules.length := by omega
    have ea := at_nat encR b.rules _ hj
    rw [show ((x / 4 % (b.rules.length : Int)).toNat : Int) = x / 4 % (b.rules.length : Int) by omega] at ea
    have hrk := hb.rules _ (List.getElem_mem hj)
    generalize b.rules[(x / 4 % (b.rules.length : Int)).toNat] = ru at ea hrk
    obtain ⟨D, x', eD, hD⟩ := e_brule n b.signs hb.sg ru hrk (x / 4 / (b.rules.length : Int))
    have hne' : (b.rules.map encR).isEmpty = false := by
      cases q : b.rules with
      | nil => exact absurd q hne
      | cons _ _ => rfl
    have nn := ne_nil (R := b.rules.map encR)
    rw [hne'] at nn
    have hv := eqva_e (R := b.rules.map encR)
    rw [hne'] at hv
    have ll : (b.rules.map encR).length = b.rules.length := List.length_map _
    generalize x / 4 % (b.rules.length : Int) = a at *
    have nd := nd_lay hD.lay
    refine ⟨.tuple [.list (b.signs.map encS), .list (cutD (b.rules.map encR) none (some a) ++ D :: cutD (b.rules.map encR) (some (a + 1)) none)], x', ?_, ?_⟩
    · rw [eb]
      generalize b.signs.map encS = S at *
      generalize b.rules.map encR = R at *
      generalize encR ru = RU at *
      have c0 : (cutD R none (some a)).length ≤ 8 := Nat.le_trans cut_len lR
      have c1 : (cutD R (some (a + 1)) none).length ≤ 8 := Nat.le_trans cut_len lR
      have z1 : (cutD R none (some a)).length ≤ 16777215 := by omega
      have z2 : (cutD R none (some a)).length + 1 + (cutD R (some (a + 1)) none).length ≤ 16777216 := by omega
      have z3 : (cutD R none (some a)).length + (1 + (cutD R (some (a + 1)) none).length) ≤ 16777216 := by omega
      have z4 : (cutD R none (some a)).length + 1 ≤ 16777216 := by omega
      have z5 : (cutD R none (some a)).length + ((cutD R (some (a + 1)) none).length + 1) ≤ 16777216 := by omega
      simp [f_law_bent_book, bb_body, bB1, b_law_bent_book, et, h2, nn, hv, ll, et2, ea, eD, nd, z1, z2, z3, z4, z5, -M.EVS.e276, -M.EVS.e386, -M.EVS.e387]
    · exact (nic_tup (k := 2000000) (m := 7) 2 (m_cons ((nic_lst 20 hS (by omega)).le (by omega) (by omega)) (m_cons ((nic_lst (k := 90000) (m := 6) 17 (nic_mid (fun d hd => (hR d hd).le (by omega) (by omega)) hD) (Nat.le_trans len_mid (by omega))).le (by omega) (by omega)) m_nil)) (by simp)).le (by omega) (by omega)
  · have nn := ne_nil (R := b.rules.map encR)
    have hc : x % 4 < 2 → b.rules.map encR = [] := fun h => by
      by_cases q : b.rules = []
      · rw [q]; rfl
      · exact absurd ⟨h, q⟩ hA
    rw [eb]
    generalize b.signs.map encS = S at *
    generalize b.rules.map encR = R at *
    clear eb hb
    by_cases hB : x % 4 = 2
    · have h2 : ¬ (x % 4 < 2) := by omega
      have et2 := e_take (n + 1) (x / 4) (S.length : Int) (by omega) (by omega)
      have et3 := e_take (n + 1) (x / 4 / (S.length : Int)) 15 (by decide) (by decide)
      obtain ⟨D, hD, eD⟩ := at_any (l := odS) (by simp [odS]) (x / 4 / (S.length : Int))
      have eD : L2.atI odS (x / 4 / (S.length : Int) % 15) = some D := eD
      have nD := odS_nic D hD
      have nd := nd_lay nD.lay
      simp only [odS] at eD
      generalize x / 4 % (S.length : Int) = a at *
      refine ⟨.tuple [.list (cutD S none (some a) ++ D :: cutD S (some (a + 1)) none), .list R], x / 4 / (S.length : Int) / 15, ?_, ?_⟩
      · have c0 : (cutD S none (some a)).length ≤ 4 := Nat.le_trans cut_len lS
        have c1 : (cutD S (some (a + 1)) none).length ≤ 4 := Nat.le_trans cut_len lS
        have z1 : (cutD S none (some a)).length ≤ 16777215 := by omega
        have z2 : (cutD S none (some a)).length + 1 + (cutD S (some (a + 1)) none).length ≤ 16777216 := by omega
        have z3 : (cutD S none (some a)).length + (1 + (cutD S (some (a + 1)) none).length) ≤ 16777216 := by omega
        have z4 : (cutD S none (some a)).length + 1 ≤ 16777216 := by omega
        have z5 : (cutD S none (some a)).length + ((cutD S (some (a + 1)) none).length + 1) ≤ 16777216 := by omega
        generalize x / 4 / (S.length : Int) = y at *
        simp [f_law_bent_book, bb_body, bB2, b_law_bent_book, et, hB, nn, et2, et3, eD, nd, z1, z2, z3, z4, z5, -M.EVS.e276, -M.EVS.e386, -M.EVS.e387]
      · exact (nic_tup (k := 2000000) (m := 7) 2 (m_cons ((nic_lst (k := 200) (m := 2) 20 (nic_mid hS nD) (Nat.le_trans len_mid (by omega))).le (by omega) (by omega)) (m_cons ((nic_lst 72 hR (by omega)).le (by omega) (by omega)) m_nil)) (by simp)).le (by omega) (by omega)
    · have et3 := e_take (n + 1) (x / 4) 16 (by decide) (by decide)
      obtain ⟨D, hD, eD⟩ := at_any (l := LB S R) (by simp [LB]) (x / 4)
      have eD : L2.atI (LB S R) (x / 4 % 16) = some D := eD
      have nD := LB_nic hS lS hR lR D hD
      have nd := nd_lay nD.lay
      have m9 : binD .Mult (.list R) (.int 9) = some (.list (List.replicate 9 R).flatten, true) := mul_l (k := 9) (by omega) (by omega)
      have m5 : binD .Mult (.list S) (.int 5) = some (.list (List.replicate 5 S).flatten, true) := mul_l (k := 5) (by omega) (by omega)
      have c0 : (cutD S none (some (-1))).length ≤ 4 := Nat.le_trans cut_len lS
      have z1 : S.length ≤ 16777215 := by omega
      have z2 : R.length ≤ 16777215 := by omega
      have z3 : S.length + 1 ≤ 16777216 := by omega
      have z4 : R.length + 1 ≤ 16777216 := by omega
      refine ⟨D, x / 4 / 16, ?_, nD⟩
      have e3 : evSs (callF F G (n + 2)) G bB3 [some (.list [.int (x / 4)], .rf), some (.tuple [.list S, .list R], .sh), some (.list S, .sh), some (.list R, .sh), some (.int (x % 4), .sh), none, none, none, none] = .ok (.rt D false [some (.list [.int (x / 4 / 16)], .rf), some (.tuple [.list S, .list R], .sh), some (.list S, .sh), some (.list R, .sh), some (.int (x % 4), .sh), none, none, none, some (.list (LB S R), .ow)]) := by
        simp only [LB] at eD ⊢
        generalize (List.replicate 9 R).flatten = R9 at *
        generalize (List.replicate 5 S).flatten = S5 at *
        simp [bB3, b_law_bent_book, m9, m5, revD, et3, eD, nd, z1, z2, z3, z4, -M.EVS.e276, -M.EVS.e386, -M.EVS.e387]
      by_cases h2 : x % 4 < 2
      · have hr := hc h2
        rw [hr] at nn
        rw [show (!List.isEmpty ([] : List PyData)) = false from rfl] at nn
        subst hr
        simp [f_law_bent_book, bb_body, et, h2, nn, hB, e3]
      · simp [f_law_bent_book, bb_body, et, h2, nn, hB, e3]
end K07
namespace K07
open PySem M
def t00 : PyData := .tuple [.int 0, .int 0]
def LS : List PyData := [.tuple [.list [t00], .list []], .none, .bool true, .int 5, .list [], .tuple [], .tuple [.list [.tuple [.int 2, .int 2]], .list [.tuple [.int 0, .tuple [], .list [.tuple [.str "num", .int 1], .tuple [.str "num", .int 2]]]]],
  .tuple [.list [.tuple [.int 0, .bool true]], .list []], .tuple [.list [.tuple [.bool false, .int 0]], .list []], .tuple [.list [.tuple [.int 0, .int 3]], .list []], .tuple [.list [.tuple [.int 0, .int (-1)]], .list []],
  .tuple [.list [t00], .list [.tuple [.int 0, .tuple [.int (-1)], .list []]]], .tuple [.list [t00], .list [.tuple [.int 0, .tuple [.bool false], .list []]]], .tuple [.list [t00], .list [.tuple [.int 0, .tuple [.int 0, .bool true], .list []]]], .tuple [.list [t00], .list [.tuple [.int 0, .tuple [.none], .list []]]],
  .tuple [.list [t00], .list [.tuple [.int 0, .tuple [.int 1], .list []]]], .tuple [.list [t00], .list [.tuple [.int 0, .tuple [.int 0, .int 0], .list []]]]]
theorem LS_nic : ∀ d ∈ LS, Nic 6000010 8 d := by
  intro d hd
  have : (LS.all fun d => ((d.canLay0 && (d.showable && (PyData.strOk d.shown && decide (d.shown.length ≤ 200)))) && decide (d.depth ≤ 8))) = true := by decide +kernel
  exact (nic_dec (List.all_eq_true.mp this d hd)).le (by omega) (by omega)
def bL1 : List MS := b_law.take 4
def bL2 : List MS := [.mut 2 .append [(.calln fi_law_bent_book [(.nw (.lst [(.call fi_law_cell [(.var 0), (.bin .Add (.cst (.int 9)) (.var 5))])])), (.var 1)])]]
def bL3 : List MS := [.set 7 (.blt .repr [(.var 6)]), .set 8 (.call fi_is_book [(.var 6)]), .ite (.or (.not (.isi (.var 8) .bool)) (.or (.cmp .NotEq (.var 8) (.call fi_law_is_book [(.var 6)])) (.cmp .NotEq (.blt .repr [(.var 6)]) (.var 7)))) [.ret (.cst (.bool false))] []]
theorem b_lw : b_law = bL1 ++ [.forr (.nm 5) .r1 [(.cst (.int 8))] bL2, .forr (.nm 6) .ex [(.var 2)] bL3, .ret (.cst (.bool true))] := rfl
theorem l_1 (n : Nat) (ns : List Int) (S R : List PyData) (hb : callF F G n fi_law_book [.v (.list (ns.map PyData.int)), .v (.int 0)] = .ok ⟨.tuple [.list S, .list R], false, []⟩) : ∃ o3 o4, evSs (callF F G n) G bL1 [some (.list (ns.map PyData.int), .sh), none, none, none, none, none, none, none, none] = .ok (.nx [some (.list (ns.map PyData.int), .sh), some (.tuple [.list S, .list R], .sh), some (.list (.tuple [.list S, .list R] :: .tuple [.list S, .list []] :: LS), .ow), o3, o4, none, none, none, none]) := by
  refine ⟨some (.tuple [.int 0, .int (-1)], .sh), some (.tuple [.int 0, .int 0], .sh), ?_⟩
  generalize ns.map PyData.int = nl at *
  simp [forLoop_nil, forLoop_step, lcLoop_nil, lcLoop_step, M.itemsD.eq_3, bL1, b_law, hb, LS, t00]
def I1 (ns : List Int) (B : PyData) (o3 o4 : Option Slot) (k : Nat) (env : M.Env) : Prop := ∃ (L : List PyData) (o5 : Option Slot), env = [some (.list (ns.map PyData.int), .sh), some (B, .sh), some (.list L, .ow), o3, o4, o5, none, none, none] ∧ L.length ≤ 19 + k ∧ (∀ d ∈ L, Nic 6000010 8 d) ∧ freeS (some o5) = true
theorem turn1 (n : Nat) (ns : List Int) (b : Bk) (hb : BkOk b) (o3 o4 : Option Slot) (k : Nat) (hk : k < 8) (env : M.Env) (h : I1 ns (encB b) o3 o4 k env) : ∃ env', M.forTurn (callF F G (n + 11)) G (.nm 5) bL2 (.int (k : Int)) env = .ok (.nx env') ∧ I1 ns (encB b) o3 o4 (k + 1) env' := by
  obtain ⟨L, o5, rfl, hl, hL, f5⟩ := h
  obtain ⟨x, ex⟩ := e_cellI (n + 9) ns (9 + (k : Int)) (by omega)
  obtain ⟨D, x', eD, hD⟩ := e_bbook (n + 8) b hb x
  have nd := nd_lay hD.lay
  refine ⟨[some (.list (ns.map PyData.int), .sh), some (encB b, .sh), some (.list (L ++ [D]), .ow), o3, o4, some (.int (k : Int), .sh), none, none, none], ?_, _, _, rfl, by simp; omega, m_snoc hL hD, rfl⟩
  have nb : ndB (encB b) = true := rfl
  generalize encB b = B at *
  have l1 : L.length < 16777216 := by omega
  generalize ns.map PyData.int = nl at *
  simp [bL2, f5, ex, eD, nd, nb, l1]
def I2 (s0 s1 s2 o3 o4 o5 : Option Slot) (env : M.Env) : Prop := ∃ o6 o7 o8 : Option Slot, env = [s0, s1, s2, o3, o4, o5, o6, o7, o8] ∧ freeS (some o6) = true ∧ freeS (some o7) = true ∧ freeS (some o8) = true
theorem ne_str (t : PySem.Str) : cmpD .NotEq (.str t) (.str t) = some false := by simp 
theorem turn2 (n : Nat) (s0 s1 s2 o3 o4 o5 : Option Slot) (d : PyData) (hd : Nic 6000010 8 d) (env : M.Env) (h : I2 s0 s1 s2 o3 o4 o5 env) : ∃ env', M.forTurn (callF F G (n + 11)) G (.nm 6) bL3 d env = .ok (.nx env') ∧ I2 s0 s1 s2 o3 o4 o5 env' := by
  obtain ⟨o6, o7, o8, rfl, f6, f7, f8⟩ := h
  have r := blt_repr (reprOk_of hd.1 (by omega) (Nat.le_trans hd.2 (by omega)))
  obtain ⟨g, hg⟩ := g_ex
  have e1 := e_bkD n g hg d hd.lay
  have e2 := e_lbkD (n + 3) g hg d hd.lay (Nat.le_trans hd.2 (by omega))
  have nd := nd_lay hd.lay
  have c : ∀ b : Bool, cmpD .NotEq (.bool b) (.bool b) = some false := fun b => by cases b <;> rfl
  refine ⟨[s0, s1, s2, o3, o4, o5, some (d, .sh), some (.str d.shown, .sh), some (.bool (bkB g d), .sh)], ?_, _, _, _, rfl, rfl, rfl, rfl⟩
  generalize bkB g d = bb at e1 e2
  simp [forLoop_nil, forLoop_step, lcLoop_nil, lcLoop_step, M.itemsD.eq_3, -M.EVS.e326, -M.EVS.e327, bL3, f6, f7, f8, r, e1, e2, c, ne_str, nd]
theorem law_eq (n : Nat) (ns : List Int) : callF F G (n + 12) fi_law [.v (.list (ns.map PyData.int))] = .ok ⟨.bool true, false, []⟩ := by
  rw [callF_at (fn := f_law) rfl rfl (Nat.le_of_ble_eq_true rfl)]
  obtain ⟨b, eb, hb⟩ := e_book (n + 5) ns 0 (by omega)
  have hR := rs_nic hb
  have hS := ss_nic hb
  have lS : (b.signs.map encS).length ≤ 4 := by rw [List.length_map]; exact hb.sg.most
  have lR : (b.rules.map encR).length ≤ 8 := by rw [List.length_map]; exact hb.few
  obtain ⟨o3, o4, e1⟩ := l_1 (n + 11) ns (b.signs.map encS) (b.rules.map encR) eb
  have l0 : ∀ d ∈ (PyData.tuple [.list (b.signs.map encS), .list (b.rules.map encR)] :: .tuple [.list (b.signs.map encS), .list []] :: LS), Nic 6000010 8 d := by
    refine m_cons ?_ (m_cons ?_ LS_nic)
    · exact (nic_tup (k := 2000000) (m := 7) 2 (m_cons ((nic_lst 4 hS lS).le (by omega) (by omega)) (m_cons ((nic_lst 8 hR lR).le (by omega) (by omega)) m_nil)) (by simp)).le (by omega) (by omega)
    · exact (nic_tup (k := 2000000) (m := 7) 2 (m_cons ((nic_lst 4 hS lS).le (by omega) (by omega)) (m_cons ((nic_lst (k := 31) (m := 0) 8 m_nil (by simp)).le (by omega) (by omega)) m_nil)) (by simp)).le (by omega) (by omega)
  show retOf [false] (evSs (callF F G (n + 11)) G b_law [some (.list (ns.map PyData.int), .sh), none, none, none, none, none, none, none, none]) = _
  rw [b_lw, evSs_app, e1, seqS_nx]
  obtain ⟨env1, e2, L, o5, rfl, hl, hL, f5⟩ := for_inv (f := M.forTurn (callF F G (n + 11)) G (.nm 5) bL2) (I1 ns (encB b) o3 o4) ((List.range 8).map fun (i : Nat) => PyData.int (i : Int)) 0 _ ⟨_, none, rfl, by simp [LS], l0, rfl⟩
    (fun i x env hi h => by
      rw [List.getElem?_map] at hi
      obtain ⟨j, hj, rfl⟩ := Option.map_eq_some_iff.mp hi
      obtain ⟨h1, h2⟩ := List.getElem?_eq_some_iff.mp hj
      rw [List.getElem_range] at h2
      subst h2
      rw [List.length_range] at h1
      simp only [Nat.zero_add] at h ⊢
      exact turn1 n ns b hb o3 o4 i h1 env h)
  obtain ⟨env2, e3, o6, o7, o8, rfl, f6, f7, f8⟩ := for_mem (f := M.forTurn (callF F G (n + 11)) G (.nm 6) bL3) (I2 (some (.list (ns.map PyData.int), .sh)) (some (encB b, .sh)) (some (.list L, .ln)) o3 o4 o5) L [some (.list (ns.map PyData.int), .sh), some (encB b, .sh), some (.list L, .ln), o3, o4, o5, none, none, none] ⟨none, none, none, rfl, rfl, rfl, rfl⟩
    (fun d hd env h => turn2 n _ _ _ _ _ _ d (hL d hd) env h)
  have i8 : itemsD .r1 [.int 8] = some ((List.range 8).map fun (i : Nat) => PyData.int (i : Int)) := rfl
  generalize ((List.range 8).map fun (i : Nat) => PyData.int (i : Int)) = l8 at e2 i8
  rw [show encB b = .tuple [.list (b.signs.map encS), .list (b.rules.map encR)] from rfl] at e2 e3
  generalize (.tuple [.list (b.signs.map encS), .list (b.rules.map encR)] : PyData) = B at *
  generalize LS = LL at *
  generalize ns.map PyData.int = nl at *
  simp [i8, e2, e3]
theorem main : rw0.Holds := holds (k := 11) ⟨rfl, by decide, by decide⟩ fun ns _ => law_eq 0 ns
end K07
theorem PySem.Challenge.cw_updownworths_k07_what_is_a_book_holds : PySem.Challenge.rw_updownworths_k07_what_is_a_book.Holds := by
  exact K07.main
