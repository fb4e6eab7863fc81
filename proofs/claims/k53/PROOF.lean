import PyProof.Rows.All
import Wide.All
import OpenK.AllK
import Wide.FinOn
import HandS.ForMost
import HandS.Walk
import HandS.IsInst
import HandS.TupAny
import HandS.TupMul
import HandS.SortInts
import HandS.Zip
import HandS.Style
import HandS.Conv
import HandS.Strs
import HandS.SetFor
import KE.DataMinMax
import KE.DataFind
import KE.SortData
import HandS.Text
import HandS.SortOrd
import KE.GoesZip
import KE.GoesEnum
import KE.KRevSl
import HandS.Star
import HandS.TupSets
import PySem.Challenge.RW_anyshift_k53_distances_and_meeting_once
set_option Elab.async false
set_option linter.all false
set_option maxRecDepth 100000
set_option maxHeartbeats 4000000
/-! MI0: a small interpreter over data: its syntax, its values, its evaluation. -/
namespace MI
open PySem

abbrev D := PyData
/-- a variable: unset, a datum that stands still, a list or dict that this variable alone holds -/
inductive Slot where
  | no
  | dat (d : PyData)
  | own (d : PyData)
abbrev Rho := List Slot

inductive Bop where
  | add | sub | mul | fdiv | mod | pow | shr | band
  deriving DecidableEq
inductive Cop where
  | eq | ne | lt | le | gt | ge | isin | notin
  deriving DecidableEq
/-- built-ins over values -/
inductive Bi where
  | len | all | any | tuple | list | sorted | sum | max1 | min1 | max2 | min2 | repr | str | int | isInt | isBool | isTuple | isStr | isList
  deriving DecidableEq
/-- methods of texts -/
inductive Met where
  | split | part | count
  deriving DecidableEq
/-- targets -/
inductive MT where
  | nm (i : Nat) | tp (ts : MT) | nil | cons (a r : MT)
/-- expressions; lists of them by nil, cons, star -/
inductive ME where
  | lit (d : PyData)
  | var (i : Nat)
  | bin (op : Bop) (a b : ME)
  | neg (a : ME)
  | not (a : ME)
  | and (a b : ME)
  | or (a b : ME)
  | cmp (op : Cop) (a b : ME)
  | cmp2 (op op' : Cop) (a b c : ME)
  | isN (a : ME)
  | notN (a : ME)
  | ite (c a b : ME)
  | call (f : Nat) (as : ME)
  | callF (f : Nat) (a as : ME)
  | callV (f : Nat) (as : ME)
  | callK (f : Nat) (l : List Nat) (as : ME)
  | join (z : Str) (a : ME)
  | bi (b : Bi) (as : ME)
  | idx (a i : ME)
  | sl (a lo hi : ME)
  | tup (as : ME)
  | lst (as : ME)
  | dic
  | dicT
  | comp (vs : List Nat) (tg : MT) (it c e : ME)
  | comp2 (vs vs1 : List Nat) (tg : MT) (it c : ME) (tg1 : MT) (it1 c1 e : ME)
  | rng1 (a : ME) | rng2 (a b : ME) | rng3 (a b c : ME)
  | enm (a : ME) | zp (a b : ME) | zp3 (a b c : ME)
  | cnt (i : Nat) (e : ME) | pop (i : Nat) | popAt (i : Nat) (e : ME)
  | sset (a : ME) | isB (b : Bool) (a : ME) | rev (a : ME) | cv (t : Bool) (it : ME)
  | ix (i : Nat) (e : ME) | nisB (b : Bool) (a : ME) | disp (ks : List Int) (as : ME) | dget (a k e : ME) | lset (a : ME)
  | met (m : Met) (a e : ME) | gget (es : List (Int × Str)) (k e : ME)
  | it (a : ME) | tst (a : ME)
  | nil | cons (a r : ME) | star (a r : ME)
/-- statements; blocks by seq -/
inductive MS where
  | skip
  | seq (s t : MS)
  | asg (tg : MT) (e : ME)
  | par (tg : MT) (es : ME)
  | parS (i : Nat) (f : Option Nat) (a : ME) (j : Nat) (g : Option Nat) (b : ME)
  | put (i : Nat) (k e : ME)
  | put2 (i : Nat) (k : ME) (j : Nat) (es : ME)
  | app (i : Nat) (e : ME)
  | ext (i : Nat) (e : ME)
  | expr (e : ME)
  | ret (e : ME)
  | ite (c : ME) (s t : MS)
  | loop (tg : MT) (it : ME) (s : MS)
  | while (c : ME) (s : MS)
  | asgO (i f : Nat) (as : ME)
  | retO (f : Nat) (as : ME)
  | retT (e : ME)
  | brk | cont
  | stuck

/-! ### values -/
/-- the script: a list that nobody may change -/
def scr (ds : List PyData) : PyData := .dict [(.none, .list ds)]

def ixOf (n : Nat) (i : Int) : Option Nat :=
  if 0 ≤ i then (if i < n then some i.toNat else none)
  else if -(n : Int) ≤ i then some (i + n).toNat else none
/-- where a slice's part falls -/
def cutIx (n d : Nat) : Option Int → Nat
  | none => d
  | some i => if i < 0 then (i + (n : Int)).toNat else min i.toNat n
def cut {α : Type} (xs : List α) (lo hi : Option Int) : List α :=
  let a := cutIx xs.length 0 lo
  let b := cutIx xs.length xs.length hi
  (xs.drop a).take (b - a)

def flat : PyData → Bool
  | .none => true | .bool _ => true | .int _ => true | .str _ => true
  | _ => false
/-- equality of flat values -/
def eqF : PyData → PyData → Bool
  | .none, .none => true
  | .bool a, .bool b => a == b
  | .bool a, .int b => (if a then 1 else 0) == b
  | .int a, .bool b => a == (if b then 1 else 0)
  | .int a, .int b => a == b
  | .str a, .str b => a == b
  | _, _ => false
def isNone : PyData → Bool
  | .none => true
  | _ => false
def isTup : PyData → Bool
  | .tuple _ => true
  | _ => false
/-- the order of two can be asked -/
def ord2 (a b : PyData) : Bool := PySem.W.alike a b && !isNone a && decide (a.depth ≤ 32) && !a.hasDict && !b.hasDict
/-- .. of each two -/
def ordOk (xs : List PyData) : Bool := (xs.all fun a => !isNone a && xs.all fun b => PySem.W.alike a b) && decide (PyData.depthAll xs ≤ 32) && !PyData.hasDictAll xs
def small (i : Int) : Bool := decide (-(2 ^ 64) < i) && decide (i < 2 ^ 64)
def binD : Bop → PyData → PyData → Option (PyData × Bool)
  | .add, .int a, .int b => some (.int (a + b), false)
  | .add, .list a, .list b => if a.length + b.length ≤ sizeLine then some (.list (a ++ b), true) else none
  | .add, .tuple a, .tuple b => if a.length + b.length ≤ sizeLine then some (.tuple (a ++ b), false) else none
  | .add, .str a, .str b => if a.length + b.length ≤ sizeLine then some (.str (a ++ b), false) else none
  | .sub, .int a, .int b => some (.int (a - b), false)
  | .mul, .int a, .int b => if small a || small b then some (.int (a * b), false) else none
  | .mul, .list a, .int k => if -(2 ^ 63) ≤ k ∧ k < 2 ^ 63 ∧ a.length * k.toNat ≤ sizeLine then some (.list (List.replicate k.toNat a).flatten, true) else none
  | .mul, .tuple a, .int k => if a ≠ [] ∧ 2 ≤ k ∧ k ≤ 4000 ∧ a.length ≤ 1000 then some (.tuple (List.replicate k.toNat a).flatten, false) else none
  | .fdiv, .int a, .int b => if 0 < b ∧ b < 1073741824 then some (.int (a / b), false) else none
  | .mod, .int a, .int b => if 0 < b then some (.int (a % b), false) else none
  | .shr, .int a, .int b => if 0 ≤ b then some (.int (a / 2 ^ b.toNat), false) else none
  | .band, .int a, .int b => some (.int (Builtin.bitAnd a b), false)
  | .pow, .int a, .int b => if 0 ≤ b ∧ b ≤ 1000000 ∧ a.natAbs < 2 ^ 64 then some (.int (a ^ b.toNat), false) else none
  | _, _, _ => none
def strsOf : List PyData → Option (List Str)
  | [] => some []
  | .str i :: r => (strsOf r).map (i :: ·)
  | _ :: _ => none
/-- in another order -/
def permL {α : Type} (l : List Nat) (xs : List α) : List α := l.filterMap (fun i => xs[i]?)
/-- a text stands in another -/
def isSub (x y : Str) : Bool := !(Builtin.Str.occurrences y x 0 y.length 1).isEmpty
def intsOf : List PyData → Option (List Int)
  | [] => some []
  | .int i :: r => (intsOf r).map (i :: ·)
  | _ :: _ => none
def lay : PyData → Bool := SeqAt.shaped
/-- keys of dicts: ints and texts -/
def isKey : PyData → Bool
  | .int _ => true
  | .str _ => true
  | _ => false
def eqK : PyData → PyData → Bool
  | .int a, .int b => decide (a = b)
  | .str a, .str b => decide (a = b)
  | _, _ => false
/-- keys that are tuples of ints -/
def tupI : PyData → Option (List Int)
  | .tuple xs => intsOf xs
  | _ => none
/-- a dict with such keys begins with this -/
def tMark : PyData × PyData := (.list [], .none)
def tGet (es : List (PyData × PyData)) (k : List Int) : Option PyData := (es.find? fun p => decide (tupI p.1 = some k)).map (·.2)
def tPut (es : List (PyData × PyData)) (k : List Int) (v : PyData) : List (PyData × PyData) :=
  if (es.any fun p => decide (tupI p.1 = some k)) = true then es.map (fun p => if tupI p.1 = some k then (p.1, v) else p) else es ++ [(.tuple (k.map .int), v)]
def isScr : List (PyData × PyData) → Bool
  | (.none, _) :: _ => true
  | (.list _, _) :: _ => true
  | _ => false
def dGet (es : List (PyData × PyData)) (k : PyData) : Option PyData := (es.find? fun p => eqK p.1 k).map (·.2)
/-- a dict with keys that are ints and texts -/
def isDK : PyData → Bool
  | .dict es => !isScr es
  | _ => false
def getD : PyData → PyData → PyData → Option PyData
  | .dict es, k, e => if isKey k && !isScr es then some ((dGet es k).getD e) else none
  | _, _, _ => none
def dPut (es : List (PyData × PyData)) (k v : PyData) : List (PyData × PyData) :=
  if (es.any fun p => eqK p.1 k) = true then es.map (fun p => if eqK p.1 k then (p.1, v) else p) else es ++ [(k, v)]
def inD (x : PyData) (ys : List PyData) : Option Bool := if flat x && ys.all flat then some (ys.any fun y => eqF y x)
  else if !x.hasDict && !PyData.hasDictAll ys && decide (x.depth ≤ 32) then some (ys.any fun y => PyData.eqv y x) else none
def cmpD : Cop → PyData → PyData → Option Bool
  | .eq, .int a, .int b => some (decide (a = b))
  | .eq, .str a, .str b => some (decide (a = b))
  | .ne, .int a, .int b => some (!decide (a = b))
  | .ne, .str a, .str b => some (!decide (a = b))
  | .eq, a, b => if lay a && lay b then some (PyData.eqv a b) else none
  | .ne, a, b => if lay a && lay b then some (!PyData.eqv a b) else none
  | .lt, .int a, .int b => some (decide (a < b))
  | .le, .int a, .int b => some (decide (a ≤ b))
  | .gt, .int a, .int b => some (decide (b < a))
  | .ge, .int a, .int b => some (decide (b ≤ a))
  | .lt, a, b => if ord2 a b then some (PySem.W.dataLt a b) else none
  | .le, a, b => if ord2 a b then some (!PySem.W.dataLt b a) else none
  | .gt, a, b => if ord2 a b then some (PySem.W.dataLt b a) else none
  | .ge, a, b => if ord2 a b then some (!PySem.W.dataLt a b) else none
  | .isin, .str x, .str y => some (isSub x y)
  | .isin, x, .list ys => inD x ys
  | .isin, x, .tuple ys => inD x ys
  | .isin, x, .dict ((.list [], .none) :: es) => (tupI x).map fun k => (tGet es k).isSome
  | .notin, x, .dict ((.list [], .none) :: es) => (tupI x).map fun k => !(tGet es k).isSome
  | .isin, x, .dict es => if isKey x && !isScr es then some (dGet es x).isSome else none
  | .notin, x, .dict es => if isKey x && !isScr es then some (!(dGet es x).isSome) else none
  | .notin, x, .list ys => (inD x ys).map (!·)
  | .notin, x, .tuple ys => (inD x ys).map (!·)
  | _, _, _ => none
def idxD : PyData → PyData → Option PyData
  | .list xs, .int i => (ixOf xs.length i).bind (xs[·]?)
  | .tuple xs, .int i => (ixOf xs.length i).bind (xs[·]?)
  | .dict [(.none, .list xs)], .int i => (ixOf xs.length i).bind (xs[·]?)
  | .str z, .int i => if z.length ≤ sizeLine then ((ixOf z.cps.toList.length i).bind (z.cps.toList[·]?)).map fun c => .str ⟨#[c]⟩ else none
  | _, _ => none
def partD : Option PyData → Option (Option Int)
  | none => some none
  | some (.int i) => some (some i)
  | _ => none
def slD : PyData → Option Int → Option Int → Option (PyData × Bool)
  | .list xs, lo, hi => some (.list (cut xs lo hi), true)
  | .dict [(.none, .list xs)], lo, hi => some (.list (cut xs lo hi), true)
  | .tuple xs, lo, hi => some (.tuple (cut xs lo hi), false)
  | .str z, lo, hi => if z.length ≤ sizeLine then some (.str ⟨(cut z.cps.toList lo hi).toArray⟩, false) else none
  | _, _, _ => none
def boolsOf : List PyData → Option (List Bool)
  | [] => some []
  | .bool b :: r => (boolsOf r).map (b :: ·)
  | _ :: _ => none
def starOf : PyData → Option (List PyData)
  | .list xs => some xs
  | .tuple xs => some xs
  | _ => none
/-- what is walked over: a list, a tuple, a text -/
def seqOf : PyData → Option (List PyData)
  | .list xs => some xs
  | .tuple xs => some xs
  | .str z => some (z.cps.toList.map fun c => .str ⟨#[c]⟩)
  | _ => none
/-- a text's method with a text -/
def metD : Met → PyData → PyData → Option (PyData × Bool)
  | .split, .str a, .str b => if b.length ≠ 0 ∧ a.length + 2 ≤ sizeLine then some (.list ((Txt.split a b).map .str), true) else none
  | .part, .str a, .str b => if b.length ≠ 0 ∧ a.length ≤ sizeLine then some (.tuple [.str (Txt.partition a b).1, .str (Txt.partition a b).2.1, .str (Txt.partition a b).2.2], false) else none
  | .count, .str a, .str b => some (.int (Txt.count a b), false)
  | _, _, _ => none
def ggetD (es : List (Int × Str)) : PyData → PyData → Option PyData
  | .int i, e => some (((es.lookup i).map PyData.str).getD e)
  | _, _ => none
def insI (x : Int) : List Int → List Int
  | [] => [x]
  | y :: r => if x ≤ y then x :: y :: r else y :: insI x r
def sortI : List Int → List Int
  | [] => []
  | x :: r => insI x (sortI r)
/-- in order, each once -/
def insU (x : Int) : List Int → List Int
  | [] => [x]
  | y :: r => if x < y then x :: y :: r else if x = y then y :: r else y :: insU x r
def setI : List Int → List Int
  | [] => []
  | x :: r => insU x (setI r)
mutual
/-- without lists; the keys of dicts are ints and texts -/
def dOk : PyData → Bool
  | .list _ => false
  | .tuple xs => dOkAll xs
  | .dict es => dOkKv es
  | _ => true
def dOkAll : List PyData → Bool
  | [] => true
  | x :: r => dOk x && dOkAll r
def dOkKv : List (PyData × PyData) → Bool
  | [] => true
  | (k, x) :: r => isKey k && dOk x && dOkKv r
end
/-- of what repr can be told: data without dicts, or with dicts and no lists, not too deep, not too long -/
def shows (d : PyData) : Bool := d.showable && (!d.hasDict || dOk d) && decide (d.depth ≤ 64) && decide (d.shown.length ≤ sizeLine)
/-- isinstance -/
def isaD : Bi → PyData → Option Bool
  | _, .dict ((.none, _) :: _) => none
  | _, .dict ((.list _, _) :: _) => none
  | .isInt, .int _ => some true
  | .isInt, .bool _ => some true
  | .isBool, .bool _ => some true
  | .isTuple, .tuple _ => some true
  | .isStr, .str _ => some true
  | .isList, .list _ => some true
  | _, _ => some false
def tyOf : Bi → Option String
  | .isInt => some "int" | .isBool => some "bool" | .isTuple => some "tuple" | .isStr => some "str" | .isList => some "list"
  | _ => none
/-- tuples that are not empty, in an order -/
def rowsB : List PyData → Bool
  | [] => false
  | x :: r => ordOk (x :: r) && (x :: r).all fun d => match d with | .tuple (_ :: _) => true | _ => false
def biD : Bi → List PyData → Option (PyData × Bool)
  | .len, [.list xs] => some (.int xs.length, false)
  | .len, [.tuple xs] => some (.int xs.length, false)
  | .len, [.dict [(.none, .list xs)]] => some (.int xs.length, false)
  | .len, [.str z] => if z.length ≤ sizeLine then some (.int z.length, false) else none
  | .all, [.list xs] => (boolsOf xs).map fun bs => (.bool (bs.all id), false)
  | .any, [.list xs] => (boolsOf xs).map fun bs => (.bool (bs.any id), false)
  | .tuple, [.list xs] => some (.tuple xs, false)
  | .tuple, [.tuple xs] => some (.tuple xs, false)
  | .list, [.list xs] => some (.list xs, true)
  | .list, [.tuple xs] => some (.list xs, true)
  | .list, [.dict ((.list [], .none) :: es)] => some (.list (es.map (·.1)), true)
  | .sum, [.list xs] => (intsOf xs).map fun ns => (.int ns.sum, false)
  | .sum, [.tuple xs] => (intsOf xs).map fun ns => (.int ns.sum, false)
  | .max1, [.list (x :: r)] => if ordOk (x :: r) then some (PySem.W.maxD x r, false) else none
  | .max1, [.tuple (x :: r)] => if ordOk (x :: r) then some (PySem.W.maxD x r, false) else none
  | .min1, [.list (x :: r)] => if ordOk (x :: r) then some (PySem.W.minD x r, false) else none
  | .min1, [.tuple (x :: r)] => if ordOk (x :: r) then some (PySem.W.minD x r, false) else none
  | .max2, [.int a, .int b] => some (.int (if b > a then b else a), false)
  | .min2, [.int a, .int b] => some (.int (if b < a then b else a), false)
  | .sorted, [.list xs] => if rowsB xs then some (.list (xs.mergeSort (PySem.W.dataLe false id)), true) else (intsOf xs).map fun ns => (.list ((sortI ns).map .int), true)
  | .sorted, [.tuple xs] => (intsOf xs).map fun ns => (.list ((sortI ns).map .int), true)
  | .repr, [d] => if shows d then some (.str d.shown, false) else none
  | .str, [.int i] => if i.natAbs.log2 < 1920 then some (.str (Str.ofString (toString i)), false) else none
  | .str, [.tuple xs] => if shows (.tuple xs) then some (.str (PyData.tuple xs).shown, false) else none
  | .str, [.list xs] => if shows (.list xs) then some (.str (PyData.list xs).shown, false) else none
  | .str, [.none] => some (.str PyData.none.shown, false)
  | .str, [.bool b] => some (.str (PyData.bool b).shown, false)
  | .str, [.str z] => some (.str z, false)
  | .int, [.int i] => some (.int i, false)
  | .int, [.bool b] => some (.int (if b then 1 else 0), false)
  | .int, [.str z] => if z.length ≤ 640 then (PySem.intText? z).map fun i => (.int i, false) else none
  | .isInt, [d] => (isaD .isInt d).map fun b => (.bool b, false)
  | .isBool, [d] => (isaD .isBool d).map fun b => (.bool b, false)
  | .isTuple, [d] => (isaD .isTuple d).map fun b => (.bool b, false)
  | .isStr, [d] => (isaD .isStr d).map fun b => (.bool b, false)
  | .isList, [d] => (isaD .isList d).map fun b => (.bool b, false)
  | _, _ => none
def truthD : PyData → Option Bool
  | .bool b => some b
  | .none => some false
  | .int i => some (i != 0)
  | .list xs => some (!xs.isEmpty)
  | .tuple xs => some (!xs.isEmpty)
  | _ => none
/-- a range's items -/
def rangeD (lo hi : Int) : List PyData := (List.range (hi - lo).toNat).map fun (k : Nat) => PyData.int (lo + (k : Int))
/-- a range by steps: its items -/
def rangeC (lo hi c : Int) : List PyData := (List.range ((hi - lo + c - 1) / c).toNat).map fun (k : Nat) => PyData.int (lo + (k : Int) * c)
def cntD (xs : List PyData) (d : PyData) : Option PyData := if flat d && xs.all flat then some (.int (xs.countP fun y => PyData.eqv y d : Nat)) else none
/-- the first place of an int among ints -/
def ixD (xs : List PyData) (d : PyData) : Option PyData := match d, intsOf xs with
  | .int a, some ns => (ns.findIdx? fun y => decide (y = a)).map fun j => .int (j : Nat)
  | _, _ => none
def lineI (i : Int) : Bool := decide (-(2 ^ 62) ≤ i) && decide (i < 2 ^ 62)

/-! ### variables -/
def Slot.get : Slot → Option PyData
  | .dat d => some d
  | .own d => some d
  | .no => none
/-- a variable whose items can be counted: a list, or a tuple of one's own -/
def cntK : Option Slot → Option Bool
  | some (.own (.list _)) => some true
  | some (.own (.tuple _)) => some false
  | some (.dat (.list _)) => some true
  | _ => none
def seqS : Option Slot → Option (List PyData)
  | some (.own (.list xs)) => some xs
  | some (.own (.tuple xs)) => some xs
  | some (.dat (.list xs)) => some xs
  | _ => none
def isOwnL : Option Slot → Bool
  | some (.own (.list _)) => true
  | _ => false
def getR (ρ : Rho) (i : Nat) : Option PyData := (ρ[i]?).bind Slot.get
/-- read as a value: whatever it holds stands still from now on -/
def rdVar (ρ : Rho) (i : Nat) : Option (PyData × Bool × Rho) :=
  match ρ[i]? with
  | some (.dat d) => some (d, false, ρ)
  | some (.own (.tuple xs)) => some (.tuple xs, false, ρ)
  | some (.own d) => some (d, false, ρ.set i (.dat d))
  | _ => none
mutual
def bindT : MT → PyData → Rho → Option Rho
  | .nm i, d, ρ => some (ρ.set i (.dat d))
  | .tp ts, .tuple ds, ρ => bindTs ts ds ρ
  | _, _, _ => none
def bindTs : MT → List PyData → Rho → Option Rho
  | .nil, [], ρ => some ρ
  | .cons a r, d :: ds, ρ => (bindT a d ρ).bind (bindTs r ds)
  | _, _, _ => none
end
def wipeR (ρ : Rho) : List Nat → Rho
  | [] => ρ
  | v :: vs => (wipeR ρ vs).set v .no
/-- an operand that is only looked at: a value, or a variable's own list as it stands when it is looked at -/
inductive Bor where
  | v (d : PyData)
  | r (i : Nat)
def Bor.get (ρ : Rho) : Bor → Option PyData
  | .v d => some d
  | .r i => getR ρ i
def bor (ev : Rho → Option (PyData × Bool × Rho)) (m : ME) (ρ : Rho) : Option (Bor × Rho) :=
  match m with
  | .var i => match ρ[i]? with
    | some (.own (.tuple xs)) => some (.v (.tuple xs), ρ)
    | some (.own _) => some (.r i, ρ)
    | some (.dat d) => some (.v d, ρ)
    | _ => none
  | _ => (ev ρ).map fun (d, _, ρ') => (.v d, ρ')
def getAll (ρ : Rho) : List Bor → Option (List PyData)
  | [] => some []
  | b :: r => (b.get ρ).bind fun d => (getAll ρ r).map (d :: ·)

/-! ### calls -/
/-- an argument of a call: a datum, or a list that the callee may change -/
abbrev Arg := PyData × Bool
/-- a callee: the answer, whether it is new, the parameters behind the call -/
abbrev Fns := Nat → List Arg → Option (PyData × Bool × List Slot)
/-- the operands as arguments; a variable's own list is lent, once -/
def lend (ρ : Rho) : List Bor → Option (List Arg × Rho)
  | [] => some ([], ρ)
  | .v d :: r => (lend ρ r).map fun (as, ρ') => ((d, false) :: as, ρ')
  | .r i :: r => match ρ[i]? with
    | some (.own d) => (lend (ρ.set i .no) r).map fun (as, ρ') => ((d, true) :: as, ρ')
    | some (.dat d) => (lend ρ r).map fun (as, ρ') => ((d, false) :: as, ρ')
    | _ => none
/-- what was lent comes back -/
def back (ρ : Rho) : List Bor → List Arg → List Slot → Option Rho
  | [], _, _ => some ρ
  | .r i :: r, (_, true) :: as, s :: ss => back (ρ.set i s) r as ss
  | _ :: r, (_, false) :: as, _ :: ss => back ρ r as ss
  | _, _, _ => none

/-! ### expressions -/
/-- the turns of a comprehension -/
def turns (tg : MT) (ev : Rho → List PyData → Option (Rho × List PyData)) (vs : List Nat) : List PyData → Rho → List PyData → Option (Rho × List PyData)
  | [], ρ, acc => some (ρ, acc)
  | d :: ds, ρ, acc => (bindT tg d ρ).bind fun ρ1 => (ev ρ1 acc).bind fun (ρ2, acc2) => turns tg ev vs ds (wipeR ρ2 vs) acc2
mutual
def evE (F : Fns) : ME → Rho → Option (PyData × Bool × Rho)
  | .lit d, ρ => some (d, false, ρ)
  | .var i, ρ => rdVar ρ i
  | .bin op a b, ρ => (bor (evE F a) a ρ).bind fun (x, ρ1) => (bor (evE F b) b ρ1).bind fun (y, ρ2) =>
      (x.get ρ2).bind fun d => (y.get ρ2).bind fun e => (binD op d e).map fun (z, fr) => (z, fr, ρ2)
  | .neg a, ρ => (evE F a ρ).bind fun (d, _, ρ1) => match d with | .int i => some (.int (-i), false, ρ1) | _ => none
  | .not a, ρ => (evE F a ρ).bind fun (d, _, ρ1) => match d with | .bool b => some (.bool (!b), false, ρ1) | _ => none
  | .and a b, ρ => (evE F a ρ).bind fun (d, _, ρ1) => match d with | .bool true => evE F b ρ1 | .bool false => some (.bool false, false, ρ1) | _ => none
  | .or a b, ρ => (evE F a ρ).bind fun (d, _, ρ1) => match d with | .bool false => evE F b ρ1 | .bool true => some (.bool true, false, ρ1) | _ => none
  | .cmp op a b, ρ => (bor (evE F a) a ρ).bind fun (x, ρ1) => (bor (evE F b) b ρ1).bind fun (y, ρ2) =>
      (x.get ρ2).bind fun d => (y.get ρ2).bind fun e => (cmpD op d e).map fun z => (.bool z, false, ρ2)
  | .cmp2 op op' a b c, ρ => (bor (evE F a) a ρ).bind fun (x, ρ1) => (bor (evE F b) b ρ1).bind fun (y, ρ2) =>
      (x.get ρ2).bind fun d => (y.get ρ2).bind fun e => (cmpD op d e).bind fun z =>
        if z then (bor (evE F c) c ρ2).bind fun (w, ρ3) => (y.get ρ3).bind fun e3 => (w.get ρ3).bind fun f => (cmpD op' e3 f).map fun z' => (.bool z', false, ρ3)
        else some (.bool false, false, ρ2)
  | .isN a, ρ => (bor (evE F a) a ρ).bind fun (x, ρ1) => (x.get ρ1).map fun d => (.bool (isNone d), false, ρ1)
  | .notN a, ρ => (bor (evE F a) a ρ).bind fun (x, ρ1) => (x.get ρ1).map fun d => (.bool (!isNone d), false, ρ1)
  | .ite c a b, ρ => (evT F c ρ).bind fun (t, ρ1) => if t then evE F a ρ1 else evE F b ρ1
  | .call f as, ρ => (evL F as ρ).bind fun (bs, ρ1) => (lend ρ1 bs).bind fun (args, ρ2) => (F f args).bind fun (d, fr, ss) => (back ρ2 bs args ss).map fun ρ3 => (d, fr, ρ3)
  | .callF f a as, ρ => (evE F a ρ).bind fun (d, fr, ρ0) => if fr then (evL F as ρ0).bind fun (bs, ρ1) => (lend ρ1 bs).bind fun (args, ρ2) =>
      if args.all (fun x => !x.2) then (F f ((d, true) :: args)).bind fun (r, fr2, _) => if fr2 && isTup r then none else some (r, fr2, ρ2) else none else none
  | .callV f as, ρ => (evL F as ρ).bind fun (bs, ρ1) => (getAll ρ1 bs).bind fun ds => (F f (ds.map fun d => (d, false))).bind fun (d, fr, _) => if flat d && !fr then some (d, false, ρ1) else none
  | .callK f l as, ρ => (evA F as ρ).bind fun (ds, ρ1) => if ds.length = l.length then (F f ((permL l ds).map fun d => (d, false))).bind fun (d, fr, _) => if fr then none else some (d, false, ρ1) else none
  | .join z a, ρ => (bor (evE F a) a ρ).bind fun (x, ρ1) => (x.get ρ1).bind fun d => match d with
      | .list xs => (strsOf xs).bind fun ys => if (ys.map (·.length)).sum + ys.length * z.length ≤ 16777216 then some (.str (PySem.Str.join z ys), false, ρ1) else none
      | _ => none
  | .bi b as, ρ => (evL F as ρ).bind fun (bs, ρ1) => (getAll ρ1 bs).bind fun ds => (biD b ds).map fun (d, fr) => (d, fr, ρ1)
  | .idx a i, ρ => (bor (evE F a) a ρ).bind fun (x, ρ1) => (evE F i ρ1).bind fun (k, _, ρ2) => (x.get ρ2).bind fun d => (idxD d k).map fun z => (z, false, ρ2)
  | .sl a lo hi, ρ => (bor (evE F a) a ρ).bind fun (x, ρ1) => (evO F lo ρ1).bind fun (l, ρ2) => (evO F hi ρ2).bind fun (h, ρ3) => (x.get ρ3).bind fun d => (slD d l h).map fun (z, fr) => (z, fr, ρ3)
  | .tup as, ρ => (evA F as ρ).bind fun (ds, ρ1) => if ds.length ≤ sizeLine then some (.tuple ds, false, ρ1) else none
  | .lst as, ρ => (evA F as ρ).bind fun (ds, ρ1) => if ds.length ≤ sizeLine then some (.list ds, true, ρ1) else none
  | .dic, ρ => some (.dict [], true, ρ)
  | .dicT, ρ => some (.dict [tMark], true, ρ)
  | .disp ks as, ρ => (evA F as ρ).bind fun (ds, ρ1) => if ds.length = ks.length then some (.dict ((ks.zip ds).foldl (fun acc p => dPut acc (.int p.1) p.2) []), true, ρ1) else none
  | .dget a k e, ρ => (bor (evE F a) a ρ).bind fun (x, ρ1) => (x.get ρ1).bind fun d1 => if isDK d1 then (evE F k ρ1).bind fun (kd, _, ρ2) => (evE F e ρ2).bind fun (ed, _, ρ3) => (x.get ρ3).bind fun d => (getD d kd ed).map fun z => (z, false, ρ3) else none
  | .lset a, ρ => (bor (evE F a) a ρ).bind fun (x, ρ1) => (x.get ρ1).bind fun d => match d with
      | .list xs => (intsOf xs).bind fun ns => if ns.length < 64 ∧ ns.Nodup then some (.int ns.length, false, ρ1) else none
      | _ => none
  | .met m a e, ρ => (evE F a ρ).bind fun (d, _, ρ1) => (evE F e ρ1).bind fun (z, _, ρ2) => (metD m d z).map fun (r, fr) => (r, fr, ρ2)
  | .gget es k e, ρ => (evE F k ρ).bind fun (kd, _, ρ1) => (evE F e ρ1).bind fun (ed, _, ρ2) => (ggetD es kd ed).map fun z => (z, false, ρ2)
  | .cnt i e, ρ => (cntK ρ[i]?).bind fun k => (evE F e ρ).bind fun (d, _, ρ1) => if cntK ρ1[i]? = some k then (seqS ρ1[i]?).bind fun xs => (cntD xs d).map fun z => (z, false, ρ1) else none
  | .pop i, ρ => match ρ[i]? with
      | some (.own (.list xs)) => (xs[xs.length - 1]?).map fun d => (d, false, ρ.set i (.own (.list xs.dropLast)))
      | _ => none
  | .popAt i e, ρ => if isOwnL ρ[i]? then (evE F e ρ).bind fun (d, _, ρ1) => match d, ρ1[i]? with
      | .int k, some (.own (.list xs)) => if lineI k then (ixOf xs.length k).bind fun j => (xs[j]?).map fun z => (z, false, ρ1.set i (.own (.list (xs.eraseIdx j)))) else none
      | _, _ => none
    else none
  | .sset a, ρ => (bor (evE F a) a ρ).bind fun (x, ρ1) => (x.get ρ1).bind fun d => match d with
      | .list xs => (intsOf xs).bind fun ns => if ns.length < 4000 ∧ (setI ns).length < 64 then some (.list ((setI ns).map .int), true, ρ1) else none
      | .tuple xs => (intsOf xs).bind fun ns => if ns.length < 4000 ∧ (setI ns).length < 64 then some (.list ((setI ns).map .int), true, ρ1) else none
      | _ => none
  | .isB b a, ρ => (evE F a ρ).bind fun (d, _, ρ1) => match d with | .bool t => some (.bool (decide (t = b)), false, ρ1) | _ => none
  | .rev a, ρ => (bor (evE F a) a ρ).bind fun (x, ρ1) => (x.get ρ1).bind fun d => match d with
      | .list xs => some (.list xs.reverse, true, ρ1)
      | .tuple xs => some (.tuple xs.reverse, false, ρ1)
      | _ => none
  | .ix i e, ρ => if cntK ρ[i]? = some true then (evE F e ρ).bind fun (d, _, ρ1) => if cntK ρ1[i]? = some true then (seqS ρ1[i]?).bind fun xs => (ixD xs d).map fun z => (z, false, ρ1) else none else none
  | .nisB b a, ρ => (evE F a ρ).bind fun (d, _, ρ1) => match d with | .bool t => some (.bool (!decide (t = b)), false, ρ1) | _ => none
  | .cv t it, ρ => (evI F it ρ).bind fun (ds, ρ1) => if ds.length ≤ 65536 then (if t then some (.tuple ds, false, ρ1) else some (.list ds, true, ρ1)) else none
  | .comp vs tg it c e, ρ => (evI F it ρ).bind fun (ds, ρ1) =>
      (turns tg (fun ρ acc => (evT F c ρ).bind fun (t, ρ2) => if t then (evE F e ρ2).bind fun (d, _, ρ3) => if acc.length < sizeLine then some (ρ3, acc ++ [d]) else none else some (ρ2, acc)) vs ds (wipeR ρ1 vs) []).map
        fun (ρ4, acc) => (.list acc, true, ρ4)
  | .comp2 vs vs1 tg it c tg1 it1 c1 e, ρ => (evI F it ρ).bind fun (ds, ρ1) =>
      (turns tg (fun ρ acc => (evT F c ρ).bind fun (t, ρ2) => if t then (evI F it1 ρ2).bind fun (ds1, ρ3) =>
          turns tg1 (fun ρ acc => (evT F c1 ρ).bind fun (t, ρ2) => if t then (evE F e ρ2).bind fun (d, _, ρ3) => if acc.length < sizeLine then some (ρ3, acc ++ [d]) else none else some (ρ2, acc)) vs1 ds1 (wipeR ρ3 vs1) acc
        else some (ρ2, acc)) vs ds (wipeR ρ1 vs) []).map
        fun (ρ4, acc) => (.list acc, true, ρ4)
  | _, _ => none
def evT (F : Fns) : ME → Rho → Option (Bool × Rho)
  | .not a, ρ => (evT F a ρ).map fun (b, ρ1) => (!b, ρ1)
  | .and a b, ρ => (evT F a ρ).bind fun (t, ρ1) => if t then evT F b ρ1 else some (false, ρ1)
  | .or a b, ρ => (evT F a ρ).bind fun (t, ρ1) => if t then some (true, ρ1) else evT F b ρ1
  | .nil, ρ => some (true, ρ)
  | .tst a, ρ => (bor (evE F a) a ρ).bind fun (x, ρ1) => (x.get ρ1).bind fun d => (truthD d).map fun b => (b, ρ1)
  | _, _ => none
/-- operands, looked at -/
def evL (F : Fns) : ME → Rho → Option (List Bor × Rho)
  | .nil, ρ => some ([], ρ)
  | .cons a r, ρ => (bor (evE F a) a ρ).bind fun (x, ρ1) => (evL F r ρ1).map fun (xs, ρ2) => (x :: xs, ρ2)
  | _, _ => none
/-- the parts of a display -/
def evA (F : Fns) : ME → Rho → Option (List PyData × Rho)
  | .nil, ρ => some ([], ρ)
  | .cons a r, ρ => (evE F a ρ).bind fun (d, _, ρ1) => (evA F r ρ1).map fun (ds, ρ2) => (d :: ds, ρ2)
  | .star a r, ρ => (evE F a ρ).bind fun (d, _, ρ1) => (starOf d).bind fun es => (evA F r ρ1).map fun (ds, ρ2) => (es ++ ds, ρ2)
  | _, _ => none
/-- a part of a slice -/
def evO (F : Fns) : ME → Rho → Option (Option Int × Rho)
  | .nil, ρ => some (none, ρ)
  | .cons a _, ρ => (evE F a ρ).bind fun (d, _, ρ1) => match d with | .int i => some (some i, ρ1) | _ => none
  | _, _ => none
/-- what is walked over -/
def evI (F : Fns) : ME → Rho → Option (List PyData × Rho)
  | .rng1 a, ρ => (evE F a ρ).bind fun (d, _, ρ1) => match d with | .int i => if lineI i then some (rangeD 0 i, ρ1) else none | _ => none
  | .rng2 a b, ρ => (evE F a ρ).bind fun (d, _, ρ1) => (evE F b ρ1).bind fun (e, _, ρ2) => match d, e with | .int i, .int j => if lineI i && lineI j then some (rangeD i j, ρ2) else none | _, _ => none
  | .zp a b, ρ => (evE F a ρ).bind fun (d, _, ρ1) => (evE F b ρ1).bind fun (e, _, ρ2) => match d, e with
      | .list xs, .list ys => some ((xs.zip ys).map fun p => .tuple [p.1, p.2], ρ2)
      | .tuple xs, .tuple ys => some ((xs.zip ys).map fun p => .tuple [p.1, p.2], ρ2)
      | .tuple xs, .list ys => some ((xs.zip ys).map fun p => .tuple [p.1, p.2], ρ2)
      | _, _ => none
  | .enm a, ρ => (evE F a ρ).bind fun (d, _, ρ1) => match d with
      | .list xs => some (xs.zipIdx.map fun p => .tuple [.int p.2, p.1], ρ1)
      | .tuple xs => some (xs.zipIdx.map fun p => .tuple [.int p.2, p.1], ρ1)
      | _ => none
  | .rng3 a b c, ρ => (evE F a ρ).bind fun (d, _, ρ1) => (evE F b ρ1).bind fun (e, _, ρ2) => (evE F c ρ2).bind fun (f, _, ρ3) => match d, e, f with
      | .int i, .int j, .int k => if lineI i && lineI j && decide (0 < k) && decide (k < 1000000) then some (rangeC i j k, ρ3) else none
      | _, _, _ => none
  | .zp3 a b c, ρ => (evE F a ρ).bind fun (d, _, ρ1) => (evE F b ρ1).bind fun (e, _, ρ2) => (evE F c ρ2).bind fun (f, _, ρ3) => match d, e, f with
      | .tuple xs, .tuple ys, .tuple zs => some (((xs.zip ys).zip zs).map fun p => .tuple [p.1.1, p.1.2, p.2], ρ3)
      | _, _, _ => none
  | .it a, ρ => (evE F a ρ).bind fun (d, _, ρ1) => (seqOf d).map fun xs => (xs, ρ1)
  | _, _ => none
end

/-! ### statements -/
/-- how a block ends -/
inductive Out where
  | nx (ρ : Rho)
  | bk (ρ : Rho)
  | ct (ρ : Rho)
  | rt (d : PyData) (fr : Bool) (ρ : Rho)
/-- what a fresh or a standing value makes of a variable -/
def slotOf (d : PyData) : Bool → Slot
  | true => .own d
  | false => .dat d
/-- several values, each with whether it is new -/
def evP (F : Fns) : ME → Rho → Option (List (PyData × Bool) × Rho)
  | .nil, ρ => some ([], ρ)
  | .cons a r, ρ => (evE F a ρ).bind fun (d, fr, ρ1) => (evP F r ρ1).map fun (ds, ρ2) => ((d, fr) :: ds, ρ2)
  | _, _ => none
/-- a value, or a call that may give out a tuple of one's own -/
def evU (F : Fns) : Option Nat → ME → Rho → Option (PyData × Bool × Rho)
  | none, e, ρ => evE F e ρ
  | some f, as, ρ => (evL F as ρ).bind fun (bs, ρ1) => (lend ρ1 bs).bind fun (args, ρ2) => (F f args).bind fun (d, fr, ss) => (back ρ2 bs args ss).map fun ρ3 => (d, fr, ρ3)
def bindP : MT → List (PyData × Bool) → Rho → Option Rho
  | .nil, [], ρ => some ρ
  | .cons (.nm i) r, (d, fr) :: ds, ρ => bindP r ds (ρ.set i (slotOf d fr))
  | .cons t r, (d, _) :: ds, ρ => (bindT t d ρ).bind (bindP r ds)
  | _, _, _ => none
def setT : MT → PyData → Bool → Rho → Option Rho
  | .nm i, d, fr, ρ => some (ρ.set i (slotOf d fr))
  | t, d, _, ρ => bindT t d ρ
/-- var[k] = d -/
def putD : PyData → PyData → PyData → Option PyData
  | .list xs, .int i, d => (ixOf xs.length i).map fun j => .list (xs.set j d)
  | .dict ((.list [], .none) :: es), k, d => (tupI k).bind fun ks => if es.length < sizeLine then some (.dict (tMark :: tPut es ks d)) else none
  | .dict es, k, d => if isKey k && !isScr es && decide (es.length < sizeLine) then some (.dict (dPut es k d)) else none
  | _, _, _ => none
def isOwn : Option Slot → Bool
  | some (.own _) => true
  | _ => false
def loopS (tg : MT) (ev : Rho → Option Out) : List PyData → Rho → Option Out
  | [], ρ => some (.nx ρ)
  | d :: ds, ρ => (bindT tg d ρ).bind fun ρ1 => (ev ρ1).bind fun o => match o with
    | .nx ρ2 => loopS tg ev ds ρ2
    | .ct ρ2 => loopS tg ev ds ρ2
    | .bk ρ2 => some (.nx ρ2)
    | .rt d fr ρ2 => some (.rt d fr ρ2)
def whileS (c : Rho → Option (Bool × Rho)) (ev : Rho → Option Out) : Nat → Rho → Option Out
  | 0, _ => none
  | n + 1, ρ => (c ρ).bind fun (t, ρ1) => if t then (ev ρ1).bind fun o => match o with
    | .nx ρ2 => whileS c ev n ρ2
    | .ct ρ2 => whileS c ev n ρ2
    | .bk ρ2 => some (.nx ρ2)
    | .rt d fr ρ2 => some (.rt d fr ρ2)
    else some (.nx ρ1)
def evS (F : Fns) (W : Nat) : MS → Rho → Option Out
  | .skip, ρ => some (.nx ρ)
  | .seq s t, ρ => (evS F W s ρ).bind fun o => match o with
    | .nx ρ1 => evS F W t ρ1
    | o => some o
  | .asg tg e, ρ => (evE F e ρ).bind fun (d, fr, ρ1) => (setT tg d fr ρ1).map .nx
  | .par tg es, ρ => (evP F es ρ).bind fun (ds, ρ1) => (bindP tg ds ρ1).map .nx
  | .parS i f a j g b, ρ => (evU F f a ρ).bind fun (d, fr, ρ1) => (evU F g b ρ1).map fun (e, fr2, ρ2) => .nx ((ρ2.set i (slotOf d fr)).set j (slotOf e fr2))
  | .put i k e, ρ => if isOwn ρ[i]? then (evE F e ρ).bind fun (d, _, ρ1) => (evE F k ρ1).bind fun (j, _, ρ2) => match ρ2[i]? with
      | some (.own x) => (putD x j d).map fun y => .nx (ρ2.set i (.own y))
      | _ => none
    else none
  | .put2 i k j es, ρ => if isOwnL ρ[i]? then (evP F es ρ).bind fun (ds, ρ1) => match ds with
      | [(d1, false), (d2, false)] => (evE F k ρ1).bind fun (q, _, ρ2) => match ρ2[i]?, q with
        | some (.own (.list xs)), .int n => (ixOf xs.length n).map fun jj => .nx ((ρ2.set i (.own (.list (xs.set jj d1)))).set j (.dat d2))
        | _, _ => none
      | _ => none
    else none
  | .app i e, ρ => if isOwnL ρ[i]? then (evE F e ρ).bind fun (d, _, ρ1) => match ρ1[i]? with
      | some (.own (.list xs)) => if xs.length < sizeLine then some (.nx (ρ1.set i (.own (.list (xs ++ [d]))))) else none
      | _ => none
    else none
  | .ext i e, ρ => if isOwnL ρ[i]? then (evE F e ρ).bind fun (d, _, ρ1) => match ρ1[i]?, d with
      | some (.own (.list xs)), .list ys => if xs.length + ys.length ≤ sizeLine then some (.nx (ρ1.set i (.own (.list (xs ++ ys))))) else none
      | _, _ => none
    else none
  | .expr e, ρ => (evE F e ρ).map fun (_, _, ρ1) => .nx ρ1
  | .ret e, ρ => (evE F e ρ).map fun (d, fr, ρ1) => .rt d fr ρ1
  | .asgO i f as, ρ => (evL F as ρ).bind fun (bs, ρ1) => (lend ρ1 bs).bind fun (args, ρ2) => (F f args).bind fun (d, fr, ss) => (back ρ2 bs args ss).map fun ρ3 => .nx (ρ3.set i (slotOf d fr))
  | .retO f as, ρ => (evL F as ρ).bind fun (bs, ρ1) => (lend ρ1 bs).bind fun (args, ρ2) => (F f args).bind fun (d, fr, ss) => (back ρ2 bs args ss).map fun ρ3 => .rt d fr ρ3
  | .retT e, ρ => (evE F e ρ).bind fun (d, _, ρ1) => match d with | .list xs => some (.rt (.tuple xs) true ρ1) | _ => none
  | .ite c s t, ρ => (evT F c ρ).bind fun (b, ρ1) => if b then evS F W s ρ1 else evS F W t ρ1
  | .loop tg it s, ρ => (evI F it ρ).bind fun (ds, ρ1) => loopS tg (evS F W s) ds ρ1
  | .while c s, ρ => whileS (evT F c) (evS F W s) W ρ
  | .brk, ρ => some (.bk ρ)
  | .cont, ρ => some (.ct ρ)
  | .stuck, _ => none

/-! ### defs -/
structure Fn where
  np : Nat
  nv : Nat
  body : MS
def argSlot : Arg → Slot
  | (d, true) => .own d
  | (d, false) => .dat d
def slotsT : MT → List Nat
  | .nm i => [i]
  | .tp ts => slotsT ts
  | .nil => []
  | .cons a r => slotsT a ++ slotsT r
/-- the variables that a block stores -/
def asgd : MS → List Nat
  | .seq s t => asgd s ++ asgd t
  | .asg tg _ => slotsT tg
  | .asgO i _ _ => [i]
  | .par tg _ => slotsT tg
  | .put2 _ _ j _ => [j]
  | .parS i _ _ j _ _ => [i, j]
  | .ite _ s t => asgd s ++ asgd t
  | .loop tg _ s => slotsT tg ++ asgd s
  | .while _ s => asgd s
  | _ => []
/-- parameters that were lent are not stored -/
def lentOk (l : List Nat) : Nat → List Arg → Bool
  | _, [] => true
  | i, (_, true) :: as => !l.contains i && lentOk l (i + 1) as
  | i, (_, false) :: as => lentOk l (i + 1) as
def finals : List Arg → Rho → List Slot
  | [], _ => []
  | (_, true) :: as, s :: ρ => s :: finals as ρ
  | _ :: as, ρ => .no :: finals as ρ.tail
def runFn (F : Fns) (W : Nat) (f : Fn) (as : List Arg) : Option (PyData × Bool × List Slot) :=
  if as.length = f.np ∧ lentOk (asgd f.body) 0 as = true then
    (evS F W f.body (as.map argSlot ++ List.replicate (f.nv - f.np) .no)).bind fun o => match o with
      | .nx ρ => some (.none, false, finals as ρ)
      | .rt d fr ρ => some (d, fr, finals as ρ)
      | _ => none
  else none
def evF (T : Nat → Option Fn) (W : Nat) : Nat → Fns
  | 0, _, _ => none
  | k + 1, i, as => (T i).bind fun f => runFn (evF T W k) W f as
end MI

/-! MIJ: sorted of a tuple. -/
namespace MI
open PySem PySem.Spec PyProof.Rows L2 HT
section
variable {prog : Program} {w : World} {A : Around} {E : Value → Shared → Prop} {s : Shared}
/-- the heap behind the collecting of `xs` -/
def gotH (h : Heap) (xs : List Value) : Heap := (h.push (seqObj "list" #[] 0)).update h.objs.size (Obj.mapSeq (· ++ xs.toArray))
theorem collect_tup {t : Addr} {xs : List Value} {R : List Value → Shared → Prop} (ht : IsTup s.heap t xs.toArray) (hn : xs.length ≤ sizeLine) (hR : R xs { s with heap := gotH s.heap xs }) :
    wpAny (model prog w) A (collect (.ref t)) R E s := by
  obtain ⟨o, ho, hc, n, hd⟩ := id ht
  have hot : (s.heap.push (seqObj "list" #[] 0)).get? t = some o := Heap.get?_push_of_some _ ho
  have hnew : (s.heap.push (seqObj "list" #[] 0)).get? s.heap.objs.size = some (seqObj "list" #[] 0) := Heap.get?_push_size _ rfl
  have hle : ((#[] : Array Value) ++ xs.toArray).size ≤ sizeLine + 1 := by simp; omega
  have hsame : (Value.type "tuple" == Value.type "tuple") = true := rfl
  unfold collect
  refine wpAny_bind (wpAny_runValue (codeAny_builtin entry_proto_collect' ?_))
  show wpAny _ _ (do again (.builtin "list.__iadd__" ⟨[← newList [], .ref t], []⟩)) _ _ s
  refine wpAny_bind (wpAny_newList (wpAny_pure ⟨Code.quiet_builtin _ (by decide +kernel), codeAny_builtin entry_list_iadd' ?_⟩))
  show wpAny _ _ (Builtin.List.listExtendWith (.ref s.heap.objs.size) (.ref t) (.ref s.heap.objs.size)) _ _ _
  unfold Builtin.List.listExtendWith
  refine wpAny_bind (wpAny_typeOf (T := "tuple") ⟨o, hot, hc⟩ ?_)
  rw [if_pos (by rw [hsame]; simp)]
  refine wpAny_bind (listItems_at hot hd (wpAny_bind (listItems_at hnew rfl ?_)))
  rw [if_neg (by simp)]
  refine wpAny_bind (listUpdate_at hnew rfl ?_ (Nat.zero_le _) hle)
  refine wpAny_pure (wpAny_bind (wpAny_load (get?_update_seq hnew _) ?_))
  show wpAny _ _ (pure ((#[] : Array Value) ++ xs.toArray).toList) R E _
  simp only [Array.empty_append, List.toList_toArray]
  exact wpAny_pure hR
/-- sorted of a tuple whose parts are in a strict weak order -/
theorem sorted_tup {t : Addr} {xs : List Value} {lt : Value → Value → Bool} {R : Value → Shared → Prop} (O : SrtO.Swo lt) (ht : IsTup s.heap t xs.toArray) (hn : xs.length ≤ sizeLine)
    (hS : 2 ≤ xs.length → ∀ (h1 : Heap) (a : Addr), SrtO.SortableO prog w A.in1.in1 { s with heap := h1 } a xs lt)
    (hR : ∀ ys : List Value, SrtO.Srtd lt ys → SrtO.Stb lt ys xs → R (.ref (s.heap.objs.size + 1)) { s with heap := sortedAll s.heap xs ys.toArray }) :
    wpAny (model prog w) A (call (.builtin "sorted") [.ref t]) R E s := by
  refine Calls.call_function_entry kind_sorted plain_sorted entry_sorted (args_sorted1 _) ?_
  unfold Builtin.«sorted»
  refine wpAny_bind (m := checkCount "sorted" 1 1 _) (wpAny_pure (wpAny_bind (collect_tup ht hn (wpAny_bind (wpAny_newList ?_ hn)))))
  have hsz : (gotH s.heap xs).objs.size = s.heap.objs.size + 1 := by
    unfold gotH; rw [Heap.size_update, size_push']
  have hnew : ((gotH s.heap xs).push (seqObj "list" xs.toArray 0)).get? (s.heap.objs.size + 1) = some (seqObj "list" xs.toArray 0) := by
    rw [← hsz]; exact Heap.get?_push_size _ rfl
  show wpAny _ _ _ _ _ { s with heap := (gotH s.heap xs).push (seqObj "list" xs.toArray 0) }
  rw [hsz]
  refine wpAny_bind (wpAny_holding (wpAny_call_entry slot_list_sort ⟨_, hnew, rfl⟩ entry_list_sort (SrtO.list_sort_ord O hnew hn (fun h2 => hS h2 _ _) fun ys h1 h2 => ⟨_, rfl, ?_⟩) (args_list_sort _)))
  exact wpAny_pure ⟨_, rfl, hR ys h1 h2⟩
end
/-- sorted(xs), a tuple of ints -/
def rSortTI (K : PySem.W.Frag) : List V → Hp → VK → Prop := fun vs H Q => ∃ (a : Addr) (ns : List Int), vs = [V.ref a] ∧ SqT K H a (ns.map V.int) ∧
  ∀ (ms : List Int) (p : Addr), ms.Perm ns → ms.Pairwise (· ≤ ·) → H p = none → Q (.ref p) (upd H p (.lst (ms.map V.int)))
theorem cr_sortTI {X : Cx} : CallR X (.builtin "sorted") (rSortTI X.K) := by
  intro pins s σ H vs us Q I r h
  obtain ⟨a, ns, rfl, hs, q⟩ := h
  obtain ⟨its, rv, pl, hz⟩ := I.tuple hs
  rw [Vals.ref1 r]
  have hi := rv.ints
  refine sorted_tup SrtO.swo_int pl (by rw [← rv.length]; exact hz) (fun h2 h₁ a' => SrtO.ints_sortable hi h2) fun out h1 h2 => ?_
  obtain ⟨k1, k2, k3⟩ := SrtO.ints_out hi h1 h2
  obtain ⟨ep, hat⟩ := sortedAll_at s.heap its out.toArray
  have hlen : ((out.map SrtO.iv).map V.int).length ≤ sizeLine := by
    rw [List.length_map, k2.length_eq, ← List.length_map (f := V.int)]; exact hz
  refine ⟨.ref _, upd H (s.heap.objs.size + 1) (.lst ((out.map SrtO.iv).map V.int)), ?_, rfl, q _ _ k2 k3 (I.hok.fresh (Nat.le_succ _))⟩
  exact I.laid (t' := s.toks) (fun _ _ => sortedAll_old) (Nat.le_succ _) ⟨hlen, out, ep, vals_of_ints k1, hat⟩
/-! tuple * int, up to 4000 times -/
def rRepW (K : PySem.W.Frag) : R2 := fun x y H Q => ∃ l k xs, x = .ref l ∧ y = .int k ∧ SqT K H l xs ∧ xs ≠ [] ∧ 2 ≤ k ∧ k ≤ 4000 ∧ xs.length ≤ 1000 ∧ ∀ p, H p = none → Q (.ref p) (upd H p (.tup (List.replicate k.toNat xs).flatten))
theorem op_repW {X : Cx} : OpR X (binaryOp .Mult) (rRepW X.K) := by
  intro pins s σ H x y v u Q I rx ry ⟨l, k, xs, ex, ey, hT, hne, h1, h2, hz, q⟩
  subst ex; subst ey
  cases rx
  obtain ⟨t, et⟩ := ry
  subst et
  obtain ⟨its, r, ⟨⟨oc, dd, od, sl⟩, ho, hc, n, hd⟩, hs⟩ := I.tuple hT
  have hc : oc = _ := hc
  have hd : od = _ := hd
  subst hc; subst hd
  have hl : xs.length = its.length := r.length
  have h0 : 0 < its.length := by
    rw [← hl]; exact List.length_pos_iff.2 hne
  have he : its.toArray.isEmpty = false := by
    cases its with
    | nil => simp at h0
    | cons a b => rfl
  have hprod : k.toNat * xs.length ≤ 4000000 := by
    have := Nat.mul_le_mul (show k.toNat ≤ 4000 by omega) hz
    omega
  have hline : 4000000 ≤ sizeLine := by decide
  have hI : ((its.toArray.size : Nat) : Int) * k ≤ 4000000 := by
    rw [List.size_toArray, ← hl]
    have e : ((xs.length : Nat) : Int) * k = ((k.toNat * xs.length : Nat) : Int) := by
      rw [Int.natCast_mul, Int.toNat_of_nonneg (by omega), Int.mul_comm]
    omega
  have hlen : (List.replicate k.toNat its).flatten.length ≤ sizeLine := by
    rw [PyProof.Rows.lm_len_rep_flat, ← hl]; omega
  have g0 : (decide (k < -(2 ^ 63)) || decide (k ≥ 2 ^ 63)) = false := by simp; omega
  have g1 : (its.toArray.isEmpty || k == 1) = false := by rw [he]; simp; omega
  have g2 : (decide (k ≤ 0) || its.toArray.isEmpty) = false := by rw [he]; simp; omega
  have g4 : Builtin.Tuple.tupleTooMany (((its.toArray.size : Nat) : Int) * k) = false := by
    unfold Builtin.Tuple.tupleTooMany
    simp only [decide_eq_false_iff_not]; omega
  have mw := tuple_mulW l its.toArray n dd sl k t g0 g1 g2 (by omega) g4 (by rw [size_rep, List.size_toArray]; exact hlen)
  have mr := int_rmul_tuple k t l its.toArray n dd sl
  refine wpAny_binaryOp_repeat_ref (T := "tuple") (U := "int") (by decide) ⟨_, ho, rfl⟩ (fun s' => typeIs_int s' k t) noFill_tuple_mul F.fills_int_mul F.slot_int_rmul repeat_tuple
    F.slot_int_index.lookup ?_
  refine call_meets F.slot_int_rmul (typeIs_int s k t) F.entry_int_rmul (F.args_int_rmul_2 _ _) mr ⟨ho, rfl, ⟨_, ho, rfl⟩, ?_⟩
  refine call_meets F.slot_tuple_mul ⟨_, ho, rfl⟩ F.entry_tuple_mul (F.args_tuple_mul_2 _ _) mw ⟨ho, ?_⟩
  rw [size_rep]
  have hnew : ObjOk X.prog X.w (upd H s.heap.objs.size (.tup (List.replicate k.toNat xs).flatten)) (s.heap.push { cls := Value.type "tuple", data := Data.seq (List.replicate k.toNat its).flatten.toArray }) s.heap.objs.size (.tup (List.replicate k.toNat xs).flatten) :=
    ⟨by rw [PyProof.Rows.lm_len_rep_flat]; omega, _, r.rep k.toNat, IsTup.new _ _⟩
  exact ⟨.ref s.heap.objs.size, _, I.laid (t' := s.toks) (fun b ob e => Heap.get?_push_of_some _ e) (Nat.le_refl _) hnew, rfl, q _ (I.hok.fresh (Nat.le_refl _))⟩
end MI

/-! MI1: how data lie in the abstract heap; what stays. -/
namespace MI
open PySem PySem.Spec PyProof.Rows L2
/-- the written part that is meant -/
class EK where
  k : PySem.W.Frag
variable [EK]
/-- a list that nobody may change: the script -/
def ScrAt (H : Hp) (a : Addr) (xs : List V) : Prop :=
  (∃ o, H a = some (.frz o (.lst xs))) ∨
    ∃ (o : Obj) (its : Array Value) (n : Nat), EK.k.lookup a = some o ∧ o.cls = .type "list" ∧ o.dict = none ∧ o.data = .seq its n ∧ its.size ≤ sizeLine ∧ Vals xs its.toList
theorem ScrAt.sq {K : PySem.W.Frag} {H : Hp} {a : Addr} {xs : List V} (hK : K = EK.k) (h : ScrAt H a xs) : SqL K H a xs := by
  subst hK
  rcases h with h | h
  · exact .inl (.inr h)
  · exact .inr h

/-- a tuple: tracked, or one of which it is known that it has no dict of its own -/
def TupAt (H : Hp) (a : Addr) (xs : List V) : Prop := H a = some (.tup xs) ∨ ∃ o : Obj, o.dict = none ∧ H a = some (.frz o (.tup xs))
theorem TupAt.sq {K : PySem.W.Frag} {H : Hp} {a : Addr} {xs : List V} (h : TupAt H a xs) : SqT K H a xs := by
  rcases h with h | ⟨o, _, h⟩
  · exact SqT.of h
  · exact .inl (.inr ⟨o, h⟩)
theorem TupAt.live {H : Hp} {a : Addr} {xs : List V} (h : TupAt H a xs) : ∃ o, H a = some o := by
  rcases h with h | ⟨o, _, h⟩
  · exact ⟨_, h⟩
  · exact ⟨_, h⟩
abbrev AS := Addr → Prop
def orA (A : AS) (p : Addr) : AS := fun a => A a ∨ a = p
def butA (A : AS) (p : Addr) : AS := fun a => A a ∧ a ≠ p
def keyD : Key → PyData
  | .inl i => .int i
  | .inr x => .str x
mutual
/-- the value v is the datum d; its lists and dicts do not lie in A -/
inductive Rel (A : AS) (H : Hp) : V → PyData → Prop
  | non : Rel A H .non .none
  | bl (b : Bool) : Rel A H (.bl b) (.bool b)
  | int (i : Int) : Rel A H (.int i) (.int i)
  | str (x : Str) : Rel A H (.str x) (.str x)
  | lst {a : Addr} {xs : List V} {ds : List PyData} : H a = some (.lst xs) → ¬ A a → RelAll A H xs ds → Rel A H (.ref a) (.list ds)
  | tup {a : Addr} {xs : List V} {ds : List PyData} : TupAt H a xs → RelAll A H xs ds → Rel A H (.ref a) (.tuple ds)
  | dic {a : Addr} {kvs : List (Key × V)} {es : List (PyData × PyData)} : H a = some (.dK kvs) → ¬ A a → RelKv A H kvs es → Rel A H (.ref a) (.dict es)
  | dit {a : Addr} {kvs : List (List Key × V)} {es : List (PyData × PyData)} : H a = some (.dT kvs) → ¬ A a → RelKt A H kvs es → Rel A H (.ref a) (.dict (tMark :: es))
  | scr {a : Addr} {xs : List V} {ds : List PyData} : ScrAt H a xs → RelAll A H xs ds → Rel A H (.ref a) (.dict [(.none, .list ds)])
inductive RelAll (A : AS) (H : Hp) : List V → List PyData → Prop
  | nil : RelAll A H [] []
  | cons {v : V} {vs : List V} {d : PyData} {ds : List PyData} : Rel A H v d → RelAll A H vs ds → RelAll A H (v :: vs) (d :: ds)
inductive RelKv (A : AS) (H : Hp) : List (Key × V) → List (PyData × PyData) → Prop
  | nil : RelKv A H [] []
  | cons {k : Key} {v : V} {kvs : List (Key × V)} {d : PyData} {es : List (PyData × PyData)} : Rel A H v d → RelKv A H kvs es → RelKv A H ((k, v) :: kvs) ((keyD k, d) :: es)
inductive RelKt (A : AS) (H : Hp) : List (List Key × V) → List (PyData × PyData) → Prop
  | nil : False → RelKt A H [] []
  | cons {k : List Int} {v : V} {kvs : List (List Key × V)} {d : PyData} {es : List (PyData × PyData)} : Rel A H v d → RelKt A H kvs es → RelKt A H ((k.map Sum.inl, v) :: kvs) ((.tuple (k.map .int), d) :: es)
end
def Mu : HO → Prop
  | .lst _ => True
  | .dK _ => True
  | .dT _ => True
  | _ => False
/-- what may change lies in M and is a list or a dict -/
structure Kp (M : AS) (H H' : Hp) : Prop where
  same : ∀ a o, H a = some o → (M a → ¬ Mu o) → H' a = some o
  live : ∀ a o, H a = some o → ∃ o', H' a = some o'
abbrev No : AS := fun _ => False
theorem TupAt.keep {M : AS} {H H' : Hp} {a : Addr} {xs : List V} (k : Kp M H H') (h : TupAt H a xs) : TupAt H' a xs := h.imp (fun e => k.same _ _ e fun _ z => z) fun ⟨o, d, e⟩ => ⟨o, d, k.same _ _ e fun _ z => z⟩

section
variable {A A' M M' : AS} {H H' H1 H2 : Hp} {v : V} {d : PyData} {xs ys : List V} {ds es : List PyData} {p : Addr}
theorem Kp.refl (M : AS) (H : Hp) : Kp M H H := ⟨fun _ _ h _ => h, fun _ o h => ⟨o, h⟩⟩
theorem Kp.mono (hm : ∀ a, M a → M' a) (k : Kp M H H') : Kp M' H H' := ⟨fun a o h n => k.same a o h fun z => n (hm a z), k.live⟩
theorem Kp.of (k : Kp No H H') : Kp M H H' := k.mono fun _ z => z.elim
theorem Kp.trans (a : Kp M H H1) (b : Kp M H1 H2) : Kp M H H2 :=
  ⟨fun x o h n => b.same x o (a.same x o h n) n, fun x o h => let ⟨o1, h1⟩ := a.live x o h; b.live x o1 h1⟩
theorem Kp.new {o : HO} (h : H p = none) : Kp M H (upd H p o) :=
  ⟨fun a u e _ => by rw [upd_ne (ne_of_none e h)]; exact e, fun a u e => ⟨u, by rw [upd_ne (ne_of_none e h)]; exact e⟩⟩
/-- a list of one's own is written -/
theorem Kp.wr {o o' : HO} (hm : M p) (h : H p = some o) (mu : Mu o) : Kp M H (upd H p o') := by
  refine ⟨fun a u e n => ?_, fun a u e => ?_⟩
  · by_cases ha : a = p
    · subst ha; rw [h] at e; cases e; exact absurd mu (n hm)
    · rw [upd_ne ha]; exact e
  · by_cases ha : a = p
    · subst ha; exact ⟨o', upd_same⟩
    · exact ⟨u, by rw [upd_ne ha]; exact e⟩

mutual
theorem Rel.map (f : ∀ a o, H a = some o → (A a → ¬ Mu o) → H' a = some o) (g : ∀ a o, H a = some o → A' a → ¬ A a → Mu o → False) : ∀ {v : V} {d : PyData}, Rel A H v d → Rel A' H' v d
  | _, _, .non => .non
  | _, _, .bl b => .bl b
  | _, _, .int i => .int i
  | _, _, .str x => .str x
  | _, _, .lst h n r => .lst (f _ _ h fun z => absurd z n) (fun z => g _ _ h z n trivial) (RelAll.map f g r)
  | _, _, .tup h r => .tup (h.imp (fun e => f _ _ e fun _ z => z) fun ⟨o, c, e⟩ => ⟨o, c, f _ _ e fun _ z => z⟩) (RelAll.map f g r)
  | _, _, .dit h n r => .dit (f _ _ h fun z => absurd z n) (fun z => g _ _ h z n trivial) (RelKt.map f g r)
  | _, _, .dic h n r => .dic (f _ _ h fun z => absurd z n) (fun z => g _ _ h z n trivial) (RelKv.map f g r)
  | _, _, .scr h r => .scr (h.imp (fun ⟨o, e⟩ => ⟨o, f _ _ e fun _ z => z⟩) fun z => z) (RelAll.map f g r)
theorem RelAll.map (f : ∀ a o, H a = some o → (A a → ¬ Mu o) → H' a = some o) (g : ∀ a o, H a = some o → A' a → ¬ A a → Mu o → False) : ∀ {vs : List V} {ds : List PyData}, RelAll A H vs ds → RelAll A' H' vs ds
  | _, _, .nil => .nil
  | _, _, .cons a r => .cons (Rel.map f g a) (RelAll.map f g r)
theorem RelKv.map (f : ∀ a o, H a = some o → (A a → ¬ Mu o) → H' a = some o) (g : ∀ a o, H a = some o → A' a → ¬ A a → Mu o → False) : ∀ {vs : List (Key × V)} {ds : List (PyData × PyData)}, RelKv A H vs ds → RelKv A' H' vs ds
  | _, _, .nil => .nil
  | _, _, .cons a r => .cons (Rel.map f g a) (RelKv.map f g r)
theorem RelKt.map (f : ∀ a o, H a = some o → (A a → ¬ Mu o) → H' a = some o) (g : ∀ a o, H a = some o → A' a → ¬ A a → Mu o → False) : ∀ {vs : List (List Key × V)} {ds : List (PyData × PyData)}, RelKt A H vs ds → RelKt A' H' vs ds
  | _, _, .nil h => .nil h
  | _, _, .cons a r => .cons (Rel.map f g a) (RelKt.map f g r)
end
theorem RelKt.no : ∀ {kvs : List (List Key × V)} {es : List (PyData × PyData)}, RelKt A H kvs es → False
  | _, _, .nil h => h
  | _, _, .cons _ r => RelKt.no r
theorem kp_f (hs : ∀ a, M a → A a) (k : Kp M H H') : ∀ a o, H a = some o → (A a → ¬ Mu o) → H' a = some o := fun a o h n => k.same a o h fun z => n (hs a z)
theorem anti_g (hs : ∀ a, A' a → A a) : ∀ a o, H a = some o → A' a → ¬ A a → Mu o → False := fun a _ _ z n _ => n (hs a z)
theorem Rel.keep (hs : ∀ a, M a → A a) (k : Kp M H H') (r : Rel A H v d) : Rel A H' v d := r.map (kp_f hs k) (anti_g fun _ z => z)
theorem RelAll.keep (hs : ∀ a, M a → A a) (k : Kp M H H') (r : RelAll A H xs ds) : RelAll A H' xs ds := r.map (kp_f hs k) (anti_g fun _ z => z)
theorem RelKv.keep {kvs : List (Key × V)} {es : List (PyData × PyData)} (hs : ∀ a, M a → A a) (k : Kp M H H') (r : RelKv A H kvs es) : RelKv A H' kvs es := r.map (kp_f hs k) (anti_g fun _ z => z)
theorem RelKt.keep {kvs : List (List Key × V)} {es : List (PyData × PyData)} (hs : ∀ a, M a → A a) (k : Kp M H H') (r : RelKt A H kvs es) : RelKt A H' kvs es := r.map (kp_f hs k) (anti_g fun _ z => z)
theorem Rel.anti (hs : ∀ a, A' a → A a) (r : Rel A H v d) : Rel A' H v d := r.map (fun _ _ h _ => h) (anti_g hs)
theorem RelAll.anti (hs : ∀ a, A' a → A a) (r : RelAll A H xs ds) : RelAll A' H xs ds := r.map (fun _ _ h _ => h) (anti_g hs)
theorem RelKv.anti {kvs : List (Key × V)} {es : List (PyData × PyData)} (hs : ∀ a, A' a → A a) (r : RelKv A H kvs es) : RelKv A' H kvs es := r.map (fun _ _ h _ => h) (anti_g hs)
theorem or_g (hp : H p = none) : ∀ a o, H a = some o → orA A p a → ¬ A a → Mu o → False := fun a o h z n _ => by
  rcases z with z | z
  · exact n z
  · subst z; rw [hp] at h; cases h
theorem Rel.fresh (hp : H p = none) (r : Rel A H v d) : Rel (orA A p) H v d := r.map (fun _ _ h _ => h) (or_g hp)
theorem RelAll.fresh (hp : H p = none) (r : RelAll A H xs ds) : RelAll (orA A p) H xs ds := r.map (fun _ _ h _ => h) (or_g hp)
theorem RelKv.fresh {kvs : List (Key × V)} {es : List (PyData × PyData)} (hp : H p = none) (r : RelKv A H kvs es) : RelKv (orA A p) H kvs es := r.map (fun _ _ h _ => h) (or_g hp)
theorem RelAll.length : ∀ {vs : List V} {ds : List PyData}, RelAll A H vs ds → vs.length = ds.length
  | _, _, .nil => rfl
  | _, _, .cons _ r => congrArg (· + 1) (RelAll.length r)
theorem RelAll.get : ∀ {vs : List V} {ds : List PyData} {i : Nat} {d : PyData}, RelAll A H vs ds → ds[i]? = some d → ∃ v, vs[i]? = some v ∧ Rel A H v d
  | _, _, _, _, .nil, h => by simp at h
  | _, _, 0, _, .cons a _, h => by
    have e := Option.some.inj h
    subst e
    exact ⟨_, rfl, a⟩
  | _, _, i + 1, _, .cons _ r, h => RelAll.get (i := i) r h
theorem RelAll.get' : ∀ {vs : List V} {ds : List PyData} {i : Nat} {v : V}, RelAll A H vs ds → vs[i]? = some v → ∃ d, ds[i]? = some d ∧ Rel A H v d
  | _, _, _, _, .nil, h => by simp at h
  | _, _, 0, _, .cons a _, h => by
    have e := Option.some.inj h
    subst e
    exact ⟨_, rfl, a⟩
  | _, _, i + 1, _, .cons _ r, h => RelAll.get' (i := i) r h
theorem RelAll.append : ∀ {vs ws : List V} {ds es : List PyData}, RelAll A H vs ds → RelAll A H ws es → RelAll A H (vs ++ ws) (ds ++ es)
  | _, _, _, _, .nil, h => h
  | _, _, _, _, .cons a r, h => .cons a (RelAll.append r h)
theorem RelAll.drop : ∀ {vs : List V} {ds : List PyData} (n : Nat), RelAll A H vs ds → RelAll A H (vs.drop n) (ds.drop n)
  | _, _, 0, h => h
  | _, _, _ + 1, .nil => .nil
  | _, _, n + 1, .cons _ r => RelAll.drop n r
theorem RelAll.take : ∀ {vs : List V} {ds : List PyData} (n : Nat), RelAll A H vs ds → RelAll A H (vs.take n) (ds.take n)
  | _, _, 0, _ => .nil
  | _, _, _ + 1, .nil => .nil
  | _, _, n + 1, .cons a r => .cons a (RelAll.take n r)
theorem RelAll.set (hv : Rel A H v d) : ∀ {vs : List V} {ds : List PyData} (n : Nat), RelAll A H vs ds → RelAll A H (vs.set n v) (ds.set n d)
  | _, _, _, .nil => .nil
  | _, _, 0, .cons _ r => .cons hv r
  | _, _, n + 1, .cons a r => .cons a (RelAll.set hv n r)
theorem RelAll.flatten (r : RelAll A H xs ds) : ∀ n : Nat, RelAll A H (List.replicate n xs).flatten (List.replicate n ds).flatten
  | 0 => .nil
  | n + 1 => by
    rw [List.replicate_succ, List.replicate_succ, List.flatten_cons, List.flatten_cons]
    exact r.append (RelAll.flatten r n)
end

/-- the object at a is the datum d, of one's own -/
def Own (A : AS) (H : Hp) (a : Addr) (d : PyData) : Prop :=
  (∃ xs ds, d = .list ds ∧ H a = some (.lst xs) ∧ RelAll A H xs ds) ∨ (∃ kvs es, d = .dict es ∧ H a = some (.dK kvs) ∧ RelKv A H kvs es) ∨
    (∃ xs ds o, d = .tuple ds ∧ o.dict = none ∧ H a = some (.frz o (.tup xs)) ∧ RelAll A H xs ds) ∨ ∃ kvs es, d = .dict (tMark :: es) ∧ H a = some (.dT kvs) ∧ RelKt A H kvs es
def NT (d : PyData) : Prop := ∀ ds, d = PyData.tuple ds → True
/-- it may change -/
def NM (d : PyData) : Prop := ∀ ds, d ≠ .tuple ds
section
variable {A A' M M' : AS} {H H' H1 H2 : Hp} {v : V} {d : PyData} {xs ys : List V} {ds es : List PyData} {p a : Addr}
theorem Own.rel (nt : NT d) (h : Own A H a d) (n : ¬ A a) : Rel A H (.ref a) d := by
  rcases h with ⟨xs, ds, rfl, h, r⟩ | ⟨kvs, es, rfl, h, r⟩ | ⟨xs, ds, o, rfl, hd, h, r⟩ | ⟨kvs, es, rfl, h, r⟩
  · exact .lst h n r
  · exact .dic h n r
  · exact .tup (.inr ⟨o, hd, h⟩) r
  · exact .dit h n r
theorem Own.relT {ds : List PyData} (h : Own A H a (.tuple ds)) : Rel A H (.ref a) (.tuple ds) := by
  rcases h with ⟨xs, ds', e, h, r⟩ | ⟨kvs, es, e, h, r⟩ | ⟨xs, ds', o, e, hd, h, r⟩ | ⟨kvs, es, e, h, r⟩
  · cases e
  · cases e
  · cases e; exact .tup (.inr ⟨o, hd, h⟩) r
  · cases e
theorem Own.map (f : ∀ a o, H a = some o → (A a → ¬ Mu o) → H' a = some o) (g : ∀ a o, H a = some o → A' a → ¬ A a → Mu o → False) (ha : H' a = H a) (h : Own A H a d) : Own A' H' a d := by
  rcases h with ⟨xs, ds, rfl, h, r⟩ | ⟨kvs, es, rfl, h, r⟩ | ⟨xs, ds, o, rfl, hd, h, r⟩ | ⟨kvs, es, rfl, h, r⟩
  · exact .inl ⟨xs, ds, rfl, ha.trans h, r.map f g⟩
  · exact .inr (.inl ⟨kvs, es, rfl, ha.trans h, r.map f g⟩)
  · exact .inr (.inr (.inl ⟨xs, ds, o, rfl, hd, ha.trans h, r.map f g⟩))
  · exact .inr (.inr (.inr ⟨kvs, es, rfl, ha.trans h, r.map f g⟩))
theorem Own.keep (hs : ∀ a, M a → A a) (k : Kp M H H') (nm : ¬ M a) (h : Own A H a d) : Own A H' a d := by
  rcases h with ⟨xs, ds, rfl, h, r⟩ | ⟨kvs, es, rfl, h, r⟩ | ⟨xs, ds, o, rfl, hd, h, r⟩ | ⟨kvs, es, rfl, h, r⟩
  · exact .inl ⟨xs, ds, rfl, k.same _ _ h fun z => absurd z nm, r.keep hs k⟩
  · exact .inr (.inl ⟨kvs, es, rfl, k.same _ _ h fun z => absurd z nm, r.keep hs k⟩)
  · exact .inr (.inr (.inl ⟨xs, ds, o, rfl, hd, k.same _ _ h fun z => absurd z nm, r.keep hs k⟩))
  · exact .inr (.inr (.inr ⟨kvs, es, rfl, k.same _ _ h fun z => absurd z nm, r.keep hs k⟩))
theorem Own.anti (hs : ∀ a, A' a → A a) (h : Own A H a d) : Own A' H a d := h.map (fun _ _ h _ => h) (anti_g hs) rfl
theorem Own.fresh (hp : H p = none) (h : Own A H a d) : Own (orA A p) H a d := h.map (fun _ _ h _ => h) (or_g hp) rfl
theorem Own.live (h : Own A H a d) : ∃ o, H a = some o ∧ (NM d → Mu o) := by
  rcases h with ⟨xs, ds, rfl, h, r⟩ | ⟨kvs, es, rfl, h, r⟩ | ⟨xs, ds, o, rfl, hd, h, r⟩ | ⟨kvs, es, rfl, h, r⟩
  · exact ⟨_, h, fun _ => trivial⟩
  · exact ⟨_, h, fun _ => trivial⟩
  · exact ⟨_, h, fun z => absurd rfl (z ds)⟩
  · exact ⟨_, h, fun _ => trivial⟩
end

/-- the variables as they lie: A is what no standing datum touches, M what this frame may change -/
structure RE (A M : AS) (H : Hp) (ρ : Rho) (σ : L2.St) : Prop where
  len : ρ.length = σ.length
  sub : ∀ a, M a → A a
  live : ∀ a, A a → ∃ o, H a = some o
  dat : ∀ (i : Nat) (d : PyData), ρ[i]? = some (Slot.dat d) → ∃ v, σ[i]? = some (some v) ∧ Rel A H v d
  own : ∀ (i : Nat) (d : PyData), ρ[i]? = some (Slot.own d) → ∃ a, σ[i]? = some (some (V.ref a)) ∧ M a ∧ Own A H a d
  inj : ∀ (i j : Nat) (d e : PyData) (a : Addr), ρ[i]? = some (Slot.own d) → ρ[j]? = some (Slot.own e) → σ[i]? = some (some (V.ref a)) → σ[j]? = some (some (V.ref a)) → i = j
structure Shr (A M A' M' : AS) : Prop where
  a : ∀ x, A' x → A x
  m : ∀ x, M' x → M x
  d : ∀ x, A x → ¬ A' x → M x
theorem Shr.refl (A M : AS) : Shr A M A M := ⟨fun _ h => h, fun _ h => h, fun _ h n => absurd h n⟩
theorem Shr.trans {A M A1 M1 A2 M2 : AS} (s : Shr A M A1 M1) (t : Shr A1 M1 A2 M2) : Shr A M A2 M2 :=
  ⟨fun x h => s.a x (t.a x h), fun x h => s.m x (t.m x h), fun x h n => by
    by_cases h1 : A1 x
    · exact s.m x (t.d x h1 n)
    · exact s.d x h h1⟩
section
variable {A A' M M' : AS} {H H' H1 H2 : Hp} {v : V} {d : PyData} {ρ ρ' : Rho} {σ : L2.St} {p a : Addr} {i : Nat}
/-- nothing of one's own changed -/
theorem RE.keepM (hs : ∀ a, M' a → A a) (nm : ∀ a, M a → ¬ M' a) (k : Kp M' H H') (r : RE A M H ρ σ) : RE A M H' ρ σ :=
  ⟨r.len, r.sub, fun a h => let ⟨o, e⟩ := r.live a h; k.live a o e, fun i d h => let ⟨v, e, q⟩ := r.dat i d h; ⟨v, e, q.keep hs k⟩,
    fun i d h => let ⟨a, e, m, q⟩ := r.own i d h; ⟨a, e, m, q.keep hs k (nm a m)⟩, r.inj⟩
theorem RE.keep (k : Kp No H H') (r : RE A M H ρ σ) : RE A M H' ρ σ := r.keepM (fun _ z => z.elim) (fun _ _ z => z) k
theorem RE.fresh (hp : H p = none) (hp' : ∃ o, H' p = some o) (k : Kp No H H') (r : RE A M H ρ σ) : RE (orA A p) M H' ρ σ :=
  ⟨r.len, fun a h => .inl (r.sub a h), fun a h => by
      rcases h with h | h
      · obtain ⟨o, e⟩ := r.live a h; exact k.live a o e
      · subst h; exact hp',
    fun i d h => let ⟨v, e, q⟩ := r.dat i d h; ⟨v, e, (q.fresh hp).keep (M := No) (fun _ z => z.elim) k⟩,
    fun i d h => let ⟨a, e, m, q⟩ := r.own i d h; ⟨a, e, m, (q.fresh hp).keep (M := No) (fun _ z => z.elim) k (fun z => z)⟩, r.inj⟩
theorem RE.not_fresh (hp : H p = none) (r : RE A M H ρ σ) : ¬ A p := fun z => by
  obtain ⟨o, e⟩ := r.live p z
  rw [hp] at e; cases e
end

/-- what a value that was reckoned is, behind it; where it is new it may be a tuple of one's own -/
def Pst0 (A M : AS) (H : Hp) (ρ' : Rho) (σ : L2.St) (d : PyData) (fr : Bool) (v : V) (H' : Hp) : Prop :=
  ∃ A' M', Shr A M A' M' ∧ Kp M H H' ∧ RE A' M' H' ρ' σ ∧ (fr = false → Rel A' H' v d) ∧ (fr = true → ∃ a, v = .ref a ∧ H a = none ∧ RE (orA A' a) M' H' ρ' σ ∧ Own (orA A' a) H' a d)
/-- .. of expressions: it is none -/
def Pst (A M : AS) (H : Hp) (ρ' : Rho) (σ : L2.St) (d : PyData) (fr : Bool) (v : V) (H' : Hp) : Prop := Pst0 A M H ρ' σ d fr v H' ∧ (fr = true → NT d)
/-- .. of operations, that change nothing -/
def NewV (A : AS) (H : Hp) (z : PyData) (fr : Bool) (v : V) (H' : Hp) : Prop :=
  Kp No H H' ∧ (fr = false → Rel A H' v z) ∧ (fr = true → ∃ a, v = .ref a ∧ H a = none ∧ Own (orA A a) H' a z) ∧ (fr = true → NT z)
section
variable {A A' M M' : AS} {H H' H1 H2 : Hp} {v : V} {d z : PyData} {fr : Bool} {ρ ρ' : Rho} {σ : L2.St} {p a : Addr} {i : Nat}
theorem NewV.pst (h : NewV A H z fr v H') (r : RE A M H ρ σ) : Pst A M H ρ σ z fr v H' := by
  obtain ⟨k, h1, h2, h3⟩ := h
  refine ⟨⟨A, M, Shr.refl A M, k.of, r.keep k, h1, fun e => ?_⟩, h3⟩
  obtain ⟨a, rfl, ha, ho⟩ := h2 e
  obtain ⟨o, e2, _⟩ := ho.live
  exact ⟨a, rfl, ha, r.fresh ha ⟨o, e2⟩ k, ho⟩
theorem NewV.val (r : Rel A H v z) : NewV A H z false v H := ⟨Kp.refl _ _, fun _ => r, (fun e => nomatch e), fun e => nomatch e⟩
theorem Pst0.val (h : Pst0 A M H ρ' σ d false v H') : Pst A M H ρ' σ d false v H' := ⟨h, fun e => nomatch e⟩
/-- whatever it is, it stands -/
theorem Pst.std (h : Pst A M H ρ' σ d fr v H') (rA : ∀ a, A a → ∃ o, H a = some o) : ∃ A' M', Shr A M A' M' ∧ Kp M H H' ∧ RE A' M' H' ρ' σ ∧ Rel A' H' v d := by
  obtain ⟨⟨A', M', s, k, r, h1, h2⟩, h3⟩ := h
  refine ⟨A', M', s, k, r, ?_⟩
  cases fr with
  | false => exact h1 rfl
  | true =>
    obtain ⟨a, rfl, ha, _, ho⟩ := h2 rfl
    refine (ho.anti (A' := A') fun _ z => .inl z).rel (h3 rfl) fun z => ?_
    obtain ⟨o, e⟩ := rA a (s.a a z)
    rw [ha] at e; cases e
/-- a step ahead -/
theorem Pst0.after (s0 : Shr A M A' M') (k0 : Kp M H H1) (h : Pst0 A' M' H1 ρ' σ d fr v H') : Pst0 A M H ρ' σ d fr v H' := by
  obtain ⟨A2, M2, s, k, r, h1, h2⟩ := h
  refine ⟨A2, M2, s0.trans s, k0.trans (k.mono s0.m), r, h1, fun e => ?_⟩
  obtain ⟨a, rfl, ha, q⟩ := h2 e
  refine ⟨a, rfl, ?_, q⟩
  cases e : H a with
  | none => rfl
  | some o =>
    obtain ⟨o', e'⟩ := k0.live a o e
    rw [ha] at e'; cases e'
theorem Pst.after (s0 : Shr A M A' M') (k0 : Kp M H H1) (h : Pst A' M' H1 ρ' σ d fr v H') : Pst A M H ρ' σ d fr v H' := ⟨h.1.after s0 k0, h.2⟩
end

/-- an operand -/
def BR (A : AS) (H : Hp) (σ : L2.St) (v : V) : Bor → Prop
  | .v d => Rel A H v d
  | .r i => σ[i]? = some (some v)
/-- an operand when it is looked at -/
def Top (A : AS) (H : Hp) (v : V) (d : PyData) : Prop := Rel A H v d ∨ ∃ a, v = .ref a ∧ Own A H a d ∧ NT d
section
variable {A A' M M' : AS} {H H' H1 H2 : Hp} {v : V} {d z : PyData} {fr : Bool} {ρ ρ' : Rho} {σ : L2.St} {p a : Addr} {i : Nat} {b : Bor}
theorem BR.keep (hs : ∀ a, M a → A a) (s : Shr A M A' M') (k : Kp M H H') (h : BR A H σ v b) : BR A' H' σ v b := by
  cases b with
  | v d => exact (Rel.keep hs k h).anti s.a
  | r i => exact h
theorem BR.top (r : RE A M H ρ σ) (h : BR A H σ v b) (g : b.get ρ = some d) : Top A H v d := by
  cases b with
  | v e => cases g; exact .inl h
  | r i =>
    have h : σ[i]? = some (some v) := h
    have g : getR ρ i = some d := g
    unfold getR at g
    cases e : ρ[i]? with
    | none => rw [e] at g; cases g
    | some s =>
      rw [e] at g
      cases s with
      | no => cases g
      | dat x =>
        cases g
        obtain ⟨v', e1, q⟩ := r.dat i _ e
        rw [h] at e1; cases e1
        exact .inl q
      | own x =>
        obtain ⟨a, e1, _, q⟩ := r.own i _ e
        rw [h] at e1; cases e1
        cases x with
        | tuple ds => cases g; exact .inl q.relT
        | _ => cases g; exact .inr ⟨a, rfl, q, fun _ => nofun⟩
theorem Top.lst {ds : List PyData} (h : Top A H v (.list ds)) : ∃ a xs, v = .ref a ∧ H a = some (.lst xs) ∧ RelAll A H xs ds := by
  rcases h with h | ⟨a, rfl, ⟨xs, ds', e, h, r⟩ | ⟨_, _, e, _⟩ | ⟨_, _, _, e, _⟩ | ⟨_, _, e, _⟩, _⟩
  · cases h with | lst h n r => exact ⟨_, _, rfl, h, r⟩
  · cases e; exact ⟨a, xs, rfl, h, r⟩
  · cases e
  · cases e
  · cases e
theorem Top.rel (h : Top A H v d) (hl : ∀ ds, d ≠ .list ds) (hd : ∀ es, d ≠ .dict es) : Rel A H v d := by
  rcases h with h | ⟨a, rfl, ⟨xs, ds', e, h, r⟩ | ⟨_, _, e, _⟩ | ⟨xs, ds', o, e, hd', hh, rr⟩ | ⟨_, _, e, _⟩, nt⟩
  · exact h
  · exact absurd e (hl _)
  · exact absurd e (hd _)
  · subst e; exact .tup (.inr ⟨o, hd', hh⟩) rr
  · exact absurd e (hd _)
theorem Top.tup {ds : List PyData} (h : Top A H v (.tuple ds)) : ∃ a xs, v = .ref a ∧ TupAt H a xs ∧ RelAll A H xs ds := by
  have h' := h.rel (fun _ => nofun) fun _ => nofun
  cases h' with | tup h2 r => exact ⟨_, _, rfl, h2, r⟩
theorem Top.int {i : Int} (h : Top A H v (.int i)) : v = .int i := by
  have h := h.rel (fun _ => nofun) fun _ => nofun
  cases h; rfl
theorem Top.bl {i : Bool} (h : Top A H v (.bool i)) : v = .bl i := by
  have h := h.rel (fun _ => nofun) fun _ => nofun
  cases h; rfl
theorem Top.str {i : Str} (h : Top A H v (.str i)) : v = .str i := by
  have h := h.rel (fun _ => nofun) fun _ => nofun
  cases h; rfl
theorem Top.non (h : Top A H v .none) : v = .non := by
  have h := h.rel (fun _ => nofun) fun _ => nofun
  cases h; rfl
theorem Top.scr {ds : List PyData} (h : Top A H v (.dict [(.none, .list ds)])) : ∃ a xs, v = .ref a ∧ ScrAt H a xs ∧ RelAll A H xs ds := by
  have nk : ∀ {kvs : List (Key × V)}, ¬ RelKv A H kvs [(.none, .list ds)] := fun {kvs} q => by
    have gen : ∀ {kvs : List (Key × V)} {es : List (PyData × PyData)}, RelKv A H kvs es → es = [(.none, .list ds)] → False := by
      intro kvs es q
      cases q with
      | nil => intro e; cases e
      | @cons k v kvs d es a r =>
        intro e
        cases k with
        | inl i => injection e with e1 _; injection e1 with e2 _; cases e2
        | inr i => injection e with e1 _; injection e1 with e2 _; cases e2
    exact gen q rfl
  rcases h with h | ⟨a, rfl, ⟨xs, ds', e, h, r⟩ | ⟨_, _, e, _, r⟩ | ⟨_, _, _, e, _⟩ | ⟨_, _, e, _⟩, _⟩
  · cases h with
    | dic _ _ r => exact absurd r nk
    | scr h r => exact ⟨_, _, rfl, h, r⟩
  · cases e
  · cases e; exact absurd r nk
  · cases e
  · cases e
end
end MI

/-! MI2: operations on values. -/
namespace MI
open PySem PySem.Spec PyProof.Rows L2
variable [EK]

/-- sum of a tuple of ints -/
def rSumT (K : PySem.W.Frag) : List V → Hp → VK → Prop := fun vs H Q => ∃ (a : Addr) (ns : List Int), vs = [V.ref a] ∧ SqT K H a (ns.map V.int) ∧ Q (.int ns.sum) H
theorem cr_sumT {X : Cx} (hc : X.calm = true) : CallR X (.builtin "sum") (rSumT X.K) := by
  intro pins s σ H vs us Q I r h
  obtain ⟨a, ns, rfl, hs, q⟩ := h
  obtain ⟨its, rv, hl, _⟩ := I.tuple hs
  rw [Vals.ref1 r]
  obtain ⟨xs, e⟩ := rv.ints.allInts.items
  have hn : numsOf (intItems xs).toList = ns := by rw [← e]; exact rv.ints.numsOf
  rw [nums_intItems] at hn
  rw [e] at hl
  refine PySem.W.ktm_sumG (I.ok.hd hc) hl fun h' tk t' hk => ?_
  rw [preSum_eq, List.take_of_length_le (by simp), hn]
  exact ⟨.int _, H, I.kept hk, ⟨_, rfl⟩, q⟩
def Lv (A : AS) (H : Hp) : Prop := ∀ a, A a → ∃ o, H a = some o
section
variable {A : AS} {H : Hp} {xs : List V} {ds : List PyData} {p : Addr}
theorem new_lst (hp : H p = none) (r : RelAll A H xs ds) : NewV A H (.list ds) true (.ref p) (upd H p (.lst xs)) :=
  ⟨Kp.new hp, (fun e => nomatch e), (fun _ => ⟨p, rfl, hp, .inl ⟨xs, ds, rfl, upd_same, (r.fresh hp).keep (M := No) (fun _ z => z.elim) (Kp.new hp)⟩⟩), fun _ _ => nofun⟩
theorem new_tup (hp : H p = none) (r : RelAll A H xs ds) : NewV A H (.tuple ds) false (.ref p) (upd H p (.tup xs)) :=
  ⟨Kp.new hp, (fun _ => .tup (.inl upd_same) (r.keep (M := No) (fun _ z => z.elim) (Kp.new hp))), (fun e => nomatch e), fun e => nomatch e⟩
theorem new_tupO {o : Obj} (hd : o.dict = none) (hp : H p = none) (r : RelAll A H xs ds) : Own (orA A p) (upd H p (.frz o (.tup xs))) p (.tuple ds) :=
  .inr (.inr (.inl ⟨xs, ds, o, rfl, hd, upd_same, (r.fresh hp).keep (M := No) (fun _ z => z.elim) (Kp.new hp)⟩))
end
mutual
theorem Rel.dp {A : AS} {H : Hp} {K : PySem.W.Frag} : ∀ {v : V} {d : PyData}, Rel A H v d → d.hasDict = false → Dp K H v d
  | _, _, .non, _ => .non
  | _, _, .bl b, _ => .bl b
  | _, _, .int i, _ => .int i
  | _, _, .str x, _ => .str x
  | _, _, .lst h n r, c => .lst (SqL.of h) (RelAll.dp r (by simpa [PyData.hasDict] using c))
  | _, _, .tup h r, c => .tup h.sq (RelAll.dp r (by simpa [PyData.hasDict] using c))
  | _, _, .dic h n r, c => by simp [PyData.hasDict] at c
  | _, _, .dit h n r, c => by simp [PyData.hasDict] at c
  | _, _, .scr h r, c => by simp [PyData.hasDict] at c
theorem RelAll.dp {A : AS} {H : Hp} {K : PySem.W.Frag} : ∀ {vs : List V} {ds : List PyData}, RelAll A H vs ds → PyData.hasDictAll ds = false → DpAll K H vs ds
  | _, _, .nil, _ => .nil
  | _, _, .cons a r, c => by
    simp only [PyData.hasDictAll, Bool.or_eq_false_iff] at c
    exact .cons (Rel.dp a c.1) (RelAll.dp r c.2)
end
theorem Top.dp {A : AS} {H : Hp} {K : PySem.W.Frag} {v : V} {d : PyData} (h : Top A H v d) (c : d.hasDict = false) : Dp K H v d := by
  cases d with
  | list ds =>
    obtain ⟨a, xs, rfl, h, r⟩ := h.lst
    exact .lst (SqL.of h) (r.dp (by simpa [PyData.hasDict] using c))
  | dict es => simp [PyData.hasDict] at c
  | none => exact (h.rel (fun _ => nofun) fun _ => nofun).dp c
  | bool b => exact (h.rel (fun _ => nofun) fun _ => nofun).dp c
  | int b => exact (h.rel (fun _ => nofun) fun _ => nofun).dp c
  | str b => exact (h.rel (fun _ => nofun) fun _ => nofun).dp c
  | tuple b => exact (h.rel (fun _ => nofun) fun _ => nofun).dp c
mutual
theorem lay0_nd : ∀ {d : PyData}, d.canLay0 = true → d.hasDict = false
  | .none, _ => rfl
  | .bool _, _ => rfl
  | .int _, _ => rfl
  | .str _, _ => rfl
  | .list xs, h => by
    simp only [PyData.canLay0] at h
    simpa [PyData.hasDict] using layAll0_nd h
  | .tuple xs, h => by
    simp only [PyData.canLay0] at h
    simpa [PyData.hasDict] using layAll0_nd h
  | .dict _, h => by simp [PyData.canLay0] at h
theorem layAll0_nd : ∀ {ds : List PyData}, PyData.canLayAll0 ds = true → PyData.hasDictAll ds = false
  | [], _ => rfl
  | x :: xs, h => by
    simp only [PyData.canLayAll0, Bool.and_eq_true] at h
    simp only [PyData.hasDictAll, Bool.or_eq_false_iff]
    exact ⟨lay0_nd h.1, layAll0_nd h.2⟩
end
theorem lay_dp {d : PyData} (h : lay d = true) : d.hasDict = false := by
  unfold lay SeqAt.shaped at h
  rw [Bool.and_eq_true] at h
  exact lay0_nd h.1

/-! ### two operands -/
def opOf : Bop → Operator
  | .add => .Add | .sub => .Sub | .mul => .Mult | .fdiv => .FloorDiv | .mod => .Mod | .pow => .Pow | .shr => .RShift | .band => .BitAnd
def rBin (op : Bop) : R2 := fun x y H Q => ∃ A d e z fr, Lv A H ∧ Top A H x d ∧ Top A H y e ∧ binD op d e = some (z, fr) ∧ ∀ v H', NewV A H z fr v H' → Q v H'
theorem small_iff {i : Int} (h : small i = true) : -(2 ^ 64) < i ∧ i < 2 ^ 64 := by
  unfold small at h
  rw [Bool.and_eq_true, decide_eq_true_iff, decide_eq_true_iff] at h
  exact h
theorem bin_ok {X : Cx} (op : Bop) : OpR X (binaryOp (opOf op)) (rBin op) := by
  intro pins s σ H x y v u Q I rx ry ⟨A, d, e, z, fr, lv, hx, hy, hz, q⟩
  unfold binD at hz
  split at hz
  · cases hz
    exact op_add pins s σ H x y v u Q I rx ry ⟨_, _, hx.int, hy.int, q _ _ (.val (.int _))⟩
  · split at hz
    · cases hz
      rename_i hs
      obtain ⟨a, xs, rfl, h1, r1⟩ := hx.lst
      obtain ⟨b, ys, rfl, h2, r2⟩ := hy.lst
      exact op_cat pins s σ H _ _ v u Q I rx ry ⟨a, b, xs, ys, rfl, rfl, h1, h2, by rw [r1.length, r2.length]; exact hs, fun p hp => q _ _ (new_lst hp (r1.append r2))⟩
    · cases hz
  · split at hz
    · cases hz
      rename_i hs
      obtain ⟨a, xs, rfl, h1, r1⟩ := hx.tup
      obtain ⟨b, ys, rfl, h2, r2⟩ := hy.tup
      refine op_catA pins s σ H _ _ v u Q I rx ry ⟨a, b, xs, ys, rfl, rfl, h1.sq, h2.sq, by rw [r1.length, r2.length]; exact hs, fun e => ?_, fun _ e => ?_, fun _ _ p hp => q _ _ (new_tup hp (r1.append r2))⟩
      · subst e
        cases r1
        exact q _ _ (.val (.tup h2 r2))
      · subst e
        cases r2
        exact q _ _ (.val (by rw [List.append_nil]; exact .tup h1 r1))
    · cases hz
  · split at hz
    · cases hz
      rename_i hs
      exact op_add_str pins s σ H x y v u Q I rx ry ⟨_, _, hx.str, hy.str, hs, q _ _ (.val (.str _))⟩
    · cases hz
  · cases hz
    exact op_sub pins s σ H x y v u Q I rx ry ⟨_, _, hx.int, hy.int, q _ _ (.val (.int _))⟩
  · split at hz
    · cases hz
      rename_i hs
      refine op_mul pins s σ H x y v u Q I rx ry ⟨_, _, hx.int, hy.int, ?_, q _ _ (.val (.int _))⟩
      rw [Bool.or_eq_true] at hs
      rcases hs with hs | hs
      · exact .inl (small_iff hs)
      · exact .inr (small_iff hs)
    · cases hz
  · split at hz
    · cases hz
      rename_i hs
      obtain ⟨a, xs, rfl, h1, r1⟩ := hx.lst
      exact op_rep pins s σ H _ _ v u Q I rx ry ⟨a, _, xs, rfl, hy.int, h1, hs.1, hs.2.1, by rw [r1.length]; exact hs.2.2, fun p hp => q _ _ (new_lst hp (r1.flatten _))⟩
    · cases hz
  · split at hz
    · cases hz
      rename_i hs
      obtain ⟨a, xs, rfl, h1, r1⟩ := hx.tup
      refine op_repW pins s σ H _ _ v u Q I rx ry ⟨a, _, xs, rfl, hy.int, h1.sq, fun e => ?_, hs.2.1, hs.2.2.1, by rw [r1.length]; exact hs.2.2.2, fun p hp => q _ _ (new_tup hp (r1.flatten _))⟩
      subst e
      cases r1
      exact hs.1 rfl
    · cases hz
  · split at hz
    · cases hz
      rename_i hs
      exact op_fdiv pins s σ H x y v u Q I rx ry ⟨_, _, hx.int, hy.int, hs, q _ _ (.val (.int _))⟩
    · cases hz
  · split at hz
    · cases hz
      rename_i hs
      exact op_mod pins s σ H x y v u Q I rx ry ⟨_, _, hx.int, hy.int, hs, q _ _ (.val (.int _))⟩
    · cases hz
  · split at hz
    · cases hz
      rename_i hs
      exact op_shr pins s σ H x y v u Q I rx ry ⟨_, _, hx.int, hy.int, hs, q _ _ (.val (.int _))⟩
    · cases hz
  · cases hz
    exact op_and pins s σ H x y v u Q I rx ry ⟨_, _, hx.int, hy.int, q _ _ (.val (.int _))⟩
  · split at hz
    · cases hz
      rename_i hs
      exact op_pow pins s σ H x y v u Q I rx ry ⟨_, _, hx.int, hy.int, hs, q _ _ (.val (.int _))⟩
    · cases hz
  · cases hz

/-! ### comparisons -/
def copOf : Cop → CmpOp
  | .eq => .Eq | .ne => .NotEq | .lt => .Lt | .le => .LtE | .gt => .Gt | .ge => .GtE | .isin => .In | .notin => .NotIn
def rCmp (op : Cop) : R2 := fun x y H Q => ∃ A d e z, Top A H x d ∧ Top A H y e ∧ cmpD op d e = some z ∧ Q (.bl z) H
theorem flat_rel {A : AS} {H : Hp} {v : V} {d : PyData} (r : Rel A H v d) (h : flat d = true) : flatV v = true := by
  cases r <;> first | rfl | (simp [flat] at h)
theorem flat_all {A : AS} {H : Hp} : ∀ {vs : List V} {ds : List PyData}, RelAll A H vs ds → ds.all flat = true → vs.all flatV = true
  | _, _, .nil, _ => rfl
  | _, _, .cons a r, h => by
    rw [List.all_cons, Bool.and_eq_true] at h ⊢
    exact ⟨flat_rel a h.1, flat_all r h.2⟩
theorem eqF_rel {A : AS} {H : Hp} {x y : V} {d e : PyData} (r : Rel A H x d) (q : Rel A H y e) (h : flat d = true) (h2 : flat e = true) : eqV x y = eqF d e := by
  cases r <;> cases q <;> first | rfl | (simp [flat] at h) | (simp [flat] at h2)
theorem inF_rel {A : AS} {H : Hp} {x : V} {d : PyData} (r : Rel A H x d) (h : flat d = true) : ∀ {vs : List V} {ds : List PyData}, RelAll A H vs ds → ds.all flat = true → inV x vs = ds.any fun y => eqF y d
  | _, _, .nil, _ => rfl
  | _, _, .cons a q, h2 => by
    rw [List.all_cons, Bool.and_eq_true] at h2
    unfold inV
    rw [List.any_cons, List.any_cons, eqF_rel a r h2.1 h]
    exact congrArg _ (inF_rel r h q h2.2)
/-- dicts -/
theorem Top.dic {A : AS} {H : Hp} {v : V} {es : List (PyData × PyData)} (h : Top A H v (.dict es)) (n : isScr es = false) : ∃ a kvs, v = .ref a ∧ H a = some (.dK kvs) ∧ RelKv A H kvs es := by
  rcases h with h | ⟨a, rfl, ⟨_, _, e, _⟩ | ⟨kvs, _, e, h, r⟩ | ⟨_, _, _, e, _⟩ | ⟨_, _, e, _⟩, _⟩
  · cases h with
    | dic h _ r => exact ⟨_, _, rfl, h, r⟩
    | dit h _ r => simp [isScr, tMark] at n
    | scr h r => simp [isScr] at n
  · cases e
  · cases e; exact ⟨a, kvs, rfl, h, r⟩
  · cases e
  · cases e; simp [isScr, tMark] at n
/-- dicts with tuples for keys -/
theorem Top.dit {A : AS} {H : Hp} {v : V} {es : List (PyData × PyData)} (h : Top A H v (.dict ((.list [], .none) :: es))) : ∃ a kvs, v = .ref a ∧ H a = some (.dT kvs) ∧ RelKt A H kvs es := by
  have nk : ∀ {kvs : List (Key × V)}, ¬ RelKv A H kvs ((.list [], .none) :: es) := fun {kvs} q => by
    have gen : ∀ {kvs : List (Key × V)} {fs : List (PyData × PyData)}, RelKv A H kvs fs → fs = ((.list [], .none) :: es) → False := by
      intro kvs fs q
      cases q with
      | nil => intro e; cases e
      | @cons k v kvs d fs a r =>
        intro e
        cases k with
        | inl i => injection e with e1 _; injection e1 with e2 _; cases e2
        | inr i => injection e with e1 _; injection e1 with e2 _; cases e2
    exact gen q rfl
  have gen : ∀ {d : PyData}, Top A H v d → d = .dict ((.list [], .none) :: es) → ∃ a kvs, v = .ref a ∧ H a = some (.dT kvs) ∧ RelKt A H kvs es := fun {d} h e => by
    rcases h with h | ⟨a, rfl, ⟨_, _, e', _⟩ | ⟨kvs, _, e', h, r⟩ | ⟨_, _, _, e', _⟩ | ⟨kvs, es', e', h, r⟩, _⟩
    · cases h with
      | dic h _ r => cases e; exact absurd r nk
      | dit h2 _ r => cases e; exact ⟨_, _, rfl, h2, r⟩
      | scr h2 r => cases e
      | _ => cases e
    · rw [e'] at e; cases e
    · rw [e'] at e; cases e; exact absurd r nk
    · rw [e'] at e; cases e
    · rw [e'] at e; cases e; exact ⟨a, kvs, rfl, h, r⟩
  exact gen h rfl
theorem tupI_rel {A : AS} {H : Hp} {v : V} {d : PyData} {k : List Int} (r : Rel A H v d) (h : tupI d = some k) : ∃ b, v = .ref b ∧ TupAt H b ((k.map Sum.inl : List Key).map kV) ∧ d = .tuple (k.map .int) := by
  cases r with
  | @tup a xs ds hh rr =>
    have e : ∀ {xs : List V} {ds : List PyData} {k : List Int}, RelAll A H xs ds → intsOf ds = some k → xs = ((k.map Sum.inl : List Key).map kV) ∧ ds = k.map .int := by
      intro xs ds k rr
      induction rr using RelAll.rec (motive_1 := fun _ _ _ => True) (motive_3 := fun _ _ _ => True) (motive_4 := fun _ _ _ => True) generalizing k with
      | nil => intro h; cases h; exact ⟨rfl, rfl⟩
      | cons a r _ ih =>
        intro h
        cases a with
        | int i =>
          simp only [intsOf, Option.map_eq_some_iff] at h
          obtain ⟨k', h1, rfl⟩ := h
          obtain ⟨e1, e2⟩ := ih h1
          rw [e1, e2]
          exact ⟨rfl, rfl⟩
        | _ => simp [intsOf] at h
      | _ => trivial
    obtain ⟨e1, e2⟩ := e rr h
    exact ⟨a, rfl, by rw [← e1]; exact hh, by rw [e2]⟩
  | _ => simp [tupI] at h
theorem map_inl_inj {a b : List Int} : (a.map Sum.inl : List Key) = b.map Sum.inl ↔ a = b := by
  constructor
  · intro h
    induction a generalizing b with
    | nil => cases b with
      | nil => rfl
      | cons _ _ => cases h
    | cons x r ih => cases b with
      | nil => cases h
      | cons y t =>
        injection h with h1 h2
        cases h1
        rw [ih h2]
  · intro h; rw [h]
theorem intsOf_ints (k : List Int) : intsOf (k.map .int) = some k := by
  induction k with
  | nil => rfl
  | cons a r ih => simp [intsOf, ih]
theorem key_rel {A : AS} {H : Hp} {v : V} {d : PyData} (r : Rel A H v d) (h : isKey d = true) : ∃ k : Key, v = kV k ∧ d = keyD k := by
  cases r <;> first | exact ⟨.inl _, rfl, rfl⟩ | exact ⟨.inr _, rfl, rfl⟩ | (simp [isKey] at h)
theorem eqK_key (a b : Key) : eqK (keyD a) (keyD b) = decide (a = b) := by
  cases a <;> cases b
  · exact decide_eq_decide.mpr ⟨congrArg _, Sum.inl.inj⟩
  · rfl
  · rfl
  · exact decide_eq_decide.mpr ⟨congrArg _, Sum.inr.inj⟩
theorem get_rel {A : AS} {H : Hp} {k : Key} : ∀ {kvs : List (Key × V)} {es : List (PyData × PyData)}, RelKv A H kvs es → (valV kvs k = none ∧ dGet es (keyD k) = none) ∨ ∃ v d, valV kvs k = some v ∧ dGet es (keyD k) = some d ∧ Rel A H v d
  | _, _, .nil => .inl ⟨rfl, rfl⟩
  | _, _, .cons (k := q) a r => by
    unfold valV dGet
    rw [List.find?_cons, List.find?_cons, eqK_key]
    by_cases e : q = k
    · simp only [e, decide_true]
      exact .inr ⟨_, _, rfl, rfl, a⟩
    · simp only [e, decide_false]
      exact get_rel r
theorem any_rel {A : AS} {H : Hp} {k : Key} : ∀ {kvs : List (Key × V)} {es : List (PyData × PyData)}, RelKv A H kvs es → (kvs.any fun kv => decide (kv.1 = k)) = (es.any fun p => eqK p.1 (keyD k))
  | _, _, .nil => rfl
  | _, _, .cons (k := q) a r => by
    rw [List.any_cons, List.any_cons, eqK_key]
    exact congrArg _ (any_rel r)
theorem RelKv.append {A : AS} {H : Hp} : ∀ {kvs kvs' : List (Key × V)} {es es' : List (PyData × PyData)}, RelKv A H kvs es → RelKv A H kvs' es' → RelKv A H (kvs ++ kvs') (es ++ es')
  | _, _, _, _, .nil, h => h
  | _, _, _, _, .cons a r, h => .cons a (RelKv.append r h)
theorem RelKv.length {A : AS} {H : Hp} : ∀ {kvs : List (Key × V)} {es : List (PyData × PyData)}, RelKv A H kvs es → kvs.length = es.length
  | _, _, .nil => rfl
  | _, _, .cons _ r => congrArg (· + 1) (RelKv.length r)
theorem map_rel {A : AS} {H : Hp} {k : Key} {v : V} {d : PyData} (hv : Rel A H v d) : ∀ {kvs : List (Key × V)} {es : List (PyData × PyData)}, RelKv A H kvs es → RelKv A H (kvs.map fun kv => if kv.1 = k then (kv.1, v) else kv) (es.map fun p => if eqK p.1 (keyD k) then (p.1, d) else p)
  | _, _, .nil => .nil
  | _, _, .cons (k := q) a r => by
    rw [List.map_cons, List.map_cons, eqK_key]
    by_cases e : q = k
    · simp only [e, decide_true, if_true]
      exact .cons hv (map_rel hv r)
    · simp only [e, decide_false, if_false]
      exact .cons a (map_rel hv r)
theorem put_rel {A : AS} {H : Hp} {k : Key} {v : V} {d : PyData} {kvs : List (Key × V)} {es : List (PyData × PyData)} (hv : Rel A H v d) (r : RelKv A H kvs es) : RelKv A H (putK kvs k v) (dPut es (keyD k) d) := by
  unfold putK dPut
  rw [any_rel r]
  split
  · exact map_rel hv r
  · exact r.append (.cons hv .nil)
mutual
theorem plain_of : ∀ {d : PyData}, d.hasDict = false → d.plain = true
  | .none, _ => by simp only [PyData.plain]
  | .bool _, _ => by simp only [PyData.plain]
  | .int _, _ => by simp only [PyData.plain]
  | .str _, _ => by simp only [PyData.plain]
  | .list xs, h => by
    simp only [PyData.hasDict] at h
    simp only [PyData.plain]
    exact plainAll_of h
  | .tuple xs, h => by
    simp only [PyData.hasDict] at h
    simp only [PyData.plain]
    exact plainAll_of h
  | .dict _, h => by simp [PyData.hasDict] at h
theorem plainAll_of : ∀ {ds : List PyData}, PyData.hasDictAll ds = false → PyData.plainAll ds = true
  | [], _ => by simp only [PyData.plainAll]
  | x :: xs, h => by
    simp only [PyData.hasDictAll, Bool.or_eq_false_iff] at h
    simp only [PyData.plainAll, plain_of h.1, plainAll_of h.2, Bool.and_self]
end

theorem in_two {d : PyData} {ds : List PyData} {z : Bool} (hz : inD d ds = some z) : (flat d = true ∧ ds.all flat = true) ∨ (¬ (flat d && ds.all flat) = true ∧ d.hasDict = false ∧ PyData.hasDictAll ds = false ∧ d.depth ≤ 32 ∧ z = ds.any fun y => PyData.eqv y d) := by
  unfold inD at hz
  split at hz
  · rename_i hs; rw [Bool.and_eq_true] at hs; exact .inl hs
  · rename_i hs
    split at hz
    · rename_i h2
      simp only [Bool.and_eq_true, Bool.not_eq_true', decide_eq_true_eq] at h2
      exact .inr ⟨hs, h2.1.1, h2.1.2, h2.2, (Option.some.inj hz).symm⟩
    · cases hz
theorem in_deep {X : Cx} {pins : List (Addr × Obj)} {s : Shared} {σ : L2.St} {H : Hp} {A : AS} {x y : V} {v u : Value} {d : PyData} {ds : List PyData} {Q : VK} (hu : X.A.units + 64 < cLine) (I : Inv X pins σ H s) (rx : RelV x v) (ry : RelV y u) (hx : Top A H x d)
    (lst : Bool) (hy : Top A H y (if lst then .list ds else .tuple ds)) (h1 : d.hasDict = false) (h2 : PyData.hasDictAll ds = false) (h3 : d.depth ≤ 32) (neg : Bool) (q : Q (.bl (if neg then !(ds.any fun y => PyData.eqv y d) else ds.any fun y => PyData.eqv y d)) H) :
    wpAny (model X.prog X.w) X.A (compareOp (if neg then .NotIn else .In) v u) (EP X pins σ Q) X.xe s := by
  obtain ⟨as, ra⟩ := Dp.reads I d x _ (hx.dp h1) rx
  have hroom : X.A.units + 1 + min (PyData.depthAll ds) d.depth < cLine := by omega
  cases lst with
  | true =>
    obtain ⟨bs, rb⟩ := Dp.reads I (.list ds) y _ (hy.dp (by simpa [PyData.hasDict] using h2)) ry
    cases neg with
    | true => exact PySem.SeqAt.notIn_list_data rb ra (plainAll_of h2) (plain_of h1) hroom ⟨.bl _, H, I, rfl, by simpa using q⟩
    | false => exact PySem.SeqAt.in_list_data rb ra (plainAll_of h2) (plain_of h1) hroom ⟨.bl _, H, I, rfl, by simpa using q⟩
  | false =>
    obtain ⟨bs, rb⟩ := Dp.reads I (.tuple ds) y _ (hy.dp (by simpa [PyData.hasDict] using h2)) ry
    cases neg with
    | true => exact PySem.SeqAt.notIn_tuple_data rb ra (plainAll_of h2) (plain_of h1) hroom ⟨.bl _, H, I, rfl, by simpa using q⟩
    | false => exact PySem.SeqAt.in_tuple_data rb ra (plainAll_of h2) (plain_of h1) hroom ⟨.bl _, H, I, rfl, by simpa using q⟩
theorem in_ok {X : Cx} {A : AS} {H : Hp} {x y : V} {d : PyData} {ds : List PyData} {z : Bool} (hx : Top A H x d) (hy : (∃ a xs, y = .ref a ∧ (SqL X.K H a xs ∨ SqT X.K H a xs) ∧ RelAll A H xs ds)) (hz : inD d ds = some z) (hf : flat d = true ∧ ds.all flat = true) :
    ∃ p xs, y = .ref p ∧ (SqL X.K H p xs ∨ SqT X.K H p xs) ∧ flatV x = true ∧ xs.all flatV = true ∧ inV x xs = z := by
  unfold inD at hz
  split at hz
  · rename_i hs
    rw [Bool.and_eq_true] at hs
    obtain ⟨a, xs, rfl, h, r⟩ := hy
    have hx' : Rel A H x d := hx.rel (fun _ e => by rw [e] at hs; exact absurd hs.1 (by simp [flat])) fun _ e => by rw [e] at hs; exact absurd hs.1 (by simp [flat])
    refine ⟨a, xs, rfl, h, flat_rel hx' hs.1, flat_all r hs.2, ?_⟩
    rw [inF_rel hx' hs.1 r hs.2]
    exact Option.some.inj hz
  · rename_i hs; exact absurd (by rw [hf.1, hf.2]; rfl) hs
theorem ord2_iff {a b : PyData} (h : ord2 a b = true) : PySem.W.alike a b = true ∧ a ≠ .none ∧ a.depth ≤ 32 ∧ a.hasDict = false ∧ b.hasDict = false := by
  unfold ord2 at h
  simp only [Bool.and_eq_true, Bool.not_eq_true', decide_eq_true_eq] at h
  exact ⟨h.1.1.1.1, fun e => by rw [e] at h; simp [isNone] at h, h.1.1.2, h.1.2, h.2⟩
theorem ord_op {X : Cx} {op : CmpOp} {f : PyData → PyData → Bool} {pins : List (Addr × Obj)} {s : Shared} {σ : L2.St} {H : Hp} {A : AS} {x y : V} {v u : Value} {d e : PyData} {Q : VK}
    (law : ∀ {a b : Value} {da db : PyData} {as bs : List Addr} {Q : Value → Shared → Prop}, Reads s.heap a da as → Reads s.heap b db bs → PySem.W.alike da db = true → da ≠ .none → X.A.units + min da.depth db.depth < cLine → Q (.bool (f da db)) s → wpAny (model X.prog X.w) X.A (compareOp op a b) Q X.xe s)
    (hu : X.A.units + 64 < cLine) (I : Inv X pins σ H s) (rx : RelV x v) (ry : RelV y u) (hx : Top A H x d) (hy : Top A H y e) (hs : ord2 d e = true) (q : Q (.bl (f d e)) H) : wpAny (model X.prog X.w) X.A (compareOp op v u) (EP X pins σ Q) X.xe s := by
  obtain ⟨h1, h2, h3, h4, h5⟩ := ord2_iff hs
  obtain ⟨as, ra⟩ := Dp.reads I d x _ (hx.dp h4) rx
  obtain ⟨bs, rb⟩ := Dp.reads I e y _ (hy.dp h5) ry
  exact law ra rb h1 h2 (by omega) ⟨.bl _, H, I, rfl, q⟩
theorem cmp_ok {X : Cx} (hu : X.A.units + 64 < cLine) (op : Cop) : OpR X (compareOp (copOf op)) (rCmp op) := by
  intro pins s σ H x y v u Q I rx ry ⟨A, d, e, z, hx, hy, hz, q⟩
  unfold cmpD at hz
  split at hz
  · cases hz
    cases hx.int; cases hy.int
    exact op_eq pins s σ H _ _ v u Q I rx ry ⟨rfl, by rw [show decide (V.int _ = V.int _) = decide (_ = _) from decide_eq_decide.mpr ⟨V.int.inj, congrArg _⟩]; exact q⟩
  · cases hz
    cases hx.str; cases hy.str
    exact op_eq pins s σ H _ _ v u Q I rx ry ⟨rfl, by rw [show decide (V.str _ = V.str _) = decide (_ = _) from decide_eq_decide.mpr ⟨V.str.inj, congrArg _⟩]; exact q⟩
  · cases hz
    cases hx.int; cases hy.int
    exact op_ne pins s σ H _ _ v u Q I rx ry ⟨rfl, by rw [show decide (V.int _ = V.int _) = decide (_ = _) from decide_eq_decide.mpr ⟨V.int.inj, congrArg _⟩]; exact q⟩
  · cases hz
    cases hx.str; cases hy.str
    exact op_ne pins s σ H _ _ v u Q I rx ry ⟨rfl, by rw [show decide (V.str _ = V.str _) = decide (_ = _) from decide_eq_decide.mpr ⟨V.str.inj, congrArg _⟩]; exact q⟩
  · split at hz
    · cases hz
      rename_i hs
      rw [Bool.and_eq_true] at hs
      exact op_eqD hu pins s σ H x y v u Q I rx ry ⟨_, _, hx.dp (lay_dp hs.1), hy.dp (lay_dp hs.2), hs.1, hs.2, q⟩
    · cases hz
  · split at hz
    · cases hz
      rename_i hs
      rw [Bool.and_eq_true] at hs
      exact op_neD hu pins s σ H x y v u Q I rx ry ⟨_, _, hx.dp (lay_dp hs.1), hy.dp (lay_dp hs.2), hs.1, hs.2, q⟩
    · cases hz
  · cases hz
    exact op_lt pins s σ H x y v u Q I rx ry ⟨_, _, hx.int, hy.int, q⟩
  · cases hz
    exact op_le pins s σ H x y v u Q I rx ry ⟨_, _, hx.int, hy.int, q⟩
  · cases hz
    exact op_gt pins s σ H x y v u Q I rx ry ⟨_, _, hx.int, hy.int, q⟩
  · cases hz
    exact op_ge pins s σ H x y v u Q I rx ry ⟨_, _, hx.int, hy.int, q⟩
  · split at hz
    · cases hz
      rename_i hs
      exact ord_op (fun ra rb h1 h2 h3 g => PySem.W.lt_data ra rb h1 h2 h3 g) hu I rx ry hx hy hs q
    · cases hz
  · split at hz
    · cases hz
      rename_i hs
      exact ord_op (f := fun a b => !PySem.W.dataLt b a) (fun ra rb h1 h2 h3 g => PySem.W.le_data ra rb h1 h2 h3 g) hu I rx ry hx hy hs q
    · cases hz
  · split at hz
    · cases hz
      rename_i hs
      exact ord_op (f := fun a b => PySem.W.dataLt b a) (fun ra rb h1 h2 h3 g => PySem.W.gt_data ra rb h1 h2 h3 g) hu I rx ry hx hy hs q
    · cases hz
  · split at hz
    · cases hz
      rename_i hs
      exact ord_op (f := fun a b => !PySem.W.dataLt a b) (fun ra rb h1 h2 h3 g => PySem.W.ge_data ra rb h1 h2 h3 g) hu I rx ry hx hy hs q
    · cases hz
  · cases hz
    cases hx.str; cases hy.str
    exact op_in_str pins s σ H _ _ v u Q I rx ry ⟨_, _, rfl, rfl, q⟩
  · rcases in_two hz with hf | ⟨_, g1, g2, g3, rfl⟩
    rotate_left
    · exact in_deep hu I rx ry hx true hy g1 g2 g3 false (by simpa using q)
    obtain ⟨a, xs, rfl, h1, r1⟩ := hy.lst
    obtain ⟨p, ys, e1, h2, f1, f2, e2⟩ := in_ok (X := X) hx ⟨a, xs, rfl, .inl (SqL.of h1), r1⟩ hz hf
    exact op_in_seq pins s σ H _ _ v u Q I rx ry ⟨p, ys, e1, h2, f1, f2, by rw [if_neg Bool.false_ne_true, e2]; exact q⟩
  · rcases in_two hz with hf | ⟨_, g1, g2, g3, rfl⟩
    rotate_left
    · exact in_deep hu I rx ry hx false hy g1 g2 g3 false (by simpa using q)
    obtain ⟨a, xs, rfl, h1, r1⟩ := hy.tup
    obtain ⟨p, ys, e1, h2, f1, f2, e2⟩ := in_ok (X := X) hx ⟨a, xs, rfl, .inr h1.sq, r1⟩ hz hf
    exact op_in_seq pins s σ H _ _ v u Q I rx ry ⟨p, ys, e1, h2, f1, f2, by rw [if_neg Bool.false_ne_true, e2]; exact q⟩
  · simp only [Option.map_eq_some_iff] at hz
    obtain ⟨k, hk, rfl⟩ := hz
    obtain ⟨a, kvs, rfl, h1, r1⟩ := hy.dit
    exact r1.no.elim
  · simp only [Option.map_eq_some_iff] at hz
    obtain ⟨k, hk, rfl⟩ := hz
    obtain ⟨a, kvs, rfl, h1, r1⟩ := hy.dit
    exact r1.no.elim
  · split at hz
    · rename_i hs
      rw [Bool.and_eq_true, Bool.not_eq_true'] at hs
      obtain ⟨a, kvs, rfl, h1, r1⟩ := hy.dic hs.2
      have hx' : Rel A H x d := hx.rel (fun _ e => by rw [e] at hs; exact absurd hs.1 (by simp [isKey])) fun _ e => by rw [e] at hs; exact absurd hs.1 (by simp [isKey])
      obtain ⟨k, rfl, rfl⟩ := key_rel hx' hs.1
      cases ry
      cases hz
      have e : (valV kvs k).isSome = (dGet ‹List (PyData × PyData)› (keyD k)).isSome := by
        rcases get_rel (k := k) r1 with ⟨e1, e2⟩ | ⟨v, d, e1, e2, _⟩ <;> rw [e1, e2] <;> rfl
      rw [← e] at q
      exact d_in (by omega) I (DGet.k h1) rx fun s' I' => ⟨.bl _, H, I', rfl, q⟩
    · cases hz
  · split at hz
    · rename_i hs
      rw [Bool.and_eq_true, Bool.not_eq_true'] at hs
      obtain ⟨a, kvs, rfl, h1, r1⟩ := hy.dic hs.2
      have hx' : Rel A H x d := hx.rel (fun _ e => by rw [e] at hs; exact absurd hs.1 (by simp [isKey])) fun _ e => by rw [e] at hs; exact absurd hs.1 (by simp [isKey])
      obtain ⟨k, rfl, rfl⟩ := key_rel hx' hs.1
      cases ry
      cases hz
      have e : (valV kvs k).isSome = (dGet ‹List (PyData × PyData)› (keyD k)).isSome := by
        rcases get_rel (k := k) r1 with ⟨e1, e2⟩ | ⟨v, d, e1, e2, _⟩ <;> rw [e1, e2] <;> rfl
      rw [← e] at q
      exact d_notIn (by omega) I (DGet.k h1) rx fun s' I' => ⟨.bl _, H, I', rfl, q⟩
    · cases hz
  · cases hi : inD d ‹List PyData› with
    | none => rw [hi] at hz; cases hz
    | some b =>
      rw [hi] at hz; cases hz
      rcases in_two hi with hf | ⟨_, g1, g2, g3, rfl⟩
      rotate_left
      · exact in_deep hu I rx ry hx true hy g1 g2 g3 true (by simpa using q)
      obtain ⟨a, xs, rfl, h1, r1⟩ := hy.lst
      obtain ⟨p, ys, e1, h2, f1, f2, e2⟩ := in_ok (X := X) hx ⟨a, xs, rfl, .inl (SqL.of h1), r1⟩ hi hf
      exact op_notIn_seq pins s σ H _ _ v u Q I rx ry ⟨p, ys, e1, h2, f1, f2, by rw [if_pos rfl, e2]; exact q⟩
  · cases hi : inD d ‹List PyData› with
    | none => rw [hi] at hz; cases hz
    | some b =>
      rw [hi] at hz; cases hz
      rcases in_two hi with hf | ⟨_, g1, g2, g3, rfl⟩
      rotate_left
      · exact in_deep hu I rx ry hx false hy g1 g2 g3 true (by simpa using q)
      obtain ⟨a, xs, rfl, h1, r1⟩ := hy.tup
      obtain ⟨p, ys, e1, h2, f1, f2, e2⟩ := in_ok (X := X) hx ⟨a, xs, rfl, .inr h1.sq, r1⟩ hi hf
      exact op_notIn_seq pins s σ H _ _ v u Q I rx ry ⟨p, ys, e1, h2, f1, f2, by rw [if_pos rfl, e2]; exact q⟩
  · cases hz

/-! ### places and slices -/
def rIx : R2 := fun x y H Q => ∃ A d k z, Top A H x d ∧ Rel A H y k ∧ idxD d k = some z ∧ ∀ v, Rel A H v z → Q v H
theorem at_rel {A : AS} {H : Hp} {vs : List V} {ds : List PyData} {i : Int} {z : PyData} (r : RelAll A H vs ds) (h : (ixOf ds.length i).bind (ds[·]?) = some z) : ∃ v, atI vs i = some v ∧ Rel A H v z := by
  unfold atI
  rw [r.length]
  show ∃ v, (ixOf ds.length i).bind (fun j => vs[j]?) = some v ∧ _
  cases e : ixOf ds.length i with
  | none => rw [e] at h; cases h
  | some j =>
    rw [e] at h
    exact r.get h
theorem ix_ok {X : Cx} (hK : X.K = EK.k) : IxR X rIx := by
  intro value slice pins s σ H x y v u Q I rx ry ⟨A, d, k, z, hx, hy, hz, q⟩ hs
  unfold idxD at hz
  split at hz
  · obtain ⟨a, xs, rfl, h, r⟩ := hx.lst
    cases hy
    obtain ⟨w, e, rw'⟩ := at_rel r hz
    exact ix_list value slice pins s σ H _ _ v u Q I rx ry ⟨a, xs, _, w, rfl, rfl, SqL.of h, e, q w rw'⟩ hs
  · obtain ⟨a, xs, rfl, h, r⟩ := hx.tup
    cases hy
    obtain ⟨w, e, rw'⟩ := at_rel r hz
    exact ix_tup value slice pins s σ H _ _ v u Q I rx ry ⟨a, xs, _, w, rfl, rfl, h.sq, e, q w rw'⟩ hs
  · obtain ⟨a, xs, rfl, h, r⟩ := hx.scr
    cases hy
    obtain ⟨w, e, rw'⟩ := at_rel r hz
    exact ix_list value slice pins s σ H _ _ v u Q I rx ry ⟨a, xs, _, w, rfl, rfl, h.sq hK, e, q w rw'⟩ hs
  · split at hz
    · rename_i hl
      cases hx.str
      cases hy
      rename_i zz i
      cases e : (ixOf zz.cps.toList.length i).bind (zz.cps.toList[·]?) with
      | none => rw [e] at hz; cases hz
      | some c =>
        rw [e] at hz
        cases hz
        exact ix_str value slice pins s σ H _ _ v u Q I rx ry ⟨zz, i, c, rfl, rfl, hl, e, q _ (.str _)⟩ hs
    · cases hz
  · cases hz
def rSl : V → Option Int → Option Int → Hp → VK → Prop := fun x lo hi H Q => ∃ A d z fr, Top A H x d ∧ slD d lo hi = some (z, fr) ∧ ∀ v H', NewV A H z fr v H' → Q v H'
theorem cut_rel {A : AS} {H : Hp} {vs : List V} {ds : List PyData} (r : RelAll A H vs ds) (lo hi : Option Int) : RelAll A H (cutV vs lo hi) (cut ds lo hi) := by
  have e : cutV vs lo hi = (vs.drop (cutIx ds.length 0 lo)).take (cutIx ds.length ds.length hi - cutIx ds.length 0 lo) := by
    unfold cutV
    rw [r.length]
    rfl
  rw [e]
  exact (r.drop _).take _
theorem sl_ok {X : Cx} (hK : X.K = EK.k) : SlR X rSl := by
  intro pins s σ H x v vl vu lo hi sl Q I rx hs pl pu ⟨A, d, z, fr, hx, hz, q⟩
  unfold slD at hz
  split at hz
  · cases hz
    obtain ⟨a, xs, rfl, h, r⟩ := hx.lst
    exact sl_list pins s σ H _ v vl vu _ _ sl Q I rx hs pl pu ⟨a, xs, rfl, SqL.of h, fun p hp => q _ _ (new_lst hp (cut_rel r _ _))⟩
  · cases hz
    obtain ⟨a, xs, rfl, h, r⟩ := hx.scr
    exact sl_list pins s σ H _ v vl vu _ _ sl Q I rx hs pl pu ⟨a, xs, rfl, h.sq hK, fun p hp => q _ _ (new_lst hp (cut_rel r _ _))⟩
  · cases hz
    obtain ⟨a, xs, rfl, h, r⟩ := hx.tup
    refine sl_tupA pins s σ H _ v vl vu _ _ sl Q I rx hs pl pu ⟨a, xs, rfl, h.sq, fun e => ?_, fun _ p hp => q _ _ (new_tup hp (cut_rel r _ _))⟩
    have c := cut_rel r lo hi
    have e2 : cutV xs lo hi = xs := by
      unfold cutV
      rw [e.1, e.2, List.drop_zero, Nat.sub_zero, List.take_length]
    rw [e2] at c
    exact q _ _ (.val (.tup h c))
  · split at hz
    · cases hz
      rename_i hl
      cases hx.str
      exact sl_str pins s σ H _ v vl vu _ _ sl Q I rx hs pl pu ⟨_, rfl, hl, q _ _ (.val (by
        have e : ∀ z : Str, z.length = z.cps.toList.length := fun z => by rw [Array.length_toList]; rfl
        have e3 : cutS ‹Str› lo hi = ⟨(cut (‹Str›).cps.toList lo hi).toArray⟩ := by
          unfold cutS
          rw [e]
          rfl
        rw [e3]
        exact .str _))⟩
    · cases hz
  · cases hz

/-! ### built-ins -/
inductive TopAll (A : AS) (H : Hp) : List V → List PyData → Prop
  | nil : TopAll A H [] []
  | cons {v : V} {vs : List V} {d : PyData} {ds : List PyData} : Top A H v d → TopAll A H vs ds → TopAll A H (v :: vs) (d :: ds)
theorem bools_rel {A : AS} {H : Hp} : ∀ {vs : List V} {ds : List PyData} {bs : List Bool}, RelAll A H vs ds → boolsOf ds = some bs → vs = bs.map V.bl
  | _, _, _, .nil, h => by cases h; rfl
  | _, _, _, .cons a r, h => by
    cases a with
    | bl b =>
      simp only [boolsOf] at h
      cases e : boolsOf ‹List PyData› with
      | none => rw [e] at h; cases h
      | some q => rw [e] at h; cases h; rw [bools_rel r e]; rfl
    | _ => simp [boolsOf] at h
theorem ints_rel {A : AS} {H : Hp} : ∀ {vs : List V} {ds : List PyData} {bs : List Int}, RelAll A H vs ds → intsOf ds = some bs → vs = bs.map V.int
  | _, _, _, .nil, h => by cases h; rfl
  | _, _, _, .cons a r, h => by
    cases a with
    | int b =>
      simp only [intsOf] at h
      cases e : intsOf ‹List PyData› with
      | none => rw [e] at h; cases h
      | some q => rw [e] at h; cases h; rw [ints_rel r e]; rfl
    | _ => simp [intsOf] at h
theorem ints_all {A : AS} {H : Hp} : ∀ ns : List Int, RelAll A H (ns.map V.int) (ns.map PyData.int)
  | [] => .nil
  | _ :: r => .cons (.int _) (ints_all r)
theorem insI_perm (x : Int) : ∀ r : List Int, (insI x r).Perm (x :: r)
  | [] => List.Perm.refl _
  | y :: r => by
    unfold insI
    split
    · exact List.Perm.refl _
    · exact (List.Perm.cons y (insI_perm x r)).trans (List.Perm.swap x y r)
theorem sortI_perm : ∀ r : List Int, (sortI r).Perm r
  | [] => List.Perm.refl _
  | x :: r => (insI_perm x (sortI r)).trans (List.Perm.cons x (sortI_perm r))
theorem insI_sorted (x : Int) : ∀ r : List Int, r.Pairwise (· ≤ ·) → (insI x r).Pairwise (· ≤ ·)
  | [], _ => List.pairwise_singleton _ _
  | y :: r, h => by
    unfold insI
    rw [List.pairwise_cons] at h
    split
    · rename_i hx
      refine List.pairwise_cons.mpr ⟨fun z hz => ?_, List.pairwise_cons.mpr h⟩
      rcases List.mem_cons.mp hz with rfl | hz
      · exact hx
      · exact Int.le_trans hx (h.1 z hz)
    · rename_i hx
      refine List.pairwise_cons.mpr ⟨fun z hz => ?_, insI_sorted x r h.2⟩
      rcases List.mem_cons.mp ((insI_perm x r).mem_iff.mp hz) with rfl | hz
      · omega
      · exact h.1 z hz
theorem sortI_sorted : ∀ r : List Int, (sortI r).Pairwise (· ≤ ·)
  | [] => List.Pairwise.nil
  | x :: r => insI_sorted x _ (sortI_sorted r)
theorem sorted_one : ∀ {xs ys : List Int}, xs.Perm ys → xs.Pairwise (· ≤ ·) → ys.Pairwise (· ≤ ·) → xs = ys
  | [], ys, p, _, _ => by rw [List.nil_perm.mp p]
  | x :: xs, [], p, _, _ => by have := p.length_eq; simp at this
  | x :: xs, y :: ys, p, h1, h2 => by
    rw [List.pairwise_cons] at h1 h2
    have e : x = y := by
      have a : x ∈ y :: ys := p.mem_iff.mp List.mem_cons_self
      have b : y ∈ x :: xs := p.mem_iff.mpr List.mem_cons_self
      rcases List.mem_cons.mp a with a | a
      · exact a
      · rcases List.mem_cons.mp b with b | b
        · exact b.symm
        · have := h1.1 y b
          have := h2.1 x a
          omega
    subst e
    rw [sorted_one (List.Perm.cons_inv p) h1.2 h2.2]
def fnBi : Bi → Value
  | .len => .builtin "len" | .all => .builtin "all" | .any => .builtin "any" | .tuple => .type "tuple" | .list => .type "list"
  | .sorted => .builtin "sorted" | .sum => .builtin "sum" | .max1 => .builtin "max" | .min1 => .builtin "min" | .max2 => .builtin "max" | .min2 => .builtin "min"
  | .repr => .builtin "repr" | .str => .type "str" | .int => .type "int"
  | _ => .none
def rBi (b : Bi) : List V → Hp → VK → Prop := fun xs H Q => ∃ A ds z fr, TopAll A H xs ds ∧ biD b ds = some (z, fr) ∧ ∀ v H', NewV A H z fr v H' → Q v H'
theorem TopAll.one {A : AS} {H : Hp} {xs : List V} {d : PyData} (h : TopAll A H xs [d]) : ∃ v, xs = [v] ∧ Top A H v d := by
  cases h with | cons a r => cases r with | nil => exact ⟨_, rfl, a⟩
theorem TopAll.two {A : AS} {H : Hp} {xs : List V} {d e : PyData} (h : TopAll A H xs [d, e]) : ∃ v w, xs = [v, w] ∧ Top A H v d ∧ Top A H w e := by
  cases h with | cons a r => obtain ⟨w, rfl, q⟩ := r.one; exact ⟨_, w, rfl, a, q⟩
theorem Top.relN {A : AS} {H : Hp} {v : V} {d : PyData} (h : Top A H v d) : Rel No H v d := by
  rcases h with h | ⟨a, rfl, ho, nt⟩
  · exact h.anti fun _ z => z.elim
  · exact (ho.anti fun _ z => z.elim).rel nt fun z => z
section
variable {X : Cx} {pins : List (Addr × Obj)} {s : Shared} {σ : L2.St} {H : Hp} {A : AS}
theorem key_reads {k : Key} {u : Value} (h : keyIs k u = true) : Reads s.heap u (keyD k) [] := by
  rcases keyIs_shape h with ⟨i, t, rfl, rfl⟩ | ⟨x, t, rfl, rfl⟩
  · exact .int i t
  · exact .str x t
mutual
/-- data with dicts, without lists, are read in the heap -/
theorem Rel.reads (I : Inv X pins σ H s) : ∀ {v : V} {d : PyData}, Rel A H v d → ∀ {u : Value}, RelV v u → dOk d = true → ∃ as, Reads s.heap u d as ∧ sysModules ∉ as
  | _, _, .non, u, rv, _ => by cases rv; exact ⟨[], .none, by simp⟩
  | _, _, .bl b, u, rv, _ => by cases rv; exact ⟨[], .bool b, by simp⟩
  | _, _, .int i, u, rv, _ => by obtain ⟨t, rfl⟩ := rv; exact ⟨[], .int i t, by simp⟩
  | _, _, .str x, u, rv, _ => by obtain ⟨t, rfl⟩ := rv; exact ⟨[], .str x t, by simp⟩
  | _, _, .lst h n r, u, rv, c => by simp [dOk] at c
  | _, _, .tup h r, u, rv, c => by
    cases rv
    rcases h with h | ⟨ob, _, h⟩
    · obtain ⟨z, its, vv, o, ho, hc, n, hd⟩ := I.hok _ _ h
      obtain ⟨as, ra, na⟩ := RelAll.reads I r vv (by simpa [dOk] using c)
      exact ⟨as, .tuple ho hc hd (by simpa using ra), na⟩
    · obtain ⟨_, z, its, vv, o, ho, hc, n, hd⟩ := (show ObjOk X.prog X.w H s.heap _ (.frz ob (.tup _)) from I.hok _ _ h)
      obtain ⟨as, ra, na⟩ := RelAll.reads I r vv (by simpa [dOk] using c)
      exact ⟨as, .tuple ho hc hd (by simpa using ra), na⟩
  | _, _, .dic h n r, u, rv, c => by
    cases rv
    obtain ⟨z, hne, vs, kv, o, es, ep, ho, ex, hd, _, pr, _⟩ := I.hok _ _ h
    obtain ⟨as, bs, ra, rb, na, nb⟩ := RelKv.reads I r kv pr (by simpa [dOk] using c)
    refine ⟨_, .dict ho ex.1 hd ra rb, fun hm => ?_⟩
    rcases List.mem_append.1 hm with hm | hm
    · rcases List.mem_cons.1 hm with hm | hm
      · rw [← hm] at hne; simp at hne
      · exact na hm
    · exact nb hm
  | _, _, .dit h n r, u, rv, c => by simp [dOk, dOkKv, tMark, isKey] at c
  | _, _, .scr h r, u, rv, c => by simp [dOk, dOkKv, isKey] at c
theorem RelAll.reads (I : Inv X pins σ H s) : ∀ {vs : List V} {ds : List PyData}, RelAll A H vs ds → ∀ {us : List Value}, Vals vs us → dOkAll ds = true → ∃ as, ReadsAll s.heap us ds as ∧ sysModules ∉ as
  | _, _, .nil, us, rv, _ => by cases rv; exact ⟨[], .nil, by simp⟩
  | _, _, .cons a r, us, rv, c => by
    cases rv with
    | cons rv1 rv2 =>
      simp only [dOkAll, Bool.and_eq_true] at c
      obtain ⟨as, h1, n1⟩ := Rel.reads I a rv1 c.1
      obtain ⟨bs, h2, n2⟩ := RelAll.reads I r rv2 c.2
      exact ⟨as ++ bs, .cons h1 h2, fun hm => (List.mem_append.1 hm).elim n1 n2⟩
theorem RelKv.reads (I : Inv X pins σ H s) : ∀ {kvs : List (Key × V)} {es : List (PyData × PyData)}, RelKv A H kvs es → ∀ {vs : List (Key × Value)} {ens : List DictEntry}, KV kvs vs → Pairs (mixKind X.prog X.w) ens vs → dOkKv es = true →
    ∃ as bs, ReadsAll s.heap (ens.map (·.key)) (es.map (·.1)) as ∧ ReadsAll s.heap (ens.map (·.val)) (es.map (·.2)) bs ∧ sysModules ∉ as ∧ sysModules ∉ bs
  | _, _, .nil, vs, ens, kv, pr, _ => by
    cases kv
    cases pr
    exact ⟨[], [], .nil, .nil, by simp, by simp⟩
  | _, _, .cons a r, vs, ens, kv, pr, c => by
    cases kv with
    | cons kv1 kv2 =>
      cases pr with
      | cons p1 p2 p3 =>
        simp only [dOkKv, Bool.and_eq_true] at c
        obtain ⟨e1, e2⟩ := kv1
        obtain ⟨as, bs, h1, h2, n1, n2⟩ := RelKv.reads I r kv2 p3 c.2
        rw [← p2] at e2
        obtain ⟨cs, h3, n3⟩ := Rel.reads I a e2 c.1.2
        rw [← e1] at p1
        exact ⟨[] ++ as, cs ++ bs, .cons (key_reads p1) h1, .cons h3 h2, by simpa using n1, fun hm => (List.mem_append.1 hm).elim n3 n2⟩
end
end
/-- repr of data -/
theorem repr_ok {X : Cx} (hg : X.A.guards = some []) (hu : X.A.units + 100 < cLine) : CallR X (.builtin "repr") (fun xs H Q => ∃ A d, ∃ v, xs = [v] ∧ Top A H v d ∧ shows d = true ∧ Q (.str d.shown) H) := by
  intro pins s σ H xs us Q I r ⟨A, d, v, e, ht, hs, q⟩
  subst e
  cases r with
  | cons rv rn =>
    cases rn
    unfold shows at hs
    simp only [Bool.and_eq_true, decide_eq_true_iff, Bool.or_eq_true, Bool.not_eq_true'] at hs
    obtain ⟨⟨⟨h1, h2⟩, h3⟩, h4⟩ := hs
    have ref : ∀ a, v = .ref a → ∀ (as : List Addr), Reads s.heap (.ref a) d as → (d.hasDict = true → sysModules ∉ as) → wpAny (model X.prog X.w) X.A (call (.builtin "repr") [.ref a]) (EP X pins σ Q) X.xe s := fun a e as rd hsm =>
      repr_of_reads' rd h1 hsm hg (by omega) (fun _ _ e => e) (fun h' u tk k => ⟨.str d.shown, H, I.kept (t' := tk) k, ⟨_, rfl⟩, q⟩) h4
    obtain ⟨as, rd, hsm⟩ : ∃ as, Reads s.heap _ d as ∧ (d.hasDict = true → sysModules ∉ as) := by
      rcases h2 with h2 | h2
      · obtain ⟨as, rd⟩ := Dp.reads I d v _ (ht.dp h2) rv
        exact ⟨as, rd, PyData.noDict_hsm h2⟩
      · obtain ⟨as, rd, n⟩ := Rel.reads I ht.relN rv h2
        exact ⟨as, rd, fun _ => n⟩
    cases d with
    | none => cases ht.non; cases rv; exact PySem.P.repr_of_none ⟨.str _, H, I.tok _, ⟨_, rfl⟩, q⟩
    | bool b => cases ht.bl; cases rv; exact PySem.P.repr_of_bool ⟨.str _, H, I.tok _, ⟨_, by cases b <;> rfl⟩, q⟩
    | int i => cases ht.int; obtain ⟨t, rfl⟩ := rv; exact PySem.P.repr_of_int (by simpa [PyData.showable] using h1) ⟨.str _, H, I.tok _, ⟨_, rfl⟩, q⟩
    | str z => cases ht.str; obtain ⟨t, rfl⟩ := rv; exact PySem.P.repr_of_str ⟨.str _, H, I.tok _, ⟨_, rfl⟩, q⟩ h4
    | list ds =>
      obtain ⟨a, xs, rfl, hh, rr⟩ := ht.lst
      cases rv
      exact ref a rfl as rd hsm
    | tuple ds =>
      obtain ⟨a, xs, rfl, hh, rr⟩ := ht.tup
      cases rv
      exact ref a rfl as rd hsm
    | dict es =>
      have hx : ∃ a, v = .ref a := by
        have := ht.relN
        cases this <;> exact ⟨_, rfl⟩
      obtain ⟨a, rfl⟩ := hx
      cases rv
      exact ref a rfl as rd hsm
/-- str of a tuple -/
theorem strT_ok {X : Cx} (hg : X.A.guards = some []) (hu : X.A.units + 100 < cLine) : CallR X (.type "str") (fun xs H Q => ∃ A ds, ∃ v, xs = [v] ∧ Top A H v (.tuple ds) ∧ shows (.tuple ds) = true ∧ Q (.str (PyData.tuple ds).shown) H) := by
  intro pins s σ H xs us Q I r ⟨A, ds, v, e, ht, hs, q⟩
  subst e
  cases r with
  | cons rv rn =>
    cases rn
    unfold shows at hs
    simp only [Bool.and_eq_true, decide_eq_true_iff, Bool.or_eq_true, Bool.not_eq_true'] at hs
    obtain ⟨⟨⟨h1, h2⟩, h3⟩, h4⟩ := hs
    obtain ⟨as, rd, hsm⟩ : ∃ as, Reads s.heap _ (.tuple ds) as ∧ ((PyData.tuple ds).hasDict = true → sysModules ∉ as) := by
      rcases h2 with h2 | h2
      · obtain ⟨as, rd⟩ := Dp.reads I _ v _ (ht.dp h2) rv
        exact ⟨as, rd, PyData.noDict_hsm h2⟩
      · obtain ⟨as, rd, n⟩ := Rel.reads I ht.relN rv h2
        exact ⟨as, rd, fun _ => n⟩
    obtain ⟨a, xs, rfl, hh, rr⟩ := ht.tup
    cases rv
    exact str_of_reads rd h1 hsm hg (by omega) (fun _ _ e => e) (fun h' u tk k => ⟨.str _, H, I.kept (t' := tk) k, ⟨_, rfl⟩, q⟩) h4
/-- str of a list -/
theorem strL_ok {X : Cx} (hg : X.A.guards = some []) (hu : X.A.units + 100 < cLine) : CallR X (.type "str") (fun xs H Q => ∃ A ds, ∃ v, xs = [v] ∧ Top A H v (.list ds) ∧ shows (.list ds) = true ∧ Q (.str (PyData.list ds).shown) H) := by
  intro pins s σ H xs us Q I r ⟨A, ds, v, e, ht, hs, q⟩
  subst e
  cases r with
  | cons rv rn =>
    cases rn
    unfold shows at hs
    simp only [Bool.and_eq_true, decide_eq_true_iff, Bool.or_eq_true, Bool.not_eq_true'] at hs
    obtain ⟨⟨⟨h1, h2⟩, h3⟩, h4⟩ := hs
    obtain ⟨as, rd, hsm⟩ : ∃ as, Reads s.heap _ (.list ds) as ∧ ((PyData.list ds).hasDict = true → sysModules ∉ as) := by
      rcases h2 with h2 | h2
      · obtain ⟨as, rd⟩ := Dp.reads I _ v _ (ht.dp h2) rv
        exact ⟨as, rd, PyData.noDict_hsm h2⟩
      · obtain ⟨as, rd, n⟩ := Rel.reads I ht.relN rv h2
        exact ⟨as, rd, fun _ => n⟩
    obtain ⟨a, xs, rfl, hh, rr⟩ := ht.lst
    cases rv
    exact str_of_reads rd h1 hsm hg (by omega) (fun _ _ e => e) (fun h' u tk k => ⟨.str _, H, I.kept (t' := tk) k, ⟨_, rfl⟩, q⟩) h4
/-- str of None, of a truth value, of a text -/
theorem strN_ok {X : Cx} : CallR X (.type "str") (fun xs H Q => xs = [.non] ∧ Q (.str PyData.none.shown) H) := by
  intro pins s σ H xs us Q I r ⟨e, q⟩
  subst e
  cases r with
  | cons rv rn =>
    cases rn
    cases rv
    exact PySem.P.str_of_none ⟨.str _, H, I.tok _, ⟨_, rfl⟩, q⟩
theorem strB_ok {X : Cx} : CallR X (.type "str") (fun xs H Q => ∃ b, xs = [.bl b] ∧ Q (.str (PyData.bool b).shown) H) := by
  intro pins s σ H xs us Q I r ⟨b, e, q⟩
  subst e
  cases r with
  | cons rv rn =>
    cases rn
    cases rv
    exact PySem.P.str_of_bool ⟨.str _, H, I.tok _, ⟨_, by cases b <;> rfl⟩, q⟩
theorem strS_ok {X : Cx} : CallR X (.type "str") (fun xs H Q => ∃ a, xs = [.str a] ∧ Q (.str a) H) := by
  intro pins s σ H xs us Q I r ⟨a, e, q⟩
  subst e
  cases r with
  | cons rv rn =>
    cases rn
    obtain ⟨t, rfl⟩ := rv
    exact PySem.P.str_of_str ⟨.str a, H, I, ⟨t, rfl⟩, q⟩
theorem ordOk_iff {x : PyData} {xs : List PyData} (h : ordOk (x :: xs) = true) : PySem.W.AlikeAll (x :: xs) ∧ PyData.depthAll (x :: xs) ≤ 32 ∧ PyData.hasDictAll (x :: xs) = false := by
  unfold ordOk at h
  rw [Bool.and_eq_true, Bool.and_eq_true, decide_eq_true_eq, Bool.not_eq_true', List.all_eq_true] at h
  refine ⟨⟨fun a ha b hb => ?_, fun a ha e => ?_⟩, h.1.2, h.2⟩
  · have := h.1.1 a ha
    rw [Bool.and_eq_true, List.all_eq_true] at this
    exact this.2 b hb
  · have := h.1.1 a ha
    rw [Bool.and_eq_true, e] at this
    exact absurd this.1 (by simp [isNone])
theorem vals_back : ∀ {xs : List V} {us : List Value} {i : Nat} {u : Value}, Vals xs us → us[i]? = some u → ∃ v, xs[i]? = some v ∧ RelV v u
  | _, _, _, _, .nil, h => by simp at h
  | _, _, 0, _, .cons a _, h => by
    have e := Option.some.inj h
    subst e
    exact ⟨_, rfl, a⟩
  | _, _, i + 1, _, .cons _ r, h => vals_back (i := i) r h
/-- an item that reads as a datum is that datum -/
theorem item_is {X : Cx} {pins : List (Addr × Obj)} {s : Shared} {σ : L2.St} {H : Hp} {A : AS} {xs : List V} {ds : List PyData} {us : List Value} {i : Nat} {u : Value} {d : PyData} {bs : List Addr} {h' : Heap}
    (I : Inv X pins σ H s) (r : RelAll A H xs ds) (rv : Vals xs us) (nd : PyData.hasDictAll ds = false) (hu : us[i]? = some u) (k : ∀ b o, s.heap.get? b = some o → h'.get? b = some o) (rd : Reads h' u d bs) (pd : d.plain = true) :
    ∃ v, RelV v u ∧ Rel A H v d := by
  obtain ⟨v, hv, rvu⟩ := vals_back rv hu
  obtain ⟨e, he, rel⟩ := r.get' hv
  have nde : e.hasDict = false := by
    have : ∀ {ds : List PyData}, PyData.hasDictAll ds = false → ∀ e ∈ ds, e.hasDict = false := by
      intro ds
      induction ds with
      | nil => intro _ e h; cases h
      | cons a t ih =>
        intro h e he
        simp only [PyData.hasDictAll, Bool.or_eq_false_iff] at h
        rcases List.mem_cons.mp he with rfl | he
        · exact h.1
        · exact ih h.2 e he
    exact this nd e (List.mem_of_getElem? he)
  obtain ⟨as, r2⟩ := Dp.reads I e v u (rel.dp nde) rvu
  have r3 := PyProof.Rows.Reads.keeps k r2
  have e1 := PySem.SeqAt.readsAll_map_plain [e] [u] _ (by simp only [PyData.plainAll, plain_of nde, Bool.and_self]) (.cons r3 .nil)
  have e2 := PySem.SeqAt.readsAll_map_plain [d] [u] _ (by simp only [PyData.plainAll, pd, Bool.and_self]) (.cons rd .nil)
  rw [e1] at e2
  cases e2
  exact ⟨v, rvu, rel⟩
theorem fold_mem {f : PyData → PyData → Bool} : ∀ {xs : List PyData} {x : PyData}, xs.foldl (fun a y => if f y a then y else a) x ∈ x :: xs
  | [], x => List.mem_cons_self
  | y :: xs, x => by
    rw [List.foldl_cons]
    have h := fold_mem (f := f) (xs := xs) (x := if f y x then y else x)
    rcases List.mem_cons.mp h with e | h
    · rw [e]
      split
      · exact List.mem_cons_of_mem _ List.mem_cons_self
      · exact List.mem_cons_self
    · exact List.mem_cons_of_mem _ (List.mem_cons_of_mem _ h)
theorem best_plain {ds : List PyData} {d : PyData} (nd : PyData.hasDictAll ds = false) (h : d ∈ ds) : d.plain = true := by
  induction ds with
  | nil => cases h
  | cons a t ih =>
    simp only [PyData.hasDictAll, Bool.or_eq_false_iff] at nd
    rcases List.mem_cons.mp h with rfl | h
    · exact plain_of nd.1
    · exact ih nd.2 h
theorem tup_strong {X : Cx} {pins : List (Addr × Obj)} {s : Shared} {σ : L2.St} {H : Hp} {us : List Value} {Q : VK} {a : Addr} {ys : List V} (I : Inv X pins σ H s) (r : Vals [V.ref a] us) (h1 : H a = some (.lst ys))
    (q : ∀ l (o : Obj), o.dict = none → H l = none → Q (.ref l) (upd H l (.frz o (.tup ys)))) : wpAny (model X.prog X.w) X.A (call (.type "tuple") us) (EP X pins σ Q) X.xe s := by
  rw [Vals.ref1 r]
  obtain ⟨its, rv, pl, hz⟩ := I.list (SqL.of h1)
  refine call_tuple_list pl.isList (fun h' hk => ?_) (by rw [List.size_toArray, ← rv.length]; exact hz)
  have J : Inv X pins σ H { s with heap := h' } := I.kept (t' := s.toks) hk
  have hn := J.hok.fresh (Nat.le_refl _)
  have e := Heap.get?_push_size h' (o := { cls := .type "tuple", data := .seq its.toArray }) rfl
  refine ⟨.ref h'.objs.size, upd H h'.objs.size (.frz { cls := .type "tuple", data := .seq its.toArray } (.tup ys)), ?_, rfl, q _ _ rfl hn⟩
  exact J.laid (t' := s.toks) (fun b o z => Heap.get?_push_of_some _ z) (Nat.le_refl _) ⟨e, hz, its, rv, IsTup.new _ _⟩
theorem max_list {X : Cx} {pins : List (Addr × Obj)} {s : Shared} {σ : L2.St} {H : Hp} {A : AS} {us : List Value} {Q : VK} {a : Addr} {ys : List V} {x : PyData} {xs : List PyData} (hc : X.calm = true) (hu : X.A.units + 100 < cLine) (I : Inv X pins σ H s) (r : Vals [V.ref a] us) (h1 : H a = some (.lst ys))
    (r1 : RelAll A H ys (x :: xs)) (ok : ordOk (x :: xs) = true) (q : ∀ v H', NewV A H (PySem.W.maxD x xs) false v H' → Q v H') : wpAny (model X.prog X.w) X.A (call (.builtin "max") us) (EP X pins σ Q) X.xe s := by
  rw [Vals.ref1 r]
  obtain ⟨its, rv, pl, hz⟩ := I.list (SqL.of h1)
  obtain ⟨o1, o2, o3⟩ := ordOk_iff ok
  obtain ⟨as, rd⟩ := Dp.readsAll I (x :: xs) ys its (r1.dp o3) rv
  refine PySem.W.max_list_data (vs := its.toArray) (I.ok.hd hc) pl.isList (by simpa using rd) o1 (by omega) fun i v h' tk bs hv rm k => ?_
  obtain ⟨y, ry, rel⟩ := item_is I r1 rv o3 (i := i) (by simpa using hv) k rm (best_plain o3 (fold_mem (f := fun a b => PySem.W.dataLt b a)))
  exact ⟨y, H, I.kept (t' := tk) k, ry, q _ _ (.val rel)⟩
theorem max_tuple {X : Cx} {pins : List (Addr × Obj)} {s : Shared} {σ : L2.St} {H : Hp} {A : AS} {us : List Value} {Q : VK} {a : Addr} {ys : List V} {x : PyData} {xs : List PyData} (hc : X.calm = true) (hu : X.A.units + 100 < cLine) (I : Inv X pins σ H s) (r : Vals [V.ref a] us) (h1 : TupAt H a ys)
    (r1 : RelAll A H ys (x :: xs)) (ok : ordOk (x :: xs) = true) (q : ∀ v H', NewV A H (PySem.W.maxD x xs) false v H' → Q v H') : wpAny (model X.prog X.w) X.A (call (.builtin "max") us) (EP X pins σ Q) X.xe s := by
  rw [Vals.ref1 r]
  obtain ⟨its, rv, pl, hz⟩ := I.tuple h1.sq
  obtain ⟨o1, o2, o3⟩ := ordOk_iff ok
  obtain ⟨as, rd⟩ := Dp.readsAll I (x :: xs) ys its (r1.dp o3) rv
  refine PySem.W.max_tuple_data (vs := its.toArray) (I.ok.hd hc) pl (by simpa using rd) o1 (by omega) fun i v h' tk bs hv rm k => ?_
  obtain ⟨y, ry, rel⟩ := item_is I r1 rv o3 (i := i) (by simpa using hv) k rm (best_plain o3 (fold_mem (f := fun a b => PySem.W.dataLt b a)))
  exact ⟨y, H, I.kept (t' := tk) k, ry, q _ _ (.val rel)⟩
theorem min_list {X : Cx} {pins : List (Addr × Obj)} {s : Shared} {σ : L2.St} {H : Hp} {A : AS} {us : List Value} {Q : VK} {a : Addr} {ys : List V} {x : PyData} {xs : List PyData} (hc : X.calm = true) (hu : X.A.units + 100 < cLine) (I : Inv X pins σ H s) (r : Vals [V.ref a] us) (h1 : H a = some (.lst ys))
    (r1 : RelAll A H ys (x :: xs)) (ok : ordOk (x :: xs) = true) (q : ∀ v H', NewV A H (PySem.W.minD x xs) false v H' → Q v H') : wpAny (model X.prog X.w) X.A (call (.builtin "min") us) (EP X pins σ Q) X.xe s := by
  rw [Vals.ref1 r]
  obtain ⟨its, rv, pl, hz⟩ := I.list (SqL.of h1)
  obtain ⟨o1, o2, o3⟩ := ordOk_iff ok
  obtain ⟨as, rd⟩ := Dp.readsAll I (x :: xs) ys its (r1.dp o3) rv
  refine PySem.W.min_list_data (vs := its.toArray) (I.ok.hd hc) pl.isList (by simpa using rd) o1 (by omega) fun i v h' tk bs hv rm k => ?_
  obtain ⟨y, ry, rel⟩ := item_is I r1 rv o3 (i := i) (by simpa using hv) k rm (best_plain o3 (fold_mem (f := PySem.W.dataLt)))
  exact ⟨y, H, I.kept (t' := tk) k, ry, q _ _ (.val rel)⟩
theorem min_tuple {X : Cx} {pins : List (Addr × Obj)} {s : Shared} {σ : L2.St} {H : Hp} {A : AS} {us : List Value} {Q : VK} {a : Addr} {ys : List V} {x : PyData} {xs : List PyData} (hc : X.calm = true) (hu : X.A.units + 100 < cLine) (I : Inv X pins σ H s) (r : Vals [V.ref a] us) (h1 : TupAt H a ys)
    (r1 : RelAll A H ys (x :: xs)) (ok : ordOk (x :: xs) = true) (q : ∀ v H', NewV A H (PySem.W.minD x xs) false v H' → Q v H') : wpAny (model X.prog X.w) X.A (call (.builtin "min") us) (EP X pins σ Q) X.xe s := by
  rw [Vals.ref1 r]
  obtain ⟨its, rv, pl, hz⟩ := I.tuple h1.sq
  obtain ⟨o1, o2, o3⟩ := ordOk_iff ok
  obtain ⟨as, rd⟩ := Dp.readsAll I (x :: xs) ys its (r1.dp o3) rv
  refine PySem.W.min_tuple_data (vs := its.toArray) (I.ok.hd hc) pl (by simpa using rd) o1 (by omega) fun i v h' tk bs hv rm k => ?_
  obtain ⟨y, ry, rel⟩ := item_is I r1 rv o3 (i := i) (by simpa using hv) k rm (best_plain o3 (fold_mem (f := PySem.W.dataLt)))
  exact ⟨y, H, I.kept (t' := tk) k, ry, q _ _ (.val rel)⟩
theorem each_items {X : Cx} {pins : List (Addr × Obj)} {s : Shared} {σ : L2.St} {H : Hp} {A : AS} (I : Inv X pins σ H s) : ∀ {xs : List V} {ds : List PyData} {us : List Value}, RelAll A H xs ds → Vals xs us → PyData.hasDictAll ds = false →
    PySem.W.EachIs (fun (u : Value) (d : PyData) => ∃ v, RelV v u ∧ Rel A H v d) us ds ∧ PySem.W.EachIs (fun (u : Value) (d : PyData) => ∃ as, Reads s.heap u (id d) as) us ds
  | _, _, _, .nil, .nil, _ => ⟨.nil, .nil⟩
  | _, _, _, .cons a r, .cons b v, h => by
    simp only [PyData.hasDictAll, Bool.or_eq_false_iff] at h
    obtain ⟨e1, e2⟩ := each_items I r v h.2
    exact ⟨.cons ⟨_, b, a⟩ e1, .cons (Dp.reads I _ _ _ (a.dp h.1) b) e2⟩
theorem items_each {A : AS} {H : Hp} : ∀ {us : List Value} {ds : List PyData}, PySem.W.EachIs (fun (u : Value) (d : PyData) => ∃ v, RelV v u ∧ Rel A H v d) us ds → ∃ xs, RelAll A H xs ds ∧ Vals xs us
  | _, _, .nil => ⟨[], .nil, .nil⟩
  | _, _, .cons ⟨v, b, a⟩ e => let ⟨xs, r, w⟩ := items_each e; ⟨v :: xs, .cons a r, .cons b w⟩
theorem rowsB_iff {xs : List PyData} (h : rowsB xs = true) : PySem.W.AllAlike (xs.map id) ∧ PySem.W.Sortable (xs.map id) ∧ PyData.depthAll xs ≤ 32 ∧ PyData.hasDictAll xs = false := by
  cases xs with
  | nil => cases h
  | cons x r =>
    unfold rowsB at h
    rw [Bool.and_eq_true, List.all_eq_true] at h
    obtain ⟨o1, o2, o3⟩ := ordOk_iff h.1
    rw [List.map_id]
    refine ⟨fun d hd d' hd' => o1.1 d hd d' hd', .inl fun d hd => ?_, o2, o3⟩
    have := h.2 d hd
    cases d with
    | tuple ys => cases ys with
      | nil => cases this
      | cons y ys => exact ⟨y, ys, rfl⟩
    | _ => cases this
theorem depth_mem {ds : List PyData} {n : Nat} (h : PyData.depthAll ds ≤ n) : ∀ d ∈ ds, d.depth ≤ n := by
  induction ds with
  | nil => intro d hd; cases hd
  | cons a r ih =>
    intro d hd
    simp only [PyData.depthAll] at h
    rcases List.mem_cons.mp hd with rfl | hd
    · omega
    · exact ih (by omega) d hd
/-- sorted of a list of tuples -/
theorem sort_rows {X : Cx} {pins : List (Addr × Obj)} {s : Shared} {σ : L2.St} {H : Hp} {A : AS} {us : List Value} {Q : VK} {a : Addr} {ys : List V} {xs : List PyData} (hu : X.A.units + 100 < cLine) (I : Inv X pins σ H s) (r : Vals [V.ref a] us) (h1 : H a = some (.lst ys))
    (r1 : RelAll A H ys xs) (ok : rowsB xs = true) (q : ∀ p vs, H p = none → RelAll A H vs (xs.mergeSort (PySem.W.dataLe false id)) → Q (.ref p) (upd H p (.lst vs))) : wpAny (model X.prog X.w) X.A (call (.builtin "sorted") us) (EP X pins σ Q) X.xe s := by
  rw [Vals.ref1 r]
  obtain ⟨its, rv, pl, hz⟩ := I.list (SqL.of h1)
  obtain ⟨o1, o2, o3, o4⟩ := rowsB_iff ok
  obtain ⟨e1, e2⟩ := each_items I r1 rv o4
  refine PySem.W.sorted_data (vs := its) (bs := xs) (enc := id) pl.isList e1 e2 o1 o2 (by rw [← r1.length]; exact hz) (fun b hb => by have := depth_mem o3 b hb; simp only [id]; omega) fun out hl ho => ?_
  obtain ⟨vs, rel, vv⟩ := items_each ho
  obtain ⟨ep, hat⟩ := sortedAll_at s.heap its out.toArray
  have hlen : vs.length ≤ sizeLine := by
    rw [rel.length, List.length_mergeSort, ← r1.length]; exact hz
  exact ⟨.ref _, upd H (s.heap.objs.size + 1) (.lst vs), I.laid (t' := s.toks) (fun _ _ => sortedAll_old) (Nat.le_succ _) ⟨hlen, out, ep, vv, hat⟩, rfl, q _ _ (I.hok.fresh (Nat.le_succ _)) rel⟩
theorem bi_ok {X : Cx} (hK : X.K = EK.k) (hc : X.calm = true) (hg : X.A.guards = some []) (hu : X.A.units + 100 < cLine) (b : Bi) (hb : tyOf b = none) : CallR X (fnBi b) (rBi b) := by
  intro pins s σ H xs us Q I r ⟨A, ds, z, fr, ht, hz, q⟩
  unfold biD at hz
  split at hz
  · cases hz
    obtain ⟨v, rfl, h⟩ := ht.one
    obtain ⟨a, ys, rfl, h1, r1⟩ := h.lst
    exact call_len_seq pins s σ H _ us Q I r ⟨a, ys, rfl, .inl (SqL.of h1), by rw [r1.length]; exact q _ _ (.val (.int _))⟩
  · cases hz
    obtain ⟨v, rfl, h⟩ := ht.one
    obtain ⟨a, ys, rfl, h1, r1⟩ := h.tup
    exact call_len_seq pins s σ H _ us Q I r ⟨a, ys, rfl, .inr h1.sq, by rw [r1.length]; exact q _ _ (.val (.int _))⟩
  · cases hz
    obtain ⟨v, rfl, h⟩ := ht.one
    obtain ⟨a, ys, rfl, h1, r1⟩ := h.scr
    exact call_len_seq pins s σ H _ us Q I r ⟨a, ys, rfl, .inl (h1.sq hK), by rw [r1.length]; exact q _ _ (.val (.int _))⟩
  · split at hz
    · rename_i hl
      cases hz
      obtain ⟨v, rfl, h⟩ := ht.one
      cases h.str
      exact call_len_str pins s σ H _ us Q I r ⟨_, rfl, hl, q _ _ (.val (.int _))⟩
    · cases hz
  · obtain ⟨v, rfl, h⟩ := ht.one
    obtain ⟨a, ys, rfl, h1, r1⟩ := h.lst
    cases e : boolsOf ‹List PyData› with
    | none => rw [e] at hz; cases hz
    | some bs =>
      rw [e] at hz; cases hz
      have e2 := bools_rel r1 e
      subst e2
      exact cr_all hc pins s σ H _ us Q I r ⟨a, bs, rfl, SqL.of h1, q _ _ (.val (.bl _))⟩
  · obtain ⟨v, rfl, h⟩ := ht.one
    obtain ⟨a, ys, rfl, h1, r1⟩ := h.lst
    cases e : boolsOf ‹List PyData› with
    | none => rw [e] at hz; cases hz
    | some bs =>
      rw [e] at hz; cases hz
      have e2 := bools_rel r1 e
      subst e2
      exact cr_any hc pins s σ H _ us Q I r ⟨a, bs, rfl, SqL.of h1, q _ _ (.val (.bl _))⟩
  · cases hz
    obtain ⟨v, rfl, h⟩ := ht.one
    obtain ⟨a, ys, rfl, h1, r1⟩ := h.lst
    exact call_tuple_of pins s σ H _ us Q I r ⟨a, ys, rfl, .inl ⟨SqL.of h1, fun l hl => q _ _ (new_tup hl r1)⟩⟩
  · cases hz
    obtain ⟨v, rfl, h⟩ := ht.one
    obtain ⟨a, ys, rfl, h1, r1⟩ := h.tup
    exact call_tuple_of pins s σ H _ us Q I r ⟨a, ys, rfl, .inr ⟨h1.sq, q _ _ (.val (.tup h1 r1))⟩⟩
  · cases hz
    obtain ⟨v, rfl, h⟩ := ht.one
    obtain ⟨a, ys, rfl, h1, r1⟩ := h.lst
    exact call_list_of pins s σ H _ us Q I r ⟨a, ys, rfl, .inl (SqL.of h1), fun l hl => q _ _ (new_lst hl r1)⟩
  · cases hz
    obtain ⟨v, rfl, h⟩ := ht.one
    obtain ⟨a, ys, rfl, h1, r1⟩ := h.tup
    exact call_list_of pins s σ H _ us Q I r ⟨a, ys, rfl, .inr h1.sq, fun l hl => q _ _ (new_lst hl r1)⟩
  · cases hz
    obtain ⟨v, rfl, h⟩ := ht.one
    obtain ⟨a, kvs, rfl, h1, r1⟩ := h.dit
    exact r1.no.elim
  · obtain ⟨v, rfl, h⟩ := ht.one
    obtain ⟨a, ys, rfl, h1, r1⟩ := h.lst
    cases e : intsOf ‹List PyData› with
    | none => rw [e] at hz; cases hz
    | some bs =>
      rw [e] at hz; cases hz
      have e2 := ints_rel r1 e
      subst e2
      exact cr_sum hc pins s σ H _ us Q I r ⟨a, bs, rfl, SqL.of h1, q _ _ (.val (.int _))⟩
  · obtain ⟨v, rfl, h⟩ := ht.one
    obtain ⟨a, ys, rfl, h1, r1⟩ := h.tup
    cases e : intsOf ‹List PyData› with
    | none => rw [e] at hz; cases hz
    | some bs =>
      rw [e] at hz; cases hz
      have e2 := ints_rel r1 e
      subst e2
      exact cr_sumT hc pins s σ H _ us Q I r ⟨a, bs, rfl, h1.sq, q _ _ (.val (.int _))⟩
  · split at hz
    · rename_i hs
      cases hz
      obtain ⟨v, rfl, h⟩ := ht.one
      obtain ⟨a, ys, rfl, h1, r1⟩ := h.lst
      exact max_list hc hu I r h1 r1 hs q
    · cases hz
  · split at hz
    · rename_i hs
      cases hz
      obtain ⟨v, rfl, h⟩ := ht.one
      obtain ⟨a, ys, rfl, h1, r1⟩ := h.tup
      exact max_tuple hc hu I r h1 r1 hs q
    · cases hz
  · split at hz
    · rename_i hs
      cases hz
      obtain ⟨v, rfl, h⟩ := ht.one
      obtain ⟨a, ys, rfl, h1, r1⟩ := h.lst
      exact min_list hc hu I r h1 r1 hs q
    · cases hz
  · split at hz
    · rename_i hs
      cases hz
      obtain ⟨v, rfl, h⟩ := ht.one
      obtain ⟨a, ys, rfl, h1, r1⟩ := h.tup
      exact min_tuple hc hu I r h1 r1 hs q
    · cases hz
  · cases hz
    obtain ⟨v, w, rfl, h, h'⟩ := ht.two
    cases h.int; cases h'.int
    exact call_max2 hc pins s σ H _ us Q I r ⟨_, _, rfl, q _ _ (.val (.int _))⟩
  · cases hz
    obtain ⟨v, w, rfl, h, h'⟩ := ht.two
    cases h.int; cases h'.int
    exact call_min2 hc pins s σ H _ us Q I r ⟨_, _, rfl, q _ _ (.val (.int _))⟩
  · obtain ⟨v, rfl, h⟩ := ht.one
    obtain ⟨a, ys, rfl, h1, r1⟩ := h.lst
    split at hz
    · rename_i hrw
      cases hz
      exact sort_rows hu I r h1 r1 hrw fun p vs hp rel => q _ _ (new_lst hp rel)
    cases e : intsOf ‹List PyData› with
    | none => rw [e] at hz; cases hz
    | some bs =>
      rw [e] at hz; cases hz
      have e2 := ints_rel r1 e
      subst e2
      refine cr_sortedI pins s σ H _ us Q I r ⟨a, bs, rfl, SqL.of h1, fun ns' p hp hs hn => ?_⟩
      rw [sorted_one (hp.trans (sortI_perm bs).symm) hs (sortI_sorted bs)]
      exact q _ _ (new_lst hn (ints_all _))
  · obtain ⟨v, rfl, h⟩ := ht.one
    obtain ⟨a, ys, rfl, h1, r1⟩ := h.tup
    cases e : intsOf ‹List PyData› with
    | none => rw [e] at hz; cases hz
    | some bs =>
      rw [e] at hz; cases hz
      have e2 := ints_rel r1 e
      subst e2
      refine cr_sortTI pins s σ H _ us Q I r ⟨a, bs, rfl, h1.sq, fun ns' p hp hs hn => ?_⟩
      rw [sorted_one (hp.trans (sortI_perm bs).symm) hs (sortI_sorted bs)]
      exact q _ _ (new_lst hn (ints_all _))
  · split at hz
    · rename_i hl
      cases hz
      obtain ⟨v, rfl, h⟩ := ht.one
      exact repr_ok hg hu pins s σ H _ us Q I r ⟨A, _, v, rfl, h, hl, q _ _ (.val (.str _))⟩
    · cases hz
  · split at hz
    · rename_i hl
      cases hz
      obtain ⟨v, rfl, h⟩ := ht.one
      cases h.int
      exact call_str_int pins s σ H _ us Q I r ⟨_, rfl, hl, q _ _ (.val (.str _))⟩
    · cases hz
  · split at hz
    · rename_i hl
      cases hz
      obtain ⟨v, rfl, h⟩ := ht.one
      exact strT_ok hg hu pins s σ H _ us Q I r ⟨A, _, v, rfl, h, hl, q _ _ (.val (.str _))⟩
    · cases hz
  · split at hz
    · rename_i hl
      cases hz
      obtain ⟨v, rfl, h⟩ := ht.one
      exact strL_ok hg hu pins s σ H _ us Q I r ⟨A, _, v, rfl, h, hl, q _ _ (.val (.str _))⟩
    · cases hz
  · cases hz
    obtain ⟨v, rfl, h⟩ := ht.one
    cases h.non
    exact strN_ok pins s σ H _ us Q I r ⟨rfl, q _ _ (.val (.str _))⟩
  · cases hz
    obtain ⟨v, rfl, h⟩ := ht.one
    cases h.bl
    exact strB_ok pins s σ H _ us Q I r ⟨_, rfl, q _ _ (.val (.str _))⟩
  · cases hz
    obtain ⟨v, rfl, h⟩ := ht.one
    cases h.str
    exact strS_ok pins s σ H _ us Q I r ⟨_, rfl, q _ _ (.val (.str _))⟩
  · cases hz
    obtain ⟨v, rfl, h⟩ := ht.one
    cases h.int
    exact call_int1 pins s σ H _ us Q I r (.inl ⟨_, rfl, q _ _ (.val (.int _))⟩)
  · cases hz
    obtain ⟨v, rfl, h⟩ := ht.one
    cases h.bl
    exact call_int1 pins s σ H _ us Q I r (.inr ⟨_, rfl, q _ _ (.val (.int _))⟩)
  · split at hz
    · rename_i hl
      simp only [Option.map_eq_some_iff] at hz
      obtain ⟨i, h1, h2⟩ := hz
      cases h2
      obtain ⟨v, rfl, h⟩ := ht.one
      cases h.str
      exact call_int_str pins s σ H _ us Q I r ⟨_, _, rfl, h1, hl, q _ _ (.val (.int _))⟩
    · cases hz
  · cases hb
  · cases hb
  · cases hb
  · cases hb
  · cases hb
  · cases hz
/-- isinstance(x, T) -/
def rIs (b : Bi) : List V → Hp → VK → Prop := fun xs H Q => ∃ A d v n z, xs = [v, .ty n] ∧ tyOf b = some n ∧ Top A H v d ∧ isaD b d = some z ∧ Q (.bl z) H
theorem is_ok {X : Cx} (b : Bi) : CallR X (.builtin "isinstance") (rIs b) := by
  intro pins s σ H xs us Q I r ⟨A, d, v, n, z, e, hn, ht, hz, q⟩
  have fin : ∀ t : String, TyX X.K H v (.type t) → kitB t n = some z → wpAny (model X.prog X.w) X.A (call (.builtin "isinstance") us) (EP X pins σ Q) X.xe s := fun t ty k =>
    call_isi pins s σ H xs us Q I r ⟨v, .ty n, .type t, .type n, z, e, .ty n, ty, kit_ty k, q⟩
  cases d with
  | none =>
    cases ht.non
    refine fin _ (.base .non) ?_
    cases b <;> cases hn <;> cases hz <;> decide +kernel
  | bool i =>
    cases ht.bl
    refine fin _ (.base (.bl i)) ?_
    cases b <;> cases hn <;> cases hz <;> decide +kernel
  | int i =>
    cases ht.int
    refine fin _ (.base (.int i)) ?_
    cases b <;> cases hn <;> cases hz <;> decide +kernel
  | str i =>
    cases ht.str
    refine fin _ (.base (.str i)) ?_
    cases b <;> cases hn <;> cases hz <;> decide +kernel
  | list ds =>
    obtain ⟨a, xs, rfl, h, _⟩ := ht.lst
    refine fin _ (.base (.lst h)) ?_
    cases b <;> cases hn <;> cases hz <;> decide +kernel
  | tuple ds =>
    obtain ⟨a, xs, rfl, h, _⟩ := ht.tup
    rcases h with h | ⟨ob, _, h⟩
    · refine fin _ (.base (.tup h)) ?_
      cases b <;> cases hn <;> cases hz <;> decide +kernel
    · refine fin _ (.fTuple h) ?_
      cases b <;> cases hn <;> cases hz <;> decide +kernel
  | dict es =>
    have hd : ∃ a kvs, v = .ref a ∧ H a = some (.dK kvs) := by
      rcases ht with ht | ⟨a, rfl, ⟨_, _, e, _⟩ | ⟨kvs, _, _, h, _⟩ | ⟨_, _, _, e, _⟩ | ⟨_, _, e, _⟩, _⟩
      · cases ht with
        | dic h _ _ => exact ⟨_, _, rfl, h⟩
        | dit h _ _ => cases b <;> cases hz
        | scr h _ => cases b <;> cases hz
      · cases e
      · exact ⟨a, kvs, rfl, h⟩
      · cases e
      · cases e; cases b <;> cases hz
    obtain ⟨a, kvs, rfl, h⟩ := hd
    refine fin _ (.base (.dK h)) ?_
    have hz' : z = false := by
      unfold isaD at hz
      split at hz <;> cases hz <;> first | rfl | (rename_i hq; cases hq)
    subst hz'
    cases b <;> cases hn <;> decide +kernel
end MI

/-! MI3: expressions: the interpreter's step is a reading. -/
namespace MI
open PySem PySem.Spec PyProof.Rows L2
variable [EK]

def tE (F : Fns) (m : ME) : TE := fun σ H Q => ∃ A M ρ d fr ρ', RE A M H ρ σ ∧ evE F m ρ = some (d, fr, ρ') ∧ ∀ v H', Pst A M H ρ' σ d fr v H' → Q v H'
def tB (F : Fns) (m : ME) : TE := fun σ H Q => ∃ A M ρ b ρ', RE A M H ρ σ ∧ bor (evE F m) m ρ = some (b, ρ') ∧ ∀ v H' A' M', Shr A M A' M' → Kp M H H' → RE A' M' H' ρ' σ → BR A' H' σ v b → Q v H'
def tT (F : Fns) (m : ME) : TT := fun σ H Q => ∃ A M ρ b ρ', RE A M H ρ σ ∧ evT F m ρ = some (b, ρ') ∧ ∀ H' A' M', Shr A M A' M' → Kp M H H' → RE A' M' H' ρ' σ → Q b H'
theorem _root_.L2.PE.imp {X : Cx} {e : Expr} {t t' : TE} (h : PE X e t) (f : ∀ σ H Q, t' σ H Q → t σ H Q) : PE X e t' := ⟨fun pins s σ H Q I q => h.run pins s σ H Q I (f σ H Q q)⟩
theorem _root_.L2.PT.imp {X : Cx} {e : Expr} {t t' : TT} (h : PT X e t) (f : ∀ σ H Q, t' σ H Q → t σ H Q) : PT X e t' := ⟨fun pins s σ H Q I q => h.run pins s σ H Q I (f σ H Q q)⟩
theorem _root_.L2.PW.imp {X : Cx} {e : Expr} {t t' : TT} (h : PW X e t) (f : ∀ σ H Q, t' σ H Q → t σ H Q) : PW X e t' := ⟨fun wh pins s σ H Q I q => h.run wh pins s σ H Q I (f σ H Q q)⟩
/-- an expression and its step: as a value, as something looked at -/
structure Eb (X : Cx) (F : Fns) (e : Expr) (m : ME) : Prop where
  ev : PE X e (tE F m)
  bo : PE X e (tB F m)
section
variable {A A' M M' : AS} {H H' H1 H2 : Hp} {v : V} {d z : PyData} {fr : Bool} {ρ ρ' : Rho} {σ : L2.St} {p a : Addr} {i : Nat}
theorem Kp.comp {M1 : AS} (k : Kp M H H1) (s : Shr A M A' M1) (k1 : Kp M1 H1 H2) : Kp M H H2 := k.trans (k1.mono s.m)
/-- a variable's own list stands still from here on -/
theorem RE.freeze (nt : NT d) (r : RE A M H ρ σ) (e : ρ[i]? = some (Slot.own d)) : ∃ A' M' a, Shr A M A' M' ∧ σ[i]? = some (some (.ref a)) ∧ RE A' M' H (ρ.set i (.dat d)) σ ∧ Rel A' H (.ref a) d := by
  obtain ⟨a, e1, hm, ho⟩ := r.own i d e
  have hi : i < ρ.length := (List.getElem?_eq_some_iff.mp e).1
  have aa : ∀ x, butA A a x → A x := fun x h => h.1
  have rel : Rel (butA A a) H (.ref a) d := (ho.anti aa).rel nt fun z => z.2 rfl
  refine ⟨butA A a, butA M a, a, ⟨aa, fun x h => h.1, fun x h n => ?_⟩, e1, ⟨by rw [List.length_set]; exact r.len, fun x h => ⟨r.sub x h.1, h.2⟩, fun x h => r.live x h.1, fun j x h => ?_, fun j x h => ?_, fun j k x y b h1 h2 h3 h4 => ?_⟩, rel⟩
  · by_cases hx : x = a
    · rw [hx]; exact hm
    · exact absurd ⟨h, hx⟩ n
  · by_cases hj : j = i
    · subst hj
      rw [List.getElem?_set_self hi] at h
      cases h
      exact ⟨_, e1, rel⟩
    · rw [List.getElem?_set_ne (Ne.symm hj)] at h
      obtain ⟨v, q1, q2⟩ := r.dat j x h
      exact ⟨v, q1, q2.anti aa⟩
  · by_cases hj : j = i
    · subst hj
      rw [List.getElem?_set_self hi] at h
      cases h
    · rw [List.getElem?_set_ne (Ne.symm hj)] at h
      obtain ⟨b, q1, q2, q3⟩ := r.own j x h
      refine ⟨b, q1, ⟨q2, fun z => ?_⟩, q3.anti aa⟩
      subst z
      exact hj (r.inj j i x d _ h e q1 e1)
  · have hj : j ≠ i := fun z => by subst z; rw [List.getElem?_set_self hi] at h1; cases h1
    have hk : k ≠ i := fun z => by subst z; rw [List.getElem?_set_self hi] at h2; cases h2
    rw [List.getElem?_set_ne (Ne.symm hj)] at h1
    rw [List.getElem?_set_ne (Ne.symm hk)] at h2
    exact r.inj j k x y b h1 h2 h3 h4
end
section
variable {X : Cx} {F : Fns} {e a b c : Expr} {m ma mb mc : ME} {pos : Pos}
/-- what is reckoned may be looked at -/
theorem Eb.of (h : PE X e (tE F m)) (hm : ∀ i, m ≠ .var i) : Eb X F e m := by
  refine ⟨h, h.imp fun σ H Q ⟨A, M, ρ, b, ρ', r, ev, q⟩ => ?_⟩
  have ev' : (evE F m ρ).map (fun (d, _, ρ') => (Bor.v d, ρ')) = some (b, ρ') := by
    cases m with
    | var i => exact absurd rfl (hm i)
    | _ => exact ev
  cases hz : evE F m ρ with
  | none => rw [hz] at ev'; cases ev'
  | some z =>
    obtain ⟨d, fr, ρ2⟩ := z
    rw [hz] at ev'
    cases ev'
    refine ⟨A, M, ρ, d, fr, _, r, hz, fun v H' p => ?_⟩
    obtain ⟨A', M', s, k, r', rel⟩ := p.std r.live
    exact q v H' A' M' s k r' rel
theorem e_const {t : V} {d : PyData} (h : PE X e (tC t)) (hr : ∀ A H, Rel A H t d) : Eb X F e (.lit d) :=
  Eb.of (h.imp fun σ H Q ⟨A, M, ρ, d', fr, ρ', r, ev, q⟩ => by
    cases ev
    exact q _ _ ((NewV.val (hr A H)).pst r)) (fun _ => nofun)
theorem e_var {i : Nat} (h : PE X e (tVar i)) : Eb X F e (.var i) := by
  refine ⟨h.imp fun σ H Q ⟨A, M, ρ, d, fr, ρ', r, ev, q⟩ => ?_, h.imp fun σ H Q ⟨A, M, ρ, b, ρ', r, ev, q⟩ => ?_⟩
  · have ev' : rdVar ρ i = some (d, fr, ρ') := ev
    unfold rdVar at ev'
    split at ev'
    · rename_i x hx
      cases ev'
      obtain ⟨v, e1, rel⟩ := r.dat i _ hx
      exact ⟨v, e1, q v H ((NewV.val rel).pst r)⟩
    · rename_i x hx
      cases ev'
      obtain ⟨a, e1, _, ho⟩ := r.own i _ hx
      exact ⟨_, e1, q _ H ((NewV.val ho.relT).pst r)⟩
    · rename_i x hnt hx
      cases ev'
      obtain ⟨A', M', a, s, e1, r', rel⟩ := r.freeze (fun _ _ => trivial) hx
      exact ⟨_, e1, q _ H (Pst0.val ⟨A', M', s, Kp.refl _ _, r', fun _ => rel, fun z => nomatch z⟩)⟩
    · cases ev'
  · have ev' : (match ρ[i]? with | some (.own (.tuple xs)) => some (Bor.v (.tuple xs), ρ) | some (.own _) => some (Bor.r i, ρ) | some (.dat d) => some (.v d, ρ) | _ => none) = some (b, ρ') := ev
    split at ev'
    · rename_i x hx
      cases ev'
      obtain ⟨a, e1, _, ho⟩ := r.own i _ hx
      exact ⟨_, e1, q _ H A M (Shr.refl _ _) (Kp.refl _ _) r ho.relT⟩
    · rename_i x hnt hx
      cases ev'
      obtain ⟨a, e1, _, _⟩ := r.own i _ hx
      exact ⟨_, e1, q _ H A M (Shr.refl _ _) (Kp.refl _ _) r e1⟩
    · rename_i x hx
      cases ev'
      obtain ⟨v, e1, rel⟩ := r.dat i _ hx
      exact ⟨v, e1, q v H A M (Shr.refl _ _) (Kp.refl _ _) r rel⟩
    · cases ev'
theorem e_bin {op : Bop} (ha : Eb X F a ma) (hb : Eb X F b mb) : Eb X F (.BinOp a (opOf op) b pos) (.bin op ma mb) := by
  refine Eb.of ((pe_op (bin_ok op) ha.bo hb.bo).imp fun σ H Q ⟨A, M, ρ, d, fr, ρ', r, ev, q⟩ => ?_) fun _ => nofun
  simp only [evE, Option.bind_eq_some_iff, Option.map_eq_some_iff] at ev
  obtain ⟨⟨x, ρ1⟩, h1, ⟨y, ρ2⟩, h2, dx, h3, dy, h4, ⟨z, fr'⟩, h5, h6⟩ := ev
  cases h6
  exact ⟨A, M, ρ, x, ρ1, r, h1, fun v H1 A1 M1 s1 k1 r1 b1 => ⟨A1, M1, ρ1, y, ρ2, r1, h2, fun w H2 A2 M2 s2 k2 r2 b2 =>
    ⟨A2, dx, dy, z, fr', r2.live, (b1.keep r1.sub s2 k2).top r2 h3, b2.top r2 h4, h5, fun v H' nv => q v H' (((nv.pst r2).after s2 k2).after s1 k1)⟩⟩⟩
theorem Pst.bool {A M : AS} {H : Hp} {ρ : Rho} {σ : L2.St} {k : Bool} (r : RE A M H ρ σ) : Pst A M H ρ σ (.bool k) false (.bl k) H := (NewV.val (.bl k)).pst r
theorem e_cmp {op : Cop} (hu : X.A.units + 64 < cLine) (ha : Eb X F a ma) (hb : Eb X F b mb) (hm : behindInMarks (copOf op) b = false) : Eb X F (.Compare a [copOf op] [b] pos) (.cmp op ma mb) := by
  refine Eb.of ((pe_cmpR (cmp_ok hu op) ha.bo hb.bo hm).imp fun σ H Q ⟨A, M, ρ, d, fr, ρ', r, ev, q⟩ => ?_) fun _ => nofun
  simp only [evE, Option.bind_eq_some_iff, Option.map_eq_some_iff] at ev
  obtain ⟨⟨x, ρ1⟩, h1, ⟨y, ρ2⟩, h2, dx, h3, dy, h4, z, h5, h6⟩ := ev
  cases h6
  exact ⟨A, M, ρ, x, ρ1, r, h1, fun v H1 A1 M1 s1 k1 r1 b1 => ⟨A1, M1, ρ1, y, ρ2, r1, h2, fun w H2 A2 M2 s2 k2 r2 b2 =>
    ⟨A2, dx, dy, z, (b1.keep r1.sub s2 k2).top r2 h3, b2.top r2 h4, h5, q _ _ (((Pst.bool r2).after s2 k2).after s1 k1)⟩⟩⟩
theorem t_cmp {op : Cop} (hu : X.A.units + 64 < cLine) (ha : Eb X F a ma) (hb : Eb X F b mb) (hm : behindInMarks (copOf op) b = false) : PT X (.Compare a [copOf op] [b] pos) (tT F (.tst (.cmp op ma mb))) := by
  refine (pt_cmpR (cmp_ok hu op) ha.bo hb.bo hm).imp fun σ H Q ⟨A, M, ρ, d, ρ', r, ev, q⟩ => ?_
  simp only [evT, bor, evE, Option.bind_eq_some_iff, Option.map_eq_some_iff] at ev
  obtain ⟨⟨xx, ρ0⟩, ⟨⟨z0, f0, ρ00⟩, ⟨⟨x, ρ1⟩, h1, ⟨y, ρ2⟩, h2, dx, h3, dy, h4, z, h5, h6⟩, h7⟩, dd, h8, tt, h9, h10⟩ := ev
  cases h6
  cases h7
  cases h8
  cases h9
  cases h10
  exact ⟨A, M, ρ, x, ρ1, r, h1, fun v H1 A1 M1 s1 k1 r1 b1 => ⟨A1, M1, ρ1, y, ρ2, r1, h2, fun w H2 A2 M2 s2 k2 r2 b2 =>
    ⟨A2, dx, dy, _, (b1.keep r1.sub s2 k2).top r2 h3, b2.top r2 h4, h5, _, rfl, q _ _ _ (s1.trans s2) (k1.comp s1 k2) r2⟩⟩⟩
end
section
variable {A A2 M M' N : AS} {H H' : Hp} {ρ : Rho} {σ : L2.St}
theorem RE.gen (r : RE A M H ρ σ) (k : Kp N H H') (hN : ∀ a, N a → A a) (dis : ∀ a, M a → ¬ N a) (h2 : ∀ a, A2 a → A a ∨ H a = none) (hs : ∀ a, M a → A2 a) (l : ∀ a, A2 a → ∃ o, H' a = some o) : RE A2 M H' ρ σ := by
  have f : ∀ a o, H a = some o → (A a → ¬ Mu o) → H' a = some o := kp_f hN k
  have g : ∀ a o, H a = some o → A2 a → ¬ A a → Mu o → False := fun a o h z n _ => by
    rcases h2 a z with q | q
    · exact n q
    · rw [q] at h; cases h
  refine ⟨r.len, hs, l, fun j x e => ?_, fun j x e => ?_, r.inj⟩
  · obtain ⟨w, e1, e2⟩ := r.dat j x e
    exact ⟨w, e1, e2.map f g⟩
  · obtain ⟨b, e1, e2, e3⟩ := r.own j x e
    have eb : H' b = H b := by
      obtain ⟨o, ho, mu⟩ := e3.live
      rw [ho]
      exact k.same b o ho fun z => absurd z (dis b e2)
    exact ⟨b, e1, e2, e3.map f g eb⟩
end
end MI

/-! MIT: iterators: enumerate of a tuple, zip of three tuples. -/
namespace MI
open PySem PySem.Spec PyProof.Rows L2
/-- enumerate(v) is made -/
theorem enum1_meets {v : Value} {o : Obj} {G : Heap → Prop} (B : Begins v o G) :
    Meets (Builtin.«enumerate.__new__» ⟨[.type "enumerate", v], []⟩) (fun _ R z => G z.heap ∧
      R (.ok (.ret (.ref (z.heap.push o).objs.size))) { z with heap := (z.heap.push o).push { cls := .type "enumerate", data := .fields #[.none, .bool false, .ref z.heap.objs.size, rawInt 0, .none, .none] } }) :=
  .of_wp fun P w A R z hz => by
    obtain ⟨hp, g, d, tk, os⟩ := z; obtain ⟨h1, h⟩ := hz
    have hsub := sub_enumerate
    have it : ∀ {A' : Around} {E : Value → Shared → Prop} {Q : Value → Shared → Prop}, Q (.ref hp.objs.size) ⟨hp.push o, g, d, tk, os⟩ → wpAny (model P w) A' (pyIter v) Q E ⟨hp, g, d, tk, os⟩ := fun q => B.iter P w _ _ ⟨hp, g, d, tk, os⟩ _ h1 q
    wp_walk using it
    refine wpAny_stack_any fun st => wpAny_pure ?_
    split
    · rename_i c _ _ _ _ _
      cases (c == Value.type "enumerate")
      · wp_walk using it
        exact ⟨_, rfl, h⟩
      · wp_walk using it
        exact ⟨_, rfl, h⟩
    · wp_walk using it
      exact ⟨_, rfl, h⟩
theorem enum1 {P : Program} {w : World} {A : Around} {E : Value → Shared → Prop} {s : Shared} {v : Value} {o : Obj} {G : Heap → Prop} {Q : Value → Shared → Prop} (B : Begins v o G) (h1 : G s.heap)
    (q : ∀ h', IsEnum h' (s.heap.objs.size + 1) s.heap.objs.size 0 .none → h'.get? s.heap.objs.size = some o → h'.objs.size = s.heap.objs.size + 2 → (∀ b u, s.heap.get? b = some u → h'.get? b = some u) → Q (.ref (s.heap.objs.size + 1)) { s with heap := h' }) :
    wpAny (model P w) A (call (.type "enumerate") [v]) Q E s := by
  refine callType_new F.called_enumerate (by decide) (F.typeCall_enumerate_1 _) (F.newCall_enumerate_1 _) (fun obj => F.args_object_init_2 obj _) F.entry_enumerate_new (enum1_meets B) ⟨h1, ?_⟩
  have hz : (s.heap.push o).objs.size = s.heap.objs.size + 1 := Heap.size_push ..
  show _ ∧ _
  rw [hz]
  have e := Heap.get?_push_size (s.heap.push o) (o := { cls := .type "enumerate", data := .fields #[.none, .bool false, .ref s.heap.objs.size, rawInt 0, .none, .none] }) rfl
  rw [hz] at e
  exact ⟨⟨_, e, rfl⟩, q _ e (Heap.get?_push_of_some _ (Heap.get?_push_size _ B.free)) (by rw [Heap.size_push, hz]) fun b u z => Heap.get?_push_of_some _ (Heap.get?_push_of_some _ z)⟩
/-- a walk over tuples, one turn: a new tuple of these values -/
theorem turn_item {X : Cx} {it : Addr} {fpW wr fp : List Addr} {n : Nat} {Pt : Nat → Array Value → Prop} {St : Nat → Heap → Prop} {Mid : Nat → Addr → Heap → Prop} (W : WalksT X.prog X.w X.A it fpW wr n Pt St Mid) {elts : List Expr} {kk : Nat} {tpos : Pos} {i : Nat} {pins : List (Addr × Obj)} {s : Shared} {σ : L2.St} {H : Hp} {E : Value → Shared → Prop}
    {ys : List V} (hw : ∀ b ∈ wr, b ∈ fp) (hl : ∀ b ∈ fp, b < s.heap.objs.size) (I : Inv X pins σ H s) (hf : ∀ b ∈ fp, FpOk X pins H b) (hi : i < n) (st : St i s.heap) (hy : ∀ vals, Pt i vals → Vals ys vals.toList) (hys : ys.length ≤ sizeLine) :
    wpAny (model X.prog X.w) X.A (pyNext (.ref it)) (fun r s1 => ∃ u, r = some u ∧ wpAny (model X.prog X.w) X.A (letOwnedTupleGo (.Tuple elts kk tpos) (.ref it) u)
      (fun _ s2 => ∃ x H', Inv X pins σ H' s2 ∧ RelV x u ∧ (∃ T, x = .ref T ∧ H T = none ∧ H' = upd H T (.tup ys)) ∧ St (i + 1) s2.heap ∧ ∀ b ∈ fp, H' b = none) E s1) E s := by
  refine W.item i s _ E hi st fun T vals h1 tk pt hT isT mid k1 => ⟨.ref T, rfl, ?_⟩
  refine W.go elts kk tpos i T _ _ E mid fun h2 st2 k2 => ?_
  have ap := W.apart i T _ mid
  have hn : H T = none := I.hok.fresh hT
  obtain ⟨o, ho, hc, m, hd⟩ := isT
  have new : ObjOk X.prog X.w (upd H T (.tup ys)) h2 T (.tup ys) := ⟨hys, vals.toList, hy vals pt, ⟨o, k2 T o ap ho, hc, m, by simpa using hd⟩⟩
  refine ⟨.ref T, upd H T (.tup ys), I.turnedNew (ch := fp) (t' := tk) (fun b u hb z => k2 b u (fun q => hb (hw b q)) (k1 b u (fun q => hb (hw b q)) z)) hf hT new, rfl, ⟨T, rfl, hn, rfl⟩, st2, fun b hb => ?_⟩
  have : b ≠ T := fun z => absurd (hl b hb) (by rw [z]; exact Nat.not_lt_of_le hT)
  rw [upd_ne this]
  exact (hf b hb).1
theorem turn_done {X : Cx} {it : Addr} {fpW wr fp : List Addr} {n : Nat} {Pt : Nat → Array Value → Prop} {St : Nat → Heap → Prop} {Mid : Nat → Addr → Heap → Prop} (W : WalksT X.prog X.w X.A it fpW wr n Pt St Mid) {pins : List (Addr × Obj)} {s : Shared} {σ : L2.St} {H : Hp} {E : Value → Shared → Prop}
    (hw : ∀ b ∈ wr, b ∈ fp) (I : Inv X pins σ H s) (hf : ∀ b ∈ fp, FpOk X pins H b) (st : St n s.heap) : wpAny (model X.prog X.w) X.A (pyNext (.ref it)) (fun r s1 => r = none ∧ Inv X pins σ H s1) E s :=
  W.done s _ E st fun h1 tk k1 => ⟨rfl, I.turnedL (ch := fp) (t' := tk) (fun b u hb z => k1 b u (fun q => hb (hw b q)) z) hf⟩
/-- the tuple at a, each item in a new pair with its place -/
def IteT (K : PySem.W.Frag) (a : Addr) : It :=
  ⟨fun i H => ∃ (xs : List V) (x : V), SqT K H a xs ∧ xs[i]? = some x, fun i H v H' => ∃ x : V, (∀ xs, SqT K H a xs → xs[i]? = some x) ∧ ∃ T, v = .ref T ∧ H T = none ∧ H' = upd H T (.tup [.int (i : Nat), x]), fun i H => ∃ xs : List V, SqT K H a xs ∧ xs.length = i⟩
theorem vals2 {x y : V} {u v : Value} (h : RelV x u) (h' : RelV y v) : Vals [x, y] [u, v] := .cons h (.cons h' .nil)
theorem turn_enumT {P : Program} {w : World} {K : PySem.W.Frag} {elts : List Expr} {kk : Nat} {tpos : Pos} (a e it : Addr) :
    Turn P w K (.Tuple elts kk tpos) (IteT K a) [e, it] e (fun i h => (∃ old, IsEnum h e it ((i : Nat) : Int) old) ∧ h.IsTupleIter it a i ∧ e ≠ it ∧ a ≠ it ∧ e ≠ a) where
  mem := List.mem_cons_self
  obj := fun i h st b hb => by
    obtain ⟨⟨old, he⟩, ⟨o, ho, hc, hd⟩, _⟩ := st
    rcases List.mem_cons.mp hb with rfl | hb
    · exact ⟨_, he, fun v q => nomatch q⟩
    · cases List.mem_singleton.mp hb
      exact ⟨o, ho, fun v q => by rw [hd] at q; cases q⟩
  keep := fun i h h' st k => let ⟨⟨old, he⟩, hi, hne⟩ := st; ⟨⟨old, k e List.mem_cons_self _ he⟩, hi.at fun o q => k it (List.mem_cons_of_mem _ List.mem_cons_self) o q, hne⟩
  item := by
    intro X hP hw hK hc i pins s σ H E I hf st hg
    subst hP hw hK
    obtain ⟨⟨old, he⟩, hit, hne, hai, hea⟩ := st
    obtain ⟨xs, x, hq, hx⟩ := hg
    obtain ⟨its, rv, p, hz⟩ := I.tuple hq
    obtain ⟨u, hu, ru⟩ := rv.get hx
    have hii : i < its.toArray.size := by rw [List.size_toArray]; exact (List.getElem?_eq_some_iff.mp hu).1
    have D := Draws.tuple (prog := X.prog) (w := X.w) (A := X.A.in1) (I.ok.hd hc) it a hai its.toArray
    have W := WalksT.enumFrom 0 D e hne (by simp [hne, hea]) List.mem_cons_self
    refine wpAny_mono (turn_item W (fp := [e, it]) (elts := elts) (kk := kk) (tpos := tpos) (i := i) (ys := [.int (i : Nat), x]) (fun b hb => hb) (fun b hb => ?_) I hf hii ⟨⟨old, by rw [Int.zero_add]; exact he⟩, hit, p⟩ (fun vals hv => ?_) (show 2 ≤ sizeLine by decide)) (fun r s1 hr => ?_) fun _ _ z => z
    · rcases List.mem_cons.mp hb with rfl | hb
      · exact Heap.lt_size he
      · cases List.mem_singleton.mp hb
        obtain ⟨o, ho, _⟩ := hit
        exact Heap.lt_size ho
    · obtain ⟨t, y, hy, rfl⟩ := hv
      have e1 : y = u := by
        have : its[i]? = some y := by simpa using hy
        rw [hu] at this; cases this; rfl
      subst e1
      exact vals2 ⟨t, by rw [Int.zero_add]⟩ ru
    · obtain ⟨u', rfl, hr⟩ := hr
      refine ⟨u', rfl, wpAny_mono hr (fun _ s2 h2 => ?_) fun _ _ z => z⟩
      obtain ⟨v, H', I', rr, ht, ⟨⟨old', he'⟩, hit', _⟩, hn⟩ := h2
      refine ⟨v, H', I', rr, ⟨x, fun ys hy => by rw [I.tuple_inj hy hq]; exact hx, ht⟩, ⟨⟨old', ?_⟩, hit', hne, hai, hea⟩, hn⟩
      rw [Int.zero_add] at he'; exact he'
  done := by
    intro X hP hw hK hc i pins s σ H E I hf st hg
    subst hP hw hK
    obtain ⟨⟨old, he⟩, hit, hne, hai, hea⟩ := st
    obtain ⟨xs, hq, hx⟩ := hg
    obtain ⟨its, rv, p, hz⟩ := I.tuple hq
    have D := Draws.tuple (prog := X.prog) (w := X.w) (A := X.A.in1) (I.ok.hd hc) it a hai its.toArray
    have W := WalksT.enumFrom 0 D e hne (by simp [hne, hea]) List.mem_cons_self
    have hn : its.toArray.size = i := by rw [List.size_toArray, ← rv.length, hx]
    exact turn_done W (fp := [e, it]) (fun b hb => hb) I hf ⟨⟨old, by rw [hn, Int.zero_add]; exact he⟩, by rw [hn]; exact hit, p⟩
  self := fun A i s Q E st h => let ⟨⟨_, he⟩, _⟩ := st; wpAny_pyIter_enum he h
def iEnumT (K : PySem.W.Frag) (ta : TA) : TI := fun σ H R => ta σ H fun vs H1 => ∃ a xs, vs = [.ref a] ∧ SqT K H1 a xs ∧ R (IteT K a) H1
theorem pi_enumT {X : Cx} {e : Expr} {ta : TA} {p pos tpos : Pos} {elts : List Expr} {kk : Nat} (hg : Gl X "enumerate") (hm : X.mg "enumerate" = none) (ha : PA X [e] ta) (hs : starEach [e] X.env = [(false, eval e X.env)]) :
    PI X (.Tuple elts kk tpos) (.Call (.Name "enumerate" p) [e] [] pos) (iEnumT X.K ta) := by
  refine ⟨fun pins s σ H R I h => Call_ (ld_blt I hg hm boot_enumerate (PyProof.Rows.callWith_type1 (thn (ha.run pos pins s σ H _ I h) fun us s1 ⟨vs, H1, I1, r1, q1⟩ => ?_) hs rfl))⟩
  obtain ⟨a, xs, ex, hq, q⟩ := q1
  subst ex
  rw [Vals.ref1 r1]
  obtain ⟨its, rv, pt, hz⟩ := I1.tuple hq
  have la : a < s1.heap.objs.size := by obtain ⟨o, ho, _⟩ := pt; exact Heap.lt_size ho
  refine enum1 (begins_tuple a its.toArray) pt fun h' he hit hsz hk => wpAny_pyIter_enum he ?_
  have I2 : Inv X pins σ H1 { s1 with heap := h' } := I1.kept (t' := s1.toks) hk
  refine ⟨s1.heap.objs.size + 1, [s1.heap.objs.size + 1, s1.heap.objs.size], _, _, H1, rfl, I2, turn_enumT a (s1.heap.objs.size + 1) s1.heap.objs.size, ⟨⟨.none, he⟩, ⟨_, hit, rfl, rfl⟩, Nat.succ_ne_self _, Nat.ne_of_lt la, Nat.ne_of_gt (Nat.lt_succ_of_lt la)⟩, fun b hb => ?_, q⟩
  have hle : s1.heap.objs.size ≤ b := by
    rcases List.mem_cons.mp hb with rfl | hb
    · omega
    · cases List.mem_singleton.mp hb; exact Nat.le_refl _
  exact I1.fpOk hle (I1.hok.fresh hle)
theorem walk_enumT {K : PySem.W.Frag} {a : Addr} {xs : List V} : Walk (IteT K a) xs.length (fun H => SqT K H a xs) (YPair (fun i => some (.int (i : Nat))) (fun i => xs[i]?)) := by
  refine ⟨fun i H hi h => ⟨xs, xs[i], h, List.getElem?_eq_getElem hi⟩, fun H h => ⟨xs, h, rfl⟩, fun i H v H' hi h ⟨x, hx, T, e1, e2, e3⟩ => ⟨T, _, x, e1, e2, e3, rfl, hx xs h⟩⟩
/-- three tuples side by side, the items in new tuples -/
def ItzT3 (K : PySem.W.Frag) (a b c : Addr) : It :=
  ⟨fun i H => ∃ (xs ys zs : List V) (x y z : V), SqT K H a xs ∧ SqT K H b ys ∧ SqT K H c zs ∧ xs[i]? = some x ∧ ys[i]? = some y ∧ zs[i]? = some z,
   fun i H v H' => ∃ x y z : V, (∀ xs, SqT K H a xs → xs[i]? = some x) ∧ (∀ ys, SqT K H b ys → ys[i]? = some y) ∧ (∀ zs, SqT K H c zs → zs[i]? = some z) ∧ ∃ T, v = .ref T ∧ H T = none ∧ H' = upd H T (.tup [x, y, z]),
   fun i H => ∃ xs ys zs : List V, SqT K H a xs ∧ SqT K H b ys ∧ SqT K H c zs ∧ min (min xs.length ys.length) zs.length = i⟩
structure Sep3 (a b c z ti to i1 i2 i3 : Addr) : Prop where
  s : ZipSep3 z ti to i1 i2 i3 [i1, a] [i2, b] [i3, c]
  a1 : a ≠ i1
  b2 : b ≠ i2
  c3 : c ≠ i3
theorem sep3 {n a b c : Nat} (ha : a < n) (hb : b < n) (hc : c < n) : Sep3 a b c (n + 5) (n + 3) (n + 4) n (n + 1) (n + 2) := by
  refine ⟨⟨?_, ?_, ?_, ?_, ?_, ?_, ?_, ?_, ?_, ?_, ?_, ?_, ?_, ?_, ?_, ?_, ?_, ?_, ?_, ?_, ?_⟩, ?_, ?_, ?_⟩ <;> simp only [List.mem_cons, List.not_mem_nil, or_false, not_or, ne_eq, true_or] <;> (try (refine ⟨fun h => ?_, fun h => ?_⟩)) <;> (try intro h) <;> (try (exact absurd (show @Eq Nat _ _ from h) (by omega)))
theorem turn_zipT3 {P : Program} {w : World} {K : PySem.W.Frag} {elts : List Expr} {kk : Nat} {tpos : Pos} {a b c z ti to i1 i2 i3 : Addr} (S : Sep3 a b c z ti to i1 i2 i3) :
    Turn P w K (.Tuple elts kk tpos) (ItzT3 K a b c) [z, ti, to, i1, i2, i3] z (fun i h => IsZip h z ti to .none ∧ IsTupOf3 h ti (.ref i1) (.ref i2) (.ref i3) ∧ (∃ a1 a2 a3, IsTupOf3 h to a1 a2 a3) ∧ h.IsTupleIter i1 a i ∧ h.IsTupleIter i2 b i ∧ h.IsTupleIter i3 c i) where
  mem := List.mem_cons_self
  obj := fun i h st q hq => by
    obtain ⟨h1, h2, ⟨a1, a2, a3, h3⟩, ⟨o1, e1, _, d1⟩, ⟨o2, e2, _, d2⟩, ⟨o3, e3, _, d3⟩⟩ := st
    simp only [List.mem_cons, List.not_mem_nil, or_false] at hq
    rcases hq with rfl | rfl | rfl | rfl | rfl | rfl
    · exact ⟨_, h1, fun v q => nomatch q⟩
    · exact ⟨_, h2, fun v q => nomatch q⟩
    · exact ⟨_, h3, fun v q => nomatch q⟩
    · exact ⟨o1, e1, fun v q => by rw [d1] at q; cases q⟩
    · exact ⟨o2, e2, fun v q => by rw [d2] at q; cases q⟩
    · exact ⟨o3, e3, fun v q => by rw [d3] at q; cases q⟩
  keep := fun i h h' st k => by
    obtain ⟨h1, h2, ⟨a1, a2, a3, h3⟩, h4, h5, h6⟩ := st
    exact ⟨k z (by simp) _ h1, k ti (by simp) _ h2, ⟨a1, a2, a3, k to (by simp) _ h3⟩, h4.at fun o q => k i1 (by simp) o q, h5.at fun o q => k i2 (by simp) o q, h6.at fun o q => k i3 (by simp) o q⟩
  item := by
    intro X hP hw hK hc i pins s σ H E I hf st hg
    subst hP hw hK
    obtain ⟨h1, h2, h3, h4, h5, h6⟩ := st
    obtain ⟨xs, ys, zs, x, y, v, q1, q2, q3, g1, g2, g3⟩ := hg
    obtain ⟨its1, rv1, p1, _⟩ := I.tuple q1
    obtain ⟨its2, rv2, p2, _⟩ := I.tuple q2
    obtain ⟨its3, rv3, p3, _⟩ := I.tuple q3
    obtain ⟨u1, w1, r1⟩ := rv1.get g1
    obtain ⟨u2, w2, r2⟩ := rv2.get g2
    obtain ⟨u3, w3, r3⟩ := rv3.get g3
    have hii : i < min (min its1.toArray.size its2.toArray.size) its3.toArray.size := by
      rw [List.size_toArray, List.size_toArray, List.size_toArray]
      have := (List.getElem?_eq_some_iff.mp w1).1; have := (List.getElem?_eq_some_iff.mp w2).1; have := (List.getElem?_eq_some_iff.mp w3).1
      omega
    have W := WalksT.zipD3 S.s (Draws.tuple (prog := X.prog) (w := X.w) (A := X.A.in1) (I.ok.hd hc) i1 a S.a1 its1.toArray) (Draws.tuple (prog := X.prog) (w := X.w) (A := X.A.in1) (I.ok.hd hc) i2 b S.b2 its2.toArray) (Draws.tuple (prog := X.prog) (w := X.w) (A := X.A.in1) (I.ok.hd hc) i3 c S.c3 its3.toArray)
    refine wpAny_mono (turn_item W (fp := [z, ti, to, i1, i2, i3]) (elts := elts) (kk := kk) (tpos := tpos) (i := i) (ys := [x, y, v]) (fun q hq => ?_) (fun q hq => ?_) I hf hii ⟨h1, h2, h3, ⟨h4, p1⟩, ⟨h5, p2⟩, ⟨h6, p3⟩⟩ (fun vals hv => ?_) (show 3 ≤ sizeLine by decide)) (fun r s1 hr => ?_) fun _ _ z => z
    · simp only [List.mem_cons, List.not_mem_nil, or_false] at hq ⊢
      rcases hq with rfl | rfl | rfl | rfl | rfl <;> simp
    · obtain ⟨a1, a2, a3, h3⟩ := h3
      obtain ⟨o1, e1, _⟩ := h4
      obtain ⟨o2, e2, _⟩ := h5
      obtain ⟨o3, e3, _⟩ := h6
      simp only [List.mem_cons, List.not_mem_nil, or_false] at hq
      rcases hq with rfl | rfl | rfl | rfl | rfl | rfl
      · exact Heap.lt_size h1
      · exact Heap.lt_size h2
      · exact Heap.lt_size h3
      · exact Heap.lt_size e1
      · exact Heap.lt_size e2
      · exact Heap.lt_size e3
    · obtain ⟨y1, y2, y3, n1, n2, n3, rfl⟩ := hv
      have e1 : its1[i]? = some y1 := by simpa using n1
      have e2 : its2[i]? = some y2 := by simpa using n2
      have e3 : its3[i]? = some y3 := by simpa using n3
      rw [w1] at e1; rw [w2] at e2; rw [w3] at e3
      cases e1; cases e2; cases e3
      exact .cons r1 (.cons r2 (.cons r3 .nil))
    · obtain ⟨u', rfl, hr⟩ := hr
      refine ⟨u', rfl, wpAny_mono hr (fun _ s2 h2 => ?_) fun _ _ z => z⟩
      obtain ⟨v', H', I', rr, ht, ⟨k1, k2, k3, k4, k5, k6⟩, hn⟩ := h2
      exact ⟨v', H', I', rr, ⟨x, y, v, fun l hl => by rw [I.tuple_inj hl q1]; exact g1, fun l hl => by rw [I.tuple_inj hl q2]; exact g2, fun l hl => by rw [I.tuple_inj hl q3]; exact g3, ht⟩, ⟨k1, k2, k3, k4.1, k5.1, k6.1⟩, hn⟩
  done := by
    intro X hP hw hK hc i pins s σ H E I hf st hg
    subst hP hw hK
    obtain ⟨h1, h2, h3, h4, h5, h6⟩ := st
    obtain ⟨xs, ys, zs, q1, q2, q3, hx⟩ := hg
    obtain ⟨its1, rv1, p1, _⟩ := I.tuple q1
    obtain ⟨its2, rv2, p2, _⟩ := I.tuple q2
    obtain ⟨its3, rv3, p3, _⟩ := I.tuple q3
    have W := WalksT.zipD3 S.s (Draws.tuple (prog := X.prog) (w := X.w) (A := X.A.in1) (I.ok.hd hc) i1 a S.a1 its1.toArray) (Draws.tuple (prog := X.prog) (w := X.w) (A := X.A.in1) (I.ok.hd hc) i2 b S.b2 its2.toArray) (Draws.tuple (prog := X.prog) (w := X.w) (A := X.A.in1) (I.ok.hd hc) i3 c S.c3 its3.toArray)
    have hn : min (min its1.toArray.size its2.toArray.size) its3.toArray.size = i := by
      rw [List.size_toArray, List.size_toArray, List.size_toArray, ← rv1.length, ← rv2.length, ← rv3.length]; exact hx
    refine turn_done W (fp := [z, ti, to, i1, i2, i3]) (fun q hq => ?_) I hf (by rw [hn]; exact ⟨h1, h2, h3, ⟨h4, p1⟩, ⟨h5, p2⟩, ⟨h6, p3⟩⟩)
    simp only [List.mem_cons, List.not_mem_nil, or_false] at hq ⊢
    rcases hq with rfl | rfl | rfl | rfl | rfl <;> simp
  self := fun A i s Q E st h => wpAny_pyIter_zip st.1 h
def iZip3 (K : PySem.W.Frag) (ta : TA) : TI := fun σ H R => ta σ H fun vs H1 => ∃ a b c xs ys zs, vs = [.ref a, .ref b, .ref c] ∧ SqT K H1 a xs ∧ SqT K H1 b ys ∧ SqT K H1 c zs ∧ R (ItzT3 K a b c) H1
theorem pi_zip3 {X : Cx} {e e2 e3 : Expr} {ta : TA} {p pos tpos : Pos} {elts : List Expr} {kk : Nat} (hg : Gl X "zip") (hm : X.mg "zip" = none) (ha : PA X [e, e2, e3] ta) (hs : starEach [e, e2, e3] X.env = (false, eval e X.env) :: starEach [e2, e3] X.env) (hp : (backTo pos (starEach [e2, e3] X.env)).any (·.1) = false) :
    PI X (.Tuple elts kk tpos) (.Call (.Name "zip" p) [e, e2, e3] [] pos) (iZip3 X.K ta) := by
  refine ⟨fun pins s σ H R I h => Call_ (ld_blt I hg hm boot_zip (PyProof.Rows.callWith_type1 (thn (ha.run pos pins s σ H _ I h) fun us s1 ⟨vs, H1, I1, r1, q1⟩ => ?_) hs hp))⟩
  obtain ⟨a, b, c, xs, ys, zs, ex, hq1, hq2, hq3, q⟩ := q1
  subst ex
  cases r1 with
  | cons r rr =>
    cases r
    cases rr with
    | cons r rr =>
      cases r
      cases rr with
      | cons r rr =>
        cases r
        cases rr
        obtain ⟨its1, rv1, p1, _⟩ := I1.tuple hq1
        obtain ⟨its2, rv2, p2, _⟩ := I1.tuple hq2
        obtain ⟨its3, rv3, p3, _⟩ := I1.tuple hq3
        have la : a < s1.heap.objs.size := by obtain ⟨o, ho, _⟩ := p1; exact Heap.lt_size ho
        have lb : b < s1.heap.objs.size := by obtain ⟨o, ho, _⟩ := p2; exact Heap.lt_size ho
        have lc : c < s1.heap.objs.size := by obtain ⟨o, ho, _⟩ := p3; exact Heap.lt_size ho
        refine zip_begins3 (begins_tuple a its1.toArray) (begins_tuple b its2.toArray) (begins_tuple c its3.toArray) p1 p2 p3 fun h' hz ht ho k1 k2 k3 hsz hk => wpAny_pyIter_zip hz ?_
        have I2 : Inv X pins σ H1 { s1 with heap := h' } := I1.kept (t' := s1.toks) hk
        refine ⟨_, [s1.heap.objs.size + 5, s1.heap.objs.size + 3, s1.heap.objs.size + 4, s1.heap.objs.size, s1.heap.objs.size + 1, s1.heap.objs.size + 2], _, _, H1, rfl, I2, turn_zipT3 (sep3 la lb lc), ⟨hz, ht, ⟨_, _, _, ho⟩, ⟨_, k1, rfl, rfl⟩, ⟨_, k2, rfl, rfl⟩, ⟨_, k3, rfl, rfl⟩⟩, fun q hq' => ?_, q⟩
        have hle : s1.heap.objs.size ≤ q := by
          simp only [List.mem_cons, List.not_mem_nil, or_false] at hq'
          rcases hq' with rfl | rfl | rfl | rfl | rfl | rfl <;> first | exact Nat.le_refl _ | exact Nat.le_add_right _ _
        exact I1.fpOk hle (I1.hok.fresh hle)
/-- a new triple of the i-th of each -/
def YTrip (fx fy fz : Nat → Option V) : Nat → Hp → V → Hp → Prop := fun i H v H' => ∃ T x y z, v = .ref T ∧ H T = none ∧ H' = upd H T (.tup [x, y, z]) ∧ fx i = some x ∧ fy i = some y ∧ fz i = some z
theorem walk_zip3 {K : PySem.W.Frag} {a b c : Addr} {xs ys zs : List V} {n : Nat} (hn : n = min (min xs.length ys.length) zs.length) : Walk (ItzT3 K a b c) n (fun H => SqT K H a xs ∧ SqT K H b ys ∧ SqT K H c zs) (YTrip (fun i => xs[i]?) (fun i => ys[i]?) (fun i => zs[i]?)) := by
  refine ⟨fun i H hi h => ⟨xs, ys, zs, xs[i]'(by omega), ys[i]'(by omega), zs[i]'(by omega), h.1, h.2.1, h.2.2, List.getElem?_eq_getElem _, List.getElem?_eq_getElem _, List.getElem?_eq_getElem _⟩, fun H h => ⟨xs, ys, zs, h.1, h.2.1, h.2.2, hn.symm⟩, fun i H v H' hi h ⟨x, y, z, hx, hy, hz, T, e1, e2, e3⟩ => ⟨T, x, y, z, e1, e2, e3, hx xs h.1, hy ys h.2.1, hz zs h.2.2⟩⟩
/-- a tuple and a list side by side, the items in new pairs -/
def ItzM (K : PySem.W.Frag) (a b : Addr) : It :=
  ⟨fun i H => ∃ (xs ys : List V) (x y : V), SqT K H a xs ∧ SqL K H b ys ∧ xs[i]? = some x ∧ ys[i]? = some y,
   fun i H v H' => ∃ x y : V, (∀ xs, SqT K H a xs → xs[i]? = some x) ∧ (∀ ys, SqL K H b ys → ys[i]? = some y) ∧ ∃ T, v = .ref T ∧ H T = none ∧ H' = upd H T (.tup [x, y]),
   fun i H => ∃ xs ys : List V, SqT K H a xs ∧ SqL K H b ys ∧ min xs.length ys.length = i⟩
structure Sep2 (a b z ti to i1 i2 : Addr) : Prop where
  s : ZipSep2 z ti to i1 i2 [i1, a] [i2, b]
  a1 : a ≠ i1
  b2 : b ≠ i2
theorem sep2 {n a b : Nat} (ha : a < n) (hb : b < n) : Sep2 a b (n + 4) (n + 2) (n + 3) n (n + 1) := by
  refine ⟨⟨?_, ?_, ?_, ?_, ?_, ?_, ?_, ?_, ?_, ?_, ?_, ?_, ?_⟩, ?_, ?_⟩ <;> simp only [List.mem_cons, List.not_mem_nil, or_false, not_or, ne_eq, true_or] <;> (try (refine ⟨fun h => ?_, fun h => ?_⟩)) <;> (try intro h) <;> (try (exact absurd (show @Eq Nat _ _ from h) (by omega)))
theorem turn_zipM {P : Program} {w : World} {K : PySem.W.Frag} {elts : List Expr} {kk : Nat} {tpos : Pos} {a b z ti to i1 i2 : Addr} (S : Sep2 a b z ti to i1 i2) :
    Turn P w K (.Tuple elts kk tpos) (ItzM K a b) [z, ti, to, i1, i2] z (fun i h => IsZip h z ti to .none ∧ IsTupOf2 h ti (.ref i1) (.ref i2) ∧ (∃ a1 a2, IsTupOf2 h to a1 a2) ∧ h.IsTupleIter i1 a i ∧ h.IsListIter i2 b i) where
  mem := List.mem_cons_self
  obj := fun i h st q hq => by
    obtain ⟨h1, h2, ⟨a1, a2, h3⟩, ⟨o1, e1, _, d1⟩, ⟨o2, e2, _, d2⟩⟩ := st
    simp only [List.mem_cons, List.not_mem_nil, or_false] at hq
    rcases hq with rfl | rfl | rfl | rfl | rfl
    · exact ⟨_, h1, fun v q => nomatch q⟩
    · exact ⟨_, h2, fun v q => nomatch q⟩
    · exact ⟨_, h3, fun v q => nomatch q⟩
    · exact ⟨o1, e1, fun v q => by rw [d1] at q; cases q⟩
    · exact ⟨o2, e2, fun v q => by rw [d2] at q; cases q⟩
  keep := fun i h h' st k => by
    obtain ⟨h1, h2, ⟨a1, a2, h3⟩, h4, h5⟩ := st
    exact ⟨k z (by simp) _ h1, k ti (by simp) _ h2, ⟨a1, a2, k to (by simp) _ h3⟩, h4.at fun o q => k i1 (by simp) o q, h5.at fun o q => k i2 (by simp) o q⟩
  item := by
    intro X hP hw hK hc i pins s σ H E I hf st hg
    subst hP hw hK
    obtain ⟨h1, h2, h3, h4, h5⟩ := st
    obtain ⟨xs, ys, x, y, q1, q2, g1, g2⟩ := hg
    obtain ⟨its1, rv1, p1, _⟩ := I.tuple q1
    obtain ⟨its2, rv2, p2, _⟩ := I.list q2
    obtain ⟨u1, w1, r1⟩ := rv1.get g1
    obtain ⟨u2, w2, r2⟩ := rv2.get g2
    have hii : i < min its1.toArray.size its2.toArray.size := by
      rw [List.size_toArray, List.size_toArray]
      have := (List.getElem?_eq_some_iff.mp w1).1; have := (List.getElem?_eq_some_iff.mp w2).1
      omega
    have W := WalksT.zipD2 S.s (Draws.tuple (prog := X.prog) (w := X.w) (A := X.A.in1) (I.ok.hd hc) i1 a S.a1 its1.toArray) (Draws.list (prog := X.prog) (w := X.w) (A := X.A.in1) (I.ok.hd hc) i2 b S.b2 its2.toArray)
    refine wpAny_mono (turn_item W (fp := [z, ti, to, i1, i2]) (elts := elts) (kk := kk) (tpos := tpos) (i := i) (ys := [x, y]) (fun q hq => ?_) (fun q hq => ?_) I hf hii ⟨h1, h2, h3, ⟨h4, p1⟩, ⟨h5, p2.isList⟩⟩ (fun vals hv => ?_) (show 2 ≤ sizeLine by decide)) (fun r s1 hr => ?_) fun _ _ z => z
    · simp only [List.mem_cons, List.not_mem_nil, or_false] at hq ⊢
      rcases hq with rfl | rfl | rfl | rfl <;> simp
    · obtain ⟨a1, a2, h3⟩ := h3
      obtain ⟨o1, e1, _⟩ := h4
      obtain ⟨o2, e2, _⟩ := h5
      simp only [List.mem_cons, List.not_mem_nil, or_false] at hq
      rcases hq with rfl | rfl | rfl | rfl | rfl
      · exact Heap.lt_size h1
      · exact Heap.lt_size h2
      · exact Heap.lt_size h3
      · exact Heap.lt_size e1
      · exact Heap.lt_size e2
    · obtain ⟨y1, y2, n1, n2, rfl⟩ := hv
      have e1 : its1[i]? = some y1 := by simpa using n1
      have e2 : its2[i]? = some y2 := by simpa using n2
      rw [w1] at e1; rw [w2] at e2
      cases e1; cases e2
      exact .cons r1 (.cons r2 .nil)
    · obtain ⟨u', rfl, hr⟩ := hr
      refine ⟨u', rfl, wpAny_mono hr (fun _ s2 h2 => ?_) fun _ _ z => z⟩
      obtain ⟨v', H', I', rr, ht, ⟨k1, k2, k3, k4, k5⟩, hn⟩ := h2
      exact ⟨v', H', I', rr, ⟨x, y, fun l hl => by rw [I.tuple_inj hl q1]; exact g1, fun l hl => by rw [I.list_inj hl q2]; exact g2, ht⟩, ⟨k1, k2, k3, k4.1, k5.1⟩, hn⟩
  done := by
    intro X hP hw hK hc i pins s σ H E I hf st hg
    subst hP hw hK
    obtain ⟨h1, h2, h3, h4, h5⟩ := st
    obtain ⟨xs, ys, q1, q2, hx⟩ := hg
    obtain ⟨its1, rv1, p1, _⟩ := I.tuple q1
    obtain ⟨its2, rv2, p2, _⟩ := I.list q2
    have W := WalksT.zipD2 S.s (Draws.tuple (prog := X.prog) (w := X.w) (A := X.A.in1) (I.ok.hd hc) i1 a S.a1 its1.toArray) (Draws.list (prog := X.prog) (w := X.w) (A := X.A.in1) (I.ok.hd hc) i2 b S.b2 its2.toArray)
    have hn : min its1.toArray.size its2.toArray.size = i := by
      rw [List.size_toArray, List.size_toArray, ← rv1.length, ← rv2.length]; exact hx
    refine turn_done W (fp := [z, ti, to, i1, i2]) (fun q hq => ?_) I hf (by rw [hn]; exact ⟨h1, h2, h3, ⟨h4, p1⟩, ⟨h5, p2.isList⟩⟩)
    simp only [List.mem_cons, List.not_mem_nil, or_false] at hq ⊢
    rcases hq with rfl | rfl | rfl | rfl <;> simp
  self := fun A i s Q E st h => wpAny_pyIter_zip st.1 h
def iZipM (K : PySem.W.Frag) (ta : TA) : TI := fun σ H R => ta σ H fun vs H1 => ∃ a b xs ys, vs = [.ref a, .ref b] ∧ SqT K H1 a xs ∧ SqL K H1 b ys ∧ R (ItzM K a b) H1
theorem pi_zipM {X : Cx} {e e2 : Expr} {ta : TA} {p pos tpos : Pos} {elts : List Expr} {kk : Nat} (hg : Gl X "zip") (hm : X.mg "zip" = none) (ha : PA X [e, e2] ta) (hs : starEach [e, e2] X.env = (false, eval e X.env) :: starEach [e2] X.env) (hp : (backTo pos (starEach [e2] X.env)).any (·.1) = false) :
    PI X (.Tuple elts kk tpos) (.Call (.Name "zip" p) [e, e2] [] pos) (iZipM X.K ta) := by
  refine ⟨fun pins s σ H R I h => Call_ (ld_blt I hg hm boot_zip (PyProof.Rows.callWith_type1 (thn (ha.run pos pins s σ H _ I h) fun us s1 ⟨vs, H1, I1, r1, q1⟩ => ?_) hs hp))⟩
  obtain ⟨a, b, xs, ys, ex, hq1, hq2, q⟩ := q1
  subst ex
  cases r1 with
  | cons r rr =>
    cases r
    cases rr with
    | cons r rr =>
      cases r
      cases rr
      obtain ⟨its1, rv1, p1, _⟩ := I1.tuple hq1
      obtain ⟨its2, rv2, p2, _⟩ := I1.list hq2
      have la : a < s1.heap.objs.size := by obtain ⟨o, ho, _⟩ := p1; exact Heap.lt_size ho
      have lb : b < s1.heap.objs.size := p2.lt
      refine zip_begins2 (begins_tuple a its1.toArray) (begins_list b its2.toArray) p1 p2.isList fun h' hz ht ho k1 k2 hsz hk => wpAny_pyIter_zip hz ?_
      have I2 : Inv X pins σ H1 { s1 with heap := h' } := I1.kept (t' := s1.toks) hk
      refine ⟨_, [s1.heap.objs.size + 4, s1.heap.objs.size + 2, s1.heap.objs.size + 3, s1.heap.objs.size, s1.heap.objs.size + 1], _, _, H1, rfl, I2, turn_zipM (sep2 la lb), ⟨hz, ht, ⟨_, _, ho⟩, ⟨_, k1, rfl, rfl⟩, ⟨_, k2, rfl, rfl⟩⟩, fun q hq' => ?_, q⟩
      have hle : s1.heap.objs.size ≤ q := by
        simp only [List.mem_cons, List.not_mem_nil, or_false] at hq'
        rcases hq' with rfl | rfl | rfl | rfl | rfl <;> first | exact Nat.le_refl _ | exact Nat.le_add_right _ _
      exact I1.fpOk hle (I1.hok.fresh hle)
end MI

/-! MIR: a tuple backwards. -/
namespace MI
open PySem PySem.Spec PyProof.Rows L2 HT
section
variable {prog : Program} {w : World} {A : Around} {E : Value → Shared → Prop} {s : Shared}
theorem places_rev (n : Nat) : Builtin.Slice.slicePlaces ((n : Int) - 1) (-1) (-1) = n := by
  unfold Builtin.Slice.slicePlaces
  have h1 : ¬ ((-1 : Int) > 0) := by omega
  have h2 : (- -1 : Int) = 1 := by decide
  simp only [h1, if_false, h2, Int.ediv_one]
  split <;> omega
theorem sliceApplied_rev {sl : Addr} {vl vu vs : Value} {n : Nat} {Q : Int × Int × Nat → Shared → Prop} (hs : s.heap.IsSliceOf sl vl vu vs) (pl : IsPart vl none) (pu : IsPart vu none) (ps : IsPart vs (some (-1)))
    (h : Q ((n : Int) - 1, -1, n) s) : wpAny (model prog w) A (Builtin.Slice.sliceApplied (.ref sl) (pure (n : Int))) Q E s := by
  obtain ⟨os, hos, hcs, hds⟩ := id hs
  unfold Builtin.Slice.sliceApplied Builtin.Slice.sliceFields
  refine wpAny_bind (wpAny_bind (wpAny_field hos hds (x := vl) rfl (wpAny_bind (wpAny_field hos hds (x := vu) rfl (wpAny_bind (wpAny_field hos hds (x := vs) rfl (wpAny_pure ?_)))))))
  refine wpAny_bind (slicePart_ ps ?_)
  show wpAny _ _ (if ((-1 : Int) == 0) = true then _ else _) _ _ s
  rw [if_neg (by decide)]
  refine wpAny_bind (slicePart_ pl (wpAny_bind (slicePart_ pu (wpAny_bind (wpAny_pure ?_)))))
  show wpAny _ _ (pure ((n : Int) - 1, (-1 : Int), Builtin.Slice.slicePlaces ((n : Int) - 1) (-1) (-1))) _ _ s
  rw [places_rev]
  exact wpAny_pure h
theorem pick_rev (xs : Array Value) : ((List.range xs.size).filterMap fun (m : Nat) => xs[((xs.size : Int) - 1 + (m : Int) * (-1)).toNat]?).toArray = xs.toList.reverse.toArray := by
  have h := PySem.W.krv_pick xs
  unfold slicePick at h
  rw [PySem.W.krv_bounds] at h
  have h' : ((sliceRange ((xs.size : Int) - 1) (-1) (-1)).filterMap (xs[·]?)).toArray = xs.toList.reverse.toArray := h
  rw [PySem.W.krv_sliceRange, List.filterMap_map] at h'
  rw [← h']
  congr 1
  have fm : ∀ {l : List Nat} {f g : Nat → Option Value}, (∀ m ∈ l, f m = g m) → l.filterMap f = l.filterMap g := by
    intro l f g hl
    induction l with
    | nil => rfl
    | cons a r ih => rw [List.filterMap_cons, List.filterMap_cons, hl a (by simp), ih fun m hm => hl m (by simp [hm])]
  refine fm fun m hm => ?_
  have := List.mem_range.1 hm
  show xs[_]? = xs[xs.size - 1 - m]?
  have e : ((xs.size : Int) - 1 + (m : Int) * -1).toNat = xs.size - 1 - m := by omega
  rw [e]
theorem getItem_tuple_rev {t sl : Addr} {items : Array Value} {vl vu vs : Value} {Q : Value → Shared → Prop} (ht : IsTup s.heap t items) (hs : s.heap.IsSliceOf sl vl vu vs) (pl : IsPart vl none) (pu : IsPart vu none) (ps : IsPart vs (some (-1)))
    (h : Q (.ref s.heap.objs.size) { s with heap := s.heap.push { cls := .type "tuple", data := .seq items.toList.reverse.toArray } })
    (hsz : items.size ≤ sizeLine) : wpAny (model prog w) A (getItem (.ref t) (.ref sl)) Q E s := by
  have htake : sizeOk (.seq items.toList.reverse.toArray) := by
    show items.toList.reverse.toArray.size ≤ sizeLine
    rw [List.size_toArray, List.length_reverse, Array.length_toList]
    omega
  obtain ⟨os, hos, hcs, hds⟩ := id hs
  have hTs : s.TypeIs (.ref sl) "slice" := ⟨os, hos, hcs⟩
  unfold getItem
  try with_reducible refine wpAny_holding ?_
  first | refine wpAny_bind (wpAny_pure ?_) | skip
  refine wpAny_bind (wpAny_sequenceKey ht.typeIs (by decide) ?_)
  refine wpAny_bind (wpAny_callSpecial?_slot (name := Str.ofString "__getitem__") ht.typeIs PyProof.Rows.slot_tuple_getitem
    (wpAny_call_entry PyProof.Rows.slot_tuple_getitem ht.typeIs entry_tuple_getitem ?_ (args_tuple_getitem _ _)))
  show wpAny _ _ (Builtin.Tuple.tupleItemsOf (.ref t) >>= _) _ _ s
  refine wpAny_bind (tupleItemsOf_ ht ?_)
  refine wpAny_bind (wpAny_typeOf hTs ?_)
  rw [if_pos (by decide)]
  refine wpAny_bind (sliceApplied_rev hs pl pu ps ?_)
  have hno : ¬ ((((items.size : Int) - 1) == 0 && (-1 : Int) == 1 && items.size == items.size) = true) := by
    intro q
    rw [Bool.and_eq_true, Bool.and_eq_true] at q
    exact absurd q.1.2 (by decide)
  show wpAny _ _ (if (((items.size : Int) - 1) == 0 && (-1 : Int) == 1 && items.size == items.size) = true then _ else _) _ _ s
  rw [if_neg hno, pick_rev]
  first
    | exact wpAny_bind (m := Builtin.Tuple.tupleExact _) (wpAny_newObj_type (wpAny_pure ⟨_, rfl, wpAny_pure h⟩) htake)
    | exact wpAny_bind (m := Builtin.Tuple.tupleExact _) (wpAny_newObj_type (wpAny_bind (wpAny_pure (wpAny_pure ⟨_, rfl, wpAny_pure h⟩))) htake)
    | exact wpAny_bind (wpAny_bind (m := Builtin.Tuple.tupleExact _) (wpAny_newObj_type (wpAny_pure (wpAny_pure ⟨_, rfl, wpAny_pure h⟩)) htake))
    | exact wpAny_bind (wpAny_bind (m := Builtin.Tuple.tupleExact _) (wpAny_newObj_type (wpAny_pure ⟨_, rfl, wpAny_pure h⟩) htake))
end
section
variable {X : Cx}
def tRevT (K : PySem.W.Frag) (te : TE) : TE := fun σ H Q => te σ H fun x H1 => ∃ a xs, x = .ref a ∧ SqT K H1 a xs ∧ ∀ p, H1 p = none → Q (.ref p) (upd H1 p (.tup xs.reverse))
theorem pe_revT {e : Expr} {te : TE} {k : Nat} {p1 p2 p3 pos : Pos} (he : PE X e te) : PE X (.Subscript e (.Slice none none (some (.UnaryOp .USub (.Constant (.int 1) k p1) p2)) p3) pos) (tRevT X.K te) := by
  refine ⟨fun pins s σ H Q I h => ?_⟩
  refine Subscript_ (thn (he.run pins s σ H _ I h) fun v s1 ⟨x, H1, I1, r1, q1⟩ => ?_)
  obtain ⟨a, xs, ex, hx, q⟩ := q1
  subst ex
  cases r1
  have hst : PO X (some (.UnaryOp .USub (.Constant (.int 1) k p1) p2)) (tPart (tUn (rU fun i => .int (-i)) (tC (.int 1)))) := po_some (pe_un un_neg pe_int)
  refine wpAny_Slice (thn (po_none.run pins s1 σ H1 (fun o H2 => o = none ∧ H2 = H1) I1 ⟨rfl, rfl⟩) fun vl s2 ⟨l, H2, I2, pl, el, e2⟩ => ?_)
  subst el e2
  refine thn (po_none.run pins s2 σ H2 (fun o H3 => o = none ∧ H3 = H2) I2 ⟨rfl, rfl⟩) fun vu s3 ⟨u, H3, I3, pu, eu, e3⟩ => ?_
  subst eu e3
  refine thn (hst.run pins s3 σ H3 (fun o H4 => o = some (-1) ∧ H4 = H3) I3 ⟨1, rfl, -1, rfl, rfl, rfl⟩) fun vs s4 ⟨o, H4, I4, ps, eo, e4⟩ => ?_
  subst eo e4
  have I5 : Inv X pins σ H4 { s4 with heap := s4.heap.push { cls := .type "slice", data := .fields #[vl, vu, vs] } } := I4.kept (t' := s4.toks) fun b ob q => Heap.get?_push_of_some _ q
  obtain ⟨its, r, ht, hz⟩ := I5.tuple hx
  have hlen := r.length
  show wpAny (model X.prog X.w) X.A (subscriptTail e (.Slice none none (some (.UnaryOp .USub (.Constant (.int 1) k p1) p2)) p3) (.ref a) (.ref s4.heap.objs.size)) (EP X pins σ Q) X.xe { s4 with heap := s4.heap.push { cls := .type "slice", data := .fields #[vl, vu, vs] } }
  refine tail_any (ops := [.ref a, .ref s4.heap.objs.size]) ht.typeIs (PyProof.Rows.slot_tuple_getitem.lookup) ?_ (by with_unfolding_all rfl)
  refine getItem_tuple_rev ht (Heap.IsSliceOf.new _ vl vu vs) pl pu ps ?_ (by rw [List.size_toArray]; omega)
  refine ⟨.ref _, _, I5.laid (t' := s4.toks) (o := .tup xs.reverse) (fun b ob q => Heap.get?_push_of_some _ q) (Nat.le_refl _) ?_, rfl, q _ (I5.hok.fresh (Nat.le_refl _))⟩
  exact ⟨by rw [List.length_reverse]; exact hz, _, r.reverse, IsTup.new _ _⟩
end
end MI

/-! MIS: the set of a list of ints, sorted. -/
namespace MI
open PySem PySem.Spec PyProof.Rows L2
/-- a set as it begins -/
abbrev oSet (w : World) : Obj := { cls := .type "set", dict := none, data := .set #[] 0 (.fresh 0 0 (!w.params.followText "set-order")) }
section
variable {P : Program} {w : World} {A : Around} {E : Value → Shared → Prop} {z : Shared}
/-- set(l) of a list of ints (as the library tells it of a tuple) -/
theorem mk_set {l : Addr} {vs : Array Value} (ns : List Int) {Q : Value → Shared → Prop} (hh : A.handled = none) (hl : z.heap.IsList l vs) (hv : IntsAre vs.toList ns) (hb : ns.length + 1 < scanBound)
    (q : ∀ (h' : Heap) (tk c : Nat), SetR w h' z.heap.objs.size (fun j => decide (j ∈ ns)) c → c ≤ ns.length → (∀ b o, z.heap.get? b = some o → h'.get? b = some o) → Q (.ref z.heap.objs.size) { z with heap := h', toks := tk }) :
    wpAny (model P w) A (call (.type "set") [.ref l]) Q E z := by
  have hn : vs.size = ns.length := by
    have e := IntsAre.length hv
    rwa [Array.length_toList] at e
  obtain ⟨c, tl, hmro⟩ := F.called_set.mro
  have hmade := F.called_set.made
  have hsub := F.called_set.sub
  refine wpAny_call (codeAny_of_tree ?_)
  show wpAny _ _ (callAny (.type "set") _) _ _ _
  refine wpAny_pure ⟨Code.quiet_builtin _ (by decide +kernel), codeAny_builtin F.entry_type_call ?_⟩
  rw [Around.under_plain (weight_type_call_type "set" [.ref l] []) rfl]
  have h1 := F.called_set.notType
  have h2 := F.called_set.canCreate
  have h3 := F.typeCall_set_1 (.ref l)
  repeat (any_goals (first | assumption | wp_step))
  refine codeAny_mono (code_set_led1 (.ref l) (E := E) (Q₁ := fun obj s1 => obj = .ref z.heap.objs.size ∧ s1 = { z with heap := z.heap.push (oSet w) }) ⟨rfl, rfl⟩) fun r s1 hr => ?_
  cases r with
  | error e => exact hr
  | ok fl =>
    cases fl with
    | ret obj =>
      obtain ⟨rfl, rfl⟩ := hr
      have hS : (z.heap.push (oSet w)).get? z.heap.objs.size = some (oSet w) := Heap.get?_push_size _ rfl
      have hT : Shared.TypeIs { z with heap := z.heap.push (oSet w) } (.ref z.heap.objs.size) "set" := ⟨_, hS, rfl⟩
      have hli := F.called_set.init.lookup
      have hbi := F.called_set.init.bind (.ref z.heap.objs.size)
      repeat (any_goals (first | assumption | wp_step))
      refine codeAny_mono (codeAny_call_builtin (R := wants (fun r s2 => r = .none ∧ ∃ h' tk c, s2 = { z with heap := h', toks := tk } ∧ SetR w h' z.heap.objs.size (fun j => decide (j ∈ ns)) c ∧ c ≤ ns.length ∧ ∀ b o, z.heap.get? b = some o → h'.get? b = some o) E) F.called_set.init.plain F.entry_set_init (check_set_init_1 hT ?_)) fun r2 s2 hr2 => ?_
      · obtain ⟨⟨oc, od, odt, os⟩, ho, hc, nl, hd⟩ := hl
        simp only at hc hd
        subst hc; subst hd
        have ho' : (z.heap.push (oSet w)).get? l = some { cls := .type "list", dict := od, data := .seq vs nl, slots := os } := Heap.get?_push_of_some _ ho
        have g1 := F.sub_list_set
        have g2 := F.sub_list_frozenset
        have g3 : (Value.type "list" == Value.type "dict") = false := by decide
        have hl1 : (z.heap.push (oSet w)).IsList l vs := ⟨_, ho', rfl, nl, rfl⟩
        unfold Builtin.«set.__init__» noKeywords Builtin.Frozenset.updateFrom
        generalize hPI : pyIter = PI
        wp_walk
        subst hPI
        refine wpAny_pyIter_list hl1 (wpAny_bind (wpAny_runValue ?_))
        have hlt : l < z.heap.objs.size := Heap.lt_size ho
        have e1 : (z.heap.push (oSet w)).objs.size = z.heap.objs.size + 1 := Heap.size_push ..
        have n1 : l ≠ (z.heap.push (oSet w)).objs.size := by rw [e1]; exact Nat.ne_of_lt (Nat.lt_succ_of_lt hlt)
        have n2 : z.heap.objs.size ∉ [(z.heap.push (oSet w)).objs.size, l] := by
          rw [e1]
          intro hm
          rcases List.mem_cons.mp hm with h | h
          · exact absurd h (Nat.ne_of_lt (Nat.lt_succ_self _))
          · exact absurd (List.mem_singleton.mp h) (Nat.ne_of_gt hlt)
        have itm : ∀ (i : Nat) (v : Value), vs[i]? = some v → ∃ k t, ns[i]? = some k ∧ v = .int k t := fun i v hi => by
          have hlt : i < ns.length := by rw [← hn]; exact (Array.getElem?_eq_some_iff.mp hi).1
          obtain ⟨t, e⟩ := IntsAre.int_at hv i v (by rw [Array.getElem?_toList]; exact hi)
          exact ⟨ns[i], t, List.getElem?_eq_getElem hlt, by rw [e, List.getD_eq_getElem?_getD, List.getElem?_eq_getElem hlt]; rfl⟩
        refine set_update_ints ((Walks.list (A := A.in1.in1.in1) (by simp [hh]) _ l n1 vs).toS) z.heap.objs.size n2 ns hn hb itm (vs.size - 0) 0 _ (by omega) (Nat.zero_le _) ⟨⟨_, Heap.get?_push_size _ rfl, rfl, rfl⟩, hl1.push _⟩ ⟨0, Nat.le_refl 0, setR_new_at (Heap.get?_push_of_some _ hS)⟩ fun s' c' hm hc' hS' => ?_
        obtain ⟨h', gg, dd, tk', oo⟩ := s'
        have eg : gg = z.gens := hm.gens
        have ed : dd = z.drawn := hm.drawn
        have eo : oo = z.os := hm.os
        subst eg; subst ed; subst eo
        refine wpAny_pure ?_
        show wpAny _ _ (ret Value.none) _ _ _
        refine wpAny_pure ⟨rfl, h', tk', c', rfl, hS', by rw [← hn]; exact hc', fun b o e => ?_⟩
        have lt : b < z.heap.objs.size := Heap.lt_size e
        refine hm.heap b o (fun h => ?_) (Heap.get?_push_of_some _ (Heap.get?_push_of_some _ e))
        rcases List.mem_cons.mp h with h | h
        · exact absurd h (Nat.ne_of_lt lt)
        · exact absurd (List.mem_singleton.mp h) (by rw [e1]; exact Nat.ne_of_lt (Nat.lt_succ_of_lt lt))
      · cases r2 with
        | error e => exact hr2
        | ok fl2 =>
          cases fl2 with
          | ret r =>
            obtain ⟨rfl, h', tk, c', rfl, hS', hc', hk'⟩ := hr2
            repeat (any_goals (first | assumption | wp_step))
            exact q _ _ _ hS' hc' hk'
          | _ => exact hr2.elim
    | _ => exact hr.elim
end
section
variable {X : Cx}
/-- set(xs) of a list of ints -/
def rSetL (X : Cx) : List V → Hp → VK → Prop := fun vs H Q => ∃ (a : Addr) (ns : List Int), vs = [V.ref a] ∧ SqL X.K H a (ns.map V.int) ∧ ns.length + 1 < 4096 ∧ ∀ p c (ks : List Int), H p = none → ks.Nodup → (∀ k, k ∈ ks ↔ k ∈ ns) → ks.length = c → Q (.ref p) (upd H p (SetO X.w p (fun j => decide (j ∈ ns)) c))
theorem cr_setL (hc : X.calm = true) : CallR X (.type "set") (rSetL X) := by
  intro pins s σ H vs us Q I r ⟨a, ns, e, hs, hb, q⟩
  subst e
  rw [Vals.ref1 r]
  obtain ⟨its, rv, pl, hz⟩ := I.list hs
  refine mk_set ns (I.ok.hd hc) pl.isList (by simpa using rv.ints) hb fun h' tk c R hle hk => ?_
  have hn : H s.heap.objs.size = none := I.hok.fresh (Nat.le_refl _)
  refine ⟨.ref _, upd H s.heap.objs.size (SetO X.w s.heap.objs.size (fun j => decide (j ∈ ns)) c), I.laid (t' := tk) hk (Nat.le_refl _) (setO_new R), rfl, ?_⟩
  obtain ⟨o, es, ep, t, _, _, _, _, nd, hS, _, _, hsz, _⟩ := R
  exact q _ _ (es.toList.map L2.keyOf) hn nd (fun k => by rw [← hS k]; simp) (by rw [List.length_map, Array.length_toList]; exact hsz)
/-- set(t) of a tuple of ints -/
def rSetT (X : Cx) : List V → Hp → VK → Prop := fun vs H Q => ∃ (a : Addr) (ns : List Int), vs = [V.ref a] ∧ SqT X.K H a (ns.map V.int) ∧ ns.length + 1 < 4096 ∧ ∀ p c (ks : List Int), H p = none → ks.Nodup → (∀ k, k ∈ ks ↔ k ∈ ns) → ks.length = c → Q (.ref p) (upd H p (SetO X.w p (fun j => decide (j ∈ ns)) c))
theorem cr_setT (hc : X.calm = true) : CallR X (.type "set") (rSetT X) := by
  intro pins s σ H vs us Q I r ⟨a, ns, e, hs, hb, q⟩
  subst e
  rw [Vals.ref1 r]
  obtain ⟨its, rv, pt, hz⟩ := I.tuple hs
  refine call_set_tupI ns (I.ok.hd hc) (show s.heap.IsTuple a its.toArray from pt) (by simpa using rv.ints) hb fun h' tk c R hle hk => ?_
  have hn : H s.heap.objs.size = none := I.hok.fresh (Nat.le_refl _)
  refine ⟨.ref _, upd H s.heap.objs.size (SetO X.w s.heap.objs.size (fun j => decide (j ∈ ns)) c), I.laid (t' := tk) hk (Nat.le_refl _) (setO_new R), rfl, ?_⟩
  obtain ⟨o, es, ep, t, _, _, _, _, nd, hS, _, _, hsz, _⟩ := R
  exact q _ _ (es.toList.map L2.keyOf) hn nd (fun k => by rw [← hS k]; simp) (by rw [List.length_map, Array.length_toList]; exact hsz)
end
end MI

/-! MI4: expressions, further: lists of operands, displays, built-ins, calls, tests. -/
namespace MI
open PySem PySem.Spec PyProof.Rows L2
variable [EK]

/-! ### lists of operands -/
def BRs (A : AS) (H : Hp) (σ : L2.St) : List V → List Bor → Prop
  | [], [] => True
  | v :: vs, b :: bs => BR A H σ v b ∧ BRs A H σ vs bs
  | _, _ => False
theorem BRs.keep {A M A' M' : AS} {H H' : Hp} {σ : L2.St} (hs : ∀ a, M a → A a) (s : Shr A M A' M') (k : Kp M H H') : ∀ {vs : List V} {bs : List Bor}, BRs A H σ vs bs → BRs A' H' σ vs bs
  | [], [], _ => trivial
  | _ :: _, _ :: _, h => ⟨h.1.keep hs s k, BRs.keep hs s k h.2⟩
  | [], _ :: _, h => h.elim
  | _ :: _, [], h => h.elim
theorem BRs.top {A M : AS} {H : Hp} {ρ : Rho} {σ : L2.St} (r : RE A M H ρ σ) : ∀ {vs : List V} {bs : List Bor} {ds : List PyData}, BRs A H σ vs bs → getAll ρ bs = some ds → TopAll A H vs ds
  | [], [], _, _, g => by cases g; exact .nil
  | v :: vs, b :: bs, ds, h, g => by
    simp only [getAll, Option.bind_eq_some_iff, Option.map_eq_some_iff] at g
    obtain ⟨d, g1, ds', g2, rfl⟩ := g
    exact .cons (h.1.top r g1) (BRs.top r h.2 g2)
  | [], _ :: _, _, h, _ => h.elim
  | _ :: _, [], _, h, _ => h.elim
def tL (F : Fns) (m : ME) : TA := fun σ H Q => ∃ A M ρ bs ρ', RE A M H ρ σ ∧ evL F m ρ = some (bs, ρ') ∧ ∀ vs H' A' M', Shr A M A' M' → Kp M H H' → RE A' M' H' ρ' σ → BRs A' H' σ vs bs → Q vs H'
def tA (F : Fns) (m : ME) : TA := fun σ H Q => ∃ A M ρ ds ρ', RE A M H ρ σ ∧ evA F m ρ = some (ds, ρ') ∧ ∀ vs H' A' M', Shr A M A' M' → Kp M H H' → RE A' M' H' ρ' σ → RelAll A' H' vs ds → Q vs H'
theorem _root_.L2.PA.imp {X : Cx} {es : List Expr} {t t' : TA} (h : PA X es t) (f : ∀ σ H Q, t' σ H Q → t σ H Q) : PA X es t' := ⟨fun pos pins s σ H Q I q => h.run pos pins s σ H Q I (f σ H Q q)⟩
def noStar : Expr → Bool
  | .Starred .. => false
  | _ => true
theorem star_no {e : Expr} {es : List Expr} {env : Env} (h : noStar e = true) : starEach (e :: es) env = (false, eval e env) :: starEach es env := by
  cases e <;> first | rfl | cases h
theorem star_any {env : Env} {pos : Pos} : ∀ {es : List Expr}, es.all noStar = true → (backTo pos (starEach es env)).any (·.1) = false
  | [], _ => rfl
  | e :: es, h => by
    rw [List.all_cons, Bool.and_eq_true] at h
    rw [star_no h.1]
    exact star_any (es := es) h.2
section
variable {X : Cx} {F : Fns} {e a b c : Expr} {es : List Expr} {m ma mb mc r : ME} {pos : Pos}
theorem l_nil : PA X [] (tL F .nil) := pa_nil.imp fun σ H Q ⟨A, M, ρ, bs, ρ', r, ev, q⟩ => by
  cases ev
  exact q [] H A M (Shr.refl _ _) (Kp.refl _ _) r trivial
theorem l_cons (he : Eb X F e m) (hr : PA X es (tL F r)) (ns : noStar e = true) : PA X (e :: es) (tL F (.cons m r)) := by
  refine (pa_cons he.bo hr (star_no ns)).imp fun σ H Q ⟨A, M, ρ, bs, ρ', r, ev, q⟩ => ?_
  simp only [evL, Option.bind_eq_some_iff, Option.map_eq_some_iff] at ev
  obtain ⟨⟨x, ρ1⟩, h1, ⟨xs, ρ2⟩, h2, h3⟩ := ev
  cases h3
  exact ⟨A, M, ρ, x, ρ1, r, h1, fun v H1 A1 M1 s1 k1 r1 b1 => ⟨A1, M1, ρ1, xs, _, r1, h2, fun vs H2 A2 M2 s2 k2 r2 b2 =>
    q (v :: vs) H2 A2 M2 (s1.trans s2) (k1.comp s1 k2) r2 ⟨b1.keep r1.sub s2 k2, b2⟩⟩⟩
theorem a_nil : PA X [] (tA F .nil) := pa_nil.imp fun σ H Q ⟨A, M, ρ, bs, ρ', r, ev, q⟩ => by
  cases ev
  exact q [] H A M (Shr.refl _ _) (Kp.refl _ _) r .nil
theorem a_cons (he : Eb X F e m) (hr : PA X es (tA F r)) (ns : noStar e = true) : PA X (e :: es) (tA F (.cons m r)) := by
  refine (pa_cons he.ev hr (star_no ns)).imp fun σ H Q ⟨A, M, ρ, bs, ρ', r, ev, q⟩ => ?_
  simp only [evA, Option.bind_eq_some_iff, Option.map_eq_some_iff] at ev
  obtain ⟨⟨x, fr, ρ1⟩, h1, ⟨xs, ρ2⟩, h2, h3⟩ := ev
  cases h3
  refine ⟨A, M, ρ, x, fr, ρ1, r, h1, fun v H1 p => ?_⟩
  obtain ⟨A1, M1, s1, k1, r1, b1⟩ := p.std r.live
  exact ⟨A1, M1, ρ1, xs, _, r1, h2, fun vs H2 A2 M2 s2 k2 r2 b2 => q (v :: vs) H2 A2 M2 (s1.trans s2) (k1.comp s1 k2) r2 (.cons ((b1.keep r1.sub k2).anti s2.a) b2)⟩
theorem a_star {p : Pos} (he : Eb X F e m) (hr : PA X es (tA F r)) : PA X (.Starred e p :: es) (tA F (.star m r)) := by
  refine (StX.pa_star he.ev hr).imp fun σ H Q ⟨A, M, ρ, bs, ρ', r, ev, q⟩ => ?_
  simp only [evA, Option.bind_eq_some_iff, Option.map_eq_some_iff] at ev
  obtain ⟨⟨x, fr, ρ1⟩, h1, xs0, h0, ⟨xs, ρ2⟩, h2, h3⟩ := ev
  cases h3
  refine ⟨A, M, ρ, x, fr, ρ1, r, h1, fun v H1 p => ?_⟩
  obtain ⟨A1, M1, s1, k1, r1, b1⟩ := p.std r.live
  have fin : ∀ vs0, RelAll A1 H1 vs0 xs0 → tA F ‹ME› σ H1 fun ys H2 => Q (vs0 ++ ys) H2 := fun vs0 b0 =>
    ⟨A1, M1, ρ1, xs, _, r1, h2, fun vs H2 A2 M2 s2 k2 r2 b2 => q (vs0 ++ vs) H2 A2 M2 (s1.trans s2) (k1.comp s1 k2) r2 (((b0.keep r1.sub k2).anti s2.a).append b2)⟩
  cases b1 with
  | lst hh hn rr => cases h0; exact ⟨_, _, rfl, .inr (SqL.of hh), fin _ rr⟩
  | tup hh rr => cases h0; exact ⟨_, _, rfl, .inl (TupAt.sq hh), fin _ rr⟩
  | _ => cases h0
theorem e_tup {k : Nat} (h : PA X es (tA F m)) : Eb X F (.Tuple es k pos) (.tup m) := by
  refine Eb.of ((pe_tup h).imp fun σ H Q ⟨A, M, ρ, d, fr, ρ', r, ev, q⟩ => ?_) fun _ => nofun
  simp only [evE, Option.bind_eq_some_iff] at ev
  obtain ⟨⟨ds, ρ1⟩, h1, h2⟩ := ev
  split at h2
  · rename_i hl
    cases h2
    exact ⟨A, M, ρ, ds, _, r, h1, fun vs H1 A1 M1 s1 k1 r1 b1 => ⟨by rw [b1.length]; exact hl, fun p hp => q _ _ (((new_tup hp b1).pst r1).after s1 k1)⟩⟩
  · cases h2
theorem e_lst (h : PA X es (tA F m)) : Eb X F (.List es pos) (.lst m) := by
  refine Eb.of ((pe_lst h).imp fun σ H Q ⟨A, M, ρ, d, fr, ρ', r, ev, q⟩ => ?_) fun _ => nofun
  simp only [evE, Option.bind_eq_some_iff] at ev
  obtain ⟨⟨ds, ρ1⟩, h1, h2⟩ := ev
  split at h2
  · rename_i hl
    cases h2
    exact ⟨A, M, ρ, ds, _, r, h1, fun vs H1 A1 M1 s1 k1 r1 b1 => ⟨by rw [b1.length]; exact hl, fun p hp => q _ _ (((new_lst hp b1).pst r1).after s1 k1)⟩⟩
  · cases h2
theorem e_dic : Eb X F (.Dict [] [] pos) .dic := by
  refine Eb.of (pe_dnewK.imp fun σ H Q ⟨A, M, ρ, d, fr, ρ', r, ev, q⟩ => ?_) fun _ => nofun
  cases ev
  exact fun p hp => q _ _ (NewV.pst ⟨Kp.new hp, (fun e => nomatch e), (fun _ => ⟨p, rfl, hp, .inr (.inl ⟨[], [], rfl, upd_same, .nil⟩)⟩), fun _ _ => nofun⟩ r)
/-! displays of dicts whose keys are ints -/
def tD (F : Fns) (ks : List Int) (m : ME) (σ : L2.St) (H : Hp) (Q : List (V × V) → Hp → Prop) : Prop := ∃ A M ρ ds ρ', RE A M H ρ σ ∧ evA F m ρ = some (ds, ρ') ∧ ds.length = ks.length ∧
  ∀ vs H' A' M', Shr A M A' M' → Kp M H H' → RE A' M' H' ρ' σ → RelAll A' H' vs ds → Q ((ks.zip vs).map fun p => (V.int p.1, p.2)) H'
def Dz (X : Cx) (F : Fns) (pos : Pos) (keys : List (Option Expr)) (values : List Expr) (ks : List Int) (m : ME) : Prop := ∃ trs, PPs X pos keys values trs ∧ ∀ σ H Q, tD F ks m σ H Q → tPairs trs σ H Q
theorem d_nil : Dz X F pos [] [] [] .nil := ⟨[], pps_nil, fun σ H Q ⟨A, M, ρ, ds, ρ', r, ev, hl, q⟩ => by
  cases ev
  exact q [] H A M (Shr.refl _ _) (Kp.refl _ _) r .nil⟩
theorem d_cons {ke : Expr} {k : Int} {keys : List (Option Expr)} {values : List Expr} {ks : List Int} (hk : PE X ke (tC (.int k))) (ha : Eb X F a ma) (hd : Dz X F pos keys values ks r) : Dz X F pos (some ke :: keys) (a :: values) (k :: ks) (.cons ma r) := by
  obtain ⟨trs, h1, h2⟩ := hd
  refine ⟨_, pps_cons hk ha.ev h1, fun σ H Q ⟨A, M, ρ, ds, ρ', r, ev, hl, q⟩ => ?_⟩
  simp only [evA, Option.bind_eq_some_iff, Option.map_eq_some_iff] at ev
  obtain ⟨⟨x, fr, ρ1⟩, g1, ⟨xs, ρ2⟩, g2, g3⟩ := ev
  cases g3
  refine (show tE F ma σ H _ from ⟨A, M, ρ, x, fr, ρ1, r, g1, fun v H1 p => ?_⟩)
  obtain ⟨A1, M1, s1, k1, r1, b1⟩ := p.std r.live
  exact h2 _ _ _ ⟨A1, M1, ρ1, xs, _, r1, g2, by simpa using hl, fun vs H2 A2 M2 s2 k2 r2 b2 => q (v :: vs) H2 A2 M2 (s1.trans s2) (k1.comp s1 k2) r2 (.cons ((b1.keep r1.sub k2).anti s2.a) b2)⟩
theorem merge_rel {A : AS} {H : Hp} : ∀ {ks : List Int} {vs : List V} {ds : List PyData} {kvs : List (Key × V)} {es : List (PyData × PyData)}, RelAll A H vs ds → RelKv A H kvs es →
    RelKv A H (mergeK kvs ((ks.zip vs).map fun p => (Sum.inl p.1, p.2))) ((ks.zip ds).foldl (fun acc p => dPut acc (.int p.1) p.2) es)
  | [], _, _, _, _, _, r => r
  | _ :: _, _, _, _, _, .nil, r => r
  | k :: ks, _, _, _, _, .cons a q, r => merge_rel (ks := ks) q (put_rel (k := .inl k) a r)
theorem e_disp {keys : List (Option Expr)} {values : List Expr} {ks : List Int} (hd : Dz X F pos keys values ks m) (hall : keys.all (·.isSome) = true) (hl : keys.length = values.length) (h0 : keys ≠ []) (h15 : keys.length ≤ 15) (hk : ks.length ≤ 15) : Eb X F (.Dict keys values pos) (.disp ks m) := by
  obtain ⟨trs, h1, h2⟩ := hd
  refine Eb.of ((pe_disp h1 hall hl h0 h15).imp fun σ H Q ⟨A, M, ρ, d, fr, ρ', r, ev, q⟩ => ?_) fun _ => nofun
  simp only [evE, Option.bind_eq_some_iff] at ev
  obtain ⟨⟨ds, ρ1⟩, g1, g2⟩ := ev
  split at g2
  · rename_i hlen
    cases g2
    intro p hp
    have nA : ¬ A p := r.not_fresh hp
    refine h2 _ _ _ ⟨orA A p, M, ρ, ds, _, r.fresh hp ⟨_, upd_same⟩ (Kp.new hp), g1, hlen, fun vs H' A' M' s1 k1 r1 b1 => ?_⟩
    have nM : ¬ M p := fun z => nA (r.sub p z)
    have nM' : ¬ M' p := fun z => nM (s1.m p z)
    have eP : H' p = some (.dK []) := k1.same p _ upd_same fun z => absurd z nM
    have hA' : A' p := Classical.byContradiction fun n => nM (s1.d p (.inr rfl) n)
    have ne : ∀ b o, H b = some o → b ≠ p := fun b o e => ne_of_none e hp
    have sub : ∀ x, butA A' p x → A' x := fun x z => z.1
    have kp : Kp (fun x => x = p) H' (upd H' p (.dK (mergeK [] ((ks.zip vs).map fun q => (Sum.inl q.1, q.2))))) := Kp.wr rfl eP trivial
    have bk : ∀ b o, H b = some o → (M b → ¬ Mu o) → H' b = some o := fun b o e n => k1.same b o (by rw [upd_ne (ne b o e)]; exact e) n
    refine ⟨eP, (ks.zip vs).map fun q => (Sum.inl q.1, q.2), by rw [List.map_map]; rfl, by simp; omega, q _ _ ⟨⟨butA A' p, M', ⟨fun x z => ?_, s1.m, fun x h n => ?_⟩, ⟨fun b o e n => ?_, fun b o e => ?_⟩, ?_, (fun e => nomatch e), fun _ => ⟨p, rfl, hp, ?_, ?_⟩⟩, fun _ _ => nofun⟩⟩
    · rcases s1.a x z.1 with y | y
      · exact y
      · exact absurd y z.2
    · refine s1.d x (.inl h) fun z => n ⟨z, fun e => ?_⟩
      rw [e] at h; exact nA h
    · rw [upd_ne (ne b o e)]; exact bk b o e n
    · obtain ⟨o', e'⟩ := k1.live b o (by rw [upd_ne (ne b o e)]; exact e)
      exact ⟨o', by rw [upd_ne (ne b o e)]; exact e'⟩
    · exact r1.gen kp (fun x z => by rw [show x = p from z]; exact hA') (fun x z e => nM' (by rw [← show x = p from e]; exact z)) (fun x z => .inl z.1) (fun x z => ⟨r1.sub x z, fun e => nM' (by rw [← e]; exact z)⟩) fun x z => by
        obtain ⟨o, e⟩ := r1.live x z.1
        exact kp.live x o e
    · exact r1.gen kp (fun x z => by rw [show x = p from z]; exact hA') (fun x z e => nM' (by rw [← show x = p from e]; exact z)) (fun x z => .inl (z.elim (fun y => y.1) fun y => by rw [y]; exact hA')) (fun x z => .inl ⟨r1.sub x z, fun e => nM' (by rw [← e]; exact z)⟩) fun x z => by
        rcases z with z | z
        · obtain ⟨o, e⟩ := r1.live x z.1
          exact kp.live x o e
        · exact ⟨_, by rw [z]; exact upd_same⟩
    · refine .inr (.inl ⟨_, _, rfl, upd_same, merge_rel (b1.map (fun b o e n => kp.same b o e fun z => n (by rw [show b = p from z]; exact hA')) fun b o e z n _ => ?_) .nil⟩)
      rcases z with z | z
      · exact n z.1
      · exact n (by rw [z]; exact hA')
  · cases g2
theorem e_dget {o ke fe : Expr} {mo mk mf : ME} {apos cpos : Pos} (hu : X.A.units + 64 < cLine) (ho : Eb X F o mo) (hk : Eb X F ke mk) (hf : Eb X F fe mf) (m2 : M2 X o "get" apos ke fe cpos) : Eb X F (.Call (.Attribute o "get" apos) [ke, fe] [] cpos) (.dget mo mk mf) := by
  refine Eb.of ((pe_dget2 (by omega) ho.bo hk.ev hf.ev m2).imp fun σ H Q ⟨A, M, ρ, d, fr, ρ', r, ev, q⟩ => ?_) fun _ => nofun
  simp only [evE, Option.bind_eq_some_iff] at ev
  obtain ⟨⟨x, ρ1⟩, g1, d1, g2, ev⟩ := ev
  split at ev
  · rename_i hd1
    simp only [Option.bind_eq_some_iff, Option.map_eq_some_iff] at ev
    obtain ⟨⟨kd, f1, ρ2⟩, g3, ⟨ed, f2, ρ3⟩, g4, dd, g5, z, g6, g7⟩ := ev
    cases g7
    refine ⟨A, M, ρ, x, ρ1, r, g1, fun v H1 A1 M1 s1 k1 r1 b1 => ?_⟩
    obtain ⟨es1, rfl⟩ : ∃ es, d1 = .dict es := by cases d1 <;> first | exact ⟨_, rfl⟩ | cases hd1
    obtain ⟨a, kvs1, rfl, h1, _⟩ := (b1.top r1 g2).dic (by simpa [isDK] using hd1)
    refine ⟨a, rfl, .inl ⟨kvs1, .inl h1⟩, A1, M1, ρ1, kd, f1, ρ2, r1, g3, fun w H2 p => ?_⟩
    obtain ⟨A2, M2, s2, k2, r2, b2⟩ := p.std r1.live
    refine ⟨A2, M2, ρ2, ed, f2, _, r2, g4, fun w' H3 p' => ?_⟩
    obtain ⟨A3, M3, s3, k3, r3, b3⟩ := p'.std r2.live
    have b2' := (b2.keep r2.sub k3).anti s3.a
    have t3 := ((b1.keep r1.sub s2 k2).keep r2.sub s3 k3).top r3 g5
    cases dd with
    | dict es =>
      simp only [getD] at g6
      split at g6
      · rename_i hc
        rw [Bool.and_eq_true, Bool.not_eq_true'] at hc
        cases g6
        obtain ⟨a', kvs, e', h3, rk⟩ := t3.dic hc.2
        cases e'
        obtain ⟨key, hkey, hv⟩ : ∃ key : Key, kd = keyD key ∧ w = kV key := by
          cases b2' with
          | int i => exact ⟨.inl i, rfl, rfl⟩
          | str i => exact ⟨.inr i, rfl, rfl⟩
          | _ => simp [isKey] at hc
        subst hkey; subst hv
        refine ⟨_, DGet.k h3, ?_⟩
        rcases get_rel (k := key) rk with ⟨e1, e2⟩ | ⟨v1, dv, e1, e2, e3⟩
        · rw [e2] at q
          rw [e1]
          exact q _ _ (((((NewV.val b3).pst r3).after s3 k3).after s2 k2).after s1 k1)
        · rw [e2] at q
          rw [e1]
          exact q _ _ (((((NewV.val e3).pst r3).after s3 k3).after s2 k2).after s1 k1)
      · cases g6
    | _ => cases g6
  · cases ev
/-! ### one operand, choices -/
theorem e_neg (ha : Eb X F a ma) : Eb X F (.UnaryOp .USub a pos) (.neg ma) := by
  refine Eb.of ((pe_un un_neg ha.ev).imp fun σ H Q ⟨A, M, ρ, d, fr, ρ', r, ev, q⟩ => ?_) fun _ => nofun
  simp only [evE, Option.bind_eq_some_iff] at ev
  obtain ⟨⟨x, fr1, ρ1⟩, h1, h2⟩ := ev
  refine ⟨A, M, ρ, x, fr1, ρ1, r, h1, fun v H1 p => ?_⟩
  obtain ⟨A1, M1, s1, k1, r1, b1⟩ := p.std r.live
  cases b1 with
  | int i => cases h2; exact ⟨i, rfl, q _ _ (((NewV.val (.int _)).pst r1).after s1 k1)⟩
  | _ => cases h2
theorem e_not (ha : Eb X F a ma) : Eb X F (.UnaryOp .Not a pos) (.not ma) := by
  refine Eb.of ((pe_not ha.ev).imp fun σ H Q ⟨A, M, ρ, d, fr, ρ', r, ev, q⟩ => ?_) fun _ => nofun
  simp only [evE, Option.bind_eq_some_iff] at ev
  obtain ⟨⟨x, fr1, ρ1⟩, h1, h2⟩ := ev
  refine ⟨A, M, ρ, x, fr1, ρ1, r, h1, fun v H1 p => ?_⟩
  obtain ⟨A1, M1, s1, k1, r1, b1⟩ := p.std r.live
  cases b1 with
  | bl i => cases h2; exact ⟨i, rfl, q _ _ ((Pst.bool r1).after s1 k1)⟩
  | _ => cases h2
theorem e_one {op : BoolOp} (ha : Eb X F a ma) (hm : ∀ i, ma ≠ .var i) : Eb X F (.BoolOp op [a] pos) ma := Eb.of (pe_one ha.ev) hm
theorem e_and {rest : List Expr} (ha : Eb X F a ma) (hb : PE X (.BoolOp .And (b :: rest) pos) (tE F mb)) : Eb X F (.BoolOp .And (a :: b :: rest) pos) (.and ma mb) := by
  refine Eb.of ((pe_and ha.ev hb).imp fun σ H Q ⟨A, M, ρ, d, fr, ρ', r, ev, q⟩ => ?_) fun _ => nofun
  simp only [evE, Option.bind_eq_some_iff] at ev
  obtain ⟨⟨x, fr1, ρ1⟩, h1, h2⟩ := ev
  refine ⟨A, M, ρ, x, fr1, ρ1, r, h1, fun v H1 p => ?_⟩
  obtain ⟨A1, M1, s1, k1, r1, b1⟩ := p.std r.live
  cases b1 with
  | bl i =>
    cases i with
    | true => exact ⟨true, rfl, iteT ⟨A1, M1, ρ1, d, fr, ρ', r1, h2, fun v H' p => q v H' (p.after s1 k1)⟩⟩
    | false => cases h2; exact ⟨false, rfl, iteF (q _ _ ((Pst.bool r1).after s1 k1))⟩
  | _ => cases h2
theorem e_or {rest : List Expr} (ha : Eb X F a ma) (hb : PE X (.BoolOp .Or (b :: rest) pos) (tE F mb)) : Eb X F (.BoolOp .Or (a :: b :: rest) pos) (.or ma mb) := by
  refine Eb.of ((pe_or ha.ev hb).imp fun σ H Q ⟨A, M, ρ, d, fr, ρ', r, ev, q⟩ => ?_) fun _ => nofun
  simp only [evE, Option.bind_eq_some_iff] at ev
  obtain ⟨⟨x, fr1, ρ1⟩, h1, h2⟩ := ev
  refine ⟨A, M, ρ, x, fr1, ρ1, r, h1, fun v H1 p => ?_⟩
  obtain ⟨A1, M1, s1, k1, r1, b1⟩ := p.std r.live
  cases b1 with
  | bl i =>
    cases i with
    | false => exact ⟨false, rfl, iteF ⟨A1, M1, ρ1, d, fr, ρ', r1, h2, fun v H' p => q v H' (p.after s1 k1)⟩⟩
    | true => cases h2; exact ⟨true, rfl, iteT (q _ _ ((Pst.bool r1).after s1 k1))⟩
  | _ => cases h2
theorem e_ite (hc : PT X c (tT F mc)) (ha : Eb X F a ma) (hb : Eb X F b mb) : Eb X F (.IfExp c a b pos) (.ite mc ma mb) := by
  refine Eb.of ((pe_ifExp hc ha.ev hb.ev).imp fun σ H Q ⟨A, M, ρ, d, fr, ρ', r, ev, q⟩ => ?_) fun _ => nofun
  simp only [evE, Option.bind_eq_some_iff] at ev
  obtain ⟨⟨t, ρ1⟩, h1, h2⟩ := ev
  refine ⟨A, M, ρ, t, ρ1, r, h1, fun H1 A1 M1 s1 k1 r1 => ?_⟩
  cases t with
  | true => exact iteT ⟨A1, M1, ρ1, d, fr, ρ', r1, h2, fun v H' p => q v H' (p.after s1 k1)⟩
  | false => exact iteF ⟨A1, M1, ρ1, d, fr, ρ', r1, h2, fun v H' p => q v H' (p.after s1 k1)⟩
/-! ### is None -/
theorem non_iff {A : AS} {H : Hp} {v : V} {d : PyData} (h : Top A H v d) : decide (v = .non) = isNone d := by
  cases d with
  | none => cases h.non; rfl
  | bool _ => cases h.bl; rfl
  | int _ => cases h.int; rfl
  | str _ => cases h.str; rfl
  | list _ => obtain ⟨a, xs, rfl, _⟩ := h.lst; rfl
  | tuple _ => obtain ⟨a, xs, rfl, _⟩ := h.tup; rfl
  | dict es =>
    have hd : ∃ a, v = .ref a := by
      rcases h with h | ⟨a, rfl, _⟩
      · cases h <;> exact ⟨_, rfl⟩
      · exact ⟨a, rfl⟩
    obtain ⟨a, rfl⟩ := hd
    rfl
theorem e_isN {j : Nat} {p : Pos} (ha : Eb X F a ma) : Eb X F (.Compare a [.Is] [.Constant .none j p] pos) (.isN ma) := by
  refine Eb.of ((pe_cmp (pc_isN ha.bo) rfl).imp fun σ H Q ⟨A, M, ρ, d, fr, ρ', r, ev, q⟩ => ?_) fun _ => nofun
  simp only [evE, Option.bind_eq_some_iff, Option.map_eq_some_iff] at ev
  obtain ⟨⟨x, ρ1⟩, h1, dx, h2, h3⟩ := ev
  cases h3
  exact ⟨A, M, ρ, x, _, r, h1, fun v H1 A1 M1 s1 k1 r1 b1 => by
    show Q (.bl (decide (v = .non))) H1
    rw [non_iff (b1.top r1 h2)]
    exact q _ _ ((Pst.bool r1).after s1 k1)⟩
theorem e_notN {j : Nat} {p : Pos} (ha : Eb X F a ma) : Eb X F (.Compare a [.IsNot] [.Constant .none j p] pos) (.notN ma) := by
  refine Eb.of ((pe_cmp (pc_notN ha.bo) rfl).imp fun σ H Q ⟨A, M, ρ, d, fr, ρ', r, ev, q⟩ => ?_) fun _ => nofun
  simp only [evE, Option.bind_eq_some_iff, Option.map_eq_some_iff] at ev
  obtain ⟨⟨x, ρ1⟩, h1, dx, h2, h3⟩ := ev
  cases h3
  refine ⟨A, M, ρ, x, _, r, h1, fun v H1 A1 M1 s1 k1 r1 b1 => ?_⟩
  show Q (.bl (!decide (v = .non))) H1
  rw [non_iff (b1.top r1 h2)]
  exact q _ _ ((Pst.bool r1).after s1 k1)

/-! ### two comparisons in a row -/
theorem marks2 {op op' : CmpOp} (h : behindInMarks op' c = false) : lastMarks [op, op'] [b, c] = false := h
theorem e_cmp2 {op op' : Cop} (hu : X.A.units + 64 < cLine) (ha : Eb X F a ma) (hb : Eb X F b mb) (hc : Eb X F c mc) (hm : behindInMarks (copOf op') c = false) :
    Eb X F (.Compare a [copOf op, copOf op'] [b, c] pos) (.cmp2 op op' ma mb mc) := by
  refine Eb.of ((pe_chain (cmp_ok hu op) (cmp_ok hu op') ha.bo hb.bo hc.bo (marks2 hm)).imp fun σ H Q ⟨A, M, ρ, d, fr, ρ', r, ev, q⟩ => ?_) fun _ => nofun
  simp only [evE, Option.bind_eq_some_iff] at ev
  obtain ⟨⟨x, ρ1⟩, h1, ⟨y, ρ2⟩, h2, dx, h3, dy, h4, z, h5, h6⟩ := ev
  refine ⟨A, M, ρ, x, ρ1, r, h1, fun v H1 A1 M1 s1 k1 r1 b1 => ⟨A1, M1, ρ1, y, ρ2, r1, h2, fun w H2 A2 M2 s2 k2 r2 b2 =>
    ⟨A2, dx, dy, z, (b1.keep r1.sub s2 k2).top r2 h3, b2.top r2 h4, h5, z, rfl, ?_⟩⟩⟩
  cases z with
  | false => cases h6; exact iteF (q _ _ (((Pst.bool r2).after s2 k2).after s1 k1))
  | true =>
    rw [if_pos rfl] at h6
    simp only [Option.bind_eq_some_iff, Option.map_eq_some_iff] at h6
    obtain ⟨⟨u, ρ3⟩, g1, e3, g2, f, g3, z', g4, g5⟩ := h6
    cases g5
    exact iteT ⟨A2, M2, ρ2, u, _, r2, g1, fun w' H3 A3 M3 s3 k3 r3 b3 => ⟨A3, e3, f, z', (b2.keep r2.sub s3 k3).top r3 g2, b3.top r3 g3, g4, q _ _ ((((Pst.bool r3).after s3 k3).after s2 k2).after s1 k1)⟩⟩

/-! ### places, slices -/
theorem e_idx (hK : X.K = EK.k) (ha : Eb X F a ma) (hb : Eb X F b mb) (hs : PlainIx b) : Eb X F (.Subscript a b pos) (.idx ma mb) := by
  refine Eb.of ((pe_ix (ix_ok hK) ha.bo hb.ev hs).imp fun σ H Q ⟨A, M, ρ, d, fr, ρ', r, ev, q⟩ => ?_) fun _ => nofun
  simp only [evE, Option.bind_eq_some_iff, Option.map_eq_some_iff] at ev
  obtain ⟨⟨x, ρ1⟩, h1, ⟨k, fr2, ρ2⟩, h2, dx, h3, z, h4, h5⟩ := ev
  cases h5
  refine ⟨A, M, ρ, x, ρ1, r, h1, fun v H1 A1 M1 s1 k1 r1 b1 => ⟨A1, M1, ρ1, k, fr2, _, r1, h2, fun w H2 p => ?_⟩⟩
  obtain ⟨A2, M2, s2, k2, r2, b2⟩ := p.std r1.live
  exact ⟨A2, dx, k, _, (b1.keep r1.sub s2 k2).top r2 h3, b2, h4, fun v' rel => q _ _ ((((NewV.val rel).pst r2).after s2 k2).after s1 k1)⟩
def tO (F : Fns) (m : ME) : TO := fun σ H Q => ∃ A M ρ o ρ', RE A M H ρ σ ∧ evO F m ρ = some (o, ρ') ∧ ∀ H' A' M', Shr A M A' M' → Kp M H H' → RE A' M' H' ρ' σ → Q o H'
theorem _root_.L2.PO.imp {X : Cx} {e : Option Expr} {t t' : TO} (h : PO X e t) (f : ∀ σ H Q, t' σ H Q → t σ H Q) : PO X e t' := ⟨fun pins s σ H Q I q => h.run pins s σ H Q I (f σ H Q q)⟩
theorem o_none : PO X none (tO F .nil) := po_none.imp fun σ H Q ⟨A, M, ρ, o, ρ', r, ev, q⟩ => by
  cases ev
  exact q H A M (Shr.refl _ _) (Kp.refl _ _) r
theorem o_some (ha : Eb X F a ma) : PO X (some a) (tO F (.cons ma .nil)) := (po_some ha.ev).imp fun σ H Q ⟨A, M, ρ, o, ρ', r, ev, q⟩ => by
  simp only [evO, Option.bind_eq_some_iff] at ev
  obtain ⟨⟨x, fr1, ρ1⟩, h1, h2⟩ := ev
  refine ⟨A, M, ρ, x, fr1, ρ1, r, h1, fun v H1 p => ?_⟩
  obtain ⟨A1, M1, s1, k1, r1, b1⟩ := p.std r.live
  cases b1 with
  | int i => cases h2; exact ⟨i, rfl, q _ _ _ s1 k1 r1⟩
  | _ => cases h2
theorem e_sl {lo hi : Option Expr} {p2 : Pos} {ml mh : ME} (hK : X.K = EK.k) (ha : Eb X F a ma) (hl : PO X lo (tO F ml)) (hh : PO X hi (tO F mh)) : Eb X F (.Subscript a (.Slice lo hi none p2) pos) (.sl ma ml mh) := by
  refine Eb.of ((pe_slice (sl_ok hK) ha.bo hl hh).imp fun σ H Q ⟨A, M, ρ, d, fr, ρ', r, ev, q⟩ => ?_) fun _ => nofun
  simp only [evE, Option.bind_eq_some_iff, Option.map_eq_some_iff] at ev
  obtain ⟨⟨x, ρ1⟩, h1, ⟨l, ρ2⟩, h2, ⟨h, ρ3⟩, h3, dx, h4, ⟨z, fr'⟩, h5, h6⟩ := ev
  cases h6
  exact ⟨A, M, ρ, x, ρ1, r, h1, fun v H1 A1 M1 s1 k1 r1 b1 => ⟨A1, M1, ρ1, l, ρ2, r1, h2, fun H2 A2 M2 s2 k2 r2 => ⟨A2, M2, ρ2, h, _, r2, h3, fun H3 A3 M3 s3 k3 r3 =>
    ⟨A3, dx, z, _, ((b1.keep r1.sub s2 k2).keep r2.sub s3 k3).top r3 h4, h5, fun v' H' nv => q _ _ ((((nv.pst r3).after s3 k3).after s2 k2).after s1 k1)⟩⟩⟩⟩

/-! ### built-ins -/
theorem e_biB {x : Str} {id : String} {p : Pos} {bb : Bi} {e0 : Expr} (hK : X.K = EK.k) (hc : X.calm = true) (hgd : X.A.guards = some []) (hu : X.A.units + 100 < cLine) (hb : tyOf bb = none) (hf : fnBi bb = .builtin id) (hg : Gl X x) (hm : X.mg x = none) (hv : bootBuiltins x = some (.builtin id))
    (ha : PA X (e0 :: es) (tL F m)) (ns : (e0 :: es).all noStar = true) (hn : x ≠ "__name__") (hdb : (x == ("__debug__" : Str)) = false) : Eb X F (.Call (.Name x p) (e0 :: es) [] pos) (.bi bb m) := by
  rw [List.all_cons, Bool.and_eq_true] at ns
  have hr : CallR X (.builtin id) (rBi bb) := hf ▸ bi_ok hK hc hgd hu bb hb
  refine Eb.of ((pe_callB hr hg hm hv ha hn hdb (star_no ns.1) (star_any ns.2)).imp fun σ H Q ⟨A, M, ρ, d, fr, ρ', r, ev, q⟩ => ?_) fun _ => nofun
  simp only [evE, Option.bind_eq_some_iff, Option.map_eq_some_iff] at ev
  obtain ⟨⟨bs, ρ1⟩, h1, ds, h2, ⟨z, fr'⟩, h3, h4⟩ := ev
  cases h4
  exact ⟨A, M, ρ, bs, _, r, h1, fun vs H1 A1 M1 s1 k1 r1 b1 => ⟨A1, ds, z, _, b1.top r1 h2, h3, fun v H' nv => q v H' ((nv.pst r1).after s1 k1)⟩⟩
theorem e_biT {x : Str} {id : String} {p : Pos} {bb : Bi} {e0 : Expr} (hK : X.K = EK.k) (hc : X.calm = true) (hgd : X.A.guards = some []) (hu : X.A.units + 100 < cLine) (hb : tyOf bb = none) (hf : fnBi bb = .type id) (hg : Gl X x) (hm : X.mg x = none) (hv : bootBuiltins x = some (.type id))
    (ha : PA X (e0 :: es) (tL F m)) (ns : (e0 :: es).all noStar = true) (hn : x ≠ "__name__") (hdb : (x == ("__debug__" : Str)) = false) : Eb X F (.Call (.Name x p) (e0 :: es) [] pos) (.bi bb m) := by
  rw [List.all_cons, Bool.and_eq_true] at ns
  have hr : CallR X (.type id) (rBi bb) := hf ▸ bi_ok hK hc hgd hu bb hb
  refine Eb.of ((pe_callTy hr hg hm hv ha hn hdb (star_no ns.1) (star_any ns.2)).imp fun σ H Q ⟨A, M, ρ, d, fr, ρ', r, ev, q⟩ => ?_) fun _ => nofun
  simp only [evE, Option.bind_eq_some_iff, Option.map_eq_some_iff] at ev
  obtain ⟨⟨bs, ρ1⟩, h1, ds, h2, ⟨z, fr'⟩, h3, h4⟩ := ev
  cases h4
  exact ⟨A, M, ρ, bs, _, r, h1, fun vs H1 A1 M1 s1 k1 r1 b1 => ⟨A1, ds, z, _, b1.top r1 h2, h3, fun v H' nv => q v H' ((nv.pst r1).after s1 k1)⟩⟩
theorem is_biD {bb : Bi} {n : String} {d z : PyData} {fr : Bool} (h : tyOf bb = some n) (e : biD bb [d] = some (z, fr)) : ∃ k, isaD bb d = some k ∧ z = .bool k ∧ fr = false := by
  cases bb <;> simp only [tyOf, reduceCtorEq] at h <;>
  · simp only [biD, Option.map_eq_some_iff] at e
    obtain ⟨k, e1, e2⟩ := e
    cases e2
    exact ⟨k, e1, rfl, rfl⟩
theorem e_is {p p' : Pos} {bb : Bi} {n : Str} {nm : String} (hb : tyOf bb = some nm) (hg : Gl X "isinstance") (hm : X.mg "isinstance" = none) (hv : bootBuiltins "isinstance" = some (.builtin "isinstance")) (hgt : Gl X n) (hmt : X.mg n = none) (hvt : bootBuiltins n = some (.type nm)) (hnn : n ≠ "__name__") (hdn : (n == ("__debug__" : Str)) = false)
    (ha : Eb X F a ma) (ns : noStar a = true) : Eb X F (.Call (.Name "isinstance" p) [a, .Name n p'] [] pos) (.bi bb (.cons ma .nil)) := by
  have hpa : PA X [a, .Name n p'] (tCons (tB F ma) (tCons (tC (.ty nm)) tNil)) := pa_cons ha.bo (pa_cons (pe_bltn hgt hmt hvt rfl hnn hdn) pa_nil) (star_no ns)
  refine Eb.of ((pe_callB (is_ok bb) hg hm hv hpa (by decide) (by decide) (star_no ns) rfl).imp fun σ H Q ⟨A, M, ρ, d, fr, ρ', r, ev, q⟩ => ?_) fun _ => nofun
  simp only [evE, evL, Option.bind_eq_some_iff, Option.map_eq_some_iff] at ev
  obtain ⟨⟨bs, ρ1⟩, ⟨⟨x, ρ0⟩, h0, ⟨xs, ρ00⟩, h1, h1'⟩, ds, h2, ⟨z, fr'⟩, h3, h4⟩ := ev
  cases h4
  cases h1
  cases h1'
  simp only [getAll, Option.bind_eq_some_iff, Option.map_eq_some_iff] at h2
  obtain ⟨dx, g1, ds', g2, g3⟩ := h2
  cases g2
  subst g3
  obtain ⟨k, e1, rfl, rfl⟩ := is_biD hb h3
  exact ⟨A, M, ρ, x, _, r, h0, fun v H1 A1 M1 s1 k1 r1 b1 => ⟨A1, dx, v, nm, k, rfl, hb, b1.top r1 g1, e1, q _ _ ((Pst.bool r1).after s1 k1)⟩⟩
end
end MI

/-! MI5: tests, what is walked over, calls of defs. -/
namespace MI
open PySem PySem.Spec PyProof.Rows L2
variable [EK]

/-! ### tests -/
theorem tru_of {A : AS} {H : Hp} {K : PySem.W.Frag} {v : V} {d : PyData} {k : Bool} (h : Top A H v d) (e : truthD d = some k) : TruV K v H k := by
  cases d with
  | none => cases h.non; cases e; exact rfl
  | bool b => cases h.bl; cases e; exact rfl
  | int i => cases h.int; cases e; exact rfl
  | str s => cases e
  | list ds =>
    obtain ⟨a, xs, rfl, h1, r⟩ := h.lst
    cases e
    refine .inl ⟨xs, SqL.of h1, ?_⟩
    cases r <;> rfl
  | tuple ds =>
    obtain ⟨a, xs, rfl, h1, r⟩ := h.tup
    cases e
    refine .inr (.inl ⟨xs, (TupAt.sq h1), ?_⟩)
    cases r <;> rfl
  | dict es => cases e
def plainT : Expr → Bool
  | .Name .. => true
  | .Call .. => true
  | .Subscript .. => true
  | .Constant .. => true
  | _ => false
theorem plain_ok {e : Expr} {env : Env} (h : plainT e = true) : ∀ whole, isTrue e env whole = (do let v ← whole; standAt e.pos; holding [v] (truthy v)) := by
  cases e <;> first | (intro _; rfl) | cases h
section
variable {X : Cx} {F : Fns} {e a b c : Expr} {es : List Expr} {m ma mb mc r : ME} {pos : Pos}
theorem t_val (h : Eb X F e m) (hp : plainT e = true) : PT X e (tT F (.tst m)) := by
  refine (pt_truth h.bo (plain_ok hp)).imp fun σ H Q ⟨A, M, ρ, t, ρ', r, ev, q⟩ => ?_
  simp only [evT, Option.bind_eq_some_iff, Option.map_eq_some_iff] at ev
  obtain ⟨⟨x, ρ1⟩, h1, d, h2, k, h3, h4⟩ := ev
  cases h4
  exact ⟨A, M, ρ, x, _, r, h1, fun v H1 A1 M1 s1 k1 r1 b1 => ⟨_, tru_of (b1.top r1 h2) h3, q _ _ _ s1 k1 r1⟩⟩
theorem t_not (h : PT X a (tT F ma)) : PT X (.UnaryOp .Not a pos) (tT F (.not ma)) := by
  refine (pt_not h).imp fun σ H Q ⟨A, M, ρ, t, ρ', r, ev, q⟩ => ?_
  simp only [evT, Option.map_eq_some_iff] at ev
  obtain ⟨⟨k, ρ1⟩, h1, h2⟩ := ev
  cases h2
  exact ⟨A, M, ρ, k, _, r, h1, fun H1 A1 M1 s1 k1 r1 => q _ _ _ s1 k1 r1⟩
theorem w_and {rest : List Expr} (ha : PT X a (tT F ma)) (hb : PW X (.BoolOp .And (b :: rest) pos) (tT F mb)) : PW X (.BoolOp .And (a :: b :: rest) pos) (tT F (.and ma mb)) := by
  refine (pw_and ha hb).imp fun σ H Q ⟨A, M, ρ, t, ρ', r, ev, q⟩ => ?_
  simp only [evT, Option.bind_eq_some_iff] at ev
  obtain ⟨⟨k, ρ1⟩, h1, h2⟩ := ev
  refine ⟨A, M, ρ, k, ρ1, r, h1, fun H1 A1 M1 s1 k1 r1 => ?_⟩
  cases k with
  | true => exact iteT ⟨A1, M1, ρ1, t, ρ', r1, h2, fun H2 A2 M2 s2 k2 r2 => q _ _ _ (s1.trans s2) (k1.comp s1 k2) r2⟩
  | false => cases h2; exact iteF (q _ _ _ s1 k1 r1)
theorem w_or {rest : List Expr} (ha : PT X a (tT F ma)) (hb : PW X (.BoolOp .Or (b :: rest) pos) (tT F mb)) : PW X (.BoolOp .Or (a :: b :: rest) pos) (tT F (.or ma mb)) := by
  refine (pw_or ha hb).imp fun σ H Q ⟨A, M, ρ, t, ρ', r, ev, q⟩ => ?_
  simp only [evT, Option.bind_eq_some_iff] at ev
  obtain ⟨⟨k, ρ1⟩, h1, h2⟩ := ev
  refine ⟨A, M, ρ, k, ρ1, r, h1, fun H1 A1 M1 s1 k1 r1 => ?_⟩
  cases k with
  | false => exact iteF ⟨A1, M1, ρ1, t, ρ', r1, h2, fun H2 A2 M2 s2 k2 r2 => q _ _ _ (s1.trans s2) (k1.comp s1 k2) r2⟩
  | true => cases h2; exact iteT (q _ _ _ s1 k1 r1)
theorem bor_plain {F : Fns} {m : ME} {ρ : Rho} {b : Bor} {ρ' : Rho} (hm : ∀ i, m ≠ .var i) (h : bor (evE F m) m ρ = some (b, ρ')) : ∃ d fr, evE F m ρ = some (d, fr, ρ') ∧ b = .v d := by
  have h' : (evE F m ρ).map (fun (d, _, ρ') => (Bor.v d, ρ')) = some (b, ρ') := by
    cases m with
    | var i => exact absurd rfl (hm i)
    | _ => exact h
  simp only [Option.map_eq_some_iff] at h'
  obtain ⟨⟨d, fr, ρ2⟩, h1, h2⟩ := h'
  cases h2
  exact ⟨d, fr, h1, rfl⟩
theorem tst_inv {F : Fns} {m : ME} {ρ : Rho} {t : Bool} {ρ' : Rho} (hm : ∀ i, m ≠ .var i) (h : evT F (.tst m) ρ = some (t, ρ')) : ∃ d fr, evE F m ρ = some (d, fr, ρ') ∧ truthD d = some t := by
  simp only [evT, Option.bind_eq_some_iff, Option.map_eq_some_iff] at h
  obtain ⟨⟨x, ρ1⟩, h1, d, h2, k, h3, h4⟩ := h
  cases h4
  obtain ⟨d', fr, h5, rfl⟩ := bor_plain hm h1
  cases h2
  exact ⟨_, fr, h5, h3⟩
theorem t_isN {j : Nat} {p : Pos} (ha : Eb X F a ma) : PT X (.Compare a [.Is] [.Constant .none j p] pos) (tT F (.tst (.isN ma))) := by
  refine (pt_cmp (pc_isN ha.bo) rfl).imp fun σ H Q ⟨A, M, ρ, t, ρ', r, ev, q⟩ => ?_
  obtain ⟨d, fr, ev, ht⟩ := tst_inv (by intro _ z; cases z) ev
  simp only [evE, Option.bind_eq_some_iff, Option.map_eq_some_iff] at ev
  obtain ⟨⟨x, ρ1⟩, h1, dx, h2, h3⟩ := ev
  cases h3
  cases ht
  refine ⟨A, M, ρ, x, _, r, h1, fun v H1 A1 M1 s1 k1 r1 b1 => ?_⟩
  show ∃ c, V.bl (decide (v = .non)) = .bl c ∧ Q c H1
  rw [non_iff (b1.top r1 h2)]
  exact ⟨_, rfl, q _ _ _ s1 k1 r1⟩
theorem t_notN {j : Nat} {p : Pos} (ha : Eb X F a ma) : PT X (.Compare a [.IsNot] [.Constant .none j p] pos) (tT F (.tst (.notN ma))) := by
  refine (pt_cmp (pc_notN ha.bo) rfl).imp fun σ H Q ⟨A, M, ρ, t, ρ', r, ev, q⟩ => ?_
  obtain ⟨d, fr, ev, ht⟩ := tst_inv (by intro _ z; cases z) ev
  simp only [evE, Option.bind_eq_some_iff, Option.map_eq_some_iff] at ev
  obtain ⟨⟨x, ρ1⟩, h1, dx, h2, h3⟩ := ev
  cases h3
  cases ht
  refine ⟨A, M, ρ, x, _, r, h1, fun v H1 A1 M1 s1 k1 r1 b1 => ?_⟩
  show ∃ c, V.bl (!decide (v = .non)) = .bl c ∧ Q c H1
  rw [non_iff (b1.top r1 h2)]
  exact ⟨_, rfl, q _ _ _ s1 k1 r1⟩
theorem t_cmp2 {op op' : Cop} (hu : X.A.units + 64 < cLine) (ha : Eb X F a ma) (hb : Eb X F b mb) (hc : Eb X F c mc) (hm : behindInMarks (copOf op') c = false) :
    PT X (.Compare a [copOf op, copOf op'] [b, c] pos) (tT F (.tst (.cmp2 op op' ma mb mc))) := by
  refine (pt_chain (cmp_ok hu op) (cmp_ok hu op') ha.bo hb.bo hc.bo (marks2 hm)).imp fun σ H Q ⟨A, M, ρ, t, ρ', r, ev, q⟩ => ?_
  obtain ⟨d, fr, ev, ht⟩ := tst_inv (by intro _ z; cases z) ev
  simp only [evE, Option.bind_eq_some_iff] at ev
  obtain ⟨⟨x, ρ1⟩, h1, ⟨y, ρ2⟩, h2, dx, h3, dy, h4, z, h5, h6⟩ := ev
  refine ⟨A, M, ρ, x, ρ1, r, h1, fun v H1 A1 M1 s1 k1 r1 b1 => ⟨A1, M1, ρ1, y, ρ2, r1, h2, fun w H2 A2 M2 s2 k2 r2 b2 =>
    ⟨A2, dx, dy, z, (b1.keep r1.sub s2 k2).top r2 h3, b2.top r2 h4, h5, z, rfl, ?_⟩⟩⟩
  cases z with
  | false =>
    cases h6
    cases ht
    exact iteF ⟨_, rfl, q _ _ _ (s1.trans s2) (k1.comp s1 k2) r2⟩
  | true =>
    rw [if_pos rfl] at h6
    simp only [Option.bind_eq_some_iff, Option.map_eq_some_iff] at h6
    obtain ⟨⟨u, ρ3⟩, g1, e3, g2, f, g3, z', g4, g5⟩ := h6
    cases g5
    cases ht
    exact iteT ⟨A2, M2, ρ2, u, _, r2, g1, fun w' H3 A3 M3 s3 k3 r3 b3 => ⟨A3, e3, f, _, (b2.keep r2.sub s3 k3).top r3 g2, b3.top r3 g3, g4, _, rfl, q _ _ _ ((s1.trans s2).trans s3) ((k1.comp s1 k2).comp (s1.trans s2) k3) r3⟩⟩

/-! ### what is walked over -/
def Lat (A A1 : AS) (H H1 : Hp) : Prop := Kp A H H1 ∧ ∀ a, A1 a → A a ∨ H a = none
theorem Rel.lat {A A1 : AS} {H H1 : Hp} {v : V} {d : PyData} (r : Rel A H v d) (l : Lat A A1 H H1) : Rel A1 H1 v d :=
  r.map (fun a o h n => l.1.same a o h n) fun a o h z n _ => by
    rcases l.2 a z with q | q
    · exact n q
    · rw [q] at h; cases h
/-- an iterator whose turns are the data ds -/
def ItOk (A : AS) (H : Hp) (J : It) (ds : List PyData) : Prop := ∃ (G : Hp → Prop) (Y : Nat → Hp → V → Hp → Prop), Walk J ds.length G Y ∧ (∀ H1, Kp A H H1 → G H1) ∧
  ∀ i A1 H1 x H2, i < ds.length → Lat A A1 H H1 → Y i H1 x H2 → Kp No H1 H2 ∧ ∃ d, ds[i]? = some d ∧ Rel A1 H2 x d
def tI (F : Fns) (m : ME) : TI := fun σ H R => ∃ A M ρ ds ρ', RE A M H ρ σ ∧ evI F m ρ = some (ds, ρ') ∧ ∀ J H' A' M', Shr A M A' M' → Kp M H H' → RE A' M' H' ρ' σ → ItOk A' H' J ds → R J H'
theorem _root_.L2.PI.imp {X : Cx} {tg e : Expr} {t t' : TI} (h : PI X tg e t) (f : ∀ σ H Q, t' σ H Q → t σ H Q) : PI X tg e t' := ⟨fun pins s σ H Q I q => h.run pins s σ H Q I (f σ H Q q)⟩
theorem _root_.L2.PI.or {X : Cx} {tg e : Expr} {t t' : TI} (h : PI X tg e t) (h' : PI X tg e t') : PI X tg e (fun σ H R => t σ H R ∨ t' σ H R) :=
  ⟨fun pins s σ H Q I q => q.elim (h.run pins s σ H Q I) (h'.run pins s σ H Q I)⟩
theorem it_list {A : AS} {H : Hp} {K : PySem.W.Frag} {p : Addr} {xs : List V} {ds : List PyData} (h : H p = some (.lst xs)) (n : ¬ A p) (r : RelAll A H xs ds) : ItOk A H (Itl K p) ds := by
  refine ⟨fun H1 => SqL K H1 p xs, YAt xs, ?_, fun H1 k => SqL.of (k.same _ _ h fun z => absurd z n), fun i A1 H1 x H2 hi l y => ?_⟩
  · have w := walk_list (K := K) (a := p) (xs := xs)
    rw [r.length] at w
    exact w
  · obtain ⟨rfl, e⟩ := y
    obtain ⟨d, e1, rel⟩ := r.get' e
    exact ⟨Kp.refl _ _, d, e1, rel.lat l⟩
theorem it_tup {A : AS} {H : Hp} {K : PySem.W.Frag} {p : Addr} {xs : List V} {ds : List PyData} (h : TupAt H p xs) (r : RelAll A H xs ds) : ItOk A H (Itt K p) ds := by
  refine ⟨fun H1 => SqT K H1 p xs, YAt xs, ?_, fun H1 k => TupAt.sq (TupAt.keep k h), fun i A1 H1 x H2 hi l y => ?_⟩
  · have w := walk_tup (K := K) (a := p) (xs := xs)
    rw [r.length] at w
    exact w
  · obtain ⟨rfl, e⟩ := y
    obtain ⟨d, e1, rel⟩ := r.get' e
    exact ⟨Kp.refl _ _, d, e1, rel.lat l⟩
theorem it_rng {A : AS} {H : Hp} (lo hi : Int) : ItOk A H (Itr lo (hi - lo).toNat) (rangeD lo hi) := by
  have hl : (rangeD lo hi).length = (hi - lo).toNat := by simp [rangeD]
  refine ⟨fun _ => True, YFn fun i => .int (lo + (i : Int)), ?_, fun _ _ => trivial, fun i A1 H1 x H2 hi' l y => ?_⟩
  · rw [hl]; exact walk_range
  · obtain ⟨rfl, rfl⟩ := y
    refine ⟨Kp.refl _ _, .int (lo + (i : Int)), ?_, .int _⟩
    rw [hl] at hi'
    simp [rangeD, List.getElem?_map, List.getElem?_range hi']
theorem it_pair {A : AS} {H : Hp} {J : It} {n : Nat} {G : Hp → Prop} {fx fy : Nat → Option V} {gx gy : Nat → Option PyData} {ds : List PyData} (w : Walk J n G (YPair fx fy)) (hn : n = ds.length) (hG : ∀ H1, Kp A H H1 → G H1)
    (hx : ∀ i v, i < n → fx i = some v → ∃ d, gx i = some d ∧ Rel A H v d) (hy : ∀ i v, i < n → fy i = some v → ∃ d, gy i = some d ∧ Rel A H v d) (hd : ∀ i d e, gx i = some d → gy i = some e → i < n → ds[i]? = some (.tuple [d, e])) : ItOk A H J ds := by
  subst hn
  refine ⟨G, _, w, hG, fun i A1 H1 x H2 hi l ⟨T, u, v, e, hT, eH, e1, e2⟩ => ?_⟩
  obtain ⟨d1, g1, r1⟩ := hx i u hi e1
  obtain ⟨d2, g2, r2⟩ := hy i v hi e2
  subst e
  subst eH
  exact ⟨Kp.new hT, _, hd i d1 d2 g1 g2 hi, .tup (.inl upd_same) (.cons ((r1.lat l).keep (M := No) (fun _ z => z.elim) (Kp.new hT)) (.cons ((r2.lat l).keep (M := No) (fun _ z => z.elim) (Kp.new hT)) .nil))⟩
theorem zipT_walk {K : PySem.W.Frag} {a b : Addr} {xs ys : List V} {n : Nat} (hn : n = min xs.length ys.length) : Walk (RZ.ItzT K a b) n (fun H => SqT K H a xs ∧ SqT K H b ys) (YPair (fun i => xs[i]?) (fun i => ys[i]?)) := by
  refine ⟨fun i H hi h => ⟨xs, ys, xs[i]'(by omega), ys[i]'(by omega), h.1, h.2, List.getElem?_eq_getElem _, List.getElem?_eq_getElem _⟩, fun H h => ⟨xs, ys, h.1, h.2, by omega⟩, fun i H x H' hi h ⟨T, u, v, e1, e2, e3, e4, e5⟩ => ⟨T, u, v, e1, e2, e3, e4 _ h.1, e5 _ h.2⟩⟩
theorem zip_at {xs ys : List PyData} {i : Nat} {d e : PyData} (h1 : xs[i]? = some d) (h2 : ys[i]? = some e) : ((xs.zip ys).map fun p => PyData.tuple [p.1, p.2])[i]? = some (.tuple [d, e]) := by
  rw [List.getElem?_map, List.getElem?_zip_eq_some (z := (d, e)) |>.mpr ⟨h1, h2⟩]
  rfl
variable {tg : Expr}
theorem it_str {A : AS} {H : Hp} (z : Str) : ItOk A H (Its z) (z.cps.toList.map fun c => .str ⟨#[c]⟩) := by
  refine ⟨fun _ => True, (fun i H v H' => H' = H ∧ ∃ c, z.cps[i]? = some c ∧ v = .str ⟨#[c]⟩), ?_, fun _ _ => trivial, fun i A1 H1 x H2 hi l y => ?_⟩
  · have w := walk_str (z := z)
    rw [List.length_map, Array.length_toList]
    exact w
  · obtain ⟨rfl, c, e1, rfl⟩ := y
    refine ⟨Kp.refl _ _, .str ⟨#[c]⟩, ?_, .str _⟩
    rw [List.getElem?_map, Array.getElem?_toList, e1]
    rfl
theorem i_it (h : Eb X F e m) : PI X tg e (tI F (.it m)) := by
  refine ((pi_list h.ev).or ((pi_tup h.ev).or (pi_str h.ev))).imp fun σ H R ⟨A, M, ρ, ds, ρ', r, ev, q⟩ => ?_
  simp only [evI, Option.bind_eq_some_iff, Option.map_eq_some_iff] at ev
  obtain ⟨⟨d, fr, ρ1⟩, h1, xs, h2, h3⟩ := ev
  cases h3
  cases d with
  | list ys =>
    cases h2
    refine .inl ⟨A, M, ρ, _, fr, _, r, h1, fun v H1 p => ?_⟩
    obtain ⟨A1, M1, s1, k1, r1, b1⟩ := p.std r.live
    cases b1 with
    | lst hh hn rr => exact ⟨_, rfl, ⟨_, SqL.of hh⟩, q _ _ _ _ s1 k1 r1 (it_list hh hn rr)⟩
  | tuple ys =>
    cases h2
    refine .inr (.inl ⟨A, M, ρ, _, fr, _, r, h1, fun v H1 p => ?_⟩)
    obtain ⟨A1, M1, s1, k1, r1, b1⟩ := p.std r.live
    cases b1 with
    | tup hh rr => exact ⟨_, rfl, ⟨_, (TupAt.sq hh)⟩, q _ _ _ _ s1 k1 r1 (it_tup hh rr)⟩
  | str z =>
    cases h2
    refine .inr (.inr ⟨A, M, ρ, _, fr, _, r, h1, fun v H1 p => ?_⟩)
    obtain ⟨A1, M1, s1, k1, r1, b1⟩ := p.std r.live
    cases b1 with
    | str => exact ⟨_, rfl, q _ _ _ _ s1 k1 r1 (it_str _)⟩
  | _ => cases h2
theorem line_iff {i : Int} (h : lineI i = true) : -(2 ^ 62) ≤ i ∧ i < 2 ^ 62 := by
  unfold lineI at h
  rw [Bool.and_eq_true, decide_eq_true_iff, decide_eq_true_iff] at h
  exact h
theorem i_rng1 {p : Pos} (hg : Gl X "range") (hm : X.mg "range" = none) (ha : Eb X F a ma) (ns : noStar a = true) : PI X tg (.Call (.Name "range" p) [a] [] pos) (tI F (.rng1 ma)) := by
  refine (pi_range1 hg hm (pa_cons ha.ev pa_nil (star_no ns)) (star_no ns)).imp fun σ H R ⟨A, M, ρ, ds, ρ', r, ev, q⟩ => ?_
  simp only [evI, Option.bind_eq_some_iff] at ev
  obtain ⟨⟨d, fr, ρ1⟩, h1, h2⟩ := ev
  refine ⟨A, M, ρ, d, fr, ρ1, r, h1, fun v H1 p => ?_⟩
  obtain ⟨A1, M1, s1, k1, r1, b1⟩ := p.std r.live
  cases b1 with
  | int i =>
    dsimp only at h2
    split at h2
    · rename_i hl
      cases h2
      refine ⟨i, rfl, (line_iff hl).1, (line_iff hl).2, ?_⟩
      have w := it_rng (A := A1) (H := H1) 0 i
      rw [Int.sub_zero] at w
      exact q _ _ _ _ s1 k1 r1 w
    · cases h2
  | _ => cases h2
theorem i_rng2 {p : Pos} (hg : Gl X "range") (hm : X.mg "range" = none) (ha : Eb X F a ma) (hb : Eb X F b mb) (ns : noStar a = true) (ns' : noStar b = true) : PI X tg (.Call (.Name "range" p) [a, b] [] pos) (tI F (.rng2 ma mb)) := by
  refine (pi_range2 hg hm (pa_cons ha.ev (pa_cons hb.ev pa_nil (star_no ns')) (star_no ns)) (by rw [star_no ns, star_no ns']; rfl) (star_no ns')).imp fun σ H R ⟨A, M, ρ, ds, ρ', r, ev, q⟩ => ?_
  simp only [evI, Option.bind_eq_some_iff] at ev
  obtain ⟨⟨d, fr, ρ1⟩, h1, ⟨d2, fr2, ρ2⟩, h2, h3⟩ := ev
  refine ⟨A, M, ρ, d, fr, ρ1, r, h1, fun v H1 p => ?_⟩
  obtain ⟨A1, M1, s1, k1, r1, b1⟩ := p.std r.live
  refine ⟨A1, M1, ρ1, d2, fr2, ρ2, r1, h2, fun v2 H2 p2 => ?_⟩
  obtain ⟨A2, M2, s2, k2, r2, b2⟩ := p2.std r1.live
  cases b1 with
  | int i =>
    cases b2 with
    | int j =>
      dsimp only at h3
      split at h3
      · rename_i hl
        rw [Bool.and_eq_true] at hl
        cases h3
        exact ⟨i, j, rfl, ⟨(line_iff hl.1).1, (line_iff hl.1).2, (line_iff hl.2).1, (line_iff hl.2).2⟩, q _ _ _ _ (s1.trans s2) (k1.comp s1 k2) r2 (it_rng i j)⟩
      · cases h3
    | _ => cases h3
  | _ => cases h3
theorem walk_zipM {K : PySem.W.Frag} {a b : Addr} {xs ys : List V} {n : Nat} (hn : n = min xs.length ys.length) : Walk (ItzM K a b) n (fun H => SqT K H a xs ∧ SqL K H b ys) (YPair (fun i => xs[i]?) (fun i => ys[i]?)) := by
  refine ⟨fun i H hi h => ⟨xs, ys, xs[i]'(by omega), ys[i]'(by omega), h.1, h.2, List.getElem?_eq_getElem _, List.getElem?_eq_getElem _⟩, fun H h => ⟨xs, ys, h.1, h.2, hn.symm⟩, fun i H v H' hi h ⟨x, y, hx, hy, T, e1, e2, e3⟩ => ⟨T, x, y, e1, e2, e3, hx xs h.1, hy ys h.2⟩⟩
theorem i_zp {p tpos : Pos} {elts : List Expr} {kk : Nat} (hg : Gl X "zip") (hm : X.mg "zip" = none) (ha : Eb X F a ma) (hb : Eb X F b mb) (ns : noStar a = true) (ns' : noStar b = true) :
    PI X (.Tuple elts kk tpos) (.Call (.Name "zip" p) [a, b] [] pos) (tI F (.zp ma mb)) := by
  refine ((RZ.pi_zipA hg hm (pa_cons ha.ev (pa_cons hb.ev pa_nil (star_no ns')) (star_no ns)) (star_no ns) (star_any (es := [b]) (by simp [ns']))).or (pi_zipM hg hm (pa_cons ha.ev (pa_cons hb.ev pa_nil (star_no ns')) (star_no ns)) (star_no ns) (star_any (es := [b]) (by simp [ns'])))).imp fun σ H R ⟨A, M, ρ, ds, ρ', r, ev, q⟩ => ?_
  simp only [evI, Option.bind_eq_some_iff] at ev
  obtain ⟨⟨d, fr, ρ1⟩, h1, ⟨d2, fr2, ρ2⟩, h2, h3⟩ := ev
  cases d with
  | list xs =>
    cases d2 with
    | list ys =>
      cases h3
      refine .inl ⟨A, M, ρ, _, fr, ρ1, r, h1, fun v H1 p => ?_⟩
      obtain ⟨A1, M1, s1, k1, r1, b1⟩ := p.std r.live
      refine ⟨A1, M1, ρ1, _, fr2, _, r1, h2, fun v2 H2 p2 => ?_⟩
      obtain ⟨A2, M2, s2, k2, r2, b2⟩ := p2.std r1.live
      have b1' := (b1.keep r1.sub k2).anti s2.a
      cases b1' with
      | lst hh hn rr =>
        cases b2 with
        | lst hh2 hn2 rr2 =>
          refine ⟨_, _, _, _, rfl, .inl ⟨SqL.of hh, SqL.of hh2, q _ _ _ _ (s1.trans s2) (k1.comp s1 k2) r2 (it_pair (walk_zip rfl) (by simp [rr.length, rr2.length]) (fun H1 k => ⟨SqL.of (k.same _ _ hh fun z => absurd z hn), SqL.of (k.same _ _ hh2 fun z => absurd z hn2)⟩) (fun i v _ e => rr.get' e) (fun i v _ e => rr2.get' e) fun i d e g1 g2 _ => zip_at g1 g2)⟩⟩
    | _ => cases h3
  | tuple xs =>
    cases d2 with
    | tuple ys =>
      cases h3
      refine .inl ⟨A, M, ρ, _, fr, ρ1, r, h1, fun v H1 p => ?_⟩
      obtain ⟨A1, M1, s1, k1, r1, b1⟩ := p.std r.live
      refine ⟨A1, M1, ρ1, _, fr2, _, r1, h2, fun v2 H2 p2 => ?_⟩
      obtain ⟨A2, M2, s2, k2, r2, b2⟩ := p2.std r1.live
      have b1' := (b1.keep r1.sub k2).anti s2.a
      cases b1' with
      | tup hh rr =>
        cases b2 with
        | tup hh2 rr2 =>
          refine ⟨_, _, _, _, rfl, .inr ⟨(TupAt.sq hh), (TupAt.sq hh2), q _ _ _ _ (s1.trans s2) (k1.comp s1 k2) r2 (it_pair (zipT_walk rfl) (by simp [rr.length, rr2.length]) (fun H1 k => ⟨TupAt.sq (TupAt.keep k hh), TupAt.sq (TupAt.keep k hh2)⟩) (fun i v _ e => rr.get' e) (fun i v _ e => rr2.get' e) fun i d e g1 g2 _ => zip_at g1 g2)⟩⟩
    | list ys =>
      cases h3
      refine .inr ⟨A, M, ρ, _, fr, ρ1, r, h1, fun v H1 p => ?_⟩
      obtain ⟨A1, M1, s1, k1, r1, b1⟩ := p.std r.live
      refine ⟨A1, M1, ρ1, _, fr2, _, r1, h2, fun v2 H2 p2 => ?_⟩
      obtain ⟨A2, M2, s2, k2, r2, b2⟩ := p2.std r1.live
      have b1' := (b1.keep r1.sub k2).anti s2.a
      cases b1' with
      | tup hh rr =>
        cases b2 with
        | lst hh2 hn2 rr2 =>
          refine ⟨_, _, _, _, rfl, TupAt.sq hh, SqL.of hh2, q _ _ _ _ (s1.trans s2) (k1.comp s1 k2) r2 (it_pair (walk_zipM rfl) (by simp [rr.length, rr2.length]) (fun H1 k => ⟨TupAt.sq (TupAt.keep k hh), SqL.of (k.same _ _ hh2 fun z => absurd z hn2)⟩) (fun i v _ e => rr.get' e) (fun i v _ e => rr2.get' e) fun i d e g1 g2 _ => zip_at g1 g2)⟩
    | _ => cases h3
  | _ => cases h3
theorem i_enm {p tpos : Pos} {elts : List Expr} {kk : Nat} (hg : Gl X "enumerate") (hm : X.mg "enumerate" = none) (ha : Eb X F a ma) (ns : noStar a = true) :
    PI X (.Tuple elts kk tpos) (.Call (.Name "enumerate" p) [a] [] pos) (tI F (.enm ma)) := by
  refine ((pi_enum hg hm (pa_cons ha.ev pa_nil (star_no ns)) (star_no ns)).or (pi_enumT hg hm (pa_cons ha.ev pa_nil (star_no ns)) (star_no ns))).imp fun σ H R ⟨A, M, ρ, ds, ρ', r, ev, q⟩ => ?_
  simp only [evI, Option.bind_eq_some_iff] at ev
  obtain ⟨⟨d, fr, ρ1⟩, h1, h2⟩ := ev
  have fin : ∀ {xs : List PyData} (i : Nat) (d e : PyData), some (PyData.int (i : Nat)) = some d → xs[i]? = some e → (xs.zipIdx.map fun p => PyData.tuple [.int p.2, p.1])[i]? = some (.tuple [d, e]) := fun i d e g1 g2 => by
    cases g1
    rw [List.getElem?_map, List.getElem?_zipIdx, g2]
    simp
  cases d with
  | list xs =>
    cases h2
    refine .inl ⟨A, M, ρ, _, fr, _, r, h1, fun v H1 p => ?_⟩
    obtain ⟨A1, M1, s1, k1, r1, b1⟩ := p.std r.live
    cases b1 with
    | lst hh hn rr =>
      exact ⟨_, _, rfl, SqL.of hh, q _ _ _ _ s1 k1 r1 (it_pair walk_enum (by simp [rr.length]) (fun H1 k => SqL.of (k.same _ _ hh fun z => absurd z hn)) (gx := fun i => some (.int (i : Nat))) (fun i v _ e => ⟨_, rfl, by cases e; exact .int _⟩) (fun i v _ e => rr.get' e) fun i d e g1 g2 _ => fin i d e g1 g2)⟩
  | tuple xs =>
    cases h2
    refine .inr ⟨A, M, ρ, _, fr, _, r, h1, fun v H1 p => ?_⟩
    obtain ⟨A1, M1, s1, k1, r1, b1⟩ := p.std r.live
    cases b1 with
    | tup hh rr =>
      exact ⟨_, _, rfl, (TupAt.sq hh), q _ _ _ _ s1 k1 r1 (it_pair walk_enumT (by simp [rr.length]) (fun H1 k => TupAt.sq (TupAt.keep k hh)) (gx := fun i => some (.int (i : Nat))) (fun i v _ e => ⟨_, rfl, by cases e; exact .int _⟩) (fun i v _ e => rr.get' e) fun i d e g1 g2 _ => fin i d e g1 g2)⟩
  | _ => cases h2
theorem size_pos {i j c : Int} (hc : 0 < c) : ((j - i + c - 1) / c).toNat = (if i < j then ((j - i - 1) / c + 1).toNat else 0) := by
  split
  · rename_i h
    have e : j - i + c - 1 = (j - i - 1) + c * 1 := by omega
    rw [e, Int.add_mul_ediv_left _ _ (by omega)]
  · rename_i h
    have : (j - i + c - 1) / c ≤ 0 := by
      have h1 : (j - i + c - 1) / c < 1 := (Int.ediv_lt_iff_lt_mul hc).mpr (by omega)
      omega
    omega
theorem i_rng3 {p : Pos} (hg : Gl X "range") (hm : X.mg "range" = none) (ha : Eb X F a ma) (hb : Eb X F b mb) (hc : Eb X F c mc) (ns : noStar a = true) (ns' : noStar b = true) (ns'' : noStar c = true) : PI X tg (.Call (.Name "range" p) [a, b, c] [] pos) (tI F (.rng3 ma mb mc)) := by
  refine (pi_range3 hg hm (pa_cons ha.ev (pa_cons hb.ev (pa_cons hc.ev pa_nil (star_no ns'')) (star_no ns')) (star_no ns)) (star_no ns) (star_any (es := [b, c]) (by simp [ns', ns'']))).imp fun σ H R ⟨A, M, ρ, ds, ρ', r, ev, q⟩ => ?_
  simp only [evI, Option.bind_eq_some_iff] at ev
  obtain ⟨⟨d, fr, ρ1⟩, h1, ⟨d2, fr2, ρ2⟩, h2, ⟨d3, fr3, ρ3⟩, h3, h4⟩ := ev
  refine ⟨A, M, ρ, d, fr, ρ1, r, h1, fun v H1 p => ?_⟩
  obtain ⟨A1, M1, s1, k1, r1, b1⟩ := p.std r.live
  refine ⟨A1, M1, ρ1, d2, fr2, ρ2, r1, h2, fun v2 H2 p2 => ?_⟩
  obtain ⟨A2, M2, s2, k2, r2, b2⟩ := p2.std r1.live
  refine ⟨A2, M2, ρ2, d3, fr3, ρ3, r2, h3, fun v3 H3 p3 => ?_⟩
  obtain ⟨A3, M3, s3, k3, r3, b3⟩ := p3.std r2.live
  dsimp only at h4
  split at h4
  · split at h4
    · rename_i hl
      simp only [Bool.and_eq_true, decide_eq_true_eq] at hl
      cases h4
      cases b1
      cases b2
      cases b3
      rename_i i j l
      obtain ⟨⟨⟨l1, l2⟩, l3⟩, l4⟩ := hl
      have l1 := line_iff l1
      have l2 := line_iff l2
      refine ⟨i, j, l, ((j - i + l - 1) / l).toNat, rfl, ⟨by omega, by omega, ?_, ?_⟩, q _ _ _ _ ((s1.trans s2).trans s3) ((k1.comp s1 k2).comp (s1.trans s2) k3) r3 ?_⟩
      · have hz : 0 ≤ Builtin.Range.rangeSize i j l ∧ Builtin.Range.rangeSize i j l < 2 ^ 63 := by
          unfold Builtin.Range.rangeSize
          rw [if_pos (show l > 0 from l3)]
          split
          · have h1 : 0 ≤ (j - i - 1) / l := Int.ediv_nonneg (by omega) (by omega)
            have h2 : (j - i - 1) / l ≤ j - i - 1 := Int.ediv_le_self _ (by omega)
            omega
          · omega
        unfold Builtin.Range.small
        simp only [Builtin.Range.rangeFitsLong, Bool.and_eq_true, Bool.or_eq_true, decide_eq_true_eq, beq_iff_eq, show l > 0 from l3, if_true]
        omega
      · unfold Builtin.Range.rangeSize
        have hp := size_pos (i := i) (j := j) l3
        have h0 : (0 : Int) ≤ (j - i - 1) / l + 1 ∨ ¬ i < j := by
          by_cases h : i < j
          · have : 0 ≤ (j - i - 1) / l := Int.ediv_nonneg (by omega) (by omega)
            exact .inl (by omega)
          · exact .inr h
        rw [if_pos (show l > 0 from l3), hp]
        split
        · rename_i h
          rcases h0 with h0 | h0
          · omega
          · exact absurd h h0
        · rfl
      · have hn : (rangeC i j l).length = ((j - i + l - 1) / l).toNat := by simp [rangeC]
        refine ⟨fun _ => True, YFn fun k => .int (i + (k : Nat) * l), by rw [hn]; exact walk_rangeC, fun _ _ => trivial, fun k A1 H1 x H2 hk l y => ?_⟩
        obtain ⟨rfl, rfl⟩ := y
        rw [hn] at hk
        exact ⟨Kp.refl _ _, _, by simp [rangeC, List.getElem?_map, List.getElem?_range hk], .int _⟩
    · cases h4
  · cases h4
theorem i_zp3 {p tpos : Pos} {elts : List Expr} {kk : Nat} (hg : Gl X "zip") (hm : X.mg "zip" = none) (ha : Eb X F a ma) (hb : Eb X F b mb) (hc : Eb X F c mc) (ns : noStar a = true) (ns' : noStar b = true) (ns'' : noStar c = true) :
    PI X (.Tuple elts kk tpos) (.Call (.Name "zip" p) [a, b, c] [] pos) (tI F (.zp3 ma mb mc)) := by
  refine (pi_zip3 hg hm (pa_cons ha.ev (pa_cons hb.ev (pa_cons hc.ev pa_nil (star_no ns'')) (star_no ns')) (star_no ns)) (star_no ns) (star_any (es := [b, c]) (by simp [ns', ns'']))).imp fun σ H R ⟨A, M, ρ, ds, ρ', r, ev, q⟩ => ?_
  simp only [evI, Option.bind_eq_some_iff] at ev
  obtain ⟨⟨d, fr, ρ1⟩, h1, ⟨d2, fr2, ρ2⟩, h2, ⟨d3, fr3, ρ3⟩, h3, h4⟩ := ev
  refine ⟨A, M, ρ, d, fr, ρ1, r, h1, fun v H1 p => ?_⟩
  obtain ⟨A1, M1, s1, k1, r1, b1⟩ := p.std r.live
  refine ⟨A1, M1, ρ1, d2, fr2, ρ2, r1, h2, fun v2 H2 p2 => ?_⟩
  obtain ⟨A2, M2, s2, k2, r2, b2⟩ := p2.std r1.live
  refine ⟨A2, M2, ρ2, d3, fr3, ρ3, r2, h3, fun v3 H3 p3 => ?_⟩
  obtain ⟨A3, M3, s3, k3, r3, b3⟩ := p3.std r2.live
  dsimp only at h4
  split at h4
  · cases h4
    have c1 := (((b1.keep r1.sub k2).anti s2.a).keep r2.sub k3).anti s3.a
    have c2 := (b2.keep r2.sub k3).anti s3.a
    cases c1 with
    | tup e1 rr1 =>
      cases c2 with
      | tup e2 rr2 =>
        cases b3 with
        | tup e3 rr3 =>
          rename_i dxs dys dzs ax vxs ay vys az vzs
          refine ⟨_, _, _, _, _, _, rfl, (TupAt.sq e1), (TupAt.sq e2), (TupAt.sq e3), q _ _ _ _ ((s1.trans s2).trans s3) ((k1.comp s1 k2).comp (s1.trans s2) k3) r3 ?_⟩
          have hn : (((dxs.zip dys).zip dzs).map fun p => PyData.tuple [p.1.1, p.1.2, p.2]).length = min (min vxs.length vys.length) vzs.length := by simp [rr1.length, rr2.length, rr3.length]
          refine ⟨_, _, walk_zip3 hn, fun H1 k => ⟨TupAt.sq (TupAt.keep k e1), TupAt.sq (TupAt.keep k e2), TupAt.sq (TupAt.keep k e3)⟩, fun i A1 H1 x H2 hi l y => ?_⟩
          obtain ⟨T, x1, x2, x3, rfl, hT, rfl, f1, f2, f3⟩ := y
          obtain ⟨w1, g1, n1⟩ := rr1.get' f1
          obtain ⟨w2, g2, n2⟩ := rr2.get' f2
          obtain ⟨w3, g3, n3⟩ := rr3.get' f3
          refine ⟨Kp.new hT, .tuple [w1, w2, w3], ?_, .tup (.inl upd_same) (.cons ((n1.lat l).keep (M := No) (fun _ z => z.elim) (Kp.new hT)) (.cons ((n2.lat l).keep (M := No) (fun _ z => z.elim) (Kp.new hT)) (.cons ((n3.lat l).keep (M := No) (fun _ z => z.elim) (Kp.new hT)) .nil)))⟩
          rw [List.getElem?_map, List.getElem?_zip_eq_some (z := ((w1, w2), w3)) |>.mpr ⟨List.getElem?_zip_eq_some (z := (w1, w2)) |>.mpr ⟨g1, g2⟩, g3⟩]
          rfl
  · cases h4
end
end MI

/-! MI6: targets, comprehensions. -/
namespace MI
open PySem PySem.Spec PyProof.Rows L2
variable [EK]

/-! ### targets -/
def Agree (l : List Nat) (σ σ' : L2.St) : Prop := ∀ i, i ∉ l → σ'[i]? = σ[i]?
section
variable {A A' M M' : AS} {H H' : Hp} {v : V} {d : PyData} {ρ ρ' : Rho} {σ σ' : L2.St} {i : Nat}
theorem RE.setDat (r : RE A M H ρ σ) (h : Rel A H v d) : RE A M H (ρ.set i (.dat d)) (σ.set i (some v)) := by
  have ne : ∀ {j : Nat} {s : Slot}, (ρ.set i (.dat d))[j]? = some s → (j = i ∧ s = .dat d ∧ (σ.set i (some v))[j]? = some (some v)) ∨ (j ≠ i ∧ ρ[j]? = some s ∧ (σ.set i (some v))[j]? = σ[j]?) := fun {j s} h => by
    by_cases hj : j = i
    · subst hj
      have hl : j < (ρ.set j (.dat d)).length := (List.getElem?_eq_some_iff.mp h).1
      rw [List.length_set] at hl
      rw [List.getElem?_set_self hl] at h
      exact .inl ⟨rfl, (Option.some.inj h).symm, List.getElem?_set_self (r.len ▸ hl)⟩
    · rw [List.getElem?_set_ne (Ne.symm hj)] at h
      exact .inr ⟨hj, h, List.getElem?_set_ne (Ne.symm hj)⟩
  refine ⟨by rw [List.length_set, List.length_set]; exact r.len, r.sub, r.live, fun j x e => ?_, fun j x e => ?_, fun j k x y a e1 e2 e3 e4 => ?_⟩
  · rcases ne e with ⟨_, q, z⟩ | ⟨_, q, z⟩
    · cases q; exact ⟨v, z, h⟩
    · obtain ⟨w, e1, e2⟩ := r.dat j x q
      exact ⟨w, z.trans e1, e2⟩
  · rcases ne e with ⟨_, q, z⟩ | ⟨_, q, z⟩
    · cases q
    · obtain ⟨w, e1, e2⟩ := r.own j x q
      exact ⟨w, z.trans e1, e2⟩
  · rcases ne e1 with ⟨_, q, _⟩ | ⟨_, q1, z1⟩
    · cases q
    · rcases ne e2 with ⟨_, q, _⟩ | ⟨_, q2, z2⟩
      · cases q
      · exact r.inj j k x y a q1 q2 (z1.symm.trans e3) (z2.symm.trans e4)
theorem Agree.set {l : List Nat} (h : i ∈ l) : Agree l σ (σ.set i (some v)) := fun j hj => List.getElem?_set_ne fun (z : i = j) => hj (z ▸ h)
theorem Agree.trans {l l' : List Nat} {σ1 σ2 : L2.St} (a : Agree l σ σ1) (b : Agree l' σ1 σ2) : Agree (l ++ l') σ σ2 := fun j hj => by
  rw [List.mem_append, not_or] at hj
  exact (b j hj.2).trans (a j hj.1)
end
def gM (t : MT) : TG := fun v σ H Q => ∃ A M ρ d ρ', RE A M H ρ σ ∧ Rel A H v d ∧ bindT t d ρ = some ρ' ∧ ∀ σ', RE A M H ρ' σ' → Agree (slotsT t) σ σ' → Q σ' H
def gMs (t : MT) : TGs := fun vs σ H Q => ∃ A M ρ ds ρ', RE A M H ρ σ ∧ RelAll A H vs ds ∧ bindTs t ds ρ = some ρ' ∧ ∀ σ', RE A M H ρ' σ' → Agree (slotsT t) σ σ' → Q σ' H
section
variable {X : Cx} {e a b c : Expr} {es : List Expr} {pos : Pos}
theorem _root_.L2.PG.imp {t t' : TG} (h : PG X e t) (f : ∀ v σ H Q, t' v σ H Q → t v σ H Q) : PG X e t' := ⟨fun pins s σ H v u Q I r q => h.run pins s σ H v u Q I r (f v σ H Q q)⟩
theorem _root_.L2.PGs.imp {t t' : TGs} (h : PGs X es t) (f : ∀ v σ H Q, t' v σ H Q → t v σ H Q) : PGs X es t' := ⟨fun pins s σ H v u Q I r q => h.run pins s σ H v u Q I r (f v σ H Q q)⟩
theorem g_name {i : Nat} (h : PG X e (gName i)) : PG X e (gM (.nm i)) := h.imp fun v σ H Q ⟨A, M, ρ, d, ρ', r, rel, ev, q⟩ => by
  simp only [bindT, Option.some.injEq] at ev
  subst ev
  exact q _ (r.setDat rel) (Agree.set (by simp [slotsT]))
theorem gs_nil : PGs X [] (gMs .nil) := pgs_nil.imp fun v σ H Q ⟨A, M, ρ, ds, ρ', r, rel, ev, q⟩ => by
  cases rel with
  | nil =>
    simp only [bindTs, Option.some.injEq] at ev
    subst ev
    exact ⟨rfl, q σ r fun _ _ => rfl⟩
  | cons _ _ => simp [bindTs] at ev
theorem gs_cons {t u : MT} (h : PG X e (gM t)) (hr : PGs X es (gMs u)) (h1 : (assignEach (e :: es) X.env).map (·.2) = assign e X.env :: (assignEach es X.env).map (·.2)) : PGs X (e :: es) (gMs (.cons t u)) :=
  (pgs_cons h hr h1).imp fun v σ H Q ⟨A, M, ρ, ds, ρ', r, rel, ev, q⟩ => by
  cases rel with
  | nil => simp [bindTs] at ev
  | cons ra rr =>
    simp only [bindTs, Option.bind_eq_some_iff] at ev
    obtain ⟨ρ1, h1, h2⟩ := ev
    exact ⟨_, _, rfl, A, M, ρ, _, ρ1, r, ra, h1, fun σ1 r1 a1 => ⟨A, M, ρ1, _, ρ', r1, rr, h2, fun σ2 r2 a2 => q σ2 r2 (a1.trans a2)⟩⟩
mutual
theorem bindT_length : ∀ {t : MT} {d : PyData} {ρ ρ1 : Rho}, bindT t d ρ = some ρ1 → ρ1.length = ρ.length
  | .nm i, d, ρ, ρ1, h => by
    simp only [bindT, Option.some.injEq] at h
    rw [← h, List.length_set]
  | .tp ts, .tuple ds, ρ, ρ1, h => bindTs_length (t := ts) (ds := ds) (by simpa [bindT] using h)
  | .tp ts, .none, _, _, h => by simp [bindT] at h
  | .tp ts, .bool _, _, _, h => by simp [bindT] at h
  | .tp ts, .int _, _, _, h => by simp [bindT] at h
  | .tp ts, .str _, _, _, h => by simp [bindT] at h
  | .tp ts, .list _, _, _, h => by simp [bindT] at h
  | .tp ts, .dict _, _, _, h => by simp [bindT] at h
  | .nil, _, _, _, h => by simp [bindT] at h
  | .cons _ _, _, _, _, h => by simp [bindT] at h
theorem bindTs_length : ∀ {t : MT} {ds : List PyData} {ρ ρ1 : Rho}, bindTs t ds ρ = some ρ1 → ρ1.length = ρ.length
  | .nil, [], ρ, ρ1, h => by
    simp only [bindTs, Option.some.injEq] at h
    rw [← h]
  | .cons a r, d :: ds, ρ, ρ1, h => by
    simp only [bindTs, Option.bind_eq_some_iff] at h
    obtain ⟨ρ2, h1, h2⟩ := h
    rw [bindTs_length h2, bindT_length h1]
  | .nil, _ :: _, _, _, h => by simp [bindTs] at h
  | .cons _ _, [], _, _, h => by simp [bindTs] at h
  | .nm _, _, _, _, h => by simp [bindTs] at h
  | .tp _, _, _, _, h => by simp [bindTs] at h
end
def lenT : MT → Nat
  | .cons _ r => lenT r + 1
  | _ => 0
theorem bind_len : ∀ {t : MT} {ds : List PyData} {ρ ρ' : Rho}, bindTs t ds ρ = some ρ' → ds.length = lenT t
  | .nil, [], _, _, _ => rfl
  | .cons a r, d :: ds, ρ, ρ', h => by
    simp only [bindTs, Option.bind_eq_some_iff] at h
    obtain ⟨ρ1, _, h2⟩ := h
    show ds.length + 1 = lenT r + 1
    rw [bind_len h2]
  | .nil, _ :: _, _, _, h => by simp [bindTs] at h
  | .cons _ _, [], _, _, h => by simp [bindTs] at h
  | .nm _, _, _, _, h => by simp [bindTs] at h
  | .tp _, _, _, _, h => by simp [bindTs] at h
theorem g_tup {t : MT} {k : Nat} (hc : X.calm = true) (h : PGs X es (gMs t)) (hn : (assignEach es X.env).length = lenT t) (hst : (assignEach es X.env).findIdx? (·.1) = none) : PG X (.Tuple es k pos) (gM (.tp t)) :=
  (pg_tup hc h hn hst).imp fun v σ H Q ⟨A, M, ρ, d, ρ', r, rel, ev, q⟩ => by
  cases rel with
  | tup hh rr =>
    have ev' : bindTs t ‹List PyData› ρ = some ρ' := by simpa [bindT] using ev
    exact ⟨_, _, rfl, (TupAt.sq hh), by rw [rr.length]; exact bind_len ev', A, M, ρ, _, ρ', r, rr, ev', q⟩
  | _ => simp [bindT] at ev
end

/-! ### the block's own names -/
section
variable {A A' M M' : AS} {H H' : Hp} {v : V} {d : PyData} {ρ ρ' : Rho} {σ σ' : L2.St} {i : Nat} {vs : List Nat}
theorem RE.setNo (r : RE A M H ρ σ) : RE A M H (ρ.set i .no) (σ.set i none) := by
  have ne : ∀ {j : Nat} {s : Slot}, (ρ.set i .no)[j]? = some s → s = .no ∨ (ρ[j]? = some s ∧ (σ.set i none)[j]? = σ[j]?) := fun {j s} h => by
    by_cases hj : j = i
    · subst hj
      have hl : j < (ρ.set j .no).length := (List.getElem?_eq_some_iff.mp h).1
      rw [List.length_set] at hl
      rw [List.getElem?_set_self hl] at h
      exact .inl (Option.some.inj h).symm
    · rw [List.getElem?_set_ne (Ne.symm hj)] at h
      exact .inr ⟨h, List.getElem?_set_ne (Ne.symm hj)⟩
  refine ⟨by rw [List.length_set, List.length_set]; exact r.len, r.sub, r.live, fun j x e => ?_, fun j x e => ?_, fun j k x y a e1 e2 e3 e4 => ?_⟩
  · rcases ne e with q | ⟨q, z⟩
    · cases q
    · obtain ⟨w, e1, e2⟩ := r.dat j x q
      exact ⟨w, z.trans e1, e2⟩
  · rcases ne e with q | ⟨q, z⟩
    · cases q
    · obtain ⟨w, e1, e2⟩ := r.own j x q
      exact ⟨w, z.trans e1, e2⟩
  · rcases ne e1 with q | ⟨q1, z1⟩
    · cases q
    · rcases ne e2 with q | ⟨q2, z2⟩
      · cases q
      · exact r.inj j k x y a q1 q2 (z1.symm.trans e3) (z2.symm.trans e4)
theorem RE.wipe (r : RE A M H ρ σ) : ∀ vs : List Nat, RE A M H (wipeR ρ vs) (L2.wipe σ vs)
  | [] => r
  | v :: vs => (RE.wipe r vs).setNo
theorem RE.unwipe (r : RE A M H ρ (L2.wipe σ vs)) : RE A M H ρ σ := by
  refine ⟨by rw [r.len, wipe_length], r.sub, r.live, fun j x e => ?_, fun j x e => ?_, fun j k x y a e1 e2 e3 e4 => ?_⟩
  · obtain ⟨w, q1, q2⟩ := r.dat j x e
    exact ⟨w, (wipe_some q1).1, q2⟩
  · obtain ⟨w, q1, q2⟩ := r.own j x e
    exact ⟨w, (wipe_some q1).1, q2⟩
  · obtain ⟨w, q1, _⟩ := r.own j x e1
    obtain ⟨w', q2, _⟩ := r.own k y e2
    have z1 := (wipe_some q1).1
    have z2 := (wipe_some q2).1
    rw [z1] at e3
    rw [z2] at e4
    cases e3
    cases e4
    exact r.inj j k x y _ e1 e2 q1 q2
theorem wipe_at : ∀ {vs : List Nat}, i ∈ vs → (L2.wipe σ vs)[i]? = if i < σ.length then some none else none
  | [], h => by cases h
  | v :: vs, h => by
    show ((L2.wipe σ vs).set v none)[i]? = _
    by_cases hv : v = i
    · subst hv
      rw [List.getElem?_set, if_pos rfl, wipe_length]
    · rw [List.getElem?_set_ne hv]
      exact wipe_at ((List.mem_cons.mp h).resolve_left fun z => hv z.symm)
theorem wipe_agree {l : List Nat} (hl : ∀ i ∈ l, i ∈ vs) (len : σ'.length = σ.length) (a : Agree l (L2.wipe σ vs) σ') : L2.wipe σ' vs = L2.wipe σ vs := by
  apply List.ext_getElem?
  intro i
  by_cases hi : i ∈ vs
  · rw [wipe_at hi, wipe_at hi, len]
  · rw [wipe_out hi, a i fun z => hi (hl i z)]
end

/-! ### comprehensions -/
/-- within a comprehension: the list at D is acc so far -/
def CS (A1 M1 : AS) (H1 : Hp) (D : Addr) (σ : L2.St) (ρ : Rho) (acc : List PyData) (H : Hp) : Prop :=
  ∃ A2 M2 xs, Shr A1 M1 A2 M2 ∧ Kp (orA M1 D) H1 H ∧ RE A2 M2 H ρ σ ∧ A2 D ∧ H D = some (.lst xs) ∧ RelAll A2 H xs acc
theorem CS.lat {A1 M1 : AS} {H1 : Hp} {D : Addr} {σ : L2.St} {ρ : Rho} {acc : List PyData} {H : Hp} (hs : ∀ a, M1 a → A1 a) (hD : A1 D) (c : CS A1 M1 H1 D σ ρ acc H) : ∃ A2, Lat A1 A2 H1 H ∧ Kp A1 H1 H := by
  obtain ⟨A2, M2, xs, s, k, _⟩ := c
  have k' : Kp A1 H1 H := k.mono fun a z => by
    rcases z with z | z
    · exact hs a z
    · rw [z]; exact hD
  exact ⟨A2, ⟨k', fun a z => .inl (s.a a z)⟩, k'⟩
def stepC (F : Fns) (mc me : ME) : Rho → List PyData → Option (Rho × List PyData) := fun ρ acc =>
  (evT F mc ρ).bind fun (t, ρ2) => if t then (evE F me ρ2).bind fun (d, _, ρ3) => if acc.length < sizeLine then some (ρ3, acc ++ [d]) else none else some (ρ2, acc)
theorem cs_step {F : Fns} {mc me : ME} {A1 M1 : AS} {H1 : Hp} {D : Addr} {σ : L2.St} {ρ ρ' : Rho} {acc acc' : List PyData} {H : Hp} {Nx : Hp → Prop} (nD : ¬ M1 D) (c : CS A1 M1 H1 D σ ρ acc H) (ev : stepC F mc me ρ acc = some (ρ', acc'))
    (nx : ∀ H, CS A1 M1 H1 D σ ρ' acc' H → Nx H) :
    (tT F mc) σ H fun b H3 => if b = true then (tE F me) σ H3 fun y H4 => ∃ acc, H4 D = some (.lst acc) ∧ acc.length < sizeLine ∧ Nx (upd H4 D (.lst (acc ++ [y]))) else Nx H3 := by
  obtain ⟨A2, M2, xs, s, k, r, hD, hx, rx⟩ := c
  unfold stepC at ev
  simp only [Option.bind_eq_some_iff] at ev
  obtain ⟨⟨t, ρ2⟩, h1, h2⟩ := ev
  have nD2 : ¬ M2 D := fun z => nD (s.m D z)
  refine ⟨A2, M2, ρ, t, ρ2, r, h1, fun H3 A3 M3 s3 k3 r3 => ?_⟩
  have hD3 : A3 D := Classical.byContradiction fun n => nD2 (s3.d D hD n)
  have hx3 : H3 D = some (.lst xs) := k3.same _ _ hx fun z => absurd z nD2
  have rx3 : RelAll A3 H3 xs acc := (rx.keep r.sub k3).anti s3.a
  have k3' : Kp (orA M1 D) H1 H3 := k.trans (k3.mono fun a z => .inl (s.m a z))
  cases t with
  | false =>
    cases h2
    exact iteF (nx H3 ⟨A3, M3, xs, s.trans s3, k3', r3, hD3, hx3, rx3⟩)
  | true =>
    rw [if_pos rfl] at h2
    simp only [Option.bind_eq_some_iff] at h2
    obtain ⟨⟨d, fr, ρ3⟩, h3, h4⟩ := h2
    split at h4
    · rename_i hl
      cases h4
      refine iteT ⟨A3, M3, ρ2, d, fr, _, r3, h3, fun y H4 p => ?_⟩
      obtain ⟨A4, M4, s4, k4, r4, b4⟩ := p.std r3.live
      have nD3 : ¬ M3 D := fun z => nD2 (s3.m D z)
      have hD4 : A4 D := Classical.byContradiction fun n => nD3 (s4.d D hD3 n)
      have hx4 : H4 D = some (.lst xs) := k4.same _ _ hx3 fun z => absurd z nD3
      have rx4 : RelAll A4 H4 xs acc := (rx3.keep r3.sub k4).anti s4.a
      have kD : Kp (fun a => a = D) H4 (upd H4 D (.lst (xs ++ [y]))) := Kp.wr rfl hx4 trivial
      have sD : ∀ a, a = D → A4 a := fun a z => z ▸ hD4
      refine ⟨xs, hx4, by rw [rx4.length]; exact hl, nx _ ⟨A4, M4, xs ++ [y], (s.trans s3).trans s4, ?_, r4.keepM sD (fun a z e => nD3 (s4.m D (e ▸ z))) kD, hD4, upd_same, ?_⟩⟩
      · exact (k3'.trans (k4.mono fun a z => .inl (s.m a (s3.m a z)))).trans (kD.mono fun a z => .inr z)
      · exact ((rx4.keep sD kD)).append (.cons (b4.keep sD kD) .nil)
    · cases h4
theorem drop_cons {ds : List PyData} {i : Nat} {d : PyData} (h : ds[i]? = some d) : ds.drop i = d :: ds.drop (i + 1) := by
  obtain ⟨hi, e⟩ := List.getElem?_eq_some_iff.mp h
  rw [List.drop_eq_getElem_cons hi, e]
/-- the state behind, seen from ahead of D -/
theorem CS.pst {A M A1 M1 : AS} {H0 H1 : Hp} {D : Addr} {σ : L2.St} {ρ : Rho} {acc : List PyData} {H : Hp} {vs : List Nat} (s0 : Shr A M A1 M1) (k0 : Kp M H0 H1) (l0 : ∀ a, A a → ∃ o, H0 a = some o) (l1 : ∀ a, A1 a → ∃ o, H1 a = some o) (hD : H1 D = none) (m1 : ∀ a, M1 a → A1 a)
    (c : CS (orA A1 D) M1 (upd H1 D (.lst [])) D (L2.wipe σ vs) ρ acc H) : Pst A M H0 ρ σ (.list acc) true (.ref D) H := by
  obtain ⟨A2, M2, xs, s, k, r, hA, hx, rx⟩ := c
  have nA1 : ¬ A1 D := fun z => by obtain ⟨o, e⟩ := l1 D z; rw [hD] at e; cases e
  have nM2 : ¬ M2 D := fun z => nA1 (m1 D (s.m D z))
  have eA : orA (butA A2 D) D = A2 := funext fun x => propext ⟨fun z => by
    rcases z with z | z
    · exact z.1
    · rw [z]; exact hA, fun z => by
    by_cases e : x = D
    · exact .inr e
    · exact .inl ⟨z, e⟩⟩
  have r' : RE A2 M2 H ρ σ := r.unwipe
  have hD0 : H0 D = none := by
    cases e : H0 D with
    | none => rfl
    | some o => obtain ⟨o', e'⟩ := k0.live D o e; rw [hD] at e'; cases e'
  have kk : Kp M1 H1 H := ⟨fun a o h n => k.same a o (by rw [upd_ne (ne_of_none h hD)]; exact h) fun z => by
      rcases z with z | z
      · exact n z
      · exact absurd z (ne_of_none h hD), fun a o h => k.live a o (by rw [upd_ne (ne_of_none h hD)]; exact h)⟩
  refine ⟨?_, fun _ _ => nofun⟩
  refine ⟨butA A2 D, M2, ⟨fun x z => ?_, fun x z => s0.m x (s.m x z), fun x h n => ?_⟩, k0.comp s0 kk, ?_, (fun e => nomatch e), fun _ => ⟨D, rfl, hD0, by rw [eA]; exact r', by rw [eA]; exact .inl ⟨xs, acc, rfl, hx, rx⟩⟩⟩
  · rcases s.a x z.1 with q | q
    · exact s0.a x q
    · exact absurd q z.2
  · by_cases h1 : A1 x
    · have hx' : x ≠ D := fun e => nA1 (e ▸ h1)
      exact s0.m x (s.d x (.inl h1) fun z => n ⟨z, hx'⟩)
    · exact s0.d x h h1
  · exact ⟨r'.len, fun a z => ⟨r'.sub a z, fun e => nM2 (e ▸ z)⟩, fun a z => r'.live a z.1, fun i d e => let ⟨v, q1, q2⟩ := r'.dat i d e; ⟨v, q1, q2.anti fun _ z => z.1⟩,
      fun i d e => let ⟨a, q1, q2, q3⟩ := r'.own i d e; ⟨a, q1, q2, q3.anti fun _ z => z.1⟩, r'.inj⟩
theorem CS.start {A1 M1 : AS} {H1 : Hp} {D : Addr} {σ : L2.St} {ρ : Rho} {vs : List Nat} (r : RE A1 M1 H1 ρ σ) (hD : H1 D = none) : CS (orA A1 D) M1 (upd H1 D (.lst [])) D (L2.wipe σ vs) (wipeR ρ vs) [] (upd H1 D (.lst [])) :=
  ⟨orA A1 D, M1, [], Shr.refl _ _, Kp.refl _ _, (r.fresh hD ⟨_, upd_same⟩ (Kp.new hD)).wipe vs, .inr rfl, upd_same, .nil⟩
theorem Lat.before {A1 A2 M1 : AS} {H1 : Hp} {D : Addr} {H : Hp} (hD : H1 D = none) (l : Lat (orA A1 D) A2 (upd H1 D (.lst [])) H) : Lat A1 A2 H1 H := by
  refine ⟨⟨fun a o h n => l.1.same a o (by rw [upd_ne (ne_of_none h hD)]; exact h) fun z => ?_, fun a o h => l.1.live a o (by rw [upd_ne (ne_of_none h hD)]; exact h)⟩, fun a z => ?_⟩
  · rcases z with z | z
    · exact n z
    · exact absurd z (ne_of_none h hD)
  · rcases l.2 a z with (q | q) | q
    · exact .inl q
    · exact .inr (by rw [q]; exact hD)
    · by_cases e : a = D
      · exact .inr (by rw [e]; exact hD)
      · rw [upd_ne e] at q; exact .inr q
section
variable {X : Cx} {F : Fns} {e elt tg iter tg1 iter1 : Expr} {ifs ifs1 : List Expr} {scope : Scope} {own : List (Str × Nat)} {pos : Pos} {mi mc me mi1 mc1 : ME} {t t1 : MT}
/-- one turn of a comprehension begins -/
theorem CS.turn {A1 M1 : AS} {H1 : Hp} {D : Addr} {σ σw : L2.St} {ρ ρ1 : Rho} {acc : List PyData} {H H' : Hp} {x : V} {d : PyData} {vs : List Nat} {Q : L2.St → Hp → Prop} (c : CS A1 M1 H1 D σw ρ acc H) (hw : σw = L2.wipe σ vs) (hv : ∀ i ∈ slotsT t, i ∈ vs)
    (hx : ∀ A2 M2, Shr A1 M1 A2 M2 → Kp No H H' ∧ Rel A2 H' x d) (hb : bindT t d ρ = some ρ1) (q : ∀ σ2, L2.wipe σ2 vs = σw → CS A1 M1 H1 D σ2 ρ1 acc H' → Q σ2 H') : gM t x σw H' Q := by
  obtain ⟨A2, M2, xs, s, k, r, hD, hx1, rx⟩ := c
  obtain ⟨kn, rel⟩ := hx A2 M2 s
  refine ⟨A2, M2, ρ, d, ρ1, r.keep kn, rel, hb, fun σ2 r2 ag => q σ2 ?_ ⟨A2, M2, xs, s, k.trans kn.of, r2, hD, kn.same _ _ hx1 (fun z => z.elim), rx.keep (M := No) (fun _ z => z.elim) kn⟩⟩
  subst hw
  have hl : ρ1.length = ρ.length := bindT_length hb
  exact wipe_agree hv (by rw [← r2.len, hl, r.len, wipe_length]) ag
theorem CS.wiped {A1 M1 : AS} {H1 : Hp} {D : Addr} {σ : L2.St} {ρ : Rho} {acc : List PyData} {H : Hp} (vs : List Nat) (c : CS A1 M1 H1 D σ ρ acc H) : CS A1 M1 H1 D (L2.wipe σ vs) (wipeR ρ vs) acc H := by
  obtain ⟨A2, M2, xs, s, k, r, rest⟩ := c
  exact ⟨A2, M2, xs, s, k, r.wipe vs, rest⟩
theorem e_comp (hc : X.calm = true) (hN : X.N.Nodup) (hi : PI X tg iter (tI F mi)) (ok : BlkOk X.N X.env.scope scope own) (hv : ∀ i ∈ slotsT t, i ∈ own.map (·.2))
    (hg : ∀ (s : Shared) (H : Hp) (C : Addr) (cl : List (Str × Addr)) (fp : List Addr), PG (X.blk s H scope (compEnvC scope cl C X.env) fp) tg (gM t))
    (ht : ∀ (s : Shared) (H : Hp) (C : Addr) (cl : List (Str × Addr)) (fp : List Addr), PTs (X.blk s H scope (compEnvC scope cl C X.env) fp) ifs (tT F mc))
    (he : ∀ (s : Shared) (H : Hp) (C : Addr) (cl : List (Str × Addr)) (fp : List Addr), PE (X.blk s H scope (compEnvC scope cl C X.env) fp) elt (tE F me)) (hs : ∀ x, foldedSetIterable iter X.env x = pure x) :
    PE X (.ListComp elt [⟨tg, iter, ifs, 0⟩] scope pos) (tE F (.comp (own.map (·.2)) t mi mc me)) := by
  refine (pe_lc hc hN hi ok hg ht he hs).imp fun σ H Q h => comp_read hv h
where
  comp_read {vs : List Nat} {σ : L2.St} {H : Hp} {Q : VK} (hv : ∀ i ∈ slotsT t, i ∈ vs) (h : tE F (.comp vs t mi mc me) σ H Q) : tLc (tI F mi) (gM t) (tT F mc) (tE F me) vs σ H Q := by
    obtain ⟨A, M, ρ, d, fr, ρ', r, ev, q⟩ := h
    simp only [evE, Option.bind_eq_some_iff, Option.map_eq_some_iff] at ev
    obtain ⟨⟨ds, ρ1⟩, h1, ⟨ρ4, accF⟩, h2, h3⟩ := ev
    cases h3
    refine ⟨A, M, ρ, ds, ρ1, r, h1, fun J H1 A1 M1 s1 k1 r1 it D hD => ?_⟩
    obtain ⟨G, Y, w, hG, hY⟩ := it
    have nM : ¬ M1 D := fun z => r1.not_fresh hD (r1.sub D z)
    have sub : ∀ a, M1 a → orA A1 D a := fun a z => .inl (r1.sub a z)
    refine lc_it w (fun i H => ∃ ρ2 acc, CS (orA A1 D) M1 (upd H1 D (.lst [])) D (L2.wipe σ vs) ρ2 acc H ∧ turns t (stepC F mc me) vs (ds.drop i) ρ2 acc = some (ρ4, accF)) ⟨_, _, CS.start r1 hD, h2⟩ (fun i H _ ⟨ρ2, acc, c, _⟩ => ?_) (fun i x H H' hi ⟨ρ2, acc, c, ht⟩ y => ?_) fun H ⟨ρ2, acc, c, ht⟩ => ?_
    · obtain ⟨A2, l, _⟩ := c.lat sub (.inr rfl)
      exact hG H (Lat.before (M1 := M1) hD l).1
    · obtain ⟨A2, l, _⟩ := c.lat sub (.inr rfl)
      obtain ⟨kn, d, hd, _⟩ := hY i A2 H x H' hi (Lat.before (M1 := M1) hD l) y
      rw [drop_cons hd] at ht
      simp only [turns, Option.bind_eq_some_iff] at ht
      obtain ⟨ρ3, g1, ⟨ρ5, acc5⟩, g2, g3⟩ := ht
      refine c.turn rfl hv (fun A3 M3 s3 => ?_) g1 fun σ2 hw c2 => ⟨hw, cs_step nM c2 g2 fun H5 c5 => ⟨_, _, by rw [← hw]; exact c5.wiped vs, g3⟩⟩
      obtain ⟨kn', d', hd', rel'⟩ := hY i A3 H x H' hi (Lat.before (M1 := M1) hD ⟨l.1, fun a z => .inl (s3.a a z)⟩) y
      rw [hd] at hd'
      cases hd'
      exact ⟨kn', rel'⟩
    · rw [List.drop_length] at ht
      cases ht
      exact q _ _ (CS.pst s1 k1 r.live r1.live hD r1.sub c)
/-- the inner walk of a comprehension, from where it stands -/
theorem inner_it {J : It} {n : Nat} {G : Hp → Prop} {Y : Nat → Hp → V → Hp → Prop} {g : TG} {tt : TT} {te : TE} {vs : List Nat} {σ : L2.St} {H0 : Hp} {D : Addr} {Nx : Hp → Prop} (w : Walk J n G Y) (P : Nat → Hp → Prop)
    (h0 : P 0 H0) (hG : ∀ i H, i ≤ n → P i H → G H) (hd : ∀ H, P n H → Nx H)
    (hs : ∀ i x H H', i < n → P i H → Y i H x H' → g x (L2.wipe σ vs) H' fun σ2 H2 => L2.wipe σ2 vs = L2.wipe σ vs ∧ tt σ2 H2 fun b H3 =>
      if b = true then te σ2 H3 fun y H4 => ∃ acc, H4 D = some (.lst acc) ∧ acc.length < sizeLine ∧ P (i + 1) (upd H4 D (.lst (acc ++ [y]))) else P (i + 1) H3) :
    ∃ W : Nat → Nat → Hp → Prop, (∃ m, W 0 m H0) ∧ ∀ j k H, W j k H → (J.stop j H ∧ Nx H) ∨ (J.go j H ∧ ∃ N : Hp → Prop, (∀ H', N H' → ∃ k', k' < k ∧ W (j + 1) k' H') ∧
      ∀ x H', J.yld j H x H' → g x (L2.wipe σ vs) H' fun σ2 H2 => L2.wipe σ2 vs = L2.wipe σ vs ∧ tt σ2 H2 fun b H3 =>
        if b = true then te σ2 H3 fun y H4 => ∃ acc, H4 D = some (.lst acc) ∧ acc.length < sizeLine ∧ N (upd H4 D (.lst (acc ++ [y]))) else N H3) := by
  refine ⟨fun j k H => j + k = n ∧ P j H, ⟨n, Nat.zero_add n, h0⟩, fun j k H hw => ?_⟩
  obtain ⟨e, p⟩ := hw
  cases k with
  | zero =>
    have e' : j = n := e
    subst e'
    exact .inl ⟨w.stops H (hG _ H (Nat.le_refl _) p), hd H p⟩
  | succ k =>
    have hj : j < n := by omega
    have g := hG j H (Nat.le_of_lt hj) p
    exact .inr ⟨w.goes j H hj g, P (j + 1), fun H' p' => ⟨k, Nat.lt_succ_self k, by omega, p'⟩, fun x H' y => hs j x H H' hj p (w.yields j H x H' hj g y)⟩
theorem wipe_wipe {σ : L2.St} {vs vs1 : List Nat} (h : ∀ i ∈ vs1, i ∈ vs) : L2.wipe (L2.wipe σ vs1) vs = L2.wipe σ vs := by
  apply List.ext_getElem?
  intro i
  by_cases hi : i ∈ vs
  · rw [wipe_at hi, wipe_at hi, wipe_length]
  · rw [wipe_out hi, wipe_out hi, wipe_out fun z => hi (h i z)]
theorem e_comp2 {vs1 : List Nat} (hc : X.calm = true) (hN : X.N.Nodup) (hi : PI X tg iter (tI F mi)) (ok : BlkOk X.N X.env.scope scope own) (hv : ∀ i ∈ slotsT t, i ∈ own.map (·.2)) (hv1 : ∀ i ∈ vs1, i ∈ own.map (·.2)) (hv2 : ∀ i ∈ slotsT t1, i ∈ vs1)
    (hg : ∀ (s : Shared) (H : Hp) (C : Addr) (cl : List (Str × Addr)) (fp : List Addr), PG (X.blk s H scope (compEnvC scope cl C X.env) fp) tg (gM t))
    (ht : ∀ (s : Shared) (H : Hp) (C : Addr) (cl : List (Str × Addr)) (fp : List Addr), PTs (X.blk s H scope (compEnvC scope cl C X.env) fp) ifs (tT F mc))
    (hi1 : ∀ (s : Shared) (H : Hp) (C : Addr) (cl : List (Str × Addr)) (fp : List Addr), PI (X.blk s H scope (compEnvC scope cl C X.env) fp) tg1 iter1 (tI F mi1))
    (hg1 : ∀ (s : Shared) (H : Hp) (C : Addr) (cl : List (Str × Addr)) (fp : List Addr), PG (X.blk s H scope (compEnvC scope cl C X.env) fp) tg1 (gM t1))
    (ht1 : ∀ (s : Shared) (H : Hp) (C : Addr) (cl : List (Str × Addr)) (fp : List Addr), PTs (X.blk s H scope (compEnvC scope cl C X.env) fp) ifs1 (tT F mc1))
    (he : ∀ (s : Shared) (H : Hp) (C : Addr) (cl : List (Str × Addr)) (fp : List Addr), PE (X.blk s H scope (compEnvC scope cl C X.env) fp) elt (tE F me)) (hs : ∀ x, foldedSetIterable iter X.env x = pure x) (hs1 : ∀ env x, foldedSetIterable iter1 env x = pure x) :
    PE X (.ListComp elt [⟨tg, iter, ifs, 0⟩, ⟨tg1, iter1, ifs1, 0⟩] scope pos) (tE F (.comp2 (own.map (·.2)) vs1 t mi mc t1 mi1 mc1 me)) := by
  refine (pe_lc2 hc hN hi ok hv1 hg ht hi1 hg1 ht1 he hs hs1).imp fun σ H Q h => comp2_read hv hv1 hv2 h
where
  comp2_read {vs vs1 : List Nat} {σ : L2.St} {H : Hp} {Q : VK} (hv : ∀ i ∈ slotsT t, i ∈ vs) (hv1 : ∀ i ∈ vs1, i ∈ vs) (hv2 : ∀ i ∈ slotsT t1, i ∈ vs1) (h : tE F (.comp2 vs vs1 t mi mc t1 mi1 mc1 me) σ H Q) :
      tLc2 (tI F mi) (gM t) (tT F mc) (tI F mi1) (gM t1) (tT F mc1) (tE F me) vs vs1 σ H Q := by
    obtain ⟨A, M, ρ, d, fr, ρ', r, ev, q⟩ := h
    simp only [evE, Option.bind_eq_some_iff, Option.map_eq_some_iff] at ev
    obtain ⟨⟨ds, ρ1⟩, h1, ⟨ρ4, accF⟩, h2, h3⟩ := ev
    cases h3
    refine ⟨A, M, ρ, ds, ρ1, r, h1, fun J H1 A1 M1 s1 k1 r1 it D hD => ?_⟩
    obtain ⟨G, Y, w, hG, hY⟩ := it
    have nM : ¬ M1 D := fun z => r1.not_fresh hD (r1.sub D z)
    have sub : ∀ a, M1 a → orA A1 D a := fun a z => .inl (r1.sub a z)
    refine ⟨fun i m H => i + m = ds.length ∧ ∃ ρ2 acc, CS (orA A1 D) M1 (upd H1 D (.lst [])) D (L2.wipe σ vs) ρ2 acc H ∧ turns t (fun ρ acc => (evT F mc ρ).bind fun (t, ρ2) => if t then (evI F mi1 ρ2).bind fun (ds1, ρ3) =>
        turns t1 (stepC F mc1 me) vs1 ds1 (wipeR ρ3 vs1) acc else some (ρ2, acc)) vs (ds.drop i) ρ2 acc = some (ρ4, accF), ⟨ds.length, Nat.zero_add _, _, _, CS.start r1 hD, h2⟩, fun i m H hw => ?_⟩
    obtain ⟨em, ρ2, acc, c, ht⟩ := hw
    obtain ⟨A2, l, _⟩ := c.lat sub (.inr rfl)
    have gH := hG H (Lat.before (M1 := M1) hD l).1
    cases m with
    | zero =>
      have ei : i = ds.length := em
      subst ei
      rw [List.drop_length] at ht
      cases ht
      exact .inl ⟨w.stops H gH, q _ _ (CS.pst s1 k1 r.live r1.live hD r1.sub c)⟩
    | succ m =>
      have hi : i < ds.length := by omega
      refine .inr ⟨w.goes i H hi gH, fun H' => ∃ ρ2 acc, CS (orA A1 D) M1 (upd H1 D (.lst [])) D (L2.wipe σ vs) ρ2 acc H' ∧ turns t (fun ρ acc => (evT F mc ρ).bind fun (t, ρ2) => if t then (evI F mi1 ρ2).bind fun (ds1, ρ3) =>
        turns t1 (stepC F mc1 me) vs1 ds1 (wipeR ρ3 vs1) acc else some (ρ2, acc)) vs (ds.drop (i + 1)) ρ2 acc = some (ρ4, accF), fun H' p => ⟨m, Nat.lt_succ_self m, by omega, p⟩, fun x H' y => ?_⟩
      have y' := w.yields i H x H' hi gH y
      obtain ⟨kn, d, hd, _⟩ := hY i A2 H x H' hi (Lat.before (M1 := M1) hD l) y'
      rw [drop_cons hd] at ht
      simp only [turns, Option.bind_eq_some_iff] at ht
      obtain ⟨ρ3, g1, ⟨ρ5, acc5⟩, ⟨⟨b, ρ6⟩, g2, g3⟩, g4⟩ := ht
      refine c.turn rfl hv (fun A3 M3 s3 => ?_) g1 fun σ2 hw c2 => ⟨hw, ?_⟩
      · obtain ⟨kn', d', hd', rel'⟩ := hY i A3 H x H' hi (Lat.before (M1 := M1) hD ⟨l.1, fun a z => .inl (s3.a a z)⟩) y'
        rw [hd] at hd'
        cases hd'
        exact ⟨kn', rel'⟩
      · obtain ⟨A3, M3, xs, s3, k3, r3, hA3, hx3, rx3⟩ := c2
        have nM3 : ¬ M3 D := fun z => nM (s3.m D z)
        refine ⟨A3, M3, ρ3, b, ρ6, r3, g2, fun H5 A5 M5 s5 k5 r5 => ?_⟩
        have hA5 : A5 D := Classical.byContradiction fun n => nM3 (s5.d D hA3 n)
        have hx5 : H5 D = some (.lst xs) := k5.same _ _ hx3 fun z => absurd z nM3
        have rx5 : RelAll A5 H5 xs acc := (rx3.keep r3.sub k5).anti s5.a
        have k5' := k3.trans (k5.mono fun a z => .inl (s3.m a z))
        cases b with
        | false =>
          cases g3
          exact iteF ⟨_, _, by rw [← hw]; exact CS.wiped vs ⟨A5, M5, xs, s3.trans s5, k5', r5, hA5, hx5, rx5⟩, g4⟩
        | true =>
          rw [if_pos rfl] at g3
          simp only [Option.bind_eq_some_iff] at g3
          obtain ⟨⟨ds1, ρ7⟩, g5, g6⟩ := g3
          have nM5 : ¬ M5 D := fun z => nM3 (s5.m D z)
          refine iteT ⟨A5, M5, ρ6, ds1, ρ7, r5, g5, fun J1 H6 A6 M6 s6 k6 r6 it1 => ?_⟩
          obtain ⟨G1, Y1, w1, hG1, hY1⟩ := it1
          have hA6 : A6 D := Classical.byContradiction fun n => nM5 (s6.d D hA5 n)
          have hx6 : H6 D = some (.lst xs) := k6.same _ _ hx5 fun z => absurd z nM5
          have rx6 : RelAll A6 H6 xs acc := (rx5.keep r5.sub k6).anti s6.a
          have nM6 : ¬ M6 D := fun z => nM5 (s6.m D z)
          refine inner_it w1 (fun j H => ∃ ρ8 acc8, CS A6 M6 H6 D (L2.wipe σ2 vs1) ρ8 acc8 H ∧ turns t1 (stepC F mc1 me) vs1 (ds1.drop j) ρ8 acc8 = some (ρ5, acc5)) ⟨_, _, ⟨A6, M6, xs, Shr.refl _ _, Kp.refl _ _, r6.wipe vs1, hA6, hx6, rx6⟩, g6⟩
            (fun j H _ ⟨ρ8, acc8, c8, _⟩ => ?_) (fun H ⟨ρ8, acc8, c8, ht8⟩ => ?_) fun j x H H' hj ⟨ρ8, acc8, c8, ht8⟩ y => ?_
          · obtain ⟨A9, l9, k9⟩ := c8.lat r6.sub hA6
            exact hG1 H k9
          · rw [List.drop_length] at ht8
            cases ht8
            have hw2 : L2.wipe (L2.wipe σ2 vs1) vs = L2.wipe σ vs := (wipe_wipe hv1).trans hw
            refine ⟨_, _, ?_, g4⟩
            rw [← hw2]
            refine CS.wiped vs ?_
            obtain ⟨A9, M9, ys, s9, k9, r9, hA9, hx9, rx9⟩ := c8
            refine ⟨A9, M9, ys, ((s3.trans s5).trans s6).trans s9, ?_, r9, hA9, hx9, rx9⟩
            exact (k5'.trans (k6.mono fun a z => .inl (s3.m a (s5.m a z)))).trans (k9.mono fun a z => by
              rcases z with z | z
              · exact .inl (s3.m a (s5.m a (s6.m a z)))
              · exact .inr z)
          · obtain ⟨A9, l9, k9⟩ := c8.lat r6.sub hA6
            obtain ⟨kn1, d1, hd1, _⟩ := hY1 j A9 H x H' hj l9 y
            rw [drop_cons hd1] at ht8
            simp only [turns, Option.bind_eq_some_iff] at ht8
            obtain ⟨ρ9, f1, ⟨ρ10, acc10⟩, f2, f3⟩ := ht8
            refine c8.turn rfl hv2 (fun A11 M11 s11 => ?_) f1 fun σ3 hw3 c3 => ⟨hw3, cs_step nM6 c3 f2 fun H12 c12 => ⟨_, _, by rw [← hw3]; exact c12.wiped vs1, f3⟩⟩
            obtain ⟨kn', d', hd', rel'⟩ := hY1 j A11 H x H' hj ⟨l9.1, fun a z => .inl (s11.a a z)⟩ y
            rw [hd1] at hd'
            cases hd'
            exact ⟨kn', rel'⟩
end
end MI

/-! MI7: calls of the program's own defs. -/
namespace MI
open PySem PySem.Spec PyProof.Rows L2
variable [EK]

section
variable {A A2 M M' N : AS} {H H' : Hp} {v : V} {d e : PyData} {ρ ρ' : Rho} {σ σ' : L2.St} {i : Nat} {a : Addr}
theorem set_cases {ρ : Rho} {i j : Nat} {s x : Slot} (h : (ρ.set i x)[j]? = some s) : (j = i ∧ s = x) ∨ (j ≠ i ∧ ρ[j]? = some s) := by
  by_cases hj : j = i
  · subst hj
    have hl : j < (ρ.set j x).length := (List.getElem?_eq_some_iff.mp h).1
    rw [List.length_set] at hl
    rw [List.getElem?_set_self hl] at h
    exact .inl ⟨rfl, (Option.some.inj h).symm⟩
  · rw [List.getElem?_set_ne (Ne.symm hj)] at h
    exact .inr ⟨hj, h⟩
theorem RE.setOwn (r : RE A M H ρ σ) (hσ : σ[i]? = some (some (.ref a))) (hA : A a) (nM : ¬ M a) (ho : Own A H a e) : RE A (orA M a) H (ρ.set i (.own e)) σ := by
  refine ⟨by rw [List.length_set]; exact r.len, fun b z => ?_, r.live, fun j x h => ?_, fun j x h => ?_, fun j k x y b h1 h2 h3 h4 => ?_⟩
  · rcases z with z | z
    · exact r.sub b z
    · rw [z]; exact hA
  · rcases set_cases h with ⟨_, q⟩ | ⟨_, q⟩
    · cases q
    · exact r.dat j x q
  · rcases set_cases h with ⟨rfl, q⟩ | ⟨_, q⟩
    · cases q; exact ⟨a, hσ, .inr rfl, ho⟩
    · obtain ⟨b, e1, e2, e3⟩ := r.own j x q
      exact ⟨b, e1, .inl e2, e3⟩
  · rcases set_cases h1 with ⟨rfl, q1⟩ | ⟨n1, q1⟩
    · rcases set_cases h2 with ⟨rfl, q2⟩ | ⟨n2, q2⟩
      · rfl
      · obtain ⟨b', e1, e2, _⟩ := r.own k y q2
        rw [hσ] at h3
        rw [e1] at h4
        cases h3
        cases h4
        exact absurd e2 nM
    · rcases set_cases h2 with ⟨rfl, q2⟩ | ⟨n2, q2⟩
      · obtain ⟨b', e1, e2, _⟩ := r.own j x q1
        rw [hσ] at h4
        rw [e1] at h3
        cases h3
        cases h4
        exact absurd e2 nM
      · exact r.inj j k x y b q1 q2 h3 h4
theorem RE.setDat' (r : RE A M H ρ σ) (hσ : σ[i]? = some (some v)) (ho : Rel A H v e) : RE A M H (ρ.set i (.dat e)) σ := by
  refine ⟨by rw [List.length_set]; exact r.len, r.sub, r.live, fun j x h => ?_, fun j x h => ?_, fun j k x y b h1 h2 h3 h4 => ?_⟩
  · rcases set_cases h with ⟨rfl, q⟩ | ⟨_, q⟩
    · cases q; exact ⟨v, hσ, ho⟩
    · exact r.dat j x q
  · rcases set_cases h with ⟨_, q⟩ | ⟨_, q⟩
    · cases q
    · exact r.own j x q
  · rcases set_cases h1 with ⟨_, q1⟩ | ⟨_, q1⟩
    · cases q1
    · rcases set_cases h2 with ⟨_, q2⟩ | ⟨_, q2⟩
      · cases q2
      · exact r.inj j k x y b q1 q2 h3 h4
theorem RE.setNo' (r : RE A M H ρ σ) : RE A M H (ρ.set i .no) σ := by
  refine ⟨by rw [List.length_set]; exact r.len, r.sub, r.live, fun j x h => ?_, fun j x h => ?_, fun j k x y b h1 h2 h3 h4 => ?_⟩
  · rcases set_cases h with ⟨_, q⟩ | ⟨_, q⟩
    · cases q
    · exact r.dat j x q
  · rcases set_cases h with ⟨_, q⟩ | ⟨_, q⟩
    · cases q
    · exact r.own j x q
  · rcases set_cases h1 with ⟨_, q1⟩ | ⟨_, q1⟩
    · cases q1
    · rcases set_cases h2 with ⟨_, q2⟩ | ⟨_, q2⟩
      · cases q2
      · exact r.inj j k x y b q1 q2 h3 h4
/-- what is lent is taken out of M -/
theorem RE.lendOut (r : RE A M H ρ σ) (e1 : ρ[i]? = some (Slot.own d)) (hσ : σ[i]? = some (some (.ref a))) : RE A (butA M a) H (ρ.set i .no) σ := by
  have r' : RE A M H (ρ.set i .no) σ := r.setNo'
  refine ⟨r'.len, fun b z => r.sub b z.1, r.live, r'.dat, fun j x h => ?_, r'.inj⟩
  obtain ⟨b, q1, q2, q3⟩ := r'.own j x h
  refine ⟨b, q1, ⟨q2, fun z => ?_⟩, q3⟩
  subst z
  rcases set_cases h with ⟨_, q⟩ | ⟨n, q⟩
  · cases q
  · exact n (r.inj j i x d _ q e1 q1 hσ)
theorem RE.nil (hs : ∀ a, M a → A a) (l : ∀ a, A a → ∃ o, H a = some o) : RE A M H [] [] := ⟨rfl, hs, l, fun j x h => by simp at h, fun j x h => by simp at h, fun j k x y b h => by simp at h⟩
theorem RE.consDat {ss : Rho} {σs : L2.St} (r : RE A M H ss σs) (h : Rel A H v d) : RE A M H (.dat d :: ss) (some v :: σs) := by
  refine ⟨congrArg (· + 1) r.len, r.sub, r.live, fun j x e => ?_, fun j x e => ?_, fun j k x y b e1 e2 e3 e4 => ?_⟩
  · cases j with
    | zero => cases e; exact ⟨v, rfl, h⟩
    | succ j => exact r.dat j x e
  · cases j with
    | zero => cases e
    | succ j => exact r.own j x e
  · cases j with
    | zero => cases e1
    | succ j =>
      cases k with
      | zero => cases e2
      | succ k => exact congrArg _ (r.inj j k x y b e1 e2 e3 e4)
theorem RE.consOwn {ss : Rho} {σs : L2.St} (r : RE A N H ss σs) (hs : ∀ b, N b → M b) (hm : ∀ b, M b → A b) (ha : M a) (na : ¬ N a) (h : Own A H a d) : RE A M H (.own d :: ss) (some (.ref a) :: σs) := by
  refine ⟨congrArg (· + 1) r.len, hm, r.live, fun j x e => ?_, fun j x e => ?_, fun j k x y b e1 e2 e3 e4 => ?_⟩
  · cases j with
    | zero => cases e
    | succ j => exact r.dat j x e
  · cases j with
    | zero => cases e; exact ⟨a, rfl, ha, h⟩
    | succ j => obtain ⟨b, q1, q2, q3⟩ := r.own j x e; exact ⟨b, q1, hs b q2, q3⟩
  · cases j with
    | zero =>
      cases k with
      | zero => rfl
      | succ k =>
        obtain ⟨b', q1, q2, _⟩ := r.own k y e2
        have e4' : σs[k]? = some (some (V.ref b)) := e4
        rw [q1] at e4'
        cases e3
        cases e4'
        exact absurd q2 na
    | succ j =>
      cases k with
      | zero =>
        obtain ⟨b', q1, q2, _⟩ := r.own j x e1
        have e3' : σs[j]? = some (some (V.ref b)) := e3
        rw [q1] at e3'
        cases e4
        cases e3'
        exact absurd q2 na
      | succ k => exact congrArg _ (r.inj j k x y b e1 e2 e3 e4)
theorem RE.monoM (r : RE A N H ρ σ) (hs : ∀ b, N b → M b) (hm : ∀ b, M b → A b) : RE A M H ρ σ :=
  ⟨r.len, hm, r.live, r.dat, fun j x e => let ⟨b, q1, q2, q3⟩ := r.own j x e; ⟨b, q1, hs b q2, q3⟩, r.inj⟩
theorem RE.tail {s : Slot} {ss : Rho} {o : Option V} {σs : L2.St} (r : RE A M H (s :: ss) (o :: σs)) : RE A M H ss σs :=
  ⟨Nat.succ.inj r.len, r.sub, r.live, fun j x e => r.dat (j + 1) x e, fun j x e => r.own (j + 1) x e, fun j k x y b e1 e2 e3 e4 => Nat.succ.inj (r.inj (j + 1) (k + 1) x y b e1 e2 e3 e4)⟩
theorem RE.tailOwn {ss : Rho} {σs : L2.St} (r : RE A M H (.own d :: ss) (some (.ref a) :: σs)) : RE A (butA M a) H ss σs := by
  have t := r.tail
  refine ⟨t.len, fun b z => t.sub b z.1, t.live, t.dat, fun j x e => ?_, t.inj⟩
  obtain ⟨b, q1, q2, q3⟩ := t.own j x e
  refine ⟨b, q1, ⟨q2, fun z => ?_⟩, q3⟩
  subst z
  exact absurd (r.inj 0 (j + 1) d x b rfl e rfl q1) (by omega)
end
theorem lend_ok {A : AS} {H : Hp} {σ : L2.St} : ∀ {bs : List Bor} {vs : List V} {M : AS} {ρ ρ' : Rho} {as : List Arg}, RE A M H ρ σ → BRs A H σ vs bs → lend ρ bs = some (as, ρ') →
    ∃ M', (∀ a, M' a → M a) ∧ RE A M' H ρ' σ ∧ RE A (fun a => M a ∧ ¬ M' a) H (as.map argSlot) (vs.map some)
  | [], [], M, ρ, ρ', as, r, _, h => by
    cases h
    exact ⟨M, fun _ z => z, r, RE.nil (fun a z => absurd z.1 z.2) r.live⟩
  | [], _ :: _, _, _, _, _, _, b, _ => b.elim
  | _ :: _, [], _, _, _, _, _, b, _ => b.elim
  | .v d :: bs, v :: vs, M, ρ, ρ', as, r, b, h => by
    simp only [lend, Option.map_eq_some_iff] at h
    obtain ⟨⟨as1, ρ1⟩, h1, h2⟩ := h
    cases h2
    obtain ⟨M', q1, q2, q3⟩ := lend_ok r b.2 h1
    exact ⟨M', q1, q2, q3.consDat b.1⟩
  | .r i :: bs, v :: vs, M, ρ, ρ', as, r, b, h => by
    have hσ : σ[i]? = some (some v) := b.1
    simp only [lend] at h
    split at h
    · rename_i d hd
      simp only [Option.map_eq_some_iff] at h
      obtain ⟨⟨as1, ρ1⟩, h1, h2⟩ := h
      cases h2
      obtain ⟨a, e1, hm, ho⟩ := r.own i d hd
      rw [hσ] at e1
      cases e1
      obtain ⟨M', q1, q2, q3⟩ := lend_ok (r.lendOut hd hσ) b.2 h1
      refine ⟨M', fun x z => (q1 x z).1, q2, q3.consOwn (fun x z => ⟨z.1.1, z.2⟩) (fun x z => r.sub x z.1) ⟨hm, fun z => (q1 a z).2 rfl⟩ (fun z => z.1.2 rfl) ho⟩
    · rename_i d hd
      simp only [Option.map_eq_some_iff] at h
      obtain ⟨⟨as1, ρ1⟩, h1, h2⟩ := h
      cases h2
      obtain ⟨w, e1, rel⟩ := r.dat i d hd
      rw [hσ] at e1
      cases e1
      obtain ⟨M', q1, q2, q3⟩ := lend_ok r b.2 h1
      exact ⟨M', q1, q2, q3.consDat rel⟩
    · cases h
/-- an argument that was lent is a variable -/
def Links (σ : L2.St) : List V → List Bor → Prop
  | v :: vs, .r i :: bs => σ[i]? = some (some v) ∧ Links σ vs bs
  | _ :: vs, .v _ :: bs => Links σ vs bs
  | _, _ => True
theorem BRs.links {A : AS} {H : Hp} {σ : L2.St} : ∀ {vs : List V} {bs : List Bor}, BRs A H σ vs bs → Links σ vs bs
  | [], [], _ => trivial
  | v :: vs, .r i :: bs, h => ⟨h.1, BRs.links h.2⟩
  | v :: vs, .v d :: bs, h => BRs.links (vs := vs) (bs := bs) h.2
  | [], _ :: _, h => h.elim
  | _ :: _, [], h => h.elim
theorem back_ok {A : AS} {H : Hp} {σ : L2.St} : ∀ {bs : List Bor} {vs : List V} {M N : AS} {ρ ρ' : Rho} {as : List Arg} {ss : List Slot}, RE A M H ρ σ → RE A N H ss (vs.map some) → (∀ a, N a → ¬ M a) → Links σ vs bs → back ρ bs as ss = some ρ' →
    RE A (fun a => M a ∨ N a) H ρ' σ
  | [], vs, M, N, ρ, ρ', as, ss, r, q, dis, l, h => by
    have h' : some ρ = some ρ' := by simpa [back] using h
    cases h'
    exact r.monoM (fun _ z => .inl z) fun a z => by
      rcases z with z | z
      · exact r.sub a z
      · exact q.sub a z
  | b :: bs, vs, M, N, ρ, ρ', as, ss, r, q, dis, l, h => by
    cases as with
    | nil => cases b <;> simp [back] at h
    | cons x as =>
      obtain ⟨d, w⟩ := x
      cases ss with
      | nil => cases b <;> cases w <;> simp [back] at h
      | cons s ss =>
        cases vs with
        | nil => have := q.len; simp at this
        | cons v vs =>
          have q' : RE A N H (s :: ss) (some v :: vs.map some) := q
          cases w with
          | false =>
            have h' : back ρ bs as ss = some ρ' := by cases b <;> simpa [back] using h
            have l' : Links σ vs bs := by
              cases b with
              | v _ => exact l
              | r _ => exact l.2
            exact back_ok r q'.tail dis l' h'
          | true =>
            cases b with
            | v _ => simp [back] at h
            | r i =>
              have h' : back (ρ.set i s) bs as ss = some ρ' := by simpa [back] using h
              cases s with
              | no => exact back_ok r.setNo' q'.tail dis l.2 h'
              | dat e =>
                obtain ⟨w, e1, rel⟩ := q'.dat 0 e rfl
                cases e1
                exact back_ok (r.setDat' l.1 rel) q'.tail dis l.2 h'
              | own e =>
                obtain ⟨a, e1, hm, ho⟩ := q'.own 0 e rfl
                cases e1
                have z := back_ok (r.setOwn l.1 (q'.sub a hm) (dis a hm) ho) q'.tailOwn (fun x hx hy => by
                  rcases hy with hy | hy
                  · exact dis x hx.1 hy
                  · exact hx.2 hy) l.2 h'
                refine z.monoM (fun x hx => ?_) fun x hx => ?_
                · rcases hx with (hx | hx) | hx
                  · exact .inl hx
                  · exact .inr (hx ▸ hm)
                  · exact .inr hx.1
                · rcases hx with hx | hx
                  · exact r.sub x hx
                  · exact q.sub x hx

/-! ### a def's promise by the interpreter -/
def spF (F : Fns) (id : Nat) : Sp := fun vs H Q _ => ∃ A M as d fr ss, RE A M H (as.map argSlot) (vs.map some) ∧ F id as = some (d, fr, ss) ∧ ∀ v H', Pst0 A M H ss (vs.map some) d fr v H' → Q v H'
/-- as FnOk, where no repr is under way -/
structure FnG (P : Program) (w : World) (K : PySem.W.Frag) (mg : Str → Option Value) (base : Heap) (k : Nat) (f : Addr) (fd : FuncData) (ps : List Str) (sp : Sp) : Prop where
  len : ∀ vs H Q, sp vs H Q E0 → vs.length = ps.length
  run : ∀ (A : Around) (outer : List Env) (s : Shared) (H : Hp) (args : Args) (us : List Value) (vs : List V) (Q : VK), A.guards = some [] → Room k A → Env0 P w K mg base A outer s H → BindsTo s fd args (ps.zip us) → Vals vs us → sp vs H Q E0 →
    codeAny (model P w) A (.call (.ref f) args) (CR CX0 outer P w H s Q E0) s
section
variable {X : Cx} {k : Nat} {f : Addr} {fd : FuncData} {ps : List Str} {sp : Sp} {x : Str} {p pos : Pos} {e : Expr} {es : List Expr} {t : TA} {F : Fns} {m : ME} {id : Nat}
theorem run_g {pins : List (Addr × Obj)} {σ : L2.St} {H : Hp} {s : Shared} {Q : VK} {us : List Value} {vs : List V} (G : FnG X.prog X.w X.K X.mg X.base k f fd ps sp) (hg : X.A.guards = some []) (hr : Room k X.A) (hb : Binds X.K fd ps [])
    (I : L2.Inv X pins σ H s) (r : Vals vs us) (h : sp vs H Q E0) : wpAny (model X.prog X.w) X.A (call (.ref f) us) (EP X pins σ Q) X.xe s := by
  have hl : us.length = ps.length := r.length.symm.trans (G.len _ _ _ h)
  have bb : BindsTo s fd ⟨us, []⟩ (ps.zip us) := by
    have q := hb s us I.kIn (by rw [List.append_nil]; exact hl)
    rw [List.append_nil] at q
    exact q
  refine wpAny_call (codeAny_mono (G.run X.A X.stack s H ⟨us, []⟩ us vs Q hg hr I.env0 bb r h) fun res s' hq => ?_)
  match res, hq with
  | .error _, z => exact z.elim
  | .ok (.ret u), z => exact I.after z
theorem pe_callG (G : FnG X.prog X.w X.K X.mg X.base k f fd ps sp) (hgd : X.A.guards = some []) (hr : Room k X.A) (hg : Gl X x) (hm : X.mg x = some (.ref f)) (hk : PySem.W.keepIn X.K (.ref f) = true) (hb : Binds X.K fd ps [])
    (ha : PA X (e :: es) t) (hdb : (x == ("__debug__" : Str)) = false) (ns : (e :: es).all noStar = true) : PE X (.Call (.Name x p) (e :: es) [] pos) (fun σ H Q => t σ H fun vs H1 => sp vs H1 Q E0) := by
  rw [List.all_cons, Bool.and_eq_true] at ns
  exact ⟨fun pins s σ H Q I h => wpAny_Call_Name_kw (ld_glob I hg hm (PySem.W.callWith_K (h₀ := X.base) I.ok.mod.kin hk
    (thn (ha.run pos pins s σ H _ I h) fun us s1 ⟨vs, H1, I1, r, q⟩ => ⟨I1.kIn, run_g G hgd hr hb I1 r q⟩) (star_no ns.1) (star_any ns.2)) hdb)⟩
theorem pe_callG0 (G : FnG X.prog X.w X.K X.mg X.base k f fd ps sp) (hgd : X.A.guards = some []) (hr : Room k X.A) (hg : Gl X x) (hm : X.mg x = some (.ref f)) (hk : PySem.W.keepIn X.K (.ref f) = true) (hb : Binds X.K fd ps [])
    (hdb : (x == ("__debug__" : Str)) = false) : PE X (.Call (.Name x p) [] [] pos) (fun σ H Q => tNil σ H fun vs H1 => sp vs H1 Q E0) :=
  ⟨fun pins s σ H Q I h => wpAny_Call_Name_kw (ld_glob I hg hm (PySem.W.callWith_K0 I.kIn hk (run_g (us := []) G hgd hr hb I .nil h)) hdb)⟩
/-- a call, whatever comes of it -/
def tC0 (F : Fns) (id : Nat) (m : ME) : TE := fun σ H Q => ∃ A M ρ bs ρ1 as ρ2 d fr ss ρ3, RE A M H ρ σ ∧ evL F m ρ = some (bs, ρ1) ∧ lend ρ1 bs = some (as, ρ2) ∧ F id as = some (d, fr, ss) ∧ back ρ2 bs as ss = some ρ3 ∧ ∀ v H', Pst0 A M H ρ3 σ d fr v H' → Q v H'
theorem call_read0 {σ : L2.St} {H : Hp} {Q : VK} (h : tC0 F id m σ H Q) : tL F m σ H fun vs H1 => spF F id vs H1 Q E0 := by
  obtain ⟨A, M, ρ, bs, ρ1, as, ρ2, d, fr, ss, ρ3, r, h1, h2, h3, h4, q⟩ := h
  refine ⟨A, M, ρ, bs, ρ1, r, h1, fun vs H1 A1 M1 s1 k1 r1 b1 => ?_⟩
  obtain ⟨M2, q1, q2, q3⟩ := lend_ok r1 b1 h2
  refine ⟨A1, _, as, _, _, ss, q3, h3, fun v H' pst => q v H' ?_⟩
  obtain ⟨A', Mc, s, k, rc, p1, p2⟩ := pst
  have kN : ∀ a, (M1 a ∧ ¬ M2 a) → A1 a := fun a z => r1.sub a z.1
  have m2 : ∀ a, M2 a → A' a := fun a z => Classical.byContradiction fun n => (s.d a (r1.sub a (q1 a z)) n).2 z
  have dis : ∀ a, Mc a → ¬ M2 a := fun a z => (s.m a z).2
  have rb : RE A' M2 H' ρ2 σ := q2.gen k kN (fun a z y => y.2 z) (fun a z => .inl (s.a a z)) m2 rc.live
  have r3 := back_ok rb rc dis b1.links h4
  refine ⟨A', _, ⟨fun a z => s1.a a (s.a a z), fun a z => ?_, fun a z n => ?_⟩, k1.comp s1 (k.mono fun a z => z.1), r3, p1, fun e => ?_⟩
  · rcases z with z | z
    · exact s1.m a (q1 a z)
    · exact s1.m a (s.m a z).1
  · by_cases hA : A1 a
    · exact s1.m a (s.d a hA n).1
    · exact s1.d a z hA
  · obtain ⟨a, rfl, ha, ra, oa⟩ := p2 e
    have H0 : H a = none := by
      cases e0 : H a with
      | none => rfl
      | some o => obtain ⟨o', e'⟩ := k1.live a o e0; rw [ha] at e'; cases e'
    refine ⟨a, rfl, H0, ?_, oa⟩
    have rb2 : RE (orA A' a) M2 H' ρ2 σ := q2.gen k kN (fun a z y => y.2 z) (fun b z => by
      rcases z with z | z
      · exact .inl (s.a b z)
      · exact .inr (z ▸ ha)) (fun b z => .inl (m2 b z)) ra.live
    exact back_ok rb2 ra dis b1.links h4
theorem nt_of {d : PyData} {fr : Bool} (h : (fr && isTup d) = false) : fr = true → NT d := fun e ds e2 => by
  subst e; subst e2
  simp [isTup] at h
theorem call_read {σ : L2.St} {H : Hp} {Q : VK} (h : tE F (.call id m) σ H Q) : tL F m σ H fun vs H1 => spF F id vs H1 Q E0 := by
  obtain ⟨A, M, ρ, d, fr, ρ', r, ev, q⟩ := h
  simp only [evE, Option.bind_eq_some_iff] at ev
  obtain ⟨⟨bs, ρ1⟩, h1, ⟨as, ρ2⟩, h2, ⟨d1, fr1, ss⟩, h3, h4⟩ := ev
  simp only [Option.map_eq_some_iff] at h4
  obtain ⟨ρ3, h4, h5⟩ := h4
  cases h5
  exact call_read0 ⟨A, M, ρ, bs, ρ1, as, ρ2, _, _, ss, _, r, h1, h2, h3, h4, fun v H' p => q v H' ⟨p, fun _ _ _ => trivial⟩⟩
theorem e_call (G : FnG X.prog X.w X.K X.mg X.base k f fd ps (spF F id)) (hgd : X.A.guards = some []) (hr : Room k X.A) (hg : Gl X x) (hm : X.mg x = some (.ref f)) (hk : PySem.W.keepIn X.K (.ref f) = true) (hb : Binds X.K fd ps [])
    (ha : PA X (e :: es) (tL F m)) (hdb : (x == ("__debug__" : Str)) = false) (ns : (e :: es).all noStar = true) : Eb X F (.Call (.Name x p) (e :: es) [] pos) (.call id m) :=
  Eb.of ((pe_callG G hgd hr hg hm hk hb ha hdb ns).imp fun σ H Q h => call_read h) fun _ => nofun
theorem e_call0 (G : FnG X.prog X.w X.K X.mg X.base k f fd ps (spF F id)) (hgd : X.A.guards = some []) (hr : Room k X.A) (hg : Gl X x) (hm : X.mg x = some (.ref f)) (hk : PySem.W.keepIn X.K (.ref f) = true) (hb : Binds X.K fd ps [])
    (hdb : (x == ("__debug__" : Str)) = false) : Eb X F (.Call (.Name x p) [] [] pos) (.call id .nil) :=
  Eb.of ((pe_callG0 G hgd hr hg hm hk hb hdb).imp fun σ H Q h => by
    obtain ⟨A, M, ρ, bs, ρ', r, ev, q⟩ := call_read h
    cases ev
    exact q [] H A M (Shr.refl _ _) (Kp.refl _ _) r trivial) fun _ => nofun
theorem Top.rel0 {A : AS} {H : Hp} {v : V} {d : PyData} (h : Top A H v d) : Rel No H v d := by
  rcases h with h | ⟨a, rfl, ho, nt⟩
  · exact h.anti fun _ z => z.elim
  · exact (ho.anti fun _ z => z.elim).rel nt fun z => z
theorem look_re {A : AS} {H : Hp} : ∀ {vs : List V} {ds : List PyData}, TopAll A H vs ds → RE No No H ((ds.map fun d => (d, false)).map argSlot) (vs.map some)
  | _, _, .nil => RE.nil (fun _ z => z) fun _ z => z.elim
  | _, _, .cons a r => (look_re r).consDat a.rel0
theorem flat_any {A A' : AS} {H : Hp} {v : V} {d : PyData} (h : Rel A H v d) (f : flat d = true) : Rel A' H v d := by
  cases h <;> first | (cases f; done) | constructor
/-- a call that only looks at what it is handed, and tells something flat -/
theorem callV_read {σ : L2.St} {H : Hp} {Q : VK} (h : tE F (.callV id m) σ H Q) : tL F m σ H fun vs H1 => spF F id vs H1 Q E0 := by
  obtain ⟨A, M, ρ, d, fr, ρ', r, ev, q⟩ := h
  simp only [evE, Option.bind_eq_some_iff] at ev
  obtain ⟨⟨bs, ρ1⟩, h1, ds, h2, ⟨d1, fr1, ss⟩, h3, h4⟩ := ev
  dsimp only at h4
  split at h4
  · rename_i hf
    simp only [Bool.and_eq_true, Bool.not_eq_true'] at hf
    cases h4
    refine ⟨A, M, ρ, bs, _, r, h1, fun vs H1 A1 M1 s1 k1 r1 b1 => ?_⟩
    refine ⟨No, No, _, _, _, ss, look_re (BRs.top r1 b1 h2), h3, fun v H' pst => q v H' ?_⟩
    obtain ⟨A', Mc, s, k, rc, p1, p2⟩ := pst
    exact ⟨⟨A1, M1, s1, k1.comp s1 k.of, r1.keep k, fun _ => flat_any (p1 hf.2) hf.1, nofun⟩, nofun⟩
  · cases h4
theorem e_callV (G : FnG X.prog X.w X.K X.mg X.base k f fd ps (spF F id)) (hgd : X.A.guards = some []) (hr : Room k X.A) (hg : Gl X x) (hm : X.mg x = some (.ref f)) (hk : PySem.W.keepIn X.K (.ref f) = true) (hb : Binds X.K fd ps [])
    (ha : PA X (e :: es) (tL F m)) (hdb : (x == ("__debug__" : Str)) = false) (ns : (e :: es).all noStar = true) : Eb X F (.Call (.Name x p) (e :: es) [] pos) (.callV id m) :=
  Eb.of ((pe_callG G hgd hr hg hm hk hb ha hdb ns).imp fun σ H Q h => callV_read h) fun _ => nofun
/-- a call whose first argument is new: the callee may change it -/
theorem callF_read {ma : ME} {σ : L2.St} {H : Hp} {Q : VK} (h : tE F (.callF id ma m) σ H Q) : tE F ma σ H fun v H1 => tL F m σ H1 fun vs H2 => spF F id (v :: vs) H2 Q E0 := by
  obtain ⟨A, M, ρ, d, fr, ρ', r, ev, q⟩ := h
  simp only [evE, Option.bind_eq_some_iff] at ev
  obtain ⟨⟨da, fa, ρ0⟩, h0, ev⟩ := ev
  dsimp only at ev
  split at ev
  · rename_i hfa
    simp only [Option.bind_eq_some_iff] at ev
    obtain ⟨⟨bs, ρ1⟩, h1, ⟨as, ρ2⟩, h2, ev⟩ := ev
    dsimp only at ev
    split at ev
    · rename_i hall
      simp only [Option.bind_eq_some_iff] at ev
      obtain ⟨⟨d1, fr1, ss⟩, h3, h4⟩ := ev
      dsimp only at h4
      split at h4
      · cases h4
      · rename_i hnt
        cases h4
        refine ⟨A, M, ρ, da, fa, ρ0, r, h0, fun v H1 p => ?_⟩
        obtain ⟨⟨A1, M1, s1, k1, r1, _, q2⟩, _⟩ := p
        obtain ⟨pa, rfl, hp, ra, ho⟩ := q2 hfa
        have nA : ¬ A1 pa := fun z => by obtain ⟨o, e⟩ := r.live pa (s1.a pa z); rw [hp] at e; cases e
        have nM : ¬ M1 pa := fun z => nA (r1.sub pa z)
        refine ⟨orA A1 pa, M1, ρ0, bs, ρ1, ra, h1, fun vs H2 A2 M2 s2 k2 r2 b2 => ?_⟩
        have a2 : A2 pa := Classical.byContradiction fun n => nM (s2.d pa (.inr rfl) n)
        have ho2 : Own A2 H2 pa da := (ho.keep ra.sub k2 nM).anti s2.a
        obtain ⟨M3, l1, l2, l3⟩ := lend_ok r2 b2 h2
        have nM3 : ¬ M3 pa := fun z => nM (s2.m pa (l1 pa z))
        have n2 : ¬ (M2 pa ∧ ¬ M3 pa) := fun z => nM (s2.m pa z.1)
        have rc0 := l3.consOwn (M := orA (fun a => M2 a ∧ ¬ M3 a) pa) (fun x z => .inl z) (fun x z => by
          rcases z with z | z
          · exact r2.sub x z.1
          · exact z ▸ a2) (.inr rfl) n2 ho2
        refine ⟨A2, _, (da, true) :: as, _, _, ss, rc0, h3, fun v H' pst => q v H' ⟨?_, nt_of (by simpa using hnt)⟩⟩
        obtain ⟨A', Mc, s, k, rc, p1, p2⟩ := pst
        have kN : ∀ a, orA (fun a => M2 a ∧ ¬ M3 a) pa a → A2 a := fun a z => by
          rcases z with z | z
          · exact r2.sub a z.1
          · exact z ▸ a2
        have dis : ∀ a, M3 a → ¬ orA (fun a => M2 a ∧ ¬ M3 a) pa a := fun a z y => by
          rcases y with y | y
          · exact y.2 z
          · exact nM3 (y ▸ z)
        have m3 : ∀ a, M3 a → butA A' pa a := fun a z => ⟨Classical.byContradiction fun n => by
          rcases s.d a (r2.sub a (l1 a z)) n with y | y
          · exact y.2 z
          · exact nM3 (y ▸ z), fun e => nM3 (e ▸ z)⟩
        have rb : RE (butA A' pa) M3 H' _ σ := l2.gen k kN dis (fun a z => .inl (s.a a z.1)) m3 fun a z => rc.live a z.1
        have up : ∀ x, butA A' pa x → A x := fun x z => by
          rcases s2.a x (s.a x z.1) with y | y
          · exact s1.a x y
          · exact absurd y z.2
        refine ⟨butA A' pa, M3, ⟨up, fun x z => s1.m x (s2.m x (l1 x z)), fun x hA n => ?_⟩, ?_, rb, fun e => (p1 e).anti fun x z => z.1, fun e => ?_⟩
        · by_cases hx : x = pa
          · obtain ⟨o, e⟩ := r.live x hA
            rw [hx, hp] at e; cases e
          · have nA' : ¬ A' x := fun z => n ⟨z, hx⟩
            by_cases hA2 : A2 x
            · rcases s.d x hA2 nA' with y | y
              · exact s1.m x (s2.m x y.1)
              · exact absurd y hx
            · by_cases hA1 : A1 x
              · exact s1.m x (s2.d x (.inl hA1) hA2)
              · exact s1.d x hA hA1
        · have k2' : Kp M H H2 := k1.comp s1 k2
          refine ⟨fun a o h n => ?_, fun a o h => ?_⟩
          · refine k.same a o (k2'.same a o h n) fun z => ?_
            rcases z with z | z
            · exact n (s1.m a (s2.m a z.1))
            · rw [z, hp] at h; cases h
          · obtain ⟨o1, e1⟩ := k2'.live a o h
            exact k.live a o1 e1
        · obtain ⟨a, rfl, ha, ra', oa⟩ := p2 e
          have H0 : H a = none := by
            cases e0 : H a with
            | none => rfl
            | some o => obtain ⟨o', e'⟩ := (k1.comp s1 k2).live a o e0; rw [ha] at e'; cases e'
          refine ⟨a, rfl, H0, l2.gen k kN dis (fun b z => ?_) (fun b z => .inl (m3 b z)) (fun b z => ?_), oa.anti fun x z => ?_⟩
          · rcases z with z | z
            · exact .inl (s.a b z.1)
            · exact .inr (z ▸ ha)
          · rcases z with z | z
            · exact rc.live b z.1
            · exact ra'.live b (.inr z)
          · rcases z with z | z
            · exact .inl z.1
            · exact .inr z
    · cases ev
  · cases ev
theorem e_callF {e0 : Expr} {ma : ME} (G : FnG X.prog X.w X.K X.mg X.base k f fd ps (spF F id)) (hgd : X.A.guards = some []) (hr : Room k X.A) (hg : Gl X x) (hm : X.mg x = some (.ref f)) (hk : PySem.W.keepIn X.K (.ref f) = true) (hb : Binds X.K fd ps [])
    (h0 : Eb X F e0 ma) (ha : PA X es (tL F m)) (hdb : (x == ("__debug__" : Str)) = false) (ns : (e0 :: es).all noStar = true) : Eb X F (.Call (.Name x p) (e0 :: es) [] pos) (.callF id ma m) := by
  have n0 : noStar e0 = true := by rw [List.all_cons, Bool.and_eq_true] at ns; exact ns.1
  exact Eb.of ((pe_callG G hgd hr hg hm hk hb (pa_cons h0.ev ha (star_no n0)) hdb ns).imp fun σ H Q h => callF_read h) fun _ => nofun
/-- the same, the value may be a tuple of one's own -/
theorem e_call0s (G : FnG X.prog X.w X.K X.mg X.base k f fd ps (spF F id)) (hgd : X.A.guards = some []) (hr : Room k X.A) (hg : Gl X x) (hm : X.mg x = some (.ref f)) (hk : PySem.W.keepIn X.K (.ref f) = true) (hb : Binds X.K fd ps [])
    (ha : PA X (e :: es) (tL F m)) (hdb : (x == ("__debug__" : Str)) = false) (ns : (e :: es).all noStar = true) : PE X (.Call (.Name x p) (e :: es) [] pos) (tC0 F id m) :=
  (pe_callG G hgd hr hg hm hk hb ha hdb ns).imp fun σ H Q h => call_read0 h
end
end MI

namespace MI
open PySem PySem.Spec PyProof.Rows L2
theorem vals_at : ∀ {vs : List V} {us : List Value} (i : Nat), Vals vs us → (∃ v u, vs[i]? = some v ∧ us[i]? = some u ∧ RelV v u) ∨ (vs[i]? = none ∧ us[i]? = none)
  | _, _, i, .nil => .inr ⟨by simp, by simp⟩
  | _, _, 0, .cons r _ => .inl ⟨_, _, rfl, rfl, r⟩
  | _, _, i + 1, .cons _ h => by simpa using vals_at i h
theorem vals_perm {vs : List V} {us : List Value} (h : Vals vs us) : ∀ l : List Nat, Vals (permL l vs) (permL l us)
  | [] => .nil
  | i :: l => by
    have ih := vals_perm h l
    unfold permL at ih ⊢
    rcases vals_at i h with ⟨v, u, h1, h2, r⟩ | ⟨h1, h2⟩
    · rw [List.filterMap_cons, List.filterMap_cons, h1, h2]; exact .cons r ih
    · rw [List.filterMap_cons, List.filterMap_cons, h1, h2]; exact ih
section
variable [EK] {X : Cx} {k : Nat} {f : Addr} {fd : FuncData} {ps ks : List Str} {sp : Sp} {x : Str} {p pos : Pos} {l : List Nat}
theorem pe_callGK {kws : List Keyword} {tk : TA} (G : FnG X.prog X.w X.K X.mg X.base k f fd ps sp) (hgd : X.A.guards = some []) (hr : Room k X.A) (hg : Gl X x) (hm : X.mg x = some (.ref f)) (hk : PySem.W.keepIn X.K (.ref f) = true)
    (hb : ∀ (s : Shared) (ws : List Value), ws.length = ks.length → BindsTo s fd ⟨[], ks.zip ws⟩ (ps.zip (permL l ws)))
    (hkw : PK X kws tk) (hdb : (x == ("__debug__" : Str)) = false) (hall : (backToKw pos (keywordEach kws X.env)).all (·.1.isSome) = true) (hks : (backToKw pos (keywordEach kws X.env)).filterMap (·.1) = ks)
    (hpl : ((backTo pos (starEach [] X.env)).any (·.1) || (backToKw pos (keywordEach kws X.env)).any (·.1.isNone)) = false) :
    PE X (.Call (.Name x p) [] kws pos) (fun σ H Q => tk σ H fun zs H1 => zs.length = ks.length ∧ sp (permL l zs) H1 Q E0) := by
  refine ⟨fun pins s σ H Q I h => wpAny_Call_Name_kw (ld_glob I hg hm ?_ hdb)⟩
  refine PySem.W.callWith_KW0 (h₀ := X.base) I.ok.mod.kin hk hall (thn (hkw.run pos pins s σ H _ I h) fun ws s2 ⟨zs, H2, I2, rz, hl, q2⟩ => ⟨I2.kIn, ?_⟩) hpl
  rw [hks]
  refine wpAny_call (codeAny_mono (G.run X.A X.stack s2 H2 ⟨[], ks.zip ws⟩ (permL l ws) (permL l zs) Q hgd hr I2.env0 (hb s2 ws (rz.length.symm.trans hl)) (vals_perm rz l) q2) fun res s' hq => ?_)
  match res, hq with
  | .error _, z => exact z.elim
  | .ok (.ret u), z => exact I2.after z
variable {F : Fns} {id : Nat} {m : ME} {kws : List Keyword}
theorem relAll_perm {A : AS} {H : Hp} {vs : List V} {ds : List PyData} (h : RelAll A H vs ds) : ∀ l : List Nat, RelAll A H (permL l vs) (permL l ds)
  | [] => .nil
  | i :: l => by
    have ih := relAll_perm h l
    unfold permL at ih ⊢
    cases e : ds[i]? with
    | none =>
      have e2 : vs[i]? = none := by
        rw [List.getElem?_eq_none_iff] at e ⊢
        rw [h.length]; exact e
      rw [List.filterMap_cons, List.filterMap_cons, e, e2]; exact ih
    | some d =>
      obtain ⟨v, e2, r⟩ := h.get e
      rw [List.filterMap_cons, List.filterMap_cons, e, e2]; exact .cons r ih
theorem dats_re {A : AS} {H : Hp} (l : ∀ a, A a → ∃ o, H a = some o) : ∀ {vs : List V} {ds : List PyData}, RelAll A H vs ds → RE A No H ((ds.map fun d => (d, false)).map argSlot) (vs.map some)
  | _, _, .nil => RE.nil (fun _ z => z.elim) l
  | _, _, .cons a r => (dats_re l r).consDat a
theorem callK_read {σ : L2.St} {H : Hp} {Q : VK} (hl : l.length = ks.length) (h : tE F (.callK id l m) σ H Q) : tA F m σ H fun zs H1 => zs.length = ks.length ∧ spF F id (permL l zs) H1 Q E0 := by
  obtain ⟨A, M, ρ, d, fr, ρ', r, ev, q⟩ := h
  simp only [evE, Option.bind_eq_some_iff] at ev
  obtain ⟨⟨ds, ρ1⟩, h1, ev⟩ := ev
  dsimp only at ev
  split at ev
  · rename_i hlen
    simp only [Option.bind_eq_some_iff] at ev
    obtain ⟨⟨d1, fr1, ss⟩, h3, h4⟩ := ev
    dsimp only at h4
    split at h4
    · cases h4
    · rename_i hf
      have hf : fr1 = false := by simpa using hf
      cases h4
      refine ⟨A, M, ρ, ds, _, r, h1, fun vs H1 A1 M1 s1 k1 r1 ra => ⟨by rw [ra.length, hlen, hl], ?_⟩⟩
      refine ⟨A1, No, _, _, _, ss, dats_re r1.live (relAll_perm ra l), h3, fun v H' pst => q v H' ?_⟩
      obtain ⟨A', Mc, s, k, rc, p1, p2⟩ := pst
      exact ⟨⟨A1, M1, s1, k1.comp s1 k.of, r1.keep k, fun _ => (p1 hf).anti fun x z => Classical.byContradiction fun n => s.d x z n, nofun⟩, nofun⟩
  · cases ev
theorem k_nil : PK X [] (tA F .nil) := ⟨fun pos pins s σ H Q I ⟨A, M, ρ, ds, ρ', r, ev, q⟩ => pk_nil.run pos pins s σ H Q I (by
  cases ev
  exact q [] H A M (Shr.refl _ _) (Kp.refl _ _) r .nil)⟩
theorem k_cons {e : Expr} {nm : Option Str} {kpos : Pos} {r : ME} (he : Eb X F e m) (hr : PK X kws (tA F r)) : PK X (⟨nm, e, kpos⟩ :: kws) (tA F (.cons m r)) := by
  refine ⟨fun pos pins s σ H Q I ⟨A, M, ρ, ds, ρ', rr, ev, q⟩ => (pk_cons (nm := nm) (kpos := kpos) he.ev hr).run pos pins s σ H Q I ?_⟩
  simp only [evA, Option.bind_eq_some_iff, Option.map_eq_some_iff] at ev
  obtain ⟨⟨d, fr, ρ1⟩, h1, ⟨ds1, ρ2⟩, h2, h3⟩ := ev
  cases h3
  refine ⟨A, M, ρ, d, fr, ρ1, rr, h1, fun v H1 p => ?_⟩
  obtain ⟨A1, M1, s1, k1, r1, b1⟩ := p.std rr.live
  refine ⟨A1, M1, ρ1, ds1, ρ2, r1, h2, fun vs H2 A2 M2 s2 k2 r2 ra => q _ _ _ _ (s1.trans s2) (k1.comp s1 k2) r2 (.cons ((b1.keep r1.sub k2).anti s2.a) ra)⟩
/-- the names of keywords -/
def kwNames : List Keyword → Option (List Str)
  | [] => some []
  | ⟨some x, _, _⟩ :: r => (kwNames r).map (x :: ·)
  | _ => none
theorem kw_facts {env : Env} : ∀ {kws : List Keyword} {ns : List Str}, kwNames kws = some ns → (backToKw pos (keywordEach kws env)).all (·.1.isSome) = true ∧ (backToKw pos (keywordEach kws env)).filterMap (·.1) = ns ∧ (backToKw pos (keywordEach kws env)).any (·.1.isNone) = false
  | [], ns, h => by cases h; exact ⟨rfl, rfl, rfl⟩
  | ⟨none, _, _⟩ :: _, ns, h => by cases h
  | ⟨some x, e, p⟩ :: r, ns, h => by
    simp only [kwNames, Option.map_eq_some_iff] at h
    obtain ⟨ns', h1, rfl⟩ := h
    obtain ⟨a, b, c⟩ := kw_facts (env := env) h1
    unfold backToKw at a b c ⊢
    simp only [keywordEach, List.map_cons, List.all_cons, List.filterMap_cons, List.any_cons]
    exact ⟨by rw [a]; rfl, by rw [b], by rw [c]; rfl⟩
theorem e_callK (G : FnG X.prog X.w X.K X.mg X.base k f fd ps (spF F id)) (hgd : X.A.guards = some []) (hr : Room k X.A) (hg : Gl X x) (hm : X.mg x = some (.ref f)) (hk : PySem.W.keepIn X.K (.ref f) = true)
    (hb : ∀ (s : Shared) (ws : List Value), ws.length = ks.length → BindsTo s fd ⟨[], ks.zip ws⟩ (ps.zip (permL l ws))) (hl : l.length = ks.length) (hn : kwNames kws = some ks)
    (hkw : PK X kws (tA F m)) (hdb : (x == ("__debug__" : Str)) = false) : Eb X F (.Call (.Name x p) [] kws pos) (.callK id l m) := by
  obtain ⟨a, b, c⟩ := kw_facts (pos := pos) (env := X.env) hn
  exact Eb.of ((pe_callGK (l := l) (p := p) (pos := pos) G hgd hr hg hm hk hb hkw hdb a b (by rw [c]; rfl)).imp fun σ H Q h => callK_read hl h) fun _ => nofun
theorem strs_rel {A : AS} {H : Hp} : ∀ {vs : List V} {ds : List PyData} {ys : List Str}, RelAll A H vs ds → strsOf ds = some ys → vs = ys.map V.str
  | _, _, ys, .nil, h => by cases h; rfl
  | _, _, ys, .cons (d := d) a r, h => by
    cases d <;> simp only [strsOf, Option.map_eq_some_iff] at h <;> try (cases h; done)
    obtain ⟨ys', h1, rfl⟩ := h
    cases a
    rw [strs_rel r h1]; rfl
/-- z.join(xs) -/
theorem e_join {e : Expr} {z : Str} {j : Nat} {p0 apos : Pos} (he : Eb X F e m) (ns : noStar e = true) (hline : (apos.endLine == pos.line) = true) : Eb X F (.Call (.Attribute (.Constant (.str z) j p0) "join" apos) [e] [] pos) (.join z m) := by
  refine Eb.of ((pe_join (pe_str (x := z)) he.bo (star_no ns) rfl hline).imp fun σ H Q ⟨A, M, ρ, d, fr, ρ', r, ev, q⟩ => ?_) fun _ => nofun
  simp only [evE, Option.bind_eq_some_iff] at ev
  obtain ⟨⟨b, ρ1⟩, h1, d1, h2, ev⟩ := ev
  refine ⟨⟨z, rfl⟩, A, M, ρ, b, ρ1, r, h1, fun v H' A' M' s' k' r' br => ?_⟩
  have t := br.top r' h2
  cases d1 with
  | list xs =>
    simp only [Option.bind_eq_some_iff] at ev
    obtain ⟨ys, h3, ev⟩ := ev
    split at ev
    · rename_i hz
      cases ev
      obtain ⟨a, vs, rfl, h4, rr⟩ := t.lst
      have e2 := strs_rel rr h3
      subst e2
      refine ⟨z, a, ys, rfl, rfl, .inl (SqL.of h4), hz, ?_⟩
      rw [TL.join_eq]
      exact q _ _ ⟨⟨A', M', s', k', r', fun _ => .str _, nofun⟩, nofun⟩
    · cases ev
  | _ => cases ev
end
end MI

/-! MIX: methods of texts; .get of a dict of the module with int keys. -/
namespace MI
open PySem PySem.Spec PyProof.Rows L2
variable [EK]
theorem strs_all {A : AS} {H : Hp} : ∀ ys : List Str, RelAll A H (ys.map V.str) (ys.map PyData.str)
  | [] => .nil
  | y :: r => .cons (.str y) (strs_all r)
section
variable {X : Cx} {F : Fns} {o e : Expr} {mo m : ME} {apos cpos : Pos}
theorem e_split (ho : Eb X F o mo) (he : Eb X F e m) (ns : noStar e = true) (hbase : attributeBase o "split" X.env (eval o X.env) = eval o X.env) (hl : (apos.endLine == cpos.line) = true) :
    Eb X F (.Call (.Attribute o "split" apos) [e] [] cpos) (.met .split mo m) := by
  refine Eb.of ((pe_split ho.ev he.ev (star_no ns) hbase hl).imp fun σ H Q ⟨A, M, ρ, d, fr, ρ', r, ev, q⟩ => ?_) fun _ => nofun
  simp only [evE, Option.bind_eq_some_iff, Option.map_eq_some_iff] at ev
  obtain ⟨⟨d1, f1, ρ1⟩, h1, ⟨z, f2, ρ2⟩, h2, ⟨rr, ff⟩, h3, h4⟩ := ev
  cases h4
  obtain ⟨a, rfl⟩ : ∃ a, d1 = .str a := by cases d1 <;> first | exact ⟨_, rfl⟩ | simp [metD] at h3
  obtain ⟨b, rfl⟩ : ∃ b, z = .str b := by cases z <;> first | exact ⟨_, rfl⟩ | simp [metD] at h3
  simp only [metD] at h3
  split at h3
  · rename_i hc
    cases h3
    refine ⟨A, M, ρ, _, f1, ρ1, r, h1, fun v H1 p => ?_⟩
    obtain ⟨A1, M1, s1, k1, r1, b1⟩ := p.std r.live
    cases b1
    refine ⟨⟨a, rfl⟩, A1, M1, ρ1, _, f2, _, r1, h2, fun w H2 p2 => ?_⟩
    obtain ⟨A2, M2, s2, k2, r2, b2⟩ := p2.std r1.live
    cases b2
    exact ⟨a, b, rfl, rfl, by simpa using hc.1, hc.2, fun p hp => q _ _ ((((new_lst hp (strs_all _)).pst r2).after s2 k2).after s1 k1)⟩
  · cases h3
theorem e_part (ho : Eb X F o mo) (he : Eb X F e m) (ns : noStar e = true) (hbase : attributeBase o "partition" X.env (eval o X.env) = eval o X.env) (hl : (apos.endLine == cpos.line) = true) :
    Eb X F (.Call (.Attribute o "partition" apos) [e] [] cpos) (.met .part mo m) := by
  refine Eb.of ((pe_partition ho.ev he.ev (star_no ns) hbase hl).imp fun σ H Q ⟨A, M, ρ, d, fr, ρ', r, ev, q⟩ => ?_) fun _ => nofun
  simp only [evE, Option.bind_eq_some_iff, Option.map_eq_some_iff] at ev
  obtain ⟨⟨d1, f1, ρ1⟩, h1, ⟨z, f2, ρ2⟩, h2, ⟨rr, ff⟩, h3, h4⟩ := ev
  cases h4
  obtain ⟨a, rfl⟩ : ∃ a, d1 = .str a := by cases d1 <;> first | exact ⟨_, rfl⟩ | simp [metD] at h3
  obtain ⟨b, rfl⟩ : ∃ b, z = .str b := by cases z <;> first | exact ⟨_, rfl⟩ | simp [metD] at h3
  simp only [metD] at h3
  split at h3
  · rename_i hc
    cases h3
    refine ⟨A, M, ρ, _, f1, ρ1, r, h1, fun v H1 p => ?_⟩
    obtain ⟨A1, M1, s1, k1, r1, b1⟩ := p.std r.live
    cases b1
    refine ⟨⟨a, rfl⟩, A1, M1, ρ1, _, f2, _, r1, h2, fun w H2 p2 => ?_⟩
    obtain ⟨A2, M2, s2, k2, r2, b2⟩ := p2.std r1.live
    cases b2
    exact ⟨a, b, rfl, rfl, by simpa using hc.1, hc.2, fun p hp => q _ _ ((((new_tup hp (.cons (.str _) (.cons (.str _) (.cons (.str _) .nil)))).pst r2).after s2 k2).after s1 k1)⟩
  · cases h3
theorem e_tcount (ho : Eb X F o mo) (he : Eb X F e m) (ns : noStar e = true) (hbase : attributeBase o "count" X.env (eval o X.env) = eval o X.env) (hl : (apos.endLine == cpos.line) = true) :
    Eb X F (.Call (.Attribute o "count" apos) [e] [] cpos) (.met .count mo m) := by
  refine Eb.of ((pe_m1 PySem.F.slot_str_count PySem.F.type_str_count mt_count ho.ev he.ev (star_no ns) hbase hl).imp fun σ H Q ⟨A, M, ρ, d, fr, ρ', r, ev, q⟩ => ?_) fun _ => nofun
  simp only [evE, Option.bind_eq_some_iff, Option.map_eq_some_iff] at ev
  obtain ⟨⟨d1, f1, ρ1⟩, h1, ⟨z, f2, ρ2⟩, h2, ⟨rr, ff⟩, h3, h4⟩ := ev
  cases h4
  obtain ⟨a, rfl⟩ : ∃ a, d1 = .str a := by cases d1 <;> first | exact ⟨_, rfl⟩ | simp [metD] at h3
  obtain ⟨b, rfl⟩ : ∃ b, z = .str b := by cases z <;> first | exact ⟨_, rfl⟩ | simp [metD] at h3
  simp only [metD] at h3
  cases h3
  refine ⟨A, M, ρ, _, f1, ρ1, r, h1, fun v H1 p => ?_⟩
  obtain ⟨A1, M1, s1, k1, r1, b1⟩ := p.std r.live
  cases b1
  refine ⟨⟨a, rfl⟩, A1, M1, ρ1, _, f2, _, r1, h2, fun w H2 p2 => ?_⟩
  obtain ⟨A2, M2, s2, k2, r2, b2⟩ := p2.std r1.live
  cases b2
  exact ⟨a, b, rfl, rfl, q _ _ ((((NewV.val (.int _)).pst r2).after s2 k2).after s1 k1)⟩
end
/-! ### a dict of the module with ints for keys and texts for values -/
def PairsG : List DictEntry → List (Int × Str) → Prop
  | [], [] => True
  | d :: l, (i, z) :: r => (∃ t, d.key = .int i t) ∧ d.hash = hashInt i ∧ (∃ t, d.val = .str z t) ∧ PairsG l r
  | _, _ => False
structure GdAt (K : PySem.W.Frag) (a : Addr) (es : List (Int × Str)) : Prop where
  ex : ∃ (ents : Array DictEntry) (n : Nat), K.lookup a = some ⟨.type "dict", none, .dict ents n, #[]⟩ ∧ PairsG ents.toList es
  nd : (es.map (·.1)).Nodup
  ns : (a == sysModules) = false
theorem pairsG {P : Program} {w : World} : ∀ {l : List DictEntry} {es : List (Int × Str)}, PairsG l es → ∃ vs : List (Key × Value), Pairs (mixKind P w) l vs ∧ vs.map (·.1) = es.map (fun p => (Sum.inl p.1 : Key)) ∧ (∀ d ∈ l, ∃ k, (mixKind P w).is k d.key = true ∧ d.hash = (mixKind P w).hash k) ∧
    ∀ i : Int, RelO ((es.lookup i).map V.str) (valueAt vs (.inl i))
  | [], [], _ => ⟨[], .nil, rfl, (fun _ h => absurd h List.not_mem_nil), fun _ => trivial⟩
  | d :: l, (i, z) :: r, ⟨⟨t, h1⟩, h2, ⟨t', h3⟩, h4⟩ => by
    obtain ⟨vs, p, e, kk, q⟩ := pairsG (P := P) (w := w) h4
    have his : (mixKind P w).is (Sum.inl i) d.key = true := by rw [h1]; exact mixKind_int P w i t
    refine ⟨(.inl i, d.val) :: vs, .cons his rfl p, congrArg _ e, fun x hx => ?_, fun j => ?_⟩
    · rcases List.mem_cons.mp hx with z | z
      · subst z; exact ⟨.inl i, his, h2⟩
      · exact kk x z
    · unfold valueAt
      rw [List.find?_cons, List.lookup_cons]
      by_cases hj : j = i
      · subst hj
        simp only [beq_self_eq_true, decide_true, Option.map_some]
        rw [h3]
        exact ⟨t', rfl⟩
      · have h5 : (j == i) = false := by simpa using hj
        have h6 : decide ((Sum.inl i : Key) = Sum.inl j) = false := decide_eq_false fun z => hj (Sum.inl.inj z).symm
        rw [h5]
        simp only [h6]
        exact q j
  | [], _ :: _, h => h.elim
  | _ :: _, [], h => h.elim
theorem GdAt.dict {K : PySem.W.Frag} {a : Addr} {es : List (Int × Str)} (g : GdAt K a es) {P : Program} {w : World} {h : Heap} (hK : K.In h) : ∃ vs : List (Key × Value), h.DictOf (mixKind P w) a vs ∧ ∀ i : Int, RelO ((es.lookup i).map V.str) (valueAt vs (.inl i)) := by
  obtain ⟨ents, n, h1, h2⟩ := g.ex
  obtain ⟨vs, p, e, kk, q⟩ := pairsG (P := P) (w := w) h2
  refine ⟨vs, ⟨_, ents, n, hK _ _ h1, ⟨rfl, rfl, rfl⟩, rfl, fun d hd => kk d (Array.mem_toList_iff.mpr hd), p, ?_⟩, q⟩
  rw [e]
  have gn := g.nd
  rw [show es.map (fun p => (Sum.inl p.1 : Key)) = (es.map (·.1)).map Sum.inl by rw [List.map_map]; rfl]
  exact List.Pairwise.map Sum.inl (fun a b hab hz => hab (Sum.inl.inj hz)) gn
section
variable {X : Cx} {F : Fns} {ke fe : Expr} {mk mf : ME} {apos cpos px : Pos} {x : Str} {a : Addr} {es : List (Int × Str)} {tk tf : TE}
theorem pe_gget (hg : Gl X x) (hm : X.mg x = some (.ref a)) (hd : (x == ("__debug__" : Str)) = false) (g : GdAt X.K a es) (he : PE X ke tk) (hf : PE X fe tf) (m : M2 X (.Name x px) "get" apos ke fe cpos) :
    PE X (.Call (.Attribute (.Name x px) "get" apos) [ke, fe] [] cpos) (fun σ H Q => tk σ H fun y H1 => tf σ H1 fun z H2 => ∃ i, y = .int i ∧ Q (((es.lookup i).map V.str).getD z) H2) := by
  refine ⟨fun pins s σ H Q I h => ?_⟩
  refine wpAny_Call_method m.base m.few m.line PySem.F.plainAttrs_dict PySem.F.slot_dict_get PySem.F.type_dict_get (ld_glob I hg hm ?_ hd)
  obtain ⟨vs, dd, q⟩ := g.dict (P := X.prog) (w := X.w) I.kIn
  refine ⟨dd.typeIs, fun b q => ?_, ?_⟩
  · cases q
    obtain ⟨ob, _, _, h1, h2, _⟩ := dd
    exact ⟨ob, h1, h2.2.1⟩
  rw [m.trees]
  refine Calls.callWith_builtin rfl (Calls.evalArgs_plain (Calls.spliced_cons (thn (he.run pins s σ H _ I h) fun iv s2 ⟨y, H2, I2, ry, q2⟩ =>
    Calls.spliced_cons (thn (hf.run pins s2 σ H2 _ I2 q2) fun fv s3 ⟨z, H3, I3, rz, i, ey, q3⟩ => Calls.spliced_nil ?_))))
  subst ey
  obtain ⟨vs3, dd3, q3'⟩ := g.dict (P := X.prog) (w := X.w) I3.kIn
  refine call_meetsIn PySem.F.slot_dict_get dd3.typeIs PySem.F.entry_dict_get (PySem.F.args_dict_get_3 _ _ _) (meets_dict_get_default (mixKind X.prog X.w) a (kV_is (k := .inl i) ry) g.ns fv) ⟨_, dd3.mapOf, ⟨_, H3, I3.tok _, ?_, q3⟩⟩
  exact (q3' i).getD rz
theorem e_gget (hg : Gl X x) (hm : X.mg x = some (.ref a)) (hd : (x == ("__debug__" : Str)) = false) (g : GdAt X.K a es) (he : Eb X F ke mk) (hf : Eb X F fe mf) (ns : noStar ke = true) (ns' : noStar fe = true) (hl : (apos.endLine == cpos.line) = true) :
    Eb X F (.Call (.Attribute (.Name x px) "get" apos) [ke, fe] [] cpos) (.gget es mk mf) := by
  refine Eb.of ((pe_gget hg hm hd g he.ev hf.ev ⟨rfl, by rw [star_no ns, star_no ns']; rfl, hl, by rw [star_no ns, star_no ns']; rfl⟩).imp fun σ H Q ⟨A, M, ρ, d, fr, ρ', r, ev, q⟩ => ?_) fun _ => nofun
  simp only [evE, Option.bind_eq_some_iff, Option.map_eq_some_iff] at ev
  obtain ⟨⟨kd, f1, ρ1⟩, h1, ⟨ed, f2, ρ2⟩, h2, z, h3, h4⟩ := ev
  cases h4
  cases kd with
  | int i =>
    cases h3
    refine ⟨A, M, ρ, _, f1, ρ1, r, h1, fun v H1 p => ?_⟩
    obtain ⟨A1, M1, s1, k1, r1, b1⟩ := p.std r.live
    cases b1
    refine ⟨A1, M1, ρ1, _, f2, _, r1, h2, fun w H2 p2 => ?_⟩
    obtain ⟨A2, M2, s2, k2, r2, b2⟩ := p2.std r1.live
    refine ⟨i, rfl, ?_⟩
    cases hz : es.lookup i with
    | none => rw [hz] at q; exact q _ _ ((((NewV.val b2).pst r2).after s2 k2).after s1 k1)
    | some z => rw [hz] at q; exact q _ _ ((((NewV.val (.str z)).pst r2).after s2 k2).after s1 k1)
  | _ => cases h3
end
end MI

/-! MI8: statements. -/
namespace MI
open PySem PySem.Spec PyProof.Rows L2
variable [EK]

/-- how the frame's sets change through statements -/
structure Chg (A M : AS) (H : Hp) (A' M' : AS) : Prop where
  a : ∀ x, A' x → A x ∨ H x = none
  m : ∀ x, M' x → M x ∨ H x = none
  d : ∀ x, A x → ¬ A' x → M x
section
variable {A M A1 M1 A2 M2 : AS} {H H1 H2 : Hp}
theorem Shr.chg (s : Shr A M A1 M1) : Chg A M H A1 M1 := ⟨fun x z => .inl (s.a x z), fun x z => .inl (s.m x z), s.d⟩
theorem Chg.refl (A M : AS) (H : Hp) : Chg A M H A M := (Shr.refl A M).chg
theorem Kp.back {p : Addr} (k : Kp M H H1) (h : H1 p = none) : H p = none := by
  cases e : H p with
  | none => rfl
  | some o => obtain ⟨o', e'⟩ := k.live p o e; rw [h] at e'; cases e'
theorem Chg.trans (l : ∀ a, A a → ∃ o, H a = some o) (c : Chg A M H A1 M1) (k : Kp M H H1) (c' : Chg A1 M1 H1 A2 M2) : Chg A M H A2 M2 := by
  refine ⟨fun x z => ?_, fun x z => ?_, fun x h n => ?_⟩
  · rcases c'.a x z with q | q
    · exact c.a x q
    · exact .inr (k.back q)
  · rcases c'.m x z with q | q
    · exact c.m x q
    · exact .inr (k.back q)
  · by_cases h1 : A1 x
    · rcases c.m x (c'.d x h1 n) with q | q
      · exact q
      · obtain ⟨o, e⟩ := l x h; rw [q] at e; cases e
    · exact c.d x h h1
theorem Kp.chg (k : Kp M H H1) (c : Chg A M H A1 M1) (k' : Kp M1 H1 H2) : Kp M H H2 :=
  ⟨fun x o h n => k'.same x o (k.same x o h n) fun z => (c.m x z).elim n fun q => absurd h (by rw [q]; exact fun y => nomatch y), fun x o h => let ⟨o1, h1⟩ := k.live x o h; k'.live x o1 h1⟩
end
/-- behind a block that goes on -/
def PN (A M : AS) (H : Hp) (σ : L2.St) (l : List Nat) (ρ' : Rho) (σ' : L2.St) (H' : Hp) : Prop := ∃ A' M', Chg A M H A' M' ∧ Kp M H H' ∧ RE A' M' H' ρ' σ' ∧ Agree l σ σ'
/-- .. that returns -/
def PR (A M : AS) (H : Hp) (σ : L2.St) (l : List Nat) (d : PyData) (fr : Bool) (ρ' : Rho) (v : V) (σ' : L2.St) (H' : Hp) : Prop :=
  ∃ A' M', Chg A M H A' M' ∧ Kp M H H' ∧ RE A' M' H' ρ' σ' ∧ Agree l σ σ' ∧ (fr = false → Rel A' H' v d) ∧ (fr = true → ∃ a, v = .ref a ∧ H a = none ∧ RE (orA A' a) M' H' ρ' σ' ∧ Own (orA A' a) H' a d)
def Gs (A M : AS) (H : Hp) (σ : L2.St) (l : List Nat) : Out → Ends → Prop
  | .nx ρ', D => ∀ σ' H', PN A M H σ l ρ' σ' H' → D.nx σ' H'
  | .bk ρ', D => ∀ σ' H', PN A M H σ l ρ' σ' H' → D.bk σ' H'
  | .ct ρ', D => ∀ σ' H', PN A M H σ l ρ' σ' H' → D.ct σ' H'
  | .rt d fr ρ', D => ∀ v σ' H', PR A M H σ l d fr ρ' v σ' H' → D.rt v H'
def tS (F : Fns) (W : Nat) (m : MS) : TS := fun D σ H => ∃ A M ρ o, RE A M H ρ σ ∧ evS F W m ρ = some o ∧ Gs A M H σ (asgd m) o D
section
variable {A M A1 M1 A2 M2 : AS} {H H1 H2 H' : Hp} {σ σ1 σ' : L2.St} {l l1 l2 : List Nat} {ρ ρ' : Rho} {D : Ends} {o : Out} {d : PyData} {fr : Bool} {v : V}
theorem Agree.mono (h : ∀ i ∈ l1, i ∈ l2) (a : Agree l1 σ σ') : Agree l2 σ σ' := fun i hi => a i fun z => hi (h i z)
theorem Agree.refl (l : List Nat) (σ : L2.St) : Agree l σ σ := fun _ _ => rfl
theorem PN.mono (h : ∀ i ∈ l1, i ∈ l2) (p : PN A M H σ l1 ρ' σ' H') : PN A M H σ l2 ρ' σ' H' := let ⟨A', M', c, k, r, a⟩ := p; ⟨A', M', c, k, r, a.mono h⟩
theorem PR.mono (h : ∀ i ∈ l1, i ∈ l2) (p : PR A M H σ l1 d fr ρ' v σ' H') : PR A M H σ l2 d fr ρ' v σ' H' := let ⟨A', M', c, k, r, a, q⟩ := p; ⟨A', M', c, k, r, a.mono h, q⟩
theorem PN.after (l0 : ∀ a, A a → ∃ o, H a = some o) (c : Chg A M H A1 M1) (k : Kp M H H1) (ag : Agree l1 σ σ1) (p : PN A1 M1 H1 σ1 l2 ρ' σ' H') : PN A M H σ (l1 ++ l2) ρ' σ' H' := by
  obtain ⟨A', M', c', k', r, a⟩ := p
  exact ⟨A', M', c.trans l0 k c', k.chg c k', r, ag.trans a⟩
theorem PR.after (l0 : ∀ a, A a → ∃ o, H a = some o) (c : Chg A M H A1 M1) (k : Kp M H H1) (ag : Agree l1 σ σ1) (p : PR A1 M1 H1 σ1 l2 d fr ρ' v σ' H') : PR A M H σ (l1 ++ l2) d fr ρ' v σ' H' := by
  obtain ⟨A', M', c', k', r, a, q1, q2⟩ := p
  exact ⟨A', M', c.trans l0 k c', k.chg c k', r, ag.trans a, q1, fun e => let ⟨p, e1, e2, e3⟩ := q2 e; ⟨p, e1, k.back e2, e3⟩⟩
theorem Gs.after (l0 : ∀ a, A a → ∃ o, H a = some o) (c : Chg A M H A1 M1) (k : Kp M H H1) (ag : Agree l1 σ σ1) (g : Gs A M H σ (l1 ++ l2) o D) : Gs A1 M1 H1 σ1 l2 o D := by
  cases o with
  | nx ρ' => exact fun σ' H' p => g σ' H' (p.after l0 c k ag)
  | bk ρ' => exact fun σ' H' p => g σ' H' (p.after l0 c k ag)
  | ct ρ' => exact fun σ' H' p => g σ' H' (p.after l0 c k ag)
  | rt d fr ρ' => exact fun v σ' H' p => g v σ' H' (p.after l0 c k ag)
theorem Gs.less (h : ∀ i ∈ l1, i ∈ l2) (g : Gs A M H σ l2 o D) : Gs A M H σ l1 o D := by
  cases o with
  | nx ρ' => exact fun σ' H' p => g σ' H' (p.mono h)
  | bk ρ' => exact fun σ' H' p => g σ' H' (p.mono h)
  | ct ρ' => exact fun σ' H' p => g σ' H' (p.mono h)
  | rt d fr ρ' => exact fun v σ' H' p => g v σ' H' (p.mono h)
/-- ahead of it an expression or a test -/
theorem Gs.expr (r : RE A M H ρ σ) (s : Shr A M A1 M1) (k : Kp M H H1) (g : Gs A M H σ l o D) : Gs A1 M1 H1 σ l o D := Gs.after (l1 := []) r.live s.chg k (Agree.refl _ _) g
theorem _root_.L2.PS.imp {X : Cx} {st : Stmt} {t t' : TS} (h : PS X st t) (f : ∀ D σ H, t' D σ H → t D σ H) : PS X st t' := ⟨fun pins s σ H D I q => h.run pins s σ H D I (f D σ H q)⟩
theorem _root_.L2.PSs.imp {X : Cx} {st : List Stmt} {t t' : TS} (h : PSs X st t) (f : ∀ D σ H, t' D σ H → t D σ H) : PSs X st t' := ⟨fun pins s σ H D I q => h.run pins s σ H D I (f D σ H q)⟩
end
section
variable {X : Cx} {F : Fns} {W : Nat} {e a b c tg : Expr} {es : List Expr} {st : Stmt} {sts sts' : List Stmt} {m ma mb mc : ME} {n n' : MS} {pos : Pos} {t : MT} {sts0 : List Expr}
theorem ss_nil : PSs X [] (tS F W .skip) := pss_nil.imp fun D σ H ⟨A, M, ρ, o, r, ev, g⟩ => by
  cases ev
  exact g σ H ⟨A, M, Chg.refl _ _ _, Kp.refl _ _, r, Agree.refl _ _⟩
theorem s_pass : PS X (.Pass pos) (tS F W .skip) := ps_pass.imp fun D σ H ⟨A, M, ρ, o, r, ev, g⟩ => by
  cases ev
  exact g σ H ⟨A, M, Chg.refl _ _ _, Kp.refl _ _, r, Agree.refl _ _⟩
theorem s_break : PS X (.Break pos) (tS F W .brk) := ps_break.imp fun D σ H ⟨A, M, ρ, o, r, ev, g⟩ => by
  cases ev
  exact g σ H ⟨A, M, Chg.refl _ _ _, Kp.refl _ _, r, Agree.refl _ _⟩
theorem s_continue : PS X (.Continue pos) (tS F W .cont) := ps_continue.imp fun D σ H ⟨A, M, ρ, o, r, ev, g⟩ => by
  cases ev
  exact g σ H ⟨A, M, Chg.refl _ _ _, Kp.refl _ _, r, Agree.refl _ _⟩
theorem s_stuck : PS X st (tS F W .stuck) := ps_never.imp fun D σ H ⟨A, M, ρ, o, r, ev, g⟩ => by cases ev
theorem ss_cons (h : PS X st (tS F W n)) (hr : PSs X sts (tS F W n')) : PSs X (st :: sts) (tS F W (.seq n n')) := by
  refine (pss_cons h hr).imp fun D σ H ⟨A, M, ρ, o, r, ev, g⟩ => ?_
  simp only [evS, Option.bind_eq_some_iff] at ev
  obtain ⟨o1, h1, h2⟩ := ev
  refine ⟨A, M, ρ, o1, r, h1, ?_⟩
  have gl : Gs A M H σ (asgd n ++ asgd n') o D := g
  cases o1 with
  | nx ρ1 =>
    intro σ1 H1 p
    obtain ⟨A1, M1, c, k, r1, ag⟩ := p
    exact ⟨A1, M1, ρ1, o, r1, h2, gl.after r.live c k ag⟩
  | bk ρ1 => cases h2; exact gl.less fun i h => List.mem_append_left _ h
  | ct ρ1 => cases h2; exact gl.less fun i h => List.mem_append_left _ h
  | rt d fr ρ1 => cases h2; exact gl.less fun i h => List.mem_append_left _ h
theorem ss_one (h : PS X st (tS F W n)) : PSs X [st] (tS F W n) := pss_one h
theorem s_expr (he : Eb X F e m) (hs : swapsWith e none pos.line X.env = pure false) : PS X (.Expr e pos) (tS F W (.expr m)) := by
  refine (ps_expr he.ev hs).imp fun D σ H ⟨A, M, ρ, o, r, ev, g⟩ => ?_
  simp only [evS, Option.map_eq_some_iff] at ev
  obtain ⟨⟨d, fr, ρ1⟩, h1, h2⟩ := ev
  cases h2
  refine ⟨A, M, ρ, d, fr, ρ1, r, h1, fun v H1 p => ?_⟩
  obtain ⟨⟨A1, M1, s1, k1, r1, _⟩, _⟩ := p
  exact g σ H1 ⟨A1, M1, s1.chg, k1, r1, Agree.refl _ _⟩
theorem s_ret (he : Eb X F e m) : PS X (.Return (some e) pos) (tS F W (.ret m)) := by
  refine (ps_ret he.ev).imp fun D σ H ⟨A, M, ρ, o, r, ev, g⟩ => ?_
  simp only [evS, Option.map_eq_some_iff] at ev
  obtain ⟨⟨d, fr, ρ1⟩, h1, h2⟩ := ev
  cases h2
  refine ⟨A, M, ρ, d, fr, ρ1, r, h1, fun v H1 p => ?_⟩
  obtain ⟨⟨A1, M1, s1, k1, r1, q1, q2⟩, _⟩ := p
  exact g v σ H1 ⟨A1, M1, s1.chg, k1, r1, Agree.refl _ _, q1, q2⟩
theorem s_retN : PS X (.Return none pos) (tS F W (.ret (.lit .none))) := by
  refine ps_retN.imp fun D σ H ⟨A, M, ρ, o, r, ev, g⟩ => ?_
  cases ev
  exact g .non σ H ⟨A, M, Chg.refl _ _ _, Kp.refl _ _, r, Agree.refl _ _, fun _ => .non, fun e => nomatch e⟩
theorem s_ite (hc : PT X c (tT F mc)) (ha : PSs X sts (tS F W n)) (hb : PSs X sts' (tS F W n')) : PS X (.If c sts sts' pos) (tS F W (.ite mc n n')) := by
  refine (ps_if hc ha hb).imp fun D σ H ⟨A, M, ρ, o, r, ev, g⟩ => ?_
  simp only [evS, Option.bind_eq_some_iff] at ev
  obtain ⟨⟨k, ρ1⟩, h1, h2⟩ := ev
  refine ⟨A, M, ρ, k, ρ1, r, h1, fun H1 A1 M1 s1 k1 r1 => ?_⟩
  have gl : Gs A M H σ (asgd n ++ asgd n') o D := g
  cases k with
  | true => exact iteT ⟨A1, M1, ρ1, o, r1, h2, (gl.expr r s1 k1).less fun i h => List.mem_append_left _ h⟩
  | false => exact iteF ⟨A1, M1, ρ1, o, r1, h2, (gl.expr r s1 k1).less fun i h => List.mem_append_right _ h⟩

/-! ### stores -/
theorem RE.setFresh {A M : AS} {H : Hp} {ρ : Rho} {σ : L2.St} {d : PyData} {p : Addr} {i : Nat} (r : RE A M H ρ σ) (hA : A p) (nM : ¬ M p) (ho : Own A H p d) : RE A (orA M p) H (ρ.set i (.own d)) (σ.set i (some (.ref p))) := by
  by_cases hi : i < ρ.length
  · have hσ : (σ.set i (some (V.ref p)))[i]? = some (some (.ref p)) := List.getElem?_set_self (r.len ▸ hi)
    have r0 : RE A M H (ρ.set i .no) (σ.set i (some (V.ref p))) := by
      have ne : ∀ {j : Nat} {s : Slot}, (ρ.set i .no)[j]? = some s → s = .no ∨ (ρ[j]? = some s ∧ (σ.set i (some (V.ref p)))[j]? = σ[j]?) := fun {j s} h => by
        rcases set_cases h with ⟨_, q⟩ | ⟨n, q⟩
        · exact .inl q
        · exact .inr ⟨q, List.getElem?_set_ne (Ne.symm n)⟩
      refine ⟨by rw [List.length_set, List.length_set]; exact r.len, r.sub, r.live, fun j x e => ?_, fun j x e => ?_, fun j k x y a e1 e2 e3 e4 => ?_⟩
      · rcases ne e with q | ⟨q, z⟩
        · cases q
        · obtain ⟨w, e1, e2⟩ := r.dat j x q
          exact ⟨w, z.trans e1, e2⟩
      · rcases ne e with q | ⟨q, z⟩
        · cases q
        · obtain ⟨w, e1, e2⟩ := r.own j x q
          exact ⟨w, z.trans e1, e2⟩
      · rcases ne e1 with q | ⟨q1, z1⟩
        · cases q
        · rcases ne e2 with q | ⟨q2, z2⟩
          · cases q
          · exact r.inj j k x y a q1 q2 (z1.symm.trans e3) (z2.symm.trans e4)
    have r1 := r0.setOwn hσ hA nM ho
    rw [List.set_set] at r1
    exact r1
  · rw [List.set_eq_of_length_le (by omega), List.set_eq_of_length_le (by rw [← r.len]; omega)]
    exact r.monoM (fun _ z => .inl z) fun b z => by
      rcases z with z | z
      · exact r.sub b z
      · rw [z]; exact hA
/-- a value is stored in a variable -/
theorem Pst0.store {A M : AS} {H H1 : Hp} {ρ1 : Rho} {σ : L2.St} {d : PyData} {fr : Bool} {v : V} {i : Nat} {l : List Nat} (hl : i ∈ l) (l0 : ∀ a, A a → ∃ o, H a = some o) (p : Pst0 A M H ρ1 σ d fr v H1) : PN A M H σ l (ρ1.set i (slotOf d fr)) (σ.set i (some v)) H1 := by
  obtain ⟨A1, M1, s1, k1, r1, q1, q2⟩ := p
  cases fr with
  | false => exact ⟨A1, M1, s1.chg, k1, r1.setDat (q1 rfl), Agree.set hl⟩
  | true =>
    obtain ⟨p, rfl, hp, ra, ho⟩ := q2 rfl
    have nA : ¬ A p := fun z => by obtain ⟨o, e⟩ := l0 p z; rw [hp] at e; cases e
    refine ⟨orA A1 p, orA M1 p, ⟨fun x z => ?_, fun x z => ?_, fun x h n => s1.d x h fun z => n (.inl z)⟩, k1, ra.setFresh (.inr rfl) (fun z => nA (s1.a p (r1.sub p z))) ho, Agree.set hl⟩
    · rcases z with z | z
      · exact .inl (s1.a x z)
      · exact .inr (z ▸ hp)
    · rcases z with z | z
      · exact .inl (s1.m x z)
      · exact .inr (z ▸ hp)
theorem s_asgN {i : Nat} (he : PS X st (tAsg (tE F m) (gName i))) : PS X st (tS F W (.asg (.nm i) m)) := by
  refine he.imp fun D σ H ⟨A, M, ρ, o, r, ev, g⟩ => ?_
  simp only [evS, setT, Option.bind_eq_some_iff, Option.map_some, Option.some.injEq] at ev
  obtain ⟨⟨d, fr, ρ1⟩, h1, h2⟩ := ev
  cases h2
  exact ⟨A, M, ρ, d, fr, ρ1, r, h1, fun v H1 p => g _ _ (p.1.store (by simp [asgd, slotsT]) r.live)⟩
theorem s_asgT {ts : MT} (he : PS X st (tAsg (tE F m) (gM (.tp ts)))) : PS X st (tS F W (.asg (.tp ts) m)) := by
  refine he.imp fun D σ H ⟨A, M, ρ, o, r, ev, g⟩ => ?_
  simp only [evS, setT, Option.bind_eq_some_iff, Option.map_eq_some_iff] at ev
  obtain ⟨⟨d, fr, ρ1⟩, h1, ρ2, h2, h3⟩ := ev
  cases h3
  refine ⟨A, M, ρ, d, fr, ρ1, r, h1, fun v H1 p => ?_⟩
  obtain ⟨A1, M1, s1, k1, r1, b1⟩ := p.std r.live
  exact ⟨A1, M1, ρ1, d, ρ2, r1, b1, h2, fun σ' r' ag => g σ' H1 ⟨A1, M1, s1.chg, k1, r', ag⟩⟩

/-! ### several values at once -/
inductive FR (N : PyData → Prop) (A M : AS) (H0 H : Hp) : AS → List V → List (PyData × Bool) → Prop
  | nil {U : AS} : FR N A M H0 H U [] []
  | dat {U : AS} {v : V} {d : PyData} {vs : List V} {r : List (PyData × Bool)} : Rel A H v d → FR N A M H0 H U vs r → FR N A M H0 H U (v :: vs) ((d, false) :: r)
  | own {U : AS} {p : Addr} {d : PyData} {vs : List V} {r : List (PyData × Bool)} : H0 p = none → A p → ¬ M p → ¬ U p → Own A H p d → N d → FR N A M H0 H (orA U p) vs r → FR N A M H0 H U (.ref p :: vs) ((d, true) :: r)
theorem FR.more {N : PyData → Prop} {A M : AS} {H0 H1 H : Hp} {q : Addr} (hq : ∃ o, H0 q = some o) (hb : ∀ p, H0 p = none → H1 p = none) : ∀ {U : AS} {vs : List V} {r : List (PyData × Bool)}, FR N A M H0 H U vs r → FR N A M H1 H (orA U q) vs r
  | _, _, _, .nil => .nil
  | _, _, _, .dat a r => .dat a (FR.more hq hb r)
  | U, _, _, .own (p := p) h a m u o nt r => .own (hb _ h) a m (fun z => by
      rcases z with z | z
      · exact u z
      · obtain ⟨o', e⟩ := hq; rw [z] at h; rw [h] at e; cases e) o nt (by
      have z := FR.more hq hb r
      have e : orA (orA U p) q = orA (orA U q) p := funext fun x => propext ⟨fun z => by
        rcases z with (z | z) | z
        · exact .inl (.inl z)
        · exact .inr z
        · exact .inl (.inr z), fun z => by
        rcases z with (z | z) | z
        · exact .inl (.inl z)
        · exact .inr z
        · exact .inl (.inr z)⟩
      rw [e] at z
      exact z)
theorem FR.base {N : PyData → Prop} {A M : AS} {H0 H1 H : Hp} (hb : ∀ p, H0 p = none → H1 p = none) : ∀ {U : AS} {vs : List V} {r : List (PyData × Bool)}, FR N A M H0 H U vs r → FR N A M H1 H U vs r
  | _, _, _, .nil => .nil
  | _, _, _, .dat a r => .dat a (FR.base hb r)
  | _, _, _, .own h a m u o nt r => .own (hb _ h) a m u o nt (FR.base hb r)
def tP (F : Fns) (m : ME) : TA := fun σ H Q => ∃ A M ρ ds ρ', RE A M H ρ σ ∧ evP F m ρ = some (ds, ρ') ∧ ∀ vs H' A' M', Chg A M H A' M' → (∀ x, M' x → M x) → Kp M H H' → RE A' M' H' ρ' σ → FR NT A' M' H H' No vs ds → Q vs H'
theorem p_nil : PA X [] (tP F .nil) := pa_nil.imp fun σ H Q ⟨A, M, ρ, bs, ρ', r, ev, q⟩ => by
  cases ev
  exact q [] H A M (Chg.refl _ _ _) (fun _ z => z) (Kp.refl _ _) r .nil
theorem p_cons {r : ME} (he : Eb X F e m) (hr : PA X es (tP F r)) (ns : noStar e = true) : PA X (e :: es) (tP F (.cons m r)) := by
  refine (pa_cons he.ev hr (star_no ns)).imp fun σ H Q ⟨A, M, ρ, ds, ρ', r, ev, q⟩ => ?_
  simp only [evP, Option.bind_eq_some_iff, Option.map_eq_some_iff] at ev
  obtain ⟨⟨d, fr, ρ1⟩, h1, ⟨ds1, ρ2⟩, h2, h3⟩ := ev
  cases h3
  refine ⟨A, M, ρ, d, fr, ρ1, r, h1, fun v H1 p => ?_⟩
  obtain ⟨⟨A1, M1, s1, k1, r1, q1, q2⟩, q3⟩ := p
  cases fr with
  | false =>
    refine ⟨A1, M1, ρ1, ds1, _, r1, h2, fun vs H2 A2 M2 c2 m2 k2 r2 f2 => q (v :: vs) H2 A2 M2 (s1.chg.trans r.live k1 c2) (fun x z => s1.m x (m2 x z)) (k1.comp s1 k2) r2 (.dat ?_ (f2.base fun p z => k1.back z))⟩
    exact (q1 rfl).lat ⟨k2.mono r1.sub, fun a z => c2.a a z⟩
  | true =>
    obtain ⟨p, rfl, hp, ra, ho⟩ := q2 rfl
    have nA1 : ¬ A1 p := fun z => by obtain ⟨o, e⟩ := r.live p (s1.a p z); rw [hp] at e; cases e
    have nM1 : ¬ M1 p := fun z => nA1 (r1.sub p z)
    have hp1 : ∃ o, H1 p = some o := let ⟨o, e, _⟩ := ho.live; ⟨o, e⟩
    refine ⟨orA A1 p, M1, ρ1, ds1, _, ra, h2, fun vs H2 A2 M2 c2 m2 k2 r2 f2 => q (.ref p :: vs) H2 A2 M2 ⟨fun x z => ?_, fun x z => .inl (s1.m x (m2 x z)), fun x h n => ?_⟩ (fun x z => s1.m x (m2 x z)) (k1.comp s1 k2) r2 (.own hp ?_ (fun z => nM1 (m2 p z)) (fun z => z) ?_ (q3 rfl) (f2.more hp1 fun p z => k1.back z))⟩
    · rcases c2.a x z with (z | z) | z
      · exact .inl (s1.a x z)
      · exact .inr (z ▸ hp)
      · exact .inr (k1.back z)
    · by_cases h1 : A1 x
      · exact s1.m x (c2.d x (.inl h1) n)
      · exact s1.d x h h1
    · exact Classical.byContradiction fun n => nM1 (c2.d p (.inr rfl) n)
    · refine ho.map (H' := H2) (A' := A2) (fun a o h z => k2.same a o h fun y => z (.inl (r1.sub a y))) (fun a o h z n _ => ?_) ?_
      · rcases c2.a a z with y | y
        · exact n y
        · rw [y] at h; cases h
      · obtain ⟨o, e, mu⟩ := ho.live
        rw [e]
        exact k2.same p o e fun z => absurd z nM1
/-- the stores, one behind the other -/
theorem FR.bind {N : PyData → Prop} {A M : AS} {H0 H : Hp} : ∀ {t : MT} {vs : List V} {ds : List (PyData × Bool)} {U : AS} {ρ ρ' : Rho} {σ : L2.St} {l : List Nat}, FR N A M H0 H U vs ds → RE A (fun x => M x ∨ U x) H ρ σ → (∀ x, U x → H0 x = none) → bindP t ds ρ = some ρ' →
    ∀ is : List Nat, (∀ i ∈ is, i ∈ l) → t = is.foldr (fun i r => MT.cons (.nm i) r) .nil → ∃ U' : AS, RE A (fun x => M x ∨ U' x) H ρ' ((is.zip vs).foldl (fun s p => s.set p.1 (some p.2)) σ) ∧ (∀ x, U' x → H0 x = none) ∧ Agree l σ ((is.zip vs).foldl (fun s p => s.set p.1 (some p.2)) σ)
  | t, vs, ds, U, ρ, ρ', σ, l, f, r, hU, h, [], hl, e => by
    subst e
    cases f with
    | nil =>
      have h' : some ρ = some ρ' := by simpa [bindP] using h
      cases h'
      exact ⟨U, r, hU, Agree.refl _ _⟩
    | dat _ _ => simp [bindP] at h
    | own _ _ _ _ _ _ => simp [bindP] at h
  | t, vs, ds, U, ρ, ρ', σ, l, f, r, hU, h, i :: is, hl, e => by
    subst e
    have hi : i ∈ l := hl i List.mem_cons_self
    cases f with
    | nil => simp [bindP] at h
    | @dat _ v d vs dr a f =>
      have h' : bindP (is.foldr (fun i r => MT.cons (.nm i) r) .nil) dr (ρ.set i (.dat d)) = some ρ' := by simpa [bindP, slotOf] using h
      obtain ⟨U', q1, q2, q3⟩ := FR.bind (l := l) f (r.setDat (i := i) a) hU h' is (fun j hj => hl j (List.mem_cons_of_mem _ hj)) rfl
      exact ⟨U', q1, q2, fun j hj => (q3 j hj).trans (Agree.set hi j hj)⟩
    | @own _ p d vs dr hp ha nm nu o nt f =>
      have h' : bindP (is.foldr (fun i r => MT.cons (.nm i) r) .nil) dr (ρ.set i (.own d)) = some ρ' := by simpa [bindP, slotOf] using h
      have r1 := r.setFresh (i := i) ha (fun z => by
        rcases z with z | z
        · exact nm z
        · exact nu z) o
      have e2 : (orA (fun x => M x ∨ U x) p) = (fun x => M x ∨ orA U p x) := funext fun x => propext ⟨fun z => by
        rcases z with (z | z) | z
        · exact .inl z
        · exact .inr (.inl z)
        · exact .inr (.inr z), fun z => by
        rcases z with z | z | z
        · exact .inl (.inl z)
        · exact .inl (.inr z)
        · exact .inr z⟩
      rw [e2] at r1
      obtain ⟨U', q1, q2, q3⟩ := FR.bind (l := l) f r1 (fun x z => by
        rcases z with z | z
        · exact hU x z
        · rw [z]; exact hp) h' is (fun j hj => hl j (List.mem_cons_of_mem _ hj)) rfl
      exact ⟨U', q1, q2, fun j hj => (q3 j hj).trans (Agree.set hi j hj)⟩
def nmT (is : List Nat) : MT := is.foldr (fun i r => MT.cons (.nm i) r) .nil
theorem slots_nmT : ∀ is : List Nat, slotsT (nmT is) = is
  | [] => rfl
  | i :: is => by
    show [i] ++ slotsT (nmT is) = _
    rw [slots_nmT is]
    rfl
theorem FR.length {N : PyData → Prop} {A M : AS} {H0 H : Hp} : ∀ {U : AS} {vs : List V} {ds : List (PyData × Bool)}, FR N A M H0 H U vs ds → vs.length = ds.length
  | _, _, _, .nil => rfl
  | _, _, _, .dat _ f => congrArg (· + 1) (FR.length f)
  | _, _, _, .own _ _ _ _ _ _ f => congrArg (· + 1) (FR.length f)
theorem bindP_len : ∀ {t : MT} {ds : List (PyData × Bool)} {ρ ρ' : Rho}, bindP t ds ρ = some ρ' → ds.length = lenT t
  | .nil, [], _, _, _ => rfl
  | .nil, _ :: _, _, _, h => by simp [bindP] at h
  | .cons _ _, [], _, _, h => by simp [bindP] at h
  | .nm _, _, _, _, h => by simp [bindP] at h
  | .tp _, _, _, _, h => by simp [bindP] at h
  | .cons (.nm i) r, (d, fr) :: ds, ρ, ρ', h => by
    have h' : bindP r ds (ρ.set i (slotOf d fr)) = some ρ' := by simpa [bindP] using h
    exact congrArg (· + 1) (bindP_len h')
  | .cons (.tp t) r, (d, fr) :: ds, ρ, ρ', h => by
    simp only [bindP, Option.bind_eq_some_iff] at h
    obtain ⟨ρ1, _, h2⟩ := h
    exact congrArg (· + 1) (bindP_len h2)
  | .cons .nil r, (d, fr) :: ds, ρ, ρ', h => by
    simp only [bindP, Option.bind_eq_some_iff] at h
    obtain ⟨ρ1, _, h2⟩ := h
    exact congrArg (· + 1) (bindP_len h2)
  | .cons (.cons a b) r, (d, fr) :: ds, ρ, ρ', h => by
    simp only [bindP, Option.bind_eq_some_iff] at h
    obtain ⟨ρ1, _, h2⟩ := h
    exact congrArg (· + 1) (bindP_len h2)
theorem lenT_nmT : ∀ is : List Nat, lenT (nmT is) = is.length
  | [] => rfl
  | i :: is => congrArg (· + 1) (lenT_nmT is)
/-- plain names, whatever way the model stores them -/
theorem par_read {is : List Nat} {D : Ends} {σ : L2.St} {H : Hp} (h : tS F W (.par (nmT is) m) D σ H) : tP F m σ H fun vs H1 => vs.length = is.length ∧ D.nx ((is.zip vs).foldl (fun s p => s.set p.1 (some p.2)) σ) H1 := by
  obtain ⟨A, M, ρ, o, r, ev, g⟩ := h
  simp only [evS, Option.bind_eq_some_iff, Option.map_eq_some_iff] at ev
  obtain ⟨⟨ds, ρ1⟩, h1, ρ2, h2, h3⟩ := ev
  cases h3
  refine ⟨A, M, ρ, ds, ρ1, r, h1, fun vs H1 A1 M1 c1 m1 k1 r1 f1 => ⟨?_, ?_⟩⟩
  · rw [f1.length, bindP_len h2, lenT_nmT]
  have e0 : (fun x => M1 x ∨ No x) = M1 := funext fun x => propext ⟨fun z => z.elim id fun y => y.elim, .inl⟩
  obtain ⟨U', q1, q2, q3⟩ := FR.bind (l := asgd (.par (nmT is) m)) f1 (by rw [e0]; exact r1) (fun x z => z.elim) h2 is (fun i hi => by show i ∈ slotsT (nmT is); rw [slots_nmT]; exact hi) rfl
  exact g _ _ ⟨A1, _, ⟨c1.a, fun x z => z.elim (fun y => .inl (m1 x y)) fun y => .inr (q2 x y), c1.d⟩, k1, q1, q3⟩
theorem s_par2 {i j : Nat} (h : PS X st (tPar i j (tP F m))) : PS X st (tS F W (.par (nmT [i, j]) m)) := h.imp fun D σ H q => by
  obtain ⟨A, M, ρ, ds, ρ', r, ev, g⟩ := par_read q
  refine ⟨A, M, ρ, ds, ρ', r, ev, fun vs H' A' M' c m' k r' f => ?_⟩
  obtain ⟨hl, hq⟩ := g vs H' A' M' c m' k r' f
  match vs, hl, hq with
  | [v, w], _, hq => exact ⟨v, w, rfl, hq⟩
theorem s_par3 {i j l : Nat} (h : PS X st (tPar3 i j l (tP F m))) : PS X st (tS F W (.par (nmT [i, j, l]) m)) := h.imp fun D σ H q => by
  obtain ⟨A, M, ρ, ds, ρ', r, ev, g⟩ := par_read q
  refine ⟨A, M, ρ, ds, ρ', r, ev, fun vs H' A' M' c m' k r' f => ?_⟩
  obtain ⟨hl, hq⟩ := g vs H' A' M' c m' k r' f
  match vs, hl, hq with
  | [u, v, w], _, hq => exact ⟨u, v, w, rfl, hq⟩
/-- an item: reckoned, or a call that may give out a tuple of one's own -/
def tU (F : Fns) : Option Nat → ME → TE
  | none, m => tE F m
  | some id, m => tC0 F id m
theorem tU_of {o : Option Nat} {A M : AS} {ρ ρ' : Rho} {d : PyData} {fr : Bool} {σ : L2.St} {H : Hp} {Q : VK} (r : RE A M H ρ σ) (ev : evU F o m ρ = some (d, fr, ρ')) (q : ∀ v H', Pst0 A M H ρ' σ d fr v H' → Q v H') : tU F o m σ H Q := by
  cases o with
  | none => exact ⟨A, M, ρ, d, fr, ρ', r, ev, fun v H' p => q v H' p.1⟩
  | some id =>
    simp only [evU, Option.bind_eq_some_iff, Option.map_eq_some_iff] at ev
    obtain ⟨⟨bs, ρ1⟩, h1, ⟨as, ρ2⟩, h2, ⟨d, fr, ss⟩, h3, ρ3, h4, h5⟩ := ev
    cases h5
    exact ⟨A, M, ρ, bs, ρ1, as, ρ2, _, _, ss, _, r, h1, h2, h3, h4, q⟩
theorem fr_step {N : PyData → Prop} {A M : AS} {ρ ρ1 : Rho} {σ : L2.St} {H H1 : Hp} {d : PyData} {fr : Bool} {v : V} (r : RE A M H ρ σ) (p : Pst0 A M H ρ1 σ d fr v H1) (hN : fr = true → N d) :
    ∃ A1 M1, RE A1 M1 H1 ρ1 σ ∧ ∀ vs ds H2 A2 M2 ρ2, Chg A1 M1 H1 A2 M2 → (∀ x, M2 x → M1 x) → Kp M1 H1 H2 → RE A2 M2 H2 ρ2 σ → FR N A2 M2 H1 H2 No vs ds →
      Chg A M H A2 M2 ∧ (∀ x, M2 x → M x) ∧ Kp M H H2 ∧ FR N A2 M2 H H2 No (v :: vs) ((d, fr) :: ds) := by
  obtain ⟨A1, M1, s1, k1, r1, q1, q2⟩ := p
  cases fr with
  | false =>
    refine ⟨A1, M1, r1, fun vs ds H2 A2 M2 ρ2 c2 m2 k2 r2 f2 => ⟨s1.chg.trans r.live k1 c2, fun x z => s1.m x (m2 x z), k1.comp s1 k2, .dat ?_ (f2.base fun p z => k1.back z)⟩⟩
    exact (q1 rfl).lat ⟨k2.mono r1.sub, fun a z => c2.a a z⟩
  | true =>
    obtain ⟨p, rfl, hp, ra, ho⟩ := q2 rfl
    have nA1 : ¬ A1 p := fun z => by obtain ⟨o, e⟩ := r.live p (s1.a p z); rw [hp] at e; cases e
    have nM1 : ¬ M1 p := fun z => nA1 (r1.sub p z)
    have hp1 : ∃ o, H1 p = some o := let ⟨o, e, _⟩ := ho.live; ⟨o, e⟩
    refine ⟨orA A1 p, M1, ra, fun vs ds H2 A2 M2 ρ2 c2 m2 k2 r2 f2 => ⟨⟨fun x z => ?_, fun x z => .inl (s1.m x (m2 x z)), fun x h n => ?_⟩, fun x z => s1.m x (m2 x z), k1.comp s1 k2, .own hp ?_ (fun z => nM1 (m2 p z)) (fun z => z) ?_ (hN rfl) (f2.more hp1 fun p z => k1.back z)⟩⟩
    · rcases c2.a x z with (z | z) | z
      · exact .inl (s1.a x z)
      · exact .inr (z ▸ hp)
      · exact .inr (k1.back z)
    · by_cases h1 : A1 x
      · exact s1.m x (c2.d x (.inl h1) n)
      · exact s1.d x h h1
    · exact Classical.byContradiction fun n => nM1 (c2.d p (.inr rfl) n)
    · refine ho.map (H' := H2) (A' := A2) (fun a o h z => k2.same a o h fun y => z (.inl (r1.sub a y))) (fun a o h z n _ => ?_) ?_
      · rcases c2.a a z with y | y
        · exact n y
        · rw [y] at h; cases h
      · obtain ⟨o, e, mu⟩ := ho.live
        rw [e]
        exact k2.same p o e fun z => absurd z nM1
def tP2 (F : Fns) (f : Option Nat) (a : ME) (g : Option Nat) (b : ME) : TA := fun σ H Q => ∃ A M ρ d fr ρ1 e fr2 ρ2, RE A M H ρ σ ∧ evU F f a ρ = some (d, fr, ρ1) ∧ evU F g b ρ1 = some (e, fr2, ρ2) ∧
  ∀ vs H' A' M', Chg A M H A' M' → (∀ x, M' x → M x) → Kp M H H' → RE A' M' H' ρ2 σ → FR (fun _ => True) A' M' H H' No vs [(d, fr), (e, fr2)] → Q vs H'
theorem p_two {e1 e2 : Expr} {f g : Option Nat} {a b : ME} (h1 : PE X e1 (tU F f a)) (h2 : PE X e2 (tU F g b)) (n1 : noStar e1 = true) (n2 : noStar e2 = true) : PA X [e1, e2] (tP2 F f a g b) := by
  refine (pa_cons h1 (pa_cons h2 pa_nil (star_no n2)) (star_no n1)).imp fun σ H Q ⟨A, M, ρ, d, fr, ρ1, e, fr2, ρ2, r, v1, v2, q⟩ => ?_
  refine tU_of r v1 fun v H1 p => ?_
  obtain ⟨A1, M1, r1, k1⟩ := fr_step (N := fun _ => True) r p fun _ => trivial
  refine tU_of r1 v2 fun w H2 p2 => ?_
  obtain ⟨A2, M2, r2, k2⟩ := fr_step (N := fun _ => True) r1 p2 fun _ => trivial
  obtain ⟨c2, m2, kk2, f2⟩ := k2 [] [] H2 A2 M2 ρ2 (Chg.refl _ _ _) (fun _ z => z) (Kp.refl _ _) r2 .nil
  obtain ⟨c1, m1, kk1, f1⟩ := k1 _ _ H2 A2 M2 ρ2 c2 m2 kk2 r2 f2
  exact q _ _ A2 M2 c1 m1 kk1 r2 f1
theorem s_parS {i j : Nat} {f g : Option Nat} {a b : ME} (h : PS X st (tPar i j (tP2 F f a g b))) : PS X st (tS F W (.parS i f a j g b)) := h.imp fun D σ H ⟨A, M, ρ, o, r, ev, gg⟩ => by
  simp only [evS, Option.bind_eq_some_iff, Option.map_eq_some_iff] at ev
  obtain ⟨⟨d, fr, ρ1⟩, h1, ⟨e, fr2, ρ2⟩, h2, h3⟩ := ev
  cases h3
  refine ⟨A, M, ρ, d, fr, ρ1, e, fr2, ρ2, r, h1, h2, fun vs H1 A1 M1 c1 m1 k1 r1 f1 => ?_⟩
  have e0 : (fun x => M1 x ∨ No x) = M1 := funext fun x => propext ⟨fun z => z.elim id fun y => y.elim, .inl⟩
  obtain ⟨U', q1, q2, q3⟩ := FR.bind (t := nmT [i, j]) (l := asgd (.parS i f a j g b)) f1 (by rw [e0]; exact r1) (fun x z => z.elim) (ρ' := (ρ2.set i (slotOf d fr)).set j (slotOf e fr2)) (by simp only [nmT, List.foldr, bindP]) [i, j] (fun i' hi => hi) rfl
  have hl := f1.length
  have hq := gg _ _ ⟨A1, _, ⟨c1.a, fun x z => z.elim (fun y => .inl (m1 x y)) fun y => .inr (q2 x y), c1.d⟩, k1, q1, q3⟩
  match vs, hl, hq with
  | [v, w], _, hq => exact ⟨v, w, rfl, hq⟩
/-- the stores of a tuple that was made, one by one -/
def gPs (t : MT) : TGs := fun vs σ H Q => ∃ (A M : AS) (H0 : Hp) (U : AS) (ρ : Rho) (ds : List (PyData × Bool)) (ρ' : Rho), FR NT A M H0 H U vs ds ∧ RE A (fun x => M x ∨ U x) H ρ σ ∧ (∀ x, U x → H0 x = none) ∧ bindP t ds ρ = some ρ' ∧
  ∀ (σ' : L2.St) (U' : AS), RE A (fun x => M x ∨ U' x) H ρ' σ' → (∀ x, U' x → H0 x = none) → Agree (slotsT t) σ σ' → Q σ' H
theorem gp_nil : PGs X [] (gPs .nil) := pgs_nil.imp fun v σ H Q ⟨A, M, H0, U, ρ, ds, ρ', f, r, hU, ev, q⟩ => by
  cases f with
  | nil =>
    have h' : some ρ = some ρ' := by simpa [bindP] using ev
    cases h'
    exact ⟨rfl, q σ U r hU (Agree.refl _ _)⟩
  | dat _ _ => simp [bindP] at ev
  | own _ _ _ _ _ _ => simp [bindP] at ev
theorem gp_name {i : Nat} {u : MT} (h : PG X e (gName i)) (hr : PGs X es (gPs u)) (h1 : (assignEach (e :: es) X.env).map (·.2) = assign e X.env :: (assignEach es X.env).map (·.2)) : PGs X (e :: es) (gPs (.cons (.nm i) u)) :=
  (pgs_cons h hr h1).imp fun v σ H Q ⟨A, M, H0, U, ρ, ds, ρ', f, r, hU, ev, q⟩ => by
  have hi : i ∈ slotsT (.cons (.nm i) u) := List.mem_append_left _ List.mem_cons_self
  have hu : ∀ j ∈ slotsT u, j ∈ slotsT (.cons (.nm i) u) := fun j hj => List.mem_append_right _ hj
  have hl : ∀ {σ1 σ2 : L2.St}, Agree (slotsT (.cons (.nm i) u)) σ σ1 → Agree (slotsT u) σ1 σ2 → Agree (slotsT (.cons (.nm i) u)) σ σ2 := fun a b j hj => (b j fun z => hj (hu j z)).trans (a j hj)
  cases f with
  | nil => simp [bindP] at ev
  | @dat _ v d vs dr a f =>
    have h' : bindP u dr (ρ.set i (.dat d)) = some ρ' := by simpa [bindP, slotOf] using ev
    exact ⟨v, vs, rfl, A, M, H0, U, _, dr, ρ', f, r.setDat a, hU, h', fun σ' U' r' hU' ag => q σ' U' r' hU' (hl (Agree.set hi) ag)⟩
  | @own _ p d vs dr hp ha nm nu o nt f =>
    have h' : bindP u dr (ρ.set i (.own d)) = some ρ' := by simpa [bindP, slotOf] using ev
    have r1 := r.setFresh (i := i) ha (fun z => z.elim nm nu) o
    have e2 : (orA (fun x => M x ∨ U x) p) = (fun x => M x ∨ orA U p x) := funext fun x => propext ⟨fun z => by
      rcases z with (z | z) | z
      · exact .inl z
      · exact .inr (.inl z)
      · exact .inr (.inr z), fun z => by
      rcases z with z | z | z
      · exact .inl (.inl z)
      · exact .inl (.inr z)
      · exact .inr z⟩
    rw [e2] at r1
    exact ⟨_, vs, rfl, A, M, H0, orA U p, _, dr, ρ', f, r1, fun x z => z.elim (hU x) fun y => y ▸ hp, h', fun σ' U' r' hU' ag => q σ' U' r' hU' (hl (Agree.set hi) ag)⟩
theorem gp_tup {t u : MT} (h : PG X e (gM (.tp t))) (hr : PGs X es (gPs u)) (h1 : (assignEach (e :: es) X.env).map (·.2) = assign e X.env :: (assignEach es X.env).map (·.2)) : PGs X (e :: es) (gPs (.cons (.tp t) u)) :=
  (pgs_cons h hr h1).imp fun v σ H Q ⟨A, M, H0, U, ρ, ds, ρ', f, r, hU, ev, q⟩ => by
  cases f with
  | nil => simp [bindP] at ev
  | @dat _ v d vs dr a f =>
    simp only [bindP, Option.bind_eq_some_iff] at ev
    obtain ⟨ρ1, h1, h2⟩ := ev
    exact ⟨v, vs, rfl, A, _, ρ, d, ρ1, r, a, h1, fun σ1 r1 a1 => ⟨A, M, H0, U, ρ1, dr, ρ', f, r1, hU, h2, fun σ' U' r' hU' ag => q σ' U' r' hU' (a1.trans ag)⟩⟩
  | @own _ p d vs dr hp ha nm nu o nt f =>
    simp only [bindP, Option.bind_eq_some_iff] at ev
    obtain ⟨ρ1, h1, h2⟩ := ev
    rcases o with ⟨_, _, rfl, _⟩ | ⟨_, _, rfl, _⟩ | ⟨xs, ds, ob, rfl, hd, hH, rr⟩ | ⟨_, _, rfl, _⟩
    · simp [bindT] at h1
    · simp [bindT] at h1
    · have r' : RE A (fun x => M x ∨ orA U p x) H ρ σ := r.monoM (fun b z => z.imp id .inl) fun b z => by
        rcases z with z | z | z
        · exact r.sub b (.inl z)
        · exact r.sub b (.inr z)
        · exact z ▸ ha
      exact ⟨_, vs, rfl, A, _, ρ, _, ρ1, r', .tup (.inr ⟨ob, hd, hH⟩) rr, h1, fun σ1 r1 a1 => ⟨A, M, H0, orA U p, ρ1, dr, ρ', f, r1, fun x z => z.elim (hU x) fun y => y ▸ hp, h2, fun σ' U' r' hU' ag => q σ' U' r' hU' (a1.trans ag)⟩⟩
    · simp [bindT] at h1
theorem FR.keep {N : PyData → Prop} {A M : AS} {H0 H H' : Hp} (k : Kp No H H') : ∀ {U : AS} {vs : List V} {ds : List (PyData × Bool)}, FR N A M H0 H U vs ds → FR N A M H0 H' U vs ds
  | _, _, _, .nil => .nil
  | _, _, _, .dat a f => .dat (a.keep (M := No) (fun _ z => z.elim) k) (FR.keep k f)
  | _, _, _, .own h a m u o nt f => .own h a m u (o.keep (M := No) (fun _ z => z.elim) k fun z => z) nt (FR.keep k f)
theorem s_parG {k k2 : Nat} {p1 p2 : Pos} (hc : X.calm = true) (ha : PA X sts0 (tP F m)) (hg : PGs X es (gPs t)) (hn : (assignEach es X.env).length = lenT t) (hst : (assignEach es X.env).findIdx? (·.1) = none)
    (hs : swapsWithSole [.Tuple es k p1] (.Tuple sts0 k2 p2) pos.line X.env = pure false) (hw : swappedStores [.Tuple es k p1] (.Tuple sts0 k2 p2) X.env = pure none) (hl : ∀ ρ ds ρ', evP F m ρ = some (ds, ρ') → ds.length ≤ sizeLine) :
    PS X (.Assign [.Tuple es k p1] (.Tuple sts0 k2 p2) pos) (tS F W (.par t m)) := by
  refine (ps_asg (pe_tup ha) (pg_tup hc hg hn hst) hs hw).imp fun D σ H ⟨A, M, ρ, o, r, ev, g⟩ => ?_
  simp only [evS, Option.bind_eq_some_iff, Option.map_eq_some_iff] at ev
  obtain ⟨⟨ds, ρ1⟩, h1, ρ2, h2, h3⟩ := ev
  cases h3
  refine ⟨A, M, ρ, ds, ρ1, r, h1, fun vs H1 A1 M1 c1 m1 k1 r1 f1 => ⟨by rw [f1.length]; exact hl _ _ _ h1, fun p hp => ?_⟩⟩
  have kn : Kp No H1 (upd H1 p (.tup vs)) := Kp.new hp
  have e0 : (fun x => M1 x ∨ No x) = M1 := funext fun x => propext ⟨fun z => z.elim (fun y => y) fun y => y.elim, .inl⟩
  refine ⟨p, vs, rfl, SqT.of upd_same, by rw [f1.length]; exact bindP_len h2, A1, M1, H, No, ρ1, ds, ρ2, f1.keep kn, by rw [e0]; exact r1.keep kn, fun x z => z.elim, h2, fun σ' U' r' hU' ag => ?_⟩
  exact g _ _ ⟨A1, _, ⟨c1.a, fun x z => z.elim (fun y => .inl (m1 x y)) fun y => .inr (hU' x y), c1.d⟩, k1.trans kn.of, r', ag⟩
end
end MI

/-! MI9: lists that change, loops. -/
namespace MI
open PySem PySem.Spec PyProof.Rows L2
variable [EK]

section
variable {X : Cx} {F : Fns} {W : Nat} {e a b c tg iter : Expr} {es : List Expr} {st : Stmt} {sts sts' : List Stmt} {m ma mb mc mi : ME} {n n' : MS} {pos : Pos} {t : MT} {i : Nat}
/-- a list of one's own is written -/
theorem RE.write {A M : AS} {H : Hp} {ρ : Rho} {σ : L2.St} {d d' : PyData} {p : Addr} {o : HO} (r : RE A M H ρ σ) (e : ρ[i]? = some (Slot.own d)) (hσ : σ[i]? = some (some (.ref p))) (nt : NM d) (ho : Own A (upd H p o) p d') : RE A M (upd H p o) (ρ.set i (.own d')) σ ∧ Kp M H (upd H p o) := by
  obtain ⟨p', e1, hm, hown⟩ := r.own i d e
  rw [hσ] at e1
  cases e1
  obtain ⟨o0, h0, mu⟩ := hown.live
  have k : Kp M H (upd H p o) := Kp.wr hm h0 (mu nt)
  refine ⟨⟨by rw [List.length_set]; exact r.len, r.sub, fun x z => let ⟨u, h⟩ := r.live x z; k.live x u h, fun j x h => ?_, fun j x h => ?_, fun j k x y b h1 h2 h3 h4 => ?_⟩, k⟩
  · rcases set_cases h with ⟨_, q⟩ | ⟨_, q⟩
    · cases q
    · obtain ⟨v, q1, q2⟩ := r.dat j x q
      exact ⟨v, q1, q2.keep r.sub k⟩
  · rcases set_cases h with ⟨rfl, q⟩ | ⟨ne, q⟩
    · cases q; exact ⟨p, hσ, hm, ho⟩
    · obtain ⟨b, q1, q2, q3⟩ := r.own j x q
      have nb : b ≠ p := fun z => ne (r.inj j i x d p q e (z ▸ q1) hσ)
      have kp : Kp (fun x => x = p) H (upd H p o) := Kp.wr rfl h0 (mu nt)
      exact ⟨b, q1, q2, q3.keep (M := fun x => x = p) (fun x z => z ▸ r.sub p hm) kp nb⟩
  · have own : ∀ {j : Nat} {x : PyData}, (ρ.set i (.own d'))[j]? = some (Slot.own x) → ∃ y, ρ[j]? = some (Slot.own y) := fun {j x} h => by
      rcases set_cases h with ⟨rfl, _⟩ | ⟨_, q⟩
      · exact ⟨d, e⟩
      · exact ⟨x, q⟩
    obtain ⟨x', q1⟩ := own h1
    obtain ⟨y', q2⟩ := own h2
    exact r.inj j k x' y' b q1 q2 h3 h4
theorem own_lst {A M : AS} {H : Hp} {ρ : Rho} {σ : L2.St} {ds : List PyData} (r : RE A M H ρ σ) (e : ρ[i]? = some (Slot.own (.list ds))) : ∃ p xs, σ[i]? = some (some (.ref p)) ∧ M p ∧ H p = some (.lst xs) ∧ RelAll A H xs ds := by
  obtain ⟨p, e1, hm, ho⟩ := r.own i _ e
  rcases ho with ⟨xs, ds', e2, h, rr⟩ | ⟨_, _, e2, _⟩ | ⟨_, _, _, e2, _⟩ | ⟨_, _, e2, _⟩
  · cases e2; exact ⟨p, xs, e1, hm, h, rr⟩
  · cases e2
  · cases e2
  · cases e2
theorem isOwnL_iff {s : Option Slot} (h : isOwnL s = true) : ∃ ds, s = some (.own (.list ds)) := by
  unfold isOwnL at h
  split at h
  · exact ⟨_, rfl⟩
  · cases h
theorem hfew1 {cp : Pos} (ns : noStar e = true) : ((backTo cp (starEach [e] X.env)).all (fun x => !x.1) && (backToKw cp (keywordEach [] X.env)).all (fun x => x.1.isSome)
      && decide ([e].length + ([] : List Keyword).length + (if ([] : List Keyword).isEmpty then 0 else 1) < 30)) = true := by
  rw [star_no ns]
  rfl
theorem s_app {x : Str} {px ap cp : Pos} (hx : PE X (.Name x px) (tVar i)) (he : Eb X F e m) (ns : noStar e = true) (hl : (ap.endLine == cp.line) = true) : PS X (.Expr (.Call (.Attribute (.Name x px) "append" ap) [e] [] cp) pos) (tS F W (.app i m)) := by
  refine (ps_expr (pe_bm PySem.F.plainAttrs_list PySem.F.slot_list_append PySem.F.type_list_append mt_append hx (pa_cons he.ev pa_nil (star_no ns)) rfl (hfew1 ns) hl (star_no ns) rfl) rfl).imp fun D σ H ⟨A, M, ρ, o, r, ev, g⟩ => ?_
  simp only [evS] at ev
  split at ev
  · rename_i hown
    obtain ⟨ds0, e0⟩ := isOwnL_iff hown
    obtain ⟨p0, xs0, hσ, _, hp0, _⟩ := own_lst r e0
    simp only [Option.bind_eq_some_iff] at ev
    obtain ⟨⟨d, fr, ρ1⟩, h1, h2⟩ := ev
    refine ⟨.ref p0, hσ, .inl ⟨rfl, xs0, SqL.of hp0⟩, A, M, ρ, d, fr, ρ1, r, h1, fun v H1 p => ?_⟩
    obtain ⟨A1, M1, s1, k1, r1, b1⟩ := p.std r.live
    dsimp only at h2
    split at h2
    · rename_i xs hx1
      split at h2
      · rename_i hlen
        cases h2
        obtain ⟨p1, ys, hσ1, hm1, hp1, rr⟩ := own_lst r1 hx1
        rw [hσ] at hσ1
        cases hσ1
        have k : Kp M1 H1 (upd H1 p0 (.lst (ys ++ [v]))) := Kp.wr hm1 hp1 trivial
        obtain ⟨r2, k2⟩ := r1.write (d' := .list (xs ++ [d])) hx1 hσ (fun _ => nofun) (.inl ⟨_, _, rfl, upd_same, (rr.append (.cons b1 .nil)).keep r1.sub k⟩)
        exact ⟨p0, ys, v, rfl, rfl, hp1, by rw [rr.length]; exact hlen, g _ _ ⟨A1, M1, s1.chg, k1.comp s1 k2, r2, Agree.refl _ _⟩⟩
      · cases h2
    · cases h2
  · cases ev
theorem s_ext {x : Str} {px ap cp : Pos} (hx : PE X (.Name x px) (tVar i)) (he : Eb X F e m) (ns : noStar e = true) (hl : (ap.endLine == cp.line) = true) : PS X (.Expr (.Call (.Attribute (.Name x px) "extend" ap) [e] [] cp) pos) (tS F W (.ext i m)) := by
  refine (ps_expr (pe_bm PySem.F.plainAttrs_list PySem.F.slot_list_extend PySem.F.type_list_extend mt_extend hx (pa_cons he.ev pa_nil (star_no ns)) rfl (hfew1 ns) hl (star_no ns) rfl) rfl).imp fun D σ H ⟨A, M, ρ, o, r, ev, g⟩ => ?_
  simp only [evS] at ev
  split at ev
  · rename_i hown
    obtain ⟨ds0, e0⟩ := isOwnL_iff hown
    obtain ⟨p0, xs0, hσ, _, hp0, _⟩ := own_lst r e0
    simp only [Option.bind_eq_some_iff] at ev
    obtain ⟨⟨d, fr, ρ1⟩, h1, h2⟩ := ev
    refine ⟨.ref p0, hσ, .inl ⟨rfl, xs0, SqL.of hp0⟩, A, M, ρ, d, fr, ρ1, r, h1, fun v H1 p => ?_⟩
    obtain ⟨A1, M1, s1, k1, r1, b1⟩ := p.std r.live
    dsimp only at h2
    split at h2
    · rename_i xs zs hx1
      split at h2
      · rename_i hlen
        cases h2
        obtain ⟨p1, ys, hσ1, hm1, hp1, rr⟩ := own_lst r1 hx1
        rw [hσ] at hσ1
        cases hσ1
        have k : ∀ ws, Kp M1 H1 (upd H1 p0 (.lst ws)) := fun ws => Kp.wr hm1 hp1 trivial
        cases b1 with
        | @lst q ws _ hh hn r3 =>
          obtain ⟨r2, k2⟩ := r1.write (d' := .list (xs ++ _)) hx1 hσ (fun _ => nofun) (.inl ⟨_, _, rfl, upd_same, (rr.append r3).keep r1.sub (k _)⟩)
          exact ⟨p0, q, ys, ws, rfl, rfl, hp1, hh, by rw [rr.length, r3.length]; exact hlen, g _ _ ⟨A1, M1, s1.chg, k1.comp s1 k2, r2, Agree.refl _ _⟩⟩
      · cases h2
    · cases h2
  · cases ev
theorem _root_.L2.PS.or {X : Cx} {st : Stmt} {t t' : TS} (h : PS X st t) (h' : PS X st t') : PS X st (fun D σ H => t D σ H ∨ t' D σ H) := ⟨fun pins s σ H D I q => q.elim (h.run pins s σ H D I) (h'.run pins s σ H D I)⟩
theorem isOwn_iff {s : Option Slot} (h : isOwn s = true) : ∃ d, s = some (.own d) := by
  unfold isOwn at h
  split at h
  · exact ⟨_, rfl⟩
  · cases h
theorem s_put2 {x y : Str} {px py sp p1 p2 : Pos} {k1 k2 j : Nat} {vs : List Expr} {me : ME} (hc : X.calm = true) (hx : PE X (.Name x px) (tVar i)) (hy : PG X (.Name y py) (gName j)) (hk : Eb X F b mb) (he : PA X vs (tP F me))
    (hs : swapsWithSole [.Tuple [.Subscript (.Name x px) b sp, .Name y py] k1 p1] (.Tuple vs k2 p2) pos.line X.env = pure false) (hw : swappedStores [.Tuple [.Subscript (.Name x px) b sp, .Name y py] k1 p1] (.Tuple vs k2 p2) X.env = pure none)
    (ha : ∀ v, assign (.Subscript (.Name x px) b sp) X.env v = (do
      let ov ← holding [v] (eval (.Name x px) X.env)
      let iv ← holding [v, ov] (eval b X.env)
      standAt sp
      holding [v, ov, iv] (setItem ov iv v)
      release [v, ov, iv] [])) : PS X (.Assign [.Tuple [.Subscript (.Name x px) b sp, .Name y py] k1 p1] (.Tuple vs k2 p2) pos) (tS F W (.put2 i mb j me)) := by
  refine (ps_asg (pe_tup he) (pg_tup hc (pgs_cons (pg_sub hx hk.ev set_list ha) (pgs_cons hy pgs_nil rfl) rfl) rfl rfl) hs hw).imp fun D σ H ⟨A, M, ρ, o, r, ev, g⟩ => ?_
  simp only [evS] at ev
  split at ev
  · rename_i hown
    obtain ⟨ds0, e0⟩ := isOwnL_iff hown
    obtain ⟨p0, xs0, hσ, _, hp0, _⟩ := own_lst r e0
    simp only [Option.bind_eq_some_iff] at ev
    obtain ⟨⟨ds, ρ1⟩, h1, h2⟩ := ev
    dsimp only at h2
    split at h2
    · rename_i d1 d2
      simp only [Option.bind_eq_some_iff] at h2
      obtain ⟨⟨q, fr2, ρ2⟩, h2, h3⟩ := h2
      dsimp only at h3
      split at h3
      · rename_i xs n hx1
        simp only [Option.map_eq_some_iff] at h3
        obtain ⟨jj, h3, h4⟩ := h3
        cases h4
        refine ⟨A, M, ρ, _, ρ1, r, h1, fun vs H1 A1 M1 c1 m1 k1 r1 f1 => ⟨by rw [f1.length]; exact (show 2 ≤ sizeLine by decide), fun p hp => ?_⟩⟩
        have kn : Kp No H1 (upd H1 p (.tup vs)) := Kp.new hp
        have f2 := f1.keep kn
        have r1' := r1.keep kn
        refine ⟨p, vs, rfl, SqT.of upd_same, by rw [f1.length]; rfl, ?_⟩
        cases f2 with
        | @dat _ v1 _ vs1 _ b1 f3 =>
          cases f3 with
          | @dat _ v2 _ vs2 _ b2 f4 =>
            cases f4
            refine ⟨v1, [v2], rfl, .ref p0, hσ, A1, M1, ρ1, _, fr2, ρ2, r1', h2, fun y H2 p2 => ?_⟩
            obtain ⟨A2, M2, s2, k2, r2, bq⟩ := p2.std r1'.live
            have b1' := (b1.keep r1'.sub k2).anti s2.a
            have b2' := (b2.keep r1'.sub k2).anti s2.a
            obtain ⟨p3, ys, hσ1, hm1, hp1, rr⟩ := own_lst r2 hx1
            rw [hσ] at hσ1
            cases hσ1
            cases bq
            have k : Kp M2 H2 (upd H2 p0 (.lst (ys.set jj v1))) := Kp.wr hm1 hp1 trivial
            obtain ⟨r3, k3⟩ := r2.write (d' := .list (xs.set jj d1)) hx1 hσ (fun _ => nofun) (.inl ⟨_, _, rfl, upd_same, (rr.set b1' jj).keep r2.sub k⟩)
            have b2'' := b2'.keep r2.sub k
            refine ⟨p0, ys, n, jj, rfl, rfl, hp1, by rw [rr.length]; exact h3, v2, [], rfl, rfl, g _ _ ?_⟩
            refine ⟨A2, M2, ⟨fun x z => c1.a x (s2.a x z), fun x z => .inl (m1 x (s2.m x z)), fun x z nz => ?_⟩, (k1.trans kn.of).trans ((k2.mono m1).trans (k3.mono fun x z => m1 x (s2.m x z))), r3.setDat b2'', Agree.set List.mem_cons_self⟩
            by_cases hA : A1 x
            · exact m1 x (s2.d x hA nz)
            · exact c1.d x z hA
      · cases h3
    · cases h2
  · cases ev
theorem s_put {x : Str} {px sp : Pos} (hu : X.A.units + 1 < cLine) (hx : PE X (.Name x px) (tVar i)) (hk : Eb X F b mb) (he : Eb X F e m) (hs : swapsWith e (some (.Subscript (.Name x px) b sp)) pos.line X.env = pure false) (hw : swappedStores [.Subscript (.Name x px) b sp] e X.env = pure none)
    (ha : ∀ v, assign (.Subscript (.Name x px) b sp) X.env v = (do
      let ov ← holding [v] (eval (.Name x px) X.env)
      let iv ← holding [v, ov] (eval b X.env)
      standAt sp
      holding [v, ov, iv] (setItem ov iv v)
      release [v, ov, iv] [])) : PS X (.Assign [.Subscript (.Name x px) b sp] e pos) (tS F W (.put i mb m)) := by
  refine ((ps_asg he.ev (pg_sub hx hk.ev set_list ha) hs hw).or (ps_dput hu hx hk.ev he.ev hs)).imp fun D σ H ⟨A, M, ρ, o, r, ev, g⟩ => ?_
  simp only [evS] at ev
  split at ev
  · rename_i hown
    obtain ⟨ds0, e0⟩ := isOwn_iff hown
    obtain ⟨p0, hσ, _, _⟩ := r.own i _ e0
    simp only [Option.bind_eq_some_iff] at ev
    obtain ⟨⟨d, fr, ρ1⟩, h1, ⟨j, fr2, ρ2⟩, h2, h3⟩ := ev
    dsimp only at h3
    split at h3
    · rename_i x0 hx1
      simp only [Option.map_eq_some_iff] at h3
      obtain ⟨y0, h3, h4⟩ := h3
      cases h4
      unfold putD at h3
      split at h3
      · rename_i xs kk
        simp only [Option.map_eq_some_iff] at h3
        obtain ⟨jj, h3, rfl⟩ := h3
        refine .inl ⟨A, M, ρ, d, fr, ρ1, r, h1, fun v H1 p => ?_⟩
        obtain ⟨A1, M1, s1, k1, r1, b1⟩ := p.std r.live
        refine ⟨.ref p0, hσ, A1, M1, ρ1, _, fr2, ρ2, r1, h2, fun y H2 p2 => ?_⟩
        obtain ⟨A2, M2, s2, k2, r2, b2⟩ := p2.std r1.live
        have b1' := (b1.keep r1.sub k2).anti s2.a
        obtain ⟨p1, ys, hσ1, hm1, hp1, rr⟩ := own_lst r2 hx1
        rw [hσ] at hσ1
        cases hσ1
        cases b2
        have k : Kp M2 H2 (upd H2 p0 (.lst (ys.set jj v))) := Kp.wr hm1 hp1 trivial
        obtain ⟨r3, k3⟩ := r2.write (d' := .list (xs.set jj d)) hx1 hσ (fun _ => nofun) (.inl ⟨_, _, rfl, upd_same, (rr.set b1' jj).keep r2.sub k⟩)
        exact ⟨p0, ys, kk, jj, rfl, rfl, hp1, by rw [rr.length]; exact h3, g _ _ ⟨A2, M2, (s1.trans s2).chg, (k1.comp s1 k2).comp (s1.trans s2) k3, r3, Agree.refl _ _⟩⟩
      · rename_i es
        simp only [Option.bind_eq_some_iff] at h3
        obtain ⟨ks, hk, h3⟩ := h3
        split at h3
        · rename_i hlen
          cases h3
          refine .inr ⟨A, M, ρ, d, fr, ρ1, r, h1, fun v H1 p => ?_⟩
          obtain ⟨A1, M1, s1, k1, r1, b1⟩ := p.std r.live
          refine ⟨.ref p0, hσ, A1, M1, ρ1, _, fr2, ρ2, r1, h2, fun y H2 p2 => ?_⟩
          obtain ⟨A2, M2, s2, k2, r2, b2⟩ := p2.std r1.live
          have b1' := (b1.keep r1.sub k2).anti s2.a
          obtain ⟨p1, hσ1, hm1, ho1⟩ := r2.own i _ hx1
          rw [hσ] at hσ1
          cases hσ1
          obtain ⟨p2', kvs, e1, hp1, rr⟩ := Top.dit (.inr ⟨p0, rfl, ho1, fun _ => nofun⟩)
          exact rr.no.elim
        · cases h3
      · rename_i es hnm
        split at h3
        · rename_i hc
          cases h3
          simp only [Bool.and_eq_true, Bool.not_eq_true', decide_eq_true_iff] at hc
          refine .inr ⟨A, M, ρ, d, fr, ρ1, r, h1, fun v H1 p => ?_⟩
          obtain ⟨A1, M1, s1, k1, r1, b1⟩ := p.std r.live
          refine ⟨.ref p0, hσ, A1, M1, ρ1, _, fr2, ρ2, r1, h2, fun y H2 p2 => ?_⟩
          obtain ⟨A2, M2, s2, k2, r2, b2⟩ := p2.std r1.live
          have b1' := (b1.keep r1.sub k2).anti s2.a
          obtain ⟨p1, hσ1, hm1, ho1⟩ := r2.own i _ hx1
          rw [hσ] at hσ1
          cases hσ1
          rcases ho1 with ⟨_, _, z, _⟩ | ⟨kvs, _, z, hp1, rr⟩ | ⟨_, _, _, z, _⟩ | ⟨kvs, es', z, hp1, rr⟩
          · cases z
          rotate_left
          · cases z
          · cases z; simp [isScr, tMark] at hc
          · cases z
            obtain ⟨q, rfl, rfl⟩ := key_rel b2 hc.1.1
            have k : Kp M2 H2 (upd H2 p0 (.dK (putK kvs q v))) := Kp.wr hm1 hp1 trivial
            obtain ⟨r3, k3⟩ := r2.write (d' := .dict (dPut es (keyD q) d)) hx1 hσ (fun _ => nofun) (.inr (.inl ⟨_, _, rfl, upd_same, (put_rel b1' rr).keep r2.sub k⟩))
            exact ⟨p0, _, rfl, DPut.k hp1 (by rw [rr.length]; exact hc.2), g _ _ ⟨A2, M2, (s1.trans s2).chg, (k1.comp s1 k2).comp (s1.trans s2) k3, r3, Agree.refl _ _⟩⟩
        · cases h3
      · cases h3
    · cases h3
  · cases ev

/-! ### methods that are asked for a value -/
theorem _root_.L2.PE.or {X : Cx} {e : Expr} {t t' : TE} (h : PE X e t) (h' : PE X e t') : PE X e (fun σ H Q => t σ H Q ∨ t' σ H Q) :=
  ⟨fun pins s σ H Q I q => q.elim (h.run pins s σ H Q I) (h'.run pins s σ H Q I)⟩
/-- a method of a built-in type, by what is known of the receiver -/
theorem pe_mth {o : Expr} {name : Str} {T id : String} {to : TE} {ts : TA} {ap cp : Pos} {rr : V → List V → Hp → VK → Prop} {ty : V → Hp → Prop} (pa : PlainAttrs T) (slot : PySem.Slot T name id) (hty : typeOf (.builtin id) = pure (.type "method_descriptor"))
    (hm : MtR X id rr) (ho : PE X o to) (ha : PA X [e] ts) (is : ∀ {pins : List (Addr × Obj)} {σ : L2.St} {H : Hp} {s : Shared} {x : V} {v : Value}, Inv X pins σ H s → RelV x v → ty x H → s.TypeIs v T ∧ ∀ a, v = .ref a → ∃ ob, s.heap.get? a = some ob ∧ ob.dict = none)
    (hbase : attributeBase o name X.env (eval o X.env) = eval o X.env) (ns : noStar e = true) (hl : (ap.endLine == cp.line) = true) :
    PE X (.Call (.Attribute o name ap) [e] [] cp) (fun σ H Q => to σ H fun x H1 => ty x H1 ∧ ts σ H1 fun xs H2 => rr x xs H2 Q) := by
  refine ⟨fun pins s σ H Q I h => wpAny_Call_method_late hbase (hfew1 ns) hl rfl (thn (ho.run pins s σ H _ I h) fun v s1 ⟨x, H1, I1, r1, hx, q1⟩ => ?_)⟩
  obtain ⟨h1, h2⟩ := is I1 r1 hx
  refine ⟨T, id, pa, slot, hty, h1, h2, ?_⟩
  have hA := ha.run cp pins s1 σ H1 _ I1 q1
  rw [star_no ns] at hA ⊢
  exact Calls.callWith_builtin rfl (Calls.evalArgs_plain (thn hA fun us s2 ⟨vs, H2, I2, r2, q2⟩ => hm pins s2 σ H2 x vs v us Q I2 r1 r2 q2))
def isLst (K : PySem.W.Frag) (x : V) (H : Hp) : Prop := ∃ p xs, x = .ref p ∧ SqL K H p xs
def isTupP (x : V) (H : Hp) : Prop := ∃ p xs o, x = .ref p ∧ o.dict = none ∧ H p = some (.frz o (.tup xs))
theorem isLst_ok {pins : List (Addr × Obj)} {σ : L2.St} {H : Hp} {s : Shared} {x : V} {v : Value} (I : Inv X pins σ H s) (r : RelV x v) (h : isLst X.K x H) : s.TypeIs v "list" ∧ ∀ a, v = .ref a → ∃ ob, s.heap.get? a = some ob ∧ ob.dict = none := by
  obtain ⟨p, xs, rfl, hq⟩ := h
  exact tyV_is (T := "list") I r (.inl ⟨rfl, xs, hq⟩)
theorem isTupP_ok {pins : List (Addr × Obj)} {σ : L2.St} {H : Hp} {s : Shared} {x : V} {v : Value} (I : Inv X pins σ H s) (r : RelV x v) (h : isTupP x H) : s.TypeIs v "tuple" ∧ ∀ a, v = .ref a → ∃ ob, s.heap.get? a = some ob ∧ ob.dict = none := by
  obtain ⟨p, xs, o, rfl, hd, hp⟩ := h
  cases r
  obtain ⟨g, _, its, _, ⟨o', e', hc, n, hdt⟩⟩ := I.hok p _ hp
  rw [g] at e'; cases e'
  exact ⟨⟨o, g, hc⟩, fun a e => by cases e; exact ⟨o, g, hd⟩⟩
/-- how often a flat value stands in a list or a tuple of such -/
def rCnt (lst : Bool) (K : PySem.W.Frag) : V → List V → Hp → VK → Prop := fun x xs H Q => ∃ A p vs ds d y, x = .ref p ∧ xs = [y] ∧ (if lst then SqL K H p vs else SqT K H p vs) ∧ RelAll A H vs ds ∧ Rel A H y d ∧ flat d = true ∧ ds.all flat = true ∧ Q (.int (ds.countP fun z => PyData.eqv z d : Nat)) H
theorem flat_nd {d : PyData} (h : flat d = true) : d.hasDict = false ∧ d.depth = 0 := by
  cases d <;> first | (simp [flat] at h; done) | exact ⟨by simp [PyData.hasDict], by simp [PyData.depth]⟩
theorem flat_ndA {ds : List PyData} (h : ds.all flat = true) : PyData.hasDictAll ds = false := by
  induction ds with
  | nil => simp [PyData.hasDictAll]
  | cons a t ih =>
    rw [List.all_cons, Bool.and_eq_true] at h
    simp [PyData.hasDictAll, (flat_nd h.1).1, ih h.2]
theorem mt_cntL (hu : X.A.units + 64 < cLine) : MtR X "list.count" (rCnt true X.K) := by
  intro pins s σ H x xs v us Q I rx rs ⟨A, p, vs, ds, d, y, e1, e2, hs, ra, rd, fd, fds, q⟩
  subst e1; subst e2
  cases rx
  obtain ⟨u, rfl, ru⟩ := rs.one
  obtain ⟨its, rv, pl, _⟩ := I.list (by simpa using hs)
  obtain ⟨as, r1⟩ := Dp.readsAll I ds vs its (ra.dp (flat_ndA fds)) rv
  obtain ⟨bs, r2⟩ := Dp.reads I d y u (rd.dp (flat_nd fd).1) ru
  exact PySem.SeqAt.count_list_data (vs := its.toArray) pl.isList (by simpa using r1) r2 (plainAll_of (flat_ndA fds)) (plain_of (flat_nd fd).1) (by rw [(flat_nd fd).2]; omega) ⟨.int _, H, I.tok _, ⟨_, rfl⟩, q⟩
theorem mt_cntT (hu : X.A.units + 64 < cLine) : MtR X "tuple.count" (rCnt false X.K) := by
  intro pins s σ H x xs v us Q I rx rs ⟨A, p, vs, ds, d, y, e1, e2, hs, ra, rd, fd, fds, q⟩
  subst e1; subst e2
  cases rx
  obtain ⟨u, rfl, ru⟩ := rs.one
  obtain ⟨its, rv, pl, _⟩ := I.tuple (by simpa using hs)
  obtain ⟨as, r1⟩ := Dp.readsAll I ds vs its (ra.dp (flat_ndA fds)) rv
  obtain ⟨bs, r2⟩ := Dp.reads I d y u (rd.dp (flat_nd fd).1) ru
  exact PySem.SeqAt.count_tuple_data (vs := its.toArray) pl (by simpa using r1) r2 (plainAll_of (flat_ndA fds)) (plain_of (flat_nd fd).1) (by rw [(flat_nd fd).2]; omega) ⟨.int _, H, I.tok _, ⟨_, rfl⟩, q⟩
theorem own_tup {A M : AS} {H : Hp} {ρ : Rho} {σ : L2.St} {ds : List PyData} (r : RE A M H ρ σ) (e : ρ[i]? = some (Slot.own (.tuple ds))) : ∃ p xs o, σ[i]? = some (some (.ref p)) ∧ o.dict = none ∧ H p = some (.frz o (.tup xs)) ∧ RelAll A H xs ds := by
  obtain ⟨p, e1, hm, ho⟩ := r.own i _ e
  rcases ho with ⟨xs, ds', e2, h, rr⟩ | ⟨_, _, e2, _⟩ | ⟨xs, ds', o, e2, hd, h, rr⟩ | ⟨_, _, e2, _⟩
  · cases e2
  · cases e2
  · cases e2; exact ⟨p, xs, o, e1, hd, h, rr⟩
  · cases e2
theorem slot_lst {A M : AS} {H : Hp} {ρ : Rho} {σ : L2.St} (r : RE A M H ρ σ) (h : cntK ρ[i]? = some true) : ∃ p vs ds, σ[i]? = some (some (.ref p)) ∧ H p = some (.lst vs) ∧ RelAll A H vs ds ∧ seqS ρ[i]? = some ds := by
  unfold cntK at h
  split at h
  · rename_i ys hy
    obtain ⟨p, vs, hσ, _, hp, ra⟩ := own_lst r hy
    exact ⟨p, vs, ys, hσ, hp, ra, by rw [hy]; rfl⟩
  · cases h
  · rename_i ys hy
    obtain ⟨v, hσ, rel⟩ := r.dat i _ hy
    cases rel with
    | lst hh hn rr => exact ⟨_, _, ys, hσ, hh, rr, by rw [hy]; rfl⟩
  · cases h
theorem slot_tup {A M : AS} {H : Hp} {ρ : Rho} {σ : L2.St} (r : RE A M H ρ σ) (h : cntK ρ[i]? = some false) : ∃ p vs ds o, σ[i]? = some (some (.ref p)) ∧ o.dict = none ∧ H p = some (.frz o (.tup vs)) ∧ RelAll A H vs ds ∧ seqS ρ[i]? = some ds := by
  unfold cntK at h
  split at h
  · cases h
  · rename_i ys hy
    obtain ⟨p, vs, o, hσ, hd, hp, ra⟩ := own_tup r hy
    exact ⟨p, vs, ys, o, hσ, hd, hp, ra, by rw [hy]; rfl⟩
  · cases h
  · cases h
theorem e_cnt {x : Str} {px ap cp : Pos} (hu : X.A.units + 64 < cLine) (hx : PE X (.Name x px) (tVar i)) (he : Eb X F e m) (ns : noStar e = true) (hl : (ap.endLine == cp.line) = true) : Eb X F (.Call (.Attribute (.Name x px) "count" ap) [e] [] cp) (.cnt i m) := by
  have ha := pa_cons he.ev pa_nil (star_no ns)
  refine Eb.of (((pe_mth PySem.F.plainAttrs_list PySem.F.slot_list_count PySem.F.type_list_count (mt_cntL hu) hx ha isLst_ok rfl ns hl).or (pe_mth PySem.F.plainAttrs_tuple PySem.F.slot_tuple_count PySem.F.type_tuple_count (mt_cntT hu) hx ha isTupP_ok rfl ns hl)).imp fun σ H Q ⟨A, M, ρ, d, fr, ρ', r, ev, q⟩ => ?_) fun _ => nofun
  simp only [evE, Option.bind_eq_some_iff] at ev
  obtain ⟨kd, h0, ⟨d1, fr1, ρ1⟩, h1, ev⟩ := ev
  dsimp only at ev
  split at ev
  · rename_i h0'
    simp only [Option.bind_eq_some_iff, Option.map_eq_some_iff] at ev
    obtain ⟨xs, h2, z, h3, h4⟩ := ev
    cases h4
    unfold cntD at h3
    split at h3
    · rename_i hfl
      cases h3
      rw [Bool.and_eq_true] at hfl
      cases kd with
      | true =>
        obtain ⟨p0, vs0, ds0, hσ, hp0, _⟩ := slot_lst r h0
        refine .inl ⟨_, hσ, ⟨_, _, rfl, SqL.of hp0⟩, A, M, ρ, d1, fr1, _, r, h1, fun v H1 p => ?_⟩
        obtain ⟨A1, M1, s1, k1, r1, b1⟩ := p.std r.live
        obtain ⟨p1, vs, ds, hσ1, hp1, ra, e⟩ := slot_lst r1 h0'
        rw [hσ] at hσ1; cases hσ1
        rw [h2] at e; cases e
        exact ⟨A1, _, vs, xs, d1, v, rfl, rfl, by simpa using SqL.of hp1, ra, b1, hfl.1, hfl.2, q _ _ (((NewV.val (.int _)).pst r1).after s1 k1)⟩
      | false =>
        obtain ⟨p0, vs0, ds0, o0, hσ, hd0, hp0, _⟩ := slot_tup r h0
        refine .inr ⟨_, hσ, ⟨_, _, o0, rfl, hd0, hp0⟩, A, M, ρ, d1, fr1, _, r, h1, fun v H1 p => ?_⟩
        obtain ⟨A1, M1, s1, k1, r1, b1⟩ := p.std r.live
        obtain ⟨p1, vs, ds, o1, hσ1, hd1, hp1, ra, e⟩ := slot_tup r1 h0'
        rw [hσ] at hσ1; cases hσ1
        rw [h2] at e; cases e
        exact ⟨A1, _, vs, xs, d1, v, rfl, rfl, by simpa using (TupAt.sq (.inr ⟨o1, hd1, hp1⟩) : SqT X.K H1 p0 vs), ra, b1, hfl.1, hfl.2, q _ _ (((NewV.val (.int _)).pst r1).after s1 k1)⟩
    · cases h3
  · cases ev
/-- the first place of an int in a list of ints -/
theorem e_ix {x : Str} {px ap cp : Pos} (hx : PE X (.Name x px) (tVar i)) (he : Eb X F e m) (ns : noStar e = true) (hl : (ap.endLine == cp.line) = true) : Eb X F (.Call (.Attribute (.Name x px) "index" ap) [e] [] cp) (.ix i m) := by
  have ha := pa_cons he.ev pa_nil (star_no ns)
  refine Eb.of ((pe_mth PySem.F.plainAttrs_list PySem.F.slot_list_index PySem.F.type_list_index mt_index hx ha isLst_ok rfl ns hl).imp fun σ H Q ⟨A, M, ρ, d, fr, ρ', r, ev, q⟩ => ?_) fun _ => nofun
  simp only [evE] at ev
  split at ev
  · rename_i h0
    simp only [Option.bind_eq_some_iff] at ev
    obtain ⟨⟨d1, fr1, ρ1⟩, h1, ev⟩ := ev
    dsimp only at ev
    split at ev
    · rename_i h0'
      simp only [Option.bind_eq_some_iff, Option.map_eq_some_iff] at ev
      obtain ⟨xs, h2, z, h3, h4⟩ := ev
      cases h4
      unfold ixD at h3
      split at h3
      · rename_i a ns' hns
        simp only [Option.map_eq_some_iff] at h3
        obtain ⟨j, h5, rfl⟩ := h3
        obtain ⟨hj, hp, hno⟩ := List.findIdx?_eq_some_iff_getElem.1 h5
        obtain ⟨p0, vs0, ds0, hσ, hp0, _⟩ := slot_lst r h0
        refine ⟨_, hσ, ⟨_, _, rfl, SqL.of hp0⟩, A, M, ρ, _, fr1, _, r, h1, fun v H1 p => ?_⟩
        obtain ⟨A1, M1, s1, k1, r1, b1⟩ := p.std r.live
        obtain ⟨p1, vs, ds, hσ1, hp1, ra, e⟩ := slot_lst r1 h0'
        rw [hσ] at hσ1; cases hσ1
        rw [h2] at e; cases e
        cases b1
        have ev := ints_rel ra hns
        subst ev
        refine ⟨p0, ns'.map V.int, .int a, j, .int ns'[j], rfl, rfl, SqL.of hp1, rfl, ?_, by simp [hj], by simpa [eqV] using hp, ?_, q _ _ (((NewV.val (.int _)).pst r1).after s1 k1)⟩
        · rw [List.all_map]; exact List.all_eq_true.mpr fun _ _ => rfl
        · intro m z' hm hz
          have hmj := hno m hm
          have hml : m < ns'.length := by omega
          rw [List.getElem?_map, List.getElem?_eq_getElem hml, Option.map_some] at hz
          cases hz
          simpa [eqV] using hmj
      · cases h3
    · cases ev
  · cases ev
/-- the last item is taken away -/
theorem e_pop {x : Str} {px ap cp : Pos} (hx : PE X (.Name x px) (tVar i)) (hl : (ap.endLine == cp.line) = true) : Eb X F (.Call (.Attribute (.Name x px) "pop" ap) [] [] cp) (.pop i) := by
  refine Eb.of ((pe_bm0 PySem.F.plainAttrs_list PySem.F.slot_list_pop PySem.F.type_list_pop mt_pop hx rfl hl).imp fun σ H Q ⟨A, M, ρ, d, fr, ρ', r, ev, q⟩ => ?_) fun _ => nofun
  simp only [evE] at ev
  split at ev
  · rename_i xs hs
    simp only [Option.map_eq_some_iff] at ev
    obtain ⟨y, h1, h2⟩ := ev
    cases h2
    obtain ⟨p, vs, hσ, hm, hp, rr⟩ := own_lst r hs
    obtain ⟨v, e1, rel⟩ := rr.get h1
    have k : Kp M H (upd H p (.lst vs.dropLast)) := Kp.wr hm hp trivial
    have rd : RelAll A H vs.dropLast xs.dropLast := by
      rw [List.dropLast_eq_take, List.dropLast_eq_take, rr.length]
      exact rr.take _
    obtain ⟨r2, k2⟩ := r.write (d' := .list xs.dropLast) hs hσ (fun _ => nofun) (.inl ⟨_, _, rfl, upd_same, rd.keep r.sub k⟩)
    refine ⟨_, hσ, .inl ⟨rfl, vs, SqL.of hp⟩, p, vs, v, rfl, rfl, hp, by rw [rr.length]; exact e1, q _ _ (Pst0.val ⟨A, M, Shr.refl _ _, k2, r2, fun _ => rel.keep r.sub k, fun z => nomatch z⟩)⟩
  · cases ev
theorem seqIx_of {n j : Nat} {k : Int} (h : ixOf n k = some j) : seqIndex? k n = some j := by
  unfold ixOf at h
  unfold seqIndex?
  split at h
  · split at h
    · cases h
      have : ¬ k < 0 := by omega
      simp only [this, if_false]
      rw [if_pos (by simp; omega)]
    · cases h
  · split at h
    · cases h
      have : k < 0 := by omega
      simp only [this, if_true]
      rw [if_pos (by simp; omega)]
    · cases h
theorem RelAll.erase {A : AS} {H : Hp} {vs : List V} {ds : List PyData} (rr : RelAll A H vs ds) (j : Nat) : RelAll A H (vs.eraseIdx j) (ds.eraseIdx j) := by
  rw [List.eraseIdx_eq_take_drop_succ, List.eraseIdx_eq_take_drop_succ]
  exact (rr.take _).append (rr.drop _)
theorem e_popAt {x : Str} {px ap cp : Pos} (hx : PE X (.Name x px) (tVar i)) (he : Eb X F e m) (ns : noStar e = true) (hl : (ap.endLine == cp.line) = true) : Eb X F (.Call (.Attribute (.Name x px) "pop" ap) [e] [] cp) (.popAt i m) := by
  refine Eb.of ((pe_bm PySem.F.plainAttrs_list PySem.F.slot_list_pop PySem.F.type_list_pop mt_popAt hx (pa_cons he.ev pa_nil (star_no ns)) rfl (hfew1 ns) hl (star_no ns) rfl).imp fun σ H Q ⟨A, M, ρ, d, fr, ρ', r, ev, q⟩ => ?_) fun _ => nofun
  simp only [evE] at ev
  split at ev
  · rename_i hown
    obtain ⟨ds0, e0⟩ := isOwnL_iff hown
    obtain ⟨p0, xs0, hσ, _, hp0, _⟩ := own_lst r e0
    simp only [Option.bind_eq_some_iff] at ev
    obtain ⟨⟨d1, fr1, ρ1⟩, h1, h2⟩ := ev
    refine ⟨.ref p0, hσ, .inl ⟨rfl, xs0, SqL.of hp0⟩, A, M, ρ, d1, fr1, ρ1, r, h1, fun v H1 p => ?_⟩
    obtain ⟨A1, M1, s1, k1, r1, b1⟩ := p.std r.live
    dsimp only at h2
    split at h2
    · rename_i kk xs hs
      split at h2
      · rename_i hline
        simp only [Option.bind_eq_some_iff, Option.map_eq_some_iff] at h2
        obtain ⟨j, h3, z, h4, h5⟩ := h2
        cases h5
        cases b1
        obtain ⟨p1, vs, hσ1, hm, hp, rr⟩ := own_lst r1 hs
        rw [hσ] at hσ1; cases hσ1
        obtain ⟨y, e1, rel⟩ := rr.get h4
        have k : Kp M1 H1 (upd H1 p0 (.lst (vs.eraseIdx j))) := Kp.wr hm hp trivial
        obtain ⟨r2, k2⟩ := r1.write (d' := .list (xs.eraseIdx j)) hs hσ (fun _ => nofun) (.inl ⟨_, _, rfl, upd_same, (rr.erase j).keep r1.sub k⟩)
        have hl := line_iff hline
        exact ⟨p0, vs, kk, j, y, rfl, rfl, hp, by omega, by omega, by rw [rr.length]; exact seqIx_of h3, e1, q _ _ (Pst.after s1 k1 (Pst0.val ⟨A1, M1, Shr.refl _ _, k2, r2, fun _ => rel.keep r1.sub k, fun z => nomatch z⟩))⟩
      · cases h2
    · cases h2
  · cases ev
/-! ### is True, is False; backwards; tuple(range(..)), list(range(..)) -/
theorem e_isB {k : Bool} {j : Nat} {p : Pos} (ha : Eb X F a ma) : Eb X F (.Compare a [.Is] [.Constant (.bool k) j p] pos) (.isB k ma) := by
  refine Eb.of ((pe_cmpR op_isBl ha.ev pe_bl rfl).imp fun σ H Q ⟨A, M, ρ, d, fr, ρ', r, ev, q⟩ => ?_) fun _ => nofun
  simp only [evE, Option.bind_eq_some_iff] at ev
  obtain ⟨⟨x, fr1, ρ1⟩, h1, h2⟩ := ev
  refine ⟨A, M, ρ, x, fr1, ρ1, r, h1, fun v H1 p => ?_⟩
  obtain ⟨A1, M1, s1, k1, r1, b1⟩ := p.std r.live
  cases b1 with
  | bl t => cases h2; exact ⟨t, k, rfl, rfl, q _ _ ((Pst.bool r1).after s1 k1)⟩
  | _ => cases h2
theorem t_isB {k : Bool} {j : Nat} {p : Pos} (ha : Eb X F a ma) : PT X (.Compare a [.Is] [.Constant (.bool k) j p] pos) (tT F (.tst (.isB k ma))) := by
  refine (pt_cmpR op_isBl ha.ev pe_bl rfl).imp fun σ H Q ⟨A, M, ρ, t, ρ', r, ev, q⟩ => ?_
  obtain ⟨d, fr, ev, ht⟩ := tst_inv (by intro _ z; cases z) ev
  simp only [evE, Option.bind_eq_some_iff] at ev
  obtain ⟨⟨x, fr1, ρ1⟩, h1, h2⟩ := ev
  refine ⟨A, M, ρ, x, fr1, ρ1, r, h1, fun v H1 p => ?_⟩
  obtain ⟨A1, M1, s1, k1, r1, b1⟩ := p.std r.live
  cases b1 with
  | bl t => cases h2; cases ht; exact ⟨t, k, rfl, rfl, _, rfl, q _ _ _ s1 k1 r1⟩
  | _ => cases h2
theorem e_nisB {k : Bool} {j : Nat} {p : Pos} (ha : Eb X F a ma) : Eb X F (.Compare a [.IsNot] [.Constant (.bool k) j p] pos) (.nisB k ma) := by
  refine Eb.of ((pe_cmpR op_notBl ha.ev pe_bl rfl).imp fun σ H Q ⟨A, M, ρ, d, fr, ρ', r, ev, q⟩ => ?_) fun _ => nofun
  simp only [evE, Option.bind_eq_some_iff] at ev
  obtain ⟨⟨x, fr1, ρ1⟩, h1, h2⟩ := ev
  refine ⟨A, M, ρ, x, fr1, ρ1, r, h1, fun v H1 p => ?_⟩
  obtain ⟨A1, M1, s1, k1, r1, b1⟩ := p.std r.live
  cases b1 with
  | bl t => cases h2; exact ⟨t, k, rfl, rfl, q _ _ ((Pst.bool r1).after s1 k1)⟩
  | _ => cases h2
theorem t_nisB {k : Bool} {j : Nat} {p : Pos} (ha : Eb X F a ma) : PT X (.Compare a [.IsNot] [.Constant (.bool k) j p] pos) (tT F (.tst (.nisB k ma))) := by
  refine (pt_cmpR op_notBl ha.ev pe_bl rfl).imp fun σ H Q ⟨A, M, ρ, t, ρ', r, ev, q⟩ => ?_
  obtain ⟨d, fr, ev, ht⟩ := tst_inv (by intro _ z; cases z) ev
  simp only [evE, Option.bind_eq_some_iff] at ev
  obtain ⟨⟨x, fr1, ρ1⟩, h1, h2⟩ := ev
  refine ⟨A, M, ρ, x, fr1, ρ1, r, h1, fun v H1 p => ?_⟩
  obtain ⟨A1, M1, s1, k1, r1, b1⟩ := p.std r.live
  cases b1 with
  | bl t => cases h2; cases ht; exact ⟨t, k, rfl, rfl, _, rfl, q _ _ _ s1 k1 r1⟩
  | _ => cases h2
theorem RelAll.rev {A : AS} {H : Hp} : ∀ {vs : List V} {ds : List PyData}, RelAll A H vs ds → RelAll A H vs.reverse ds.reverse
  | _, _, .nil => .nil
  | _, _, .cons a r => by
    rw [List.reverse_cons, List.reverse_cons]
    exact (RelAll.rev r).append (.cons a .nil)
theorem e_rev {j : Nat} {p1 p2 p3 : Pos} (ha : Eb X F a ma) : Eb X F (.Subscript a (.Slice none none (some (.UnaryOp .USub (.Constant (.int 1) j p1) p2)) p3) pos) (.rev ma) := by
  refine Eb.of (((pe_revL ha.bo).or (pe_revT ha.bo)).imp fun σ H Q ⟨A, M, ρ, d, fr, ρ', r, ev, q⟩ => ?_) fun _ => nofun
  simp only [evE, Option.bind_eq_some_iff] at ev
  obtain ⟨⟨x, ρ1⟩, h1, dx, h2, h3⟩ := ev
  cases dx with
  | list xs =>
    refine .inl ⟨A, M, ρ, x, ρ1, r, h1, fun v H1 A1 M1 s1 k1 r1 b1 => ?_⟩
    have tp := b1.top r1 h2
    cases h3
    obtain ⟨p, vs, rfl, hp, rr⟩ := tp.lst
    exact ⟨p, vs, rfl, SqL.of hp, fun l hl => q _ _ (((new_lst hl rr.rev).pst r1).after s1 k1)⟩
  | tuple xs =>
    refine .inr ⟨A, M, ρ, x, ρ1, r, h1, fun v H1 A1 M1 s1 k1 r1 b1 => ?_⟩
    have tp := b1.top r1 h2
    cases h3
    obtain ⟨p, vs, rfl, hp, rr⟩ := tp.tup
    exact ⟨p, vs, rfl, TupAt.sq hp, fun l hl => q _ _ (((new_tup hl rr.rev).pst r1).after s1 k1)⟩
  | _ => cases h3
theorem rgV_rel {A : AS} {H : Hp} (lo hi : Int) : RelAll A H (rgV lo hi) (rangeD lo hi) := by
  unfold rgV rangeD
  generalize (hi - lo).toNat = n
  have : ∀ l : List Nat, RelAll A H (l.map fun i => V.int (lo + (i : Nat))) (l.map fun (k : Nat) => PyData.int (lo + (k : Int))) := fun l => by
    induction l with
    | nil => exact .nil
    | cons a t ih => exact .cons (.int _) ih
  exact this _
/-- range(..) as an argument -/
def tRg (F : Fns) (m : ME) : L2.St → Hp → (Int → Int → Hp → Prop) → Prop := fun σ H Q => ∃ A M ρ ds ρ', RE A M H ρ σ ∧ evI F m ρ = some (ds, ρ') ∧ ∀ lo hi H' A' M', ds = rangeD lo hi → lineI lo = true → lineI hi = true → Shr A M A' M' → Kp M H H' → RE A' M' H' ρ' σ → Q lo hi H'
theorem PRg.imp {X : Cx} {e : Expr} {t t' : L2.St → Hp → (Int → Int → Hp → Prop) → Prop} (h : PRg X e t) (f : ∀ σ H Q, t' σ H Q → t σ H Q) : PRg X e t' := fun pins s σ H Q I q => h pins s σ H Q I (f σ H Q q)
theorem rg_1 {p : Pos} (hg : Gl X "range") (hm : X.mg "range" = none) (ha : Eb X F a ma) (ns : noStar a = true) : PRg X (.Call (.Name "range" p) [a] [] pos) (tRg F (.rng1 ma)) := by
  refine PRg.imp (prg_1 hg hm ha.ev (star_no ns)) fun σ H Q ⟨A, M, ρ, ds, ρ', r, ev, q⟩ => ?_
  simp only [evI, Option.bind_eq_some_iff] at ev
  obtain ⟨⟨d, fr, ρ1⟩, h1, h2⟩ := ev
  refine ⟨A, M, ρ, d, fr, ρ1, r, h1, fun v H1 p => ?_⟩
  obtain ⟨A1, M1, s1, k1, r1, b1⟩ := p.std r.live
  cases b1 with
  | int i =>
    dsimp only at h2
    split at h2
    · rename_i hl
      cases h2
      exact ⟨i, rfl, q 0 i _ _ _ rfl (by decide) hl s1 k1 r1⟩
    · cases h2
  | _ => cases h2
theorem rg_2 {p : Pos} (hg : Gl X "range") (hm : X.mg "range" = none) (ha : Eb X F a ma) (hb : Eb X F b mb) (ns : noStar a = true) (ns' : noStar b = true) : PRg X (.Call (.Name "range" p) [a, b] [] pos) (tRg F (.rng2 ma mb)) := by
  refine PRg.imp (prg_2 hg hm ha.ev hb.ev (star_no ns) (star_no ns') (star_any (es := [b]) (by simp [ns']))) fun σ H Q ⟨A, M, ρ, ds, ρ', r, ev, q⟩ => ?_
  simp only [evI, Option.bind_eq_some_iff] at ev
  obtain ⟨⟨d, fr, ρ1⟩, h1, ⟨d2, fr2, ρ2⟩, h2, h3⟩ := ev
  refine ⟨A, M, ρ, d, fr, ρ1, r, h1, fun v H1 p => ?_⟩
  obtain ⟨A1, M1, s1, k1, r1, b1⟩ := p.std r.live
  refine ⟨A1, M1, ρ1, d2, fr2, ρ2, r1, h2, fun v2 H2 p2 => ?_⟩
  obtain ⟨A2, M2, s2, k2, r2, b2⟩ := p2.std r1.live
  cases b1 with
  | int i =>
    cases b2 with
    | int j =>
      dsimp only at h3
      split at h3
      · rename_i hl
        rw [Bool.and_eq_true] at hl
        cases h3
        exact ⟨i, j, rfl, rfl, q i j _ _ _ rfl hl.1 hl.2 (s1.trans s2) (k1.comp s1 k2) r2⟩
      · cases h3
    | _ => cases h3
  | _ => cases h3
theorem rg_ok {lo hi : Int} (h : (rangeD lo hi).length ≤ 65536) (h1 : lineI lo = true) (h2 : lineI hi = true) : RgOk lo hi := by
  have a := line_iff h1
  have b := line_iff h2
  have e : (rangeD lo hi).length = (hi - lo).toNat := by simp [rangeD]
  exact ⟨a.1, a.2, b.1, b.2, by omega⟩
theorem e_cvT {p : Pos} (hc : X.calm = true) (hg : Gl X "tuple") (hm : X.mg "tuple" = none) (h : PRg X e (tRg F m)) (ns : noStar e = true) : Eb X F (.Call (.Name "tuple" p) [e] [] pos) (.cv true m) := by
  refine Eb.of ((pe_tupRg hc hg hm h (star_no ns)).imp fun σ H Q ⟨A, M, ρ, d, fr, ρ', r, ev, q⟩ => ?_) fun _ => nofun
  simp only [evE, Option.bind_eq_some_iff] at ev
  obtain ⟨⟨ds, ρ1⟩, h1, h2⟩ := ev
  dsimp only at h2
  split at h2
  · rename_i hl
    cases h2
    exact ⟨A, M, ρ, ds, _, r, h1, fun lo hi H1 A1 M1 e l1 l2 s1 k1 r1 => by
      subst e
      exact ⟨rg_ok hl l1 l2, fun l hl => q _ _ (((new_tup hl (rgV_rel lo hi)).pst r1).after s1 k1)⟩⟩
  · cases h2
theorem e_cvL {p : Pos} (hc : X.calm = true) (hg : Gl X "list") (hm : X.mg "list" = none) (h : PRg X e (tRg F m)) (ns : noStar e = true) : Eb X F (.Call (.Name "list" p) [e] [] pos) (.cv false m) := by
  refine Eb.of ((pe_listRg hc hg hm h (star_no ns)).imp fun σ H Q ⟨A, M, ρ, d, fr, ρ', r, ev, q⟩ => ?_) fun _ => nofun
  simp only [evE, Option.bind_eq_some_iff] at ev
  obtain ⟨⟨ds, ρ1⟩, h1, h2⟩ := ev
  dsimp only at h2
  split at h2
  · rename_i hl
    cases h2
    exact ⟨A, M, ρ, ds, _, r, h1, fun lo hi H1 A1 M1 e l1 l2 s1 k1 r1 => by
      subst e
      exact ⟨rg_ok hl l1 l2, fun l hl => q _ _ (((new_lst hl (rgV_rel lo hi)).pst r1).after s1 k1)⟩⟩
  · cases h2

/-! ### tuple(range(a, b, c)) -/
def tTup3 (ta : TA) : TE := fun σ H Q => ta σ H fun vs H1 => ∃ (i j c : Int) (n : Nat), vs = [.int i, .int j, .int c] ∧ RgC i j c n ∧ n ≤ 65536 ∧ ∀ q, H1 q = none → Q (.ref q) (upd H1 q (.tup ((List.range n).map fun k => V.int (i + (k : Nat) * c))))
theorem pe_tup3 {a b c : Expr} {ta : TA} {p p2 q1 pos : Pos} (hc : X.calm = true) (hg : Gl X "tuple") (hm : X.mg "tuple" = none) (hg2 : Gl X "range") (hm2 : X.mg "range" = none) (ha : PA X [a, b, c] ta)
    (hs : starEach [a, b, c] X.env = (false, eval a X.env) :: starEach [b, c] X.env) (hpl : (backTo q1 (starEach [b, c] X.env)).any (·.1) = false) :
    PE X (.Call (.Name "tuple" p) [.Call (.Name "range" p2) [a, b, c] [] q1] [] pos) (tTup3 ta) := by
  refine ⟨fun pins s σ H Q I h => ?_⟩
  have he : wpAny (model X.prog X.w) X.A (eval (.Call (.Name "range" p2) [a, b, c] [] q1) X.env) (fun x s' => ∃ r i j k n t u v H', x = .ref r ∧ IsRange s'.heap r i j k t u v ∧ Inv X pins σ H' s' ∧ RgC i j k n ∧ n ≤ 65536 ∧ ∀ q, H' q = none → Q (.ref q) (upd H' q (.tup ((List.range n).map fun m => V.int (i + (m : Nat) * k))))) X.xe s := by
    refine Call_ (ld_blt I hg2 hm2 boot_range (PyProof.Rows.callWith_type1 (thn (ha.run q1 pins s σ H _ I h) fun us s1 ⟨vs, H1, I1, r1, z1⟩ => ?_) hs hpl))
    obtain ⟨i, j, k, n, e, ⟨c0, c1, c2, c3⟩, hn, q⟩ := z1
    subst e
    cases r1 with
    | cons r rr =>
      cases rr with
      | cons r' rr =>
        cases rr with
        | cons r'' rr =>
          cases rr
          obtain ⟨t, rfl⟩ := r
          obtain ⟨t', rfl⟩ := r'
          obtain ⟨t'', rfl⟩ := r''
          refine call_range_3 c0 ?_ (.inl (PyProof.noPylong_small c1))
          exact ⟨_, i, j, k, n, _, _, _, H1, rfl, IsRange.new _ _ _ _ _ _ _, I1.kept fun b u e => Heap.get?_push_of_some _ e, ⟨c0, c1, c2, c3⟩, hn, q⟩
  refine Call_ (ld_blt I hg hm boot_tuple (PyProof.Rows.callWith_type1 (args_cons (thn he fun x s1 ⟨r, i, j, k, n, t, u, v, H1, ex, hr, I1, ⟨c0, c1, c2, c3⟩, hn, q⟩ => args_nil ?_) rfl) rfl))
  subst ex
  refine call_tuple_range (n := n) (I1.ok.hd hc) hr c2 c3 (by omega) fun h' tk acc hk hi => ?_
  have I2 : Inv X pins σ H1 { s1 with heap := h', toks := tk } := I1.kept hk
  have hv : Vals ((List.range n).map fun m => V.int (i + (m : Nat) * k)) acc.toList := by
    have e : acc.toList.length = n := by rw [Array.length_toList]; exact hi.1
    rw [← e]
    refine vals_of_get acc.toList _ fun m y hm => ?_
    obtain ⟨t, rfl⟩ := hi.2 m y (by rw [← hm, Array.getElem?_toList])
    exact ⟨t, rfl⟩
  refine ⟨.ref h'.objs.size, upd H1 h'.objs.size (.tup ((List.range n).map fun m => V.int (i + (m : Nat) * k))), I2.laid (t' := tk) (fun c o e => Heap.get?_push_of_some _ e) (Nat.le_refl _) (show ObjOk X.prog X.w _ _ _ (.tup ((List.range n).map fun m => V.int (i + (m : Nat) * k))) from ⟨?_, acc.toList, hv, ?_⟩), rfl, q _ (I2.hok.fresh (Nat.le_refl _))⟩
  · rw [List.length_map, List.length_range, sizeLine_eq]; omega
  · rw [Array.toArray_toList]; exact IsTup.new _ _
theorem rgC_of {i j l : Int} (l1 : lineI i = true) (l2 : lineI j = true) (l3 : 0 < l) (l4 : l < 1000000) : RgC i j l ((j - i + l - 1) / l).toNat := by
  have l1 := line_iff l1
  have l2 := line_iff l2
  refine ⟨by omega, by omega, ?_, ?_⟩
  · have hz : 0 ≤ Builtin.Range.rangeSize i j l ∧ Builtin.Range.rangeSize i j l < 2 ^ 63 := by
      unfold Builtin.Range.rangeSize
      rw [if_pos (show l > 0 from l3)]
      split
      · have h1 : 0 ≤ (j - i - 1) / l := Int.ediv_nonneg (by omega) (by omega)
        have h2 : (j - i - 1) / l ≤ j - i - 1 := Int.ediv_le_self _ (by omega)
        omega
      · omega
    unfold Builtin.Range.small
    simp only [Builtin.Range.rangeFitsLong, Bool.and_eq_true, Bool.or_eq_true, decide_eq_true_eq, beq_iff_eq, show l > 0 from l3, if_true]
    omega
  · unfold Builtin.Range.rangeSize
    have hp := size_pos (i := i) (j := j) l3
    have h0 : (0 : Int) ≤ (j - i - 1) / l + 1 ∨ ¬ i < j := by
      by_cases h : i < j
      · have : 0 ≤ (j - i - 1) / l := Int.ediv_nonneg (by omega) (by omega)
        exact .inl (by omega)
      · exact .inr h
    rw [if_pos (show l > 0 from l3), hp]
    split
    · rename_i h
      rcases h0 with h0 | h0
      · omega
      · exact absurd h h0
    · rfl
theorem rgC_rel {A : AS} {H : Hp} (lo hi c : Int) : RelAll A H ((List.range ((hi - lo + c - 1) / c).toNat).map fun k => V.int (lo + (k : Nat) * c)) (rangeC lo hi c) := by
  unfold rangeC
  have : ∀ l : List Nat, RelAll A H (l.map fun i => V.int (lo + (i : Nat) * c)) (l.map fun (k : Nat) => PyData.int (lo + (k : Int) * c)) := fun l => by
    induction l with
    | nil => exact .nil
    | cons a t ih => exact .cons (.int _) ih
  exact this _
theorem e_cvT3 {c : Expr} {mc : ME} {p p2 q1 : Pos} (hc : X.calm = true) (hg : Gl X "tuple") (hm : X.mg "tuple" = none) (hg2 : Gl X "range") (hm2 : X.mg "range" = none) (ha : Eb X F a ma) (hb : Eb X F b mb) (hd : Eb X F c mc) (ns : noStar a = true) (ns' : noStar b = true) (ns'' : noStar c = true) :
    Eb X F (.Call (.Name "tuple" p) [.Call (.Name "range" p2) [a, b, c] [] q1] [] pos) (.cv true (.rng3 ma mb mc)) := by
  refine Eb.of ((pe_tup3 hc hg hm hg2 hm2 (pa_cons ha.ev (pa_cons hb.ev (pa_cons hd.ev pa_nil (star_no ns'')) (star_no ns')) (star_no ns)) (star_no ns) (star_any (es := [b, c]) (by simp [ns', ns'']))).imp fun σ H Q ⟨A, M, ρ, d, fr, ρ', r, ev, q⟩ => ?_) fun _ => nofun
  simp only [evE, evI, Option.bind_eq_some_iff] at ev
  obtain ⟨⟨ds, ρ0⟩, ⟨⟨d1, fr1, ρ1⟩, h1, ⟨d2, fr2, ρ2⟩, h2, ⟨d3, fr3, ρ3⟩, h3, h4⟩, h5⟩ := ev
  refine ⟨A, M, ρ, d1, fr1, ρ1, r, h1, fun v H1 p => ?_⟩
  obtain ⟨A1, M1, s1, k1, r1, b1⟩ := p.std r.live
  refine ⟨A1, M1, ρ1, d2, fr2, ρ2, r1, h2, fun v2 H2 p2 => ?_⟩
  obtain ⟨A2, M2, s2, k2, r2, b2⟩ := p2.std r1.live
  refine ⟨A2, M2, ρ2, d3, fr3, ρ3, r2, h3, fun v3 H3 p3 => ?_⟩
  obtain ⟨A3, M3, s3, k3, r3, b3⟩ := p3.std r2.live
  dsimp only at h4
  split at h4
  · split at h4
    · rename_i hl
      simp only [Bool.and_eq_true, decide_eq_true_eq] at hl
      cases h4
      cases b1
      cases b2
      cases b3
      rename_i i j l
      obtain ⟨⟨⟨l1, l2⟩, l3⟩, l4⟩ := hl
      dsimp only at h5
      split at h5
      · rename_i hlen
        cases h5
        have hn : (rangeC i j l).length = ((j - i + l - 1) / l).toNat := by simp [rangeC]
        exact ⟨i, j, l, _, rfl, rgC_of l1 l2 l3 l4, by omega, fun z hz => q _ _ (((new_tup hz (rgC_rel i j l)).pst r3).after ((s1.trans s2).trans s3) ((k1.comp s1 k2).comp (s1.trans s2) k3))⟩
      · cases h5
    · cases h4
  · cases h4

/-! ### tuples of one's own -/
theorem s_asgO {x : Str} {px : Pos} {id : Nat} (hN : X.N.Nodup) (hi : X.N[i]? = some x) (hl : Loc X.env.scope x) (he : PE X e (tC0 F id m)) (hs : swapsWith e (some (.Name x px)) pos.line X.env = pure false) (hst : X.fn x = true ∨ X.env.scope.names.lookup x = some .local) :
    PS X (.Assign [.Name x px] e pos) (tS F W (.asgO i id m)) := by
  refine (ps_set hN hi hl he hs hst).imp fun D σ H ⟨A, M, ρ, o, r, ev, g⟩ => ?_
  simp only [evS, Option.bind_eq_some_iff, Option.map_eq_some_iff] at ev
  obtain ⟨⟨bs, ρ1⟩, h1, ⟨as, ρ2⟩, h2, ⟨d, fr, ss⟩, h3, ρ3, h4, h5⟩ := ev
  cases h5
  exact ⟨A, M, ρ, bs, ρ1, as, ρ2, d, fr, ss, ρ3, r, h1, h2, h3, h4, fun v H1 p => g _ _ (p.store (by simp [asgd]) r.live)⟩
theorem s_retO {id : Nat} (he : PE X e (tC0 F id m)) : PS X (.Return (some e) pos) (tS F W (.retO id m)) := by
  refine (ps_ret he).imp fun D σ H ⟨A, M, ρ, o, r, ev, g⟩ => ?_
  simp only [evS, Option.bind_eq_some_iff, Option.map_eq_some_iff] at ev
  obtain ⟨⟨bs, ρ1⟩, h1, ⟨as, ρ2⟩, h2, ⟨d, fr, ss⟩, h3, ρ3, h4, h5⟩ := ev
  cases h5
  refine ⟨A, M, ρ, bs, ρ1, as, ρ2, d, fr, ss, ρ3, r, h1, h2, h3, h4, fun v H1 p => ?_⟩
  obtain ⟨A1, M1, s1, k1, r1, q1, q2⟩ := p
  exact g v σ H1 ⟨A1, M1, s1.chg, k1, r1, Agree.refl _ _, q1, q2⟩
/-- tuple(xs) of a list, a tuple of one's own -/
def rTupO : List V → Hp → VK → Prop := fun vs H Q => ∃ a ys, vs = [V.ref a] ∧ H a = some (.lst ys) ∧ ∀ l (o : Obj), o.dict = none → H l = none → Q (.ref l) (upd H l (.frz o (.tup ys)))
theorem cr_tupO : CallR X (.type "tuple") rTupO := by
  intro pins s σ H vs us Q I r ⟨a, ys, e, h1, q⟩
  subst e
  exact tup_strong I r h1 q
theorem s_retT {p p2 : Pos} (hg : Gl X "tuple") (hm : X.mg "tuple" = none) (he : Eb X F e m) (ns : noStar e = true) : PS X (.Return (some (.Call (.Name "tuple" p) [e] [] p2)) pos) (tS F W (.retT m)) := by
  refine (ps_ret (pe_callTy cr_tupO hg hm (by decide +kernel) (pa_cons he.ev pa_nil (star_no ns)) (by decide) (by decide) (star_no ns) rfl)).imp fun D σ H ⟨A, M, ρ, o, r, ev, g⟩ => ?_
  simp only [evS, Option.bind_eq_some_iff] at ev
  obtain ⟨⟨d, fr, ρ1⟩, h1, h2⟩ := ev
  refine ⟨A, M, ρ, d, fr, ρ1, r, h1, fun v H1 p => ?_⟩
  obtain ⟨A1, M1, s1, k1, r1, b1⟩ := p.std r.live
  cases b1 with
  | @lst a xs ds hh hn rr =>
    cases h2
    refine ⟨a, xs, rfl, hh, fun l ob hd hl => ?_⟩
    have kn : Kp M1 H1 (upd H1 l (.frz ob (.tup xs))) := Kp.new hl
    have hl0 : H l = none := by
      cases e0 : H l with
      | none => rfl
      | some o => obtain ⟨o', e'⟩ := k1.live l o e0; rw [hl] at e'; cases e'
    exact g (.ref l) σ _ ⟨A1, M1, s1.chg, k1.comp s1 kn, r1.keep (Kp.new hl), Agree.refl _ _, (fun e => nomatch e), fun _ => ⟨l, rfl, hl0, r1.fresh hl ⟨_, upd_same⟩ (Kp.new hl), new_tupO hd hl rr⟩⟩
  | _ => cases h2
/-! ### sorted(set(xs)) -/
theorem insU_mem {x y : Int} : ∀ {l : List Int}, y ∈ insU x l ↔ y = x ∨ y ∈ l
  | [] => by simp [insU]
  | z :: r => by
    unfold insU
    split
    · simp
    · split
      · rename_i h; subst h; simp
      · simp only [List.mem_cons, insU_mem (l := r)]
        constructor
        · rintro (h | h | h)
          · exact .inr (.inl h)
          · exact .inl h
          · exact .inr (.inr h)
        · rintro (h | h | h)
          · exact .inr (.inl h)
          · exact .inl h
          · exact .inr (.inr h)
theorem insU_asc {x : Int} : ∀ {l : List Int}, l.Pairwise (· < ·) → (insU x l).Pairwise (· < ·)
  | [], _ => List.pairwise_singleton _ _
  | z :: r, h => by
    rw [List.pairwise_cons] at h
    unfold insU
    split
    · rename_i hx
      refine List.pairwise_cons.mpr ⟨fun y hy => ?_, List.pairwise_cons.mpr h⟩
      rcases List.mem_cons.mp hy with rfl | hy
      · exact hx
      · have := h.1 y hy; omega
    · split
      · exact List.pairwise_cons.mpr h
      · refine List.pairwise_cons.mpr ⟨fun y hy => ?_, insU_asc h.2⟩
        rcases insU_mem.mp hy with rfl | hy
        · omega
        · exact h.1 y hy
theorem setI_mem {y : Int} : ∀ {l : List Int}, y ∈ setI l ↔ y ∈ l
  | [] => Iff.rfl
  | x :: r => by
    show y ∈ insU x (setI r) ↔ _
    rw [insU_mem, setI_mem (l := r), List.mem_cons]
theorem setI_asc : ∀ l : List Int, (setI l).Pairwise (· < ·)
  | [] => List.Pairwise.nil
  | x :: r => insU_asc (setI_asc r)
theorem asc_one : ∀ {xs ys : List Int}, xs.Pairwise (· < ·) → ys.Pairwise (· < ·) → (∀ z, z ∈ xs ↔ z ∈ ys) → xs = ys
  | [], [], _, _, _ => rfl
  | [], y :: ys, _, _, h => absurd ((h y).2 List.mem_cons_self) (List.not_mem_nil)
  | x :: xs, [], _, _, h => absurd ((h x).1 List.mem_cons_self) (List.not_mem_nil)
  | x :: xs, y :: ys, h1, h2, h => by
    rw [List.pairwise_cons] at h1 h2
    have e : x = y := by
      rcases List.mem_cons.1 ((h x).1 List.mem_cons_self) with a | a
      · exact a
      · rcases List.mem_cons.1 ((h y).2 List.mem_cons_self) with b | b
        · exact b.symm
        · have := h1.1 y b; have := h2.1 x a; omega
    subst e
    rw [asc_one h1.2 h2.2 fun z => ?_]
    constructor
    · intro hz
      rcases List.mem_cons.1 ((h z).1 (List.mem_cons_of_mem _ hz)) with a | a
      · subst a; have := h1.1 z hz; omega
      · exact a
    · intro hz
      rcases List.mem_cons.1 ((h z).2 (List.mem_cons_of_mem _ hz)) with a | a
      · subst a; have := h2.1 z hz; omega
      · exact a
theorem len_sub : ∀ {xs ys : List Int}, xs.Nodup → (∀ x ∈ xs, x ∈ ys) → xs.length ≤ ys.length
  | [], _, _, _ => Nat.zero_le _
  | x :: xs, ys, h, hs => by
    rw [List.nodup_cons] at h
    have hx := hs x List.mem_cons_self
    have ih := len_sub (xs := xs) (ys := ys.erase x) h.2 fun z hz => (List.mem_erase_of_ne fun e => by subst e; exact h.1 hz).2 (hs z (List.mem_cons_of_mem _ hz))
    rw [List.length_erase_of_mem hx] at ih
    have : 0 < ys.length := List.length_pos_of_mem hx
    rw [List.length_cons]
    omega
theorem e_lset {p p2 q1 : Pos} (hc : X.calm = true) (hg : Gl X "len") (hm : X.mg "len" = none) (hg2 : Gl X "set") (hm2 : X.mg "set" = none) (ha : Eb X F a ma) (ns : noStar a = true) :
    Eb X F (.Call (.Name "len" p) [.Call (.Name "set" p2) [a] [] q1] [] pos) (.lset ma) := by
  refine Eb.of ((pe_lenSetI hc hg hm hg2 hm2 ha.bo (star_no ns)).imp fun σ H Q ⟨A, M, ρ, d, fr, ρ', r, ev, q⟩ => ?_) fun _ => nofun
  simp only [evE, Option.bind_eq_some_iff] at ev
  obtain ⟨⟨x, ρ1⟩, h1, dx, h2, h3⟩ := ev
  cases dx with
  | list xs =>
    refine ⟨A, M, ρ, x, ρ1, r, h1, fun v H1 A1 M1 s1 k1 r1 b1 => ?_⟩
    have tp := b1.top r1 h2
    simp only [Option.bind_eq_some_iff] at h3
    obtain ⟨ns', h4, h5⟩ := h3
    split at h5
    · rename_i hl
      cases h5
      obtain ⟨p, vs, rfl, hp, rr⟩ := tp.lst
      have e := ints_rel rr h4
      subst e
      exact ⟨p, ns', rfl, SqL.of hp, hl.1, hl.2, q _ _ (((NewV.val (.int _)).pst r1).after s1 k1)⟩
    · cases h5
  | _ => cases h3
theorem e_sset {p p2 q1 : Pos} (hc : X.calm = true) (hg : Gl X "sorted") (hm : X.mg "sorted" = none) (hg2 : Gl X "set") (hm2 : X.mg "set" = none) (ha : Eb X F a ma) (ns : noStar a = true) :
    Eb X F (.Call (.Name "sorted" p) [.Call (.Name "set" p2) [a] [] q1] [] pos) (.sset ma) := by
  have ps := pe_callTy (pos := q1) (p := p2) (cr_setL hc) hg2 hm2 (by decide +kernel) (pa_cons ha.bo pa_nil (star_no ns)) (by decide) (by decide) (star_no ns) rfl
  have pt := pe_callTy (pos := q1) (p := p2) (cr_setT hc) hg2 hm2 (by decide +kernel) (pa_cons ha.bo pa_nil (star_no ns)) (by decide) (by decide) (star_no ns) rfl
  refine Eb.of (((pe_callB (cr_sortedSet hc) hg hm (by decide +kernel) (pa_cons ps pa_nil rfl) (by decide) (by decide) rfl rfl).or (pe_callB (cr_sortedSet hc) hg hm (by decide +kernel) (pa_cons pt pa_nil rfl) (by decide) (by decide) rfl rfl)).imp fun σ H Q ⟨A, M, ρ, d, fr, ρ', r, ev, q⟩ => ?_) fun _ => nofun
  simp only [evE, Option.bind_eq_some_iff] at ev
  obtain ⟨⟨x, ρ1⟩, h1, dx, h2, h3⟩ := ev
  cases dx with
  | list xs =>
    refine .inl ⟨A, M, ρ, x, ρ1, r, h1, fun v H1 A1 M1 s1 k1 r1 b1 => ?_⟩
    have tp := b1.top r1 h2
    simp only [Option.bind_eq_some_iff] at h3
    obtain ⟨ns', h4, h5⟩ := h3
    split at h5
    · rename_i hl
      cases h5
      obtain ⟨p, vs, rfl, hp, rr⟩ := tp.lst
      have e := ints_rel rr h4
      subst e
      refine ⟨p, ns', rfl, SqL.of hp, by omega, fun s c ks hs nk hk hc => ⟨s, _, c, rfl, upd_same, ?_, fun ns2 l hasc hmem hlen hl2 => ?_⟩⟩
      · have h6 := len_sub nk (ys := setI ns') fun x hx => setI_mem.2 ((hk x).1 hx)
        omega
      · have e : ns2 = setI ns' := asc_one hasc (setI_asc ns') fun z => by rw [hmem z, setI_mem, decide_eq_true_eq]
        subst e
        have hl1 : H1 l = none := by
          cases e0 : H1 l with
          | none => rfl
          | some o => rw [upd_ne (ne_of_none e0 hs)] at hl2; rw [hl2] at e0; cases e0
        have kk : Kp No H1 (upd (upd H1 s (SetO X.w s (fun j => decide (j ∈ ns')) c)) l (.lst ((setI ns').map V.int))) := (Kp.new hs).trans (Kp.new hl2)
        exact q _ _ ((NewV.pst (fr := true) ⟨kk, (fun e => nomatch e), (fun _ => ⟨l, rfl, hl1, .inl ⟨_, _, rfl, upd_same, ints_all _⟩⟩), fun _ _ => nofun⟩ r1).after s1 k1)
    · cases h5
  | tuple xs =>
    refine .inr ⟨A, M, ρ, x, ρ1, r, h1, fun v H1 A1 M1 s1 k1 r1 b1 => ?_⟩
    have tp := b1.top r1 h2
    simp only [Option.bind_eq_some_iff] at h3
    obtain ⟨ns', h4, h5⟩ := h3
    split at h5
    · rename_i hl
      cases h5
      obtain ⟨p, vs, rfl, hp, rr⟩ := tp.tup
      have e := ints_rel rr h4
      subst e
      refine ⟨p, ns', rfl, TupAt.sq hp, by omega, fun s c ks hs nk hk hc => ⟨s, _, c, rfl, upd_same, ?_, fun ns2 l hasc hmem hlen hl2 => ?_⟩⟩
      · have h6 := len_sub nk (ys := setI ns') fun x hx => setI_mem.2 ((hk x).1 hx)
        omega
      · have e : ns2 = setI ns' := asc_one hasc (setI_asc ns') fun z => by rw [hmem z, setI_mem, decide_eq_true_eq]
        subst e
        have hl1 : H1 l = none := by
          cases e0 : H1 l with
          | none => rfl
          | some o => rw [upd_ne (ne_of_none e0 hs)] at hl2; rw [hl2] at e0; cases e0
        have kk : Kp No H1 (upd (upd H1 s (SetO X.w s (fun j => decide (j ∈ ns')) c)) l (.lst ((setI ns').map V.int))) := (Kp.new hs).trans (Kp.new hl2)
        exact q _ _ ((NewV.pst (fr := true) ⟨kk, (fun e => nomatch e), (fun _ => ⟨l, rfl, hl1, .inl ⟨_, _, rfl, upd_same, ints_all _⟩⟩), fun _ _ => nofun⟩ r1).after s1 k1)
    · cases h5
  | _ => cases h3

/-! ### loops -/
theorem tb_mono {X : Cx} {t : TS} : True := trivial
theorem s_loop (hp : PassesOwn (model X.prog X.w) X.A X.env X.xe) (hc : X.calm = true) (hi : PI X tg iter (tI F mi)) (hg : PG X tg (gM t)) (hb : PSs X sts (tS F W n)) (hs : ∀ x, foldedSetIterable iter X.env x = pure x) :
    PS X (.For tg iter sts [] pos) (tS F W (.loop t mi n)) := by
  refine (ps_for hp hc hi hg hb hs).imp fun D σ H ⟨A, M, ρ, o, r, ev, g⟩ => ?_
  simp only [evS, Option.bind_eq_some_iff] at ev
  obtain ⟨⟨ds, ρ1⟩, h1, h2⟩ := ev
  refine ⟨A, M, ρ, ds, ρ1, r, h1, fun J H1 A1 M1 s1 k1 r1 it => ?_⟩
  obtain ⟨G, Y, w, hG, hY⟩ := it
  have g1 : Gs A1 M1 H1 σ (slotsT t ++ asgd n) o D := g.expr r s1 k1
  have idem : ∀ {σ σ1 σ2 : L2.St}, Agree (slotsT t ++ asgd n) σ σ1 → Agree (slotsT t ++ asgd n) σ1 σ2 → Agree (slotsT t ++ asgd n) σ σ2 := fun a b i hi => (b i hi).trans (a i hi)
  refine for_it w (fun i σ' H' => ∃ A2 M2 ρ2, Chg A1 M1 H1 A2 M2 ∧ Kp M1 H1 H' ∧ RE A2 M2 H' ρ2 σ' ∧ Agree (slotsT t ++ asgd n) σ σ' ∧ loopS t (evS F W n) (ds.drop i) ρ2 = some o) ⟨A1, M1, ρ1, Chg.refl _ _ _, Kp.refl _ _, r1, Agree.refl _ _, h2⟩
    (fun i σ' H' _ ⟨A2, M2, ρ2, c2, k2, _⟩ => hG H' (k2.mono r1.sub)) (fun i x σ' H' H'' hi ⟨A2, M2, ρ2, c2, k2, r2, a2, e2⟩ y => ?_) fun σ' H' ⟨A2, M2, ρ2, c2, k2, r2, a2, e2⟩ => ?_
  · obtain ⟨kn, d, hd, rel⟩ := hY i A2 H' x H'' hi ⟨k2.mono r1.sub, c2.a⟩ y
    rw [drop_cons hd] at e2
    simp only [loopS, Option.bind_eq_some_iff] at e2
    obtain ⟨ρ3, f1, o1, f2, f3⟩ := e2
    refine ⟨A2, M2, ρ2, d, ρ3, r2.keep kn, rel, f1, fun σ3 r3 a3 => ⟨A2, M2, ρ3, o1, r3, f2, ?_⟩⟩
    have k3 : Kp M1 H1 H'' := k2.chg c2 kn.of
    have a3' : Agree (slotsT t ++ asgd n) σ σ3 := idem a2 (a3.mono fun i h => List.mem_append_left _ h)
    have nxt : ∀ ρ4, loopS t (evS F W n) (ds.drop (i + 1)) ρ4 = some o → ∀ σ4 H4, PN A2 M2 H'' σ3 (asgd n) ρ4 σ4 H4 → ∃ A2 M2 ρ2, Chg A1 M1 H1 A2 M2 ∧ Kp M1 H1 H4 ∧ RE A2 M2 H4 ρ2 σ4 ∧ Agree (slotsT t ++ asgd n) σ σ4 ∧ loopS t (evS F W n) (ds.drop (i + 1)) ρ2 = some o := fun ρ4 f4 σ4 H4 ⟨A4, M4, c4, k4, r4, a4⟩ =>
      ⟨A4, M4, ρ4, c2.trans r1.live k3 c4, k3.chg c2 k4, r4, idem a3' (a4.mono fun i h => List.mem_append_right _ h), f4⟩
    have fin : ∀ ρ4, o = .nx ρ4 → ∀ σ4 H4, PN A2 M2 H'' σ3 (asgd n) ρ4 σ4 H4 → D.nx σ4 H4 := fun ρ4 f4 σ4 H4 ⟨A4, M4, c4, k4, r4, a4⟩ => by
      subst f4
      exact g1 σ4 H4 ⟨A4, M4, c2.trans r1.live k3 c4, k3.chg c2 k4, r4, idem a3' (a4.mono fun i h => List.mem_append_right _ h)⟩
    cases o1 with
    | nx ρ4 => exact nxt ρ4 f3
    | ct ρ4 => exact nxt ρ4 f3
    | bk ρ4 => exact fin ρ4 (Option.some.inj f3).symm
    | rt d fr ρ4 =>
      intro v σ4 H4 ⟨A4, M4, c4, k4, r4, a4, q1, q2⟩
      have eo : o = .rt d fr ρ4 := (Option.some.inj f3).symm
      subst eo
      exact g1 v σ4 H4 ⟨A4, M4, c2.trans r1.live k3 c4, k3.chg c2 k4, r4, idem a3' (a4.mono fun i h => List.mem_append_right _ h), q1, fun e => let ⟨p, e1, e2, e3⟩ := q2 e; ⟨p, e1, k3.back e2, e3⟩⟩
  · rw [List.drop_length] at e2
    have eo : o = .nx ρ2 := (Option.some.inj e2).symm
    subst eo
    exact g1 σ' H' ⟨A2, M2, c2, k2, r2, a2⟩
theorem s_while (hp : PassesOwn (model X.prog X.w) X.A X.env X.xe) (hc : PT X c (tT F mc)) (hb : PSs X sts (tS F W n)) : PS X (.While c sts [] pos) (tS F W (.while mc n)) := by
  refine (ps_while hp hc hb).imp fun D σ H ⟨A, M, ρ, o, r, ev, g⟩ => ?_
  simp only [evS] at ev
  have g1 : Gs A M H σ (asgd n) o D := g
  have idem : ∀ {σ σ1 σ2 : L2.St}, Agree (asgd n) σ σ1 → Agree (asgd n) σ1 σ2 → Agree (asgd n) σ σ2 := fun a b i hi => (b i hi).trans (a i hi)
  refine ⟨fun q σ' H' => ∃ A2 M2 ρ2, Chg A M H A2 M2 ∧ Kp M H H' ∧ RE A2 M2 H' ρ2 σ' ∧ Agree (asgd n) σ σ' ∧ whileS (evT F mc) (evS F W n) q ρ2 = some o, ⟨W, A, M, ρ, Chg.refl _ _ _, Kp.refl _ _, r, Agree.refl _ _, ev⟩, fun q σ' H' hw => ?_⟩
  obtain ⟨A2, M2, ρ2, c2, k2, r2, a2, e2⟩ := hw
  cases q with
  | zero => cases e2
  | succ q =>
    simp only [whileS, Option.bind_eq_some_iff] at e2
    obtain ⟨⟨b, ρ3⟩, f1, f2⟩ := e2
    refine ⟨A2, M2, ρ2, b, ρ3, r2, f1, fun H3 A3 M3 s3 k3 r3 => ?_⟩
    have c3 : Chg A M H A3 M3 := c2.trans r.live k2 s3.chg
    have k3' : Kp M H H3 := k2.chg c2 k3
    cases b with
    | false =>
      have eo : o = .nx ρ3 := (Option.some.inj f2).symm
      subst eo
      exact iteF (g1 σ' H3 ⟨A3, M3, c3, k3', r3, a2⟩)
    | true =>
      rw [if_pos rfl] at f2
      simp only [Option.bind_eq_some_iff] at f2
      obtain ⟨o1, f3, f4⟩ := f2
      refine iteT ⟨fun σ4 H4 => ∃ A2 M2 ρ2, Chg A M H A2 M2 ∧ Kp M H H4 ∧ RE A2 M2 H4 ρ2 σ4 ∧ Agree (asgd n) σ σ4 ∧ whileS (evT F mc) (evS F W n) q ρ2 = some o, fun σ4 H4 z => ⟨q, Nat.lt_succ_self q, z⟩, A3, M3, ρ3, o1, r3, f3, ?_⟩
      have nxt : ∀ ρ4, whileS (evT F mc) (evS F W n) q ρ4 = some o → ∀ σ4 H4, PN A3 M3 H3 σ' (asgd n) ρ4 σ4 H4 → ∃ A2 M2 ρ2, Chg A M H A2 M2 ∧ Kp M H H4 ∧ RE A2 M2 H4 ρ2 σ4 ∧ Agree (asgd n) σ σ4 ∧ whileS (evT F mc) (evS F W n) q ρ2 = some o := fun ρ4 f4 σ4 H4 ⟨A4, M4, c4, k4, r4, a4⟩ =>
        ⟨A4, M4, ρ4, c3.trans r.live k3' c4, k3'.chg c3 k4, r4, idem a2 a4, f4⟩
      cases o1 with
      | nx ρ4 => exact nxt ρ4 f4
      | ct ρ4 => exact nxt ρ4 f4
      | bk ρ4 =>
        have eo : o = .nx ρ4 := (Option.some.inj f4).symm
        subst eo
        exact fun σ4 H4 ⟨A4, M4, c4, k4, r4, a4⟩ => g1 σ4 H4 ⟨A4, M4, c3.trans r.live k3' c4, k3'.chg c3 k4, r4, idem a2 a4⟩
      | rt d fr ρ4 =>
        have eo : o = .rt d fr ρ4 := (Option.some.inj f4).symm
        subst eo
        exact fun v σ4 H4 ⟨A4, M4, c4, k4, r4, a4, q1, q2⟩ => g1 v σ4 H4 ⟨A4, M4, c3.trans r.live k3' c4, k3'.chg c3 k4, r4, idem a2 a4, q1, fun e => let ⟨p, e1, e2, e3⟩ := q2 e; ⟨p, e1, k3'.back e2, e3⟩⟩
end
end MI

/-! MIA: a def by its body; the law's call. -/
namespace MI
open PySem PySem.Spec PyProof.Rows L2
variable [EK]

theorem finals_len : ∀ (as : List Arg) (ρ : Rho), (finals as ρ).length = as.length
  | [], _ => rfl
  | (_, true) :: as, s :: ρ => congrArg (· + 1) (finals_len as ρ)
  | (_, true) :: as, [] => congrArg (· + 1) (finals_len as _)
  | (_, false) :: as, ρ => congrArg (· + 1) (finals_len as _)
theorem finals_at : ∀ {as : List Arg} {ρ : Rho} {i : Nat} {s : Slot}, (finals as ρ)[i]? = some s → s = .no ∨ ((∃ d, as[i]? = some (d, true)) ∧ ρ[i]? = some s)
  | [], _, _, _, h => by simp [finals] at h
  | (d, true) :: as, s :: ρ, 0, _, h => .inr ⟨⟨d, rfl⟩, h⟩
  | (d, true) :: as, s :: ρ, i + 1, x, h => (finals_at (as := as) (ρ := ρ) (i := i) h).imp id fun z => z
  | (d, true) :: as, [], 0, _, h => .inl (Option.some.inj h).symm
  | (d, true) :: as, [], i + 1, x, h => (finals_at (as := as) (ρ := []) (i := i) h).imp id fun z => z
  | (d, false) :: as, ρ, 0, _, h => .inl (Option.some.inj h).symm
  | (d, false) :: as, ρ, i + 1, x, h => by
    rcases finals_at (as := as) (ρ := ρ.tail) (i := i) h with z | ⟨z1, z2⟩
    · exact .inl z
    · refine .inr ⟨z1, ?_⟩
      cases ρ with
      | nil => simp at z2
      | cons a r => exact z2
theorem lent_not {l : List Nat} : ∀ {as : List Arg} {k i : Nat} {d : PyData}, lentOk l k as = true → as[i]? = some (d, true) → (k + i) ∉ l
  | (d, true) :: as, k, 0, _, h, _ => by
    simp only [lentOk, Bool.and_eq_true, Bool.not_eq_true'] at h
    intro z
    have := List.contains_iff_mem.mpr z
    simp only [Nat.add_zero] at this
    rw [h.1] at this
    cases this
  | (d, true) :: as, k, i + 1, _, h, e => by
    simp only [lentOk, Bool.and_eq_true] at h
    have := lent_not (k := k + 1) (i := i) h.2 e
    rw [show k + (i + 1) = k + 1 + i by omega]
    exact this
  | (d, false) :: as, k, 0, _, h, e => by cases e
  | (d, false) :: as, k, i + 1, _, h, e => by
    simp only [lentOk] at h
    have := lent_not (k := k + 1) (i := i) h e
    rw [show k + (i + 1) = k + 1 + i by omega]
    exact this
  | [], _, _, _, _, e => by simp at e
theorem RE.pad {A M : AS} {H : Hp} {ρ : Rho} {σ : L2.St} (r : RE A M H ρ σ) (n : Nat) : RE A M H (ρ ++ List.replicate n .no) (σ ++ List.replicate n none) := by
  have old : ∀ {i : Nat} {s : Slot}, (ρ ++ List.replicate n Slot.no)[i]? = some s → s = .no ∨ (ρ[i]? = some s ∧ (σ ++ List.replicate n none)[i]? = σ[i]?) := fun {i s} h => by
    by_cases hi : i < ρ.length
    · rw [List.getElem?_append_left hi] at h
      exact .inr ⟨h, List.getElem?_append_left (r.len ▸ hi)⟩
    · rw [List.getElem?_append_right (by omega), List.getElem?_replicate] at h
      split at h
      · exact .inl (Option.some.inj h).symm
      · cases h
  refine ⟨by simp [r.len], r.sub, r.live, fun i d h => ?_, fun i d h => ?_, fun i j d e a h1 h2 h3 h4 => ?_⟩
  · rcases old h with z | ⟨z1, z2⟩
    · cases z
    · obtain ⟨v, q1, q2⟩ := r.dat i d z1
      exact ⟨v, z2.trans q1, q2⟩
  · rcases old h with z | ⟨z1, z2⟩
    · cases z
    · obtain ⟨v, q1, q2⟩ := r.own i d z1
      exact ⟨v, z2.trans q1, q2⟩
  · rcases old h1 with z | ⟨z1, z2⟩
    · cases z
    · rcases old h2 with z | ⟨z3, z4⟩
      · cases z
      · exact r.inj i j d e a z1 z3 (z2.symm.trans h3) (z4.symm.trans h4)
/-- what comes back to the caller -/
theorem fin_ok {A M A' M' A2 : AS} {H H' : Hp} {as : List Arg} {vs : List V} {ρ' : Rho} {σ σ' : L2.St} {l : List Nat} (r : RE A M H (as.map argSlot) (vs.map some)) (r' : RE A' M' H' ρ' σ') (hσ : ∀ i, i < vs.length → σ[i]? = (vs.map some)[i]?) (ag : Agree l σ σ') (lo : lentOk l 0 as = true)
    (h2 : ∀ a, A2 a → A' a) (hm : ∀ a, M' a → M a → A2 a) : RE A2 (fun a => M' a ∧ M a) H' (finals as ρ') (vs.map some) := by
  have len : as.length = vs.length := by simpa using r.len
  have at_ : ∀ {i : Nat} {d : PyData}, as[i]? = some (d, true) → σ'[i]? = (vs.map some)[i]? := fun {i d} e => by
    have hi : i < vs.length := by rw [← len]; exact (List.getElem?_eq_some_iff.mp e).1
    have z := lent_not lo e
    rw [Nat.zero_add] at z
    rw [ag i z, hσ i hi]
  refine ⟨by rw [finals_len, List.length_map]; exact len, fun a z => hm a z.1 z.2, fun a z => r'.live a (h2 a z), fun i d h => ?_, fun i d h => ?_, fun i j d e a h1 h2' h3 h4 => ?_⟩
  · rcases finals_at h with z | ⟨⟨d0, z1⟩, z2⟩
    · cases z
    · obtain ⟨v, q1, q2⟩ := r'.dat i d z2
      exact ⟨v, (at_ z1).symm.trans q1, q2.anti h2⟩
  · rcases finals_at h with z | ⟨⟨d0, z1⟩, z2⟩
    · cases z
    · obtain ⟨a, q1, q2, q3⟩ := r'.own i d z2
      have e1 : (vs.map some)[i]? = some (some (.ref a)) := (at_ z1).symm.trans q1
      have z3 : (as.map argSlot)[i]? = some (Slot.own d0) := by rw [List.getElem?_map, z1]; rfl
      obtain ⟨a', p1, p2, _⟩ := r.own i d0 z3
      rw [e1] at p1
      cases p1
      exact ⟨a, e1, ⟨q2, p2⟩, q3.anti h2⟩
  · rcases finals_at h1 with z | ⟨⟨d0, z1⟩, z2⟩
    · cases z
    · rcases finals_at h2' with z | ⟨⟨d1, z3⟩, z4⟩
      · cases z
      · exact r'.inj i j d e a z2 z4 ((at_ z1).trans h3) ((at_ z3).trans h4)
theorem ret_pst {A M : AS} {H H' : Hp} {as : List Arg} {vs : List V} {ρ' : Rho} {σ σ' : L2.St} {l : List Nat} {d : PyData} {fr : Bool} {v : V} (r : RE A M H (as.map argSlot) (vs.map some)) (hσ : ∀ i, i < vs.length → σ[i]? = (vs.map some)[i]?) (lo : lentOk l 0 as = true)
    (p : PR A M H σ l d fr ρ' v σ' H') : Pst0 A M H (finals as ρ') (vs.map some) d fr v H' := by
  obtain ⟨A', M', c, k, r', ag, q1, q2⟩ := p
  refine ⟨fun a => A' a ∧ A a, fun a => M' a ∧ M a, ⟨fun x z => z.2, fun x z => z.2, fun x h n => c.d x h fun z => n ⟨z, h⟩⟩, k, fin_ok r r' hσ ag lo (fun a z => z.1) fun a z y => ⟨r'.sub a z, r.sub a y⟩, fun e => (q1 e).anti fun a z => z.1, fun e => ?_⟩
  obtain ⟨p, rfl, hp, ra, ho⟩ := q2 e
  have sub : ∀ a, orA (fun a => A' a ∧ A a) p a → orA A' p a := fun a z => z.imp (fun y => y.1) id
  exact ⟨p, rfl, hp, fin_ok r ra hσ ag lo sub fun a z y => .inl ⟨r'.sub a z, r.sub a y⟩, ho.anti sub⟩
section
variable {P : Program} {w : World} {K : PySem.W.Frag} {mg : Str → Option Value} {base : Heap}
/-- a def of the program by the interpreter's run of its body -/
theorem fn_g {x qual : Str} {st : Stmt} {f : Addr} {fd : FuncData} {N ps : List Str} {k W id : Nat} {F F' : Fns} {fn : Fn} (U : L2.Fun K x qual st f fd) (S : FnScope N ps (defScope st)) (hnp : fn.np = ps.length) (hnv : fn.nv = N.length)
    (hF : ∀ as, F' id as = runFn F W fn as)
    (hbody : ∀ (cdv : Value) (A : Around) (outer : List Env) (s : Shared) (H : Hp), A.guards = some [] → Room k (A.deeper (envOfC qual (defScope st) s.heap.objs.size f cdv)) → PSs (cxOf CX0 P w K mg base N qual (defScope st) f cdv A outer s H E0).nox (defBody st) (tS F W fn.body)) :
    FnG P w K mg base (k + 1) f fd ps (spF F' id) := by
  obtain ⟨oc, od, kV, doc, pm, an, cdv, ct, osl, rfl, lk, hcd⟩ := U.ex
  have inv : ∀ {vs : List V} {H : Hp} {Q : VK}, spF F' id vs H Q E0 → ∃ A M as d fr ss, RE A M H (as.map argSlot) (vs.map some) ∧ runFn F W fn as = some (d, fr, ss) ∧ as.length = vs.length ∧ vs.length = ps.length ∧ ∀ v H', Pst0 A M H ss (vs.map some) d fr v H' → Q v H' := fun {vs H Q} h => by
    obtain ⟨A, M, as, d, fr, ss, r, e, q⟩ := h
    rw [hF] at e
    have l1 : as.length = vs.length := by simpa using r.len
    have l2 : as.length = fn.np := by
      unfold runFn at e
      split at e
      · rename_i z; exact z.1
      · cases e
    exact ⟨A, M, as, d, fr, ss, r, e, l1, by omega, q⟩
  refine ⟨fun vs H Q h => let ⟨_, _, _, _, _, _, _, _, _, l, _⟩ := inv h; l, fun A outer s H args us vs Q hgd hr e0 hb rv hsp => ?_⟩
  obtain ⟨AA, MM, as, d, fr, ss, r, e, l1, l2, q⟩ := inv hsp
  unfold runFn at e
  split at e
  case isFalse => cases e
  rename_i hc
  simp only [Option.bind_eq_some_iff] at e
  obtain ⟨o, e1, e2⟩ := e
  have KX : K.In s.heap := e0.mod.kin.keeps fun b o e => (e0.bs b o e).1
  have lim : s.heap.NoLimit := e0.mod.nolimit.keeps fun b o e => (e0.bs b o e).1
  have hkind : ∀ y ∈ ps.zip us, (defScope st).names.lookup y.1 = some .local ∨ ((defScope st).names.lookup y.1 = some .cell ∧ ((cellsFrom (s.heap.objs.size + 1) (defScope st).names []).lookup y.1).isSome = true) := by
    rintro ⟨nm, v⟩ hy
    refine (S.par nm (List.of_mem_zip hy).1).imp (fun z => z) fun q => ⟨q, PySem.W.cellsFrom_some _ _ _ (.inl q)⟩
  refine codeAny_call_function hr.depth (KX _ _ lk) rfl S.co S.gen rfl (PySem.W.codeRec_of KX hcd) (hb _ _ _ _ (wpAny_newFunctionEnv_cells S.kind hkind fun env he s1 x => ?_))
  subst he
  refine ⟨lim.keeps x.toInCall.keep, codeAny_func ?_⟩
  have I := inv_start (CX := CX0) (E := E0) S hr.hd e0 l2 rv x
  have st0 : start N vs = vs.map some ++ List.replicate (N.length - vs.length) none := rfl
  have hσ : ∀ i, i < vs.length → (start N vs)[i]? = (vs.map some)[i]? := fun i hi => by
    rw [st0, List.getElem?_append_left (by simpa using hi)]
  have r0 : RE AA MM H (as.map argSlot ++ List.replicate (fn.nv - fn.np) .no) (start N vs) := by
    rw [st0, hnv, hnp, ← l2]
    exact r.pad _
  have go := (hbody cdv A outer s H hgd (hr.deeper _)).nox.run [] s1 (start N vs) H { nx := fun _ H' => Q .non H', rt := Q } I ⟨AA, MM, _, o, r0, e1, ?_⟩
  · refine wpAny_mono go (fun fl s' hs => ?_) fun _ _ z => z
    match fl, hs with
    | .ret u, ⟨v, σ', H', J, rv', q'⟩ => exact ⟨v, H', J.os, J.bare, J.base, J.hok, rv', q'⟩
    | .next, ⟨σ', H', J, q'⟩ => exact ⟨.non, H', J.os, J.bare, J.base, J.hok, rfl, q'⟩
    | .brk, ⟨_, _, _, q'⟩ => exact q'.elim
    | .cont, ⟨_, _, _, q'⟩ => exact q'.elim
  · cases o with
    | nx ρ' =>
      cases e2
      exact fun σ' H' ⟨A', M', c, k, r', ag⟩ => q .non H' (ret_pst (l := asgd fn.body) r hσ hc.2 ⟨A', M', c, k, r', ag, fun _ => .non, fun z => nomatch z⟩)
    | bk ρ' => cases e2
    | ct ρ' => cases e2
    | rt d fr ρ' =>
      cases e2
      exact fun v σ' H' p => q v H' (ret_pst r hσ hc.2 p)
/-- the abstract heap at the law's entry: the script alone, if it isn't the module's own -/
def entryH (K : PySem.W.Frag) (a : Addr) (o : Obj) (xs : List V) : Hp := fun b => if b = a ∧ K.lookup a = none then some (.frz o (.lst xs)) else none
theorem entry_cases {K : PySem.W.Frag} {a b : Addr} {o : Obj} {xs : List V} {u : HO} (h : entryH K a o xs b = some u) : b = a ∧ K.lookup a = none ∧ u = .frz o (.lst xs) := by
  unfold entryH at h
  split at h
  · rename_i z
    exact ⟨z.1, z.2, (Option.some.inj h).symm⟩
  · cases h
/-- the law's call -/
theorem law_g {mb : Str → Option Value} {k id : Nat} {fa a : Addr} {fd : FuncData} {x : Str} {F : Fns} {s₁ : Shared} {vs : List Value} {ns : List Int} {fr : Bool} {ss : List Slot} (hK : K = EK.k)
    (KX : K.In s₁.heap) (hmod : s₁.heap.Ns mainGlobals mg) (hblt : s₁.heap.Ns builtinsNs mb) (hb0 : ∀ y : Str, y ≠ "__name__" → mb y = bootBuiltins y) (hlim : s₁.heap.NoLimit) (hgens : s₁.gens = #[])
    (hlist : s₁.heap.get? a = some { cls := .type "list", data := .seq vs.toArray }) (hints : IntsAre vs ns) (hlen : ns.length ≤ sizeLine) (room : Room k callerA)
    (G : ∀ base : Heap, K.In base → base.Ns mainGlobals mg → FnG P w K mg base k fa fd [x] (spF F id)) (hbind : ∀ (s : Shared) (u : Value), BindsTo s fd ⟨[u], []⟩ [(x, u)])
    (hev : F id [(scr (ns.map PyData.int), false)] = some (.bool true, fr, ss)) :
    codeAny (model P w) callerA (.call (.ref fa) ⟨[.ref a], []⟩) (fun r s' => r = .ok (.ret (.bool true)) ∧ OldK s₁.heap s'.heap ∧ s'.os = s₁.os ∧ AllBare s'.gens) s₁ := by
  obtain ⟨o, ho⟩ : ∃ o : Obj, o = { cls := .type "list", data := .seq vs.toArray } := ⟨_, rfl⟩
  have vals := vals_ints hints
  have hsize : (ns.map V.int).length ≤ sizeLine := by rw [List.length_map]; exact hlen
  obtain ⟨H, hH⟩ : ∃ H, H = entryH K a o (ns.map V.int) := ⟨_, rfl⟩
  have only : ∀ {b u}, H b = some u → b = a ∧ K.lookup a = none ∧ u = .frz o (.lst (ns.map V.int)) := fun {b u} z => entry_cases (hH ▸ z)
  have hobj : s₁.heap.get? a = some o := ho ▸ hlist
  have okH : HOk P w H s₁.heap := fun b u z => by
    obtain ⟨rfl, _, rfl⟩ := only z
    exact ⟨hobj, hsize, vs, _, vals, hlist⟩
  have noneOf : ∀ {b : Addr}, (b = a → ∃ ob, K.lookup a = some ob) → H b = none := fun {b} z => by
    cases e : H b with
    | none => rfl
    | some u =>
      obtain ⟨e1, e2, _⟩ := only e
      obtain ⟨ob, e3⟩ := z e1
      rw [e2] at e3
      cases e3
  have keepD : ∀ {b : Addr} {ob : Obj} {es : Array DictEntry} {ep : Nat}, s₁.heap.get? b = some ob → ob.data = .dict es ep → (hidT s₁.heap H).get? b = some ob := fun {b ob es ep} e dd => hidT_get e (by
    cases q : H b with
    | none => rfl
    | some u =>
      obtain ⟨rfl, _, _⟩ := only q
      rw [hlist] at e
      cases e
      exact absurd dd (fun z => by injection z))
  have nsOf : ∀ {b : Addr} {m : Str → Option Value}, s₁.heap.Ns b m → (hidT s₁.heap H).Ns b m := fun {b m} z => by
    obtain ⟨ob, es, ep, e, dd, rest⟩ := z
    exact ⟨ob, es, ep, keepD e dd, dd, rest⟩
  have kin : K.In (hidT s₁.heap H) := fun b ob e => hidT_get (KX b ob e) (noneOf fun z => ⟨ob, z ▸ e⟩)
  have md : Mod K mg (hidT s₁.heap H) := by
    obtain ⟨mc, l1, l2⟩ := hlim
    exact ⟨kin, nsOf hmod, ⟨mb, nsOf hblt, hb0⟩, mc, nsOf l1, l2⟩
  have env : Env0 P w K mg (hidT s₁.heap H) callerA [] s₁ H :=
    { frames := rfl, mod := md, bs := fun b ob e => of_hidT e, bsz := Nat.le_of_eq (hidT_size _ _), funs := trivial, frf := fun b z => (List.not_mem_nil z).elim, hok := okH, bare := .of_eq hgens }
  have scrA : ScrAt H a (ns.map V.int) := by
    cases e : K.lookup a with
    | none => exact .inl ⟨o, by rw [hH]; exact if_pos ⟨rfl, e⟩⟩
    | some ob =>
      have z := KX a ob e
      rw [hlist] at z
      cases z
      exact .inr ⟨_, vs.toArray, _, hK ▸ e, rfl, rfl, rfl, by rw [List.size_toArray, hints.length]; exact hlen, vals⟩
  have re : RE No No H [Slot.dat (scr (ns.map PyData.int))] [some (V.ref a)] := (RE.nil (A := No) (M := No) (H := H) (fun _ z => z) fun _ z => z.elim).consDat (.scr scrA (ints_all ns))
  have sp : spF F id [V.ref a] H (fun v _ => v = .bl true) E0 := ⟨No, No, [(scr (ns.map PyData.int), false)], _, _, _, re, hev, fun v H' p => by
    obtain ⟨A', M', _, _, _, rel⟩ := Pst.std ⟨p, fun _ _ => nofun⟩ fun _ z => z.elim
    cases rel
    rfl⟩
  refine codeAny_mono ((G _ kin (nsOf hmod)).run callerA [] s₁ H ⟨[.ref a], []⟩ [.ref a] [.ref a] _ rfl room env (hbind s₁ (.ref a)) (.cons rfl .nil) sp) fun res s' z => ?_
  match res, z with
  | .error _, z => exact z.elim
  | .ok (.ret u), ⟨v, H', os, bare, un, ok', rel, q⟩ =>
    have qv : v = .bl true := q
    subst qv
    cases rel
    refine ⟨rfl, OldK.of_keep fun b ob e => ?_, os, bare⟩
    cases q : H b with
    | none => exact un.keep b ob e q (fun z => (List.not_mem_nil z).elim) (fun z => (List.not_mem_nil z).elim)
    | some u =>
      obtain ⟨rfl, _, rfl⟩ := only q
      have z1 := (ok' _ _ (un.frzs _ _ _ q)).1
      rw [hobj] at e
      cases e
      exact z1
end
end MI

/-! MIB: from the model's syntax to the interpreter's: expressions. -/
namespace MI
open PySem PySem.Spec PyProof.Rows L2
variable [EK]

structure Sig where
  fns : List (Str × Nat)
  cst : List (Str × PyData)
  blt : List Str
  own : Bool := false
  dT : Bool := false
  strong : List (Str × Nat) := []
  look : List Str := []
  kws : List (Str × List Str × Nat × List Nat) := []
  gds : List (Str × List (Int × Str)) := []
def posOf : List Str → Str → Option Nat
  | [], _ => none
  | y :: r, x => if y = x then some 0 else (posOf r x).map (· + 1)
theorem posOf_ok : ∀ {N : List Str} {x : Str} {i : Nat}, posOf N x = some i → N[i]? = some x
  | [], _, _, h => by cases h
  | y :: r, x, i, h => by
    unfold posOf at h
    split at h
    · rename_i e
      cases h
      exact congrArg some e
    · simp only [Option.map_eq_some_iff] at h
      obtain ⟨j, h1, rfl⟩ := h
      have z := posOf_ok h1
      exact z
def vis (sc : Scope) (x : Str) : Bool := match sc.names.lookup x with
  | some .local => true
  | some .cell => true
  | some .free => true
  | _ => false
def glb (sc : Scope) (x : Str) : Bool := match sc.names.lookup x with
  | some .globalImplicit => true
  | _ => false
def fine (x : Str) : Bool := !(x == ("__debug__" : Str)) && !(x == ("__classdict__" : Str)) && !(x == ("__name__" : Str))
theorem vis_ok {sc : Scope} {x : Str} (h : vis sc x = true) : Vis sc x := by
  unfold vis at h
  split at h
  · rename_i e; exact .inl e
  · rename_i e; exact .inr (.inl e)
  · rename_i e; exact .inr (.inr e)
  · cases h
theorem glb_ok {sc : Scope} {x : Str} (h : glb sc x = true) : sc.names.lookup x = some .globalImplicit := by
  unfold glb at h
  split at h
  · rename_i e; exact e
  · cases h
theorem fine_ok {x : Str} (h : fine x = true) : (x == ("__debug__" : Str)) = false ∧ (x == ("__classdict__" : Str)) = false ∧ x ≠ "__name__" := by
  unfold fine at h
  simp only [Bool.and_eq_true, Bool.not_eq_true'] at h
  refine ⟨h.1.1, h.1.2, fun e => ?_⟩
  have := h.2
  rw [e] at this
  simp at this
def bopOf : Operator → Option Bop
  | .Add => some .add | .Sub => some .sub | .Mult => some .mul | .FloorDiv => some .fdiv | .Mod => some .mod | .Pow => some .pow | .RShift => some .shr | .BitAnd => some .band
  | _ => none
theorem bopOf_ok {o : Operator} {b : Bop} (h : bopOf o = some b) : o = opOf b := by
  cases o <;> cases h <;> rfl
def cmpOf : CmpOp → Option Cop
  | .Eq => some .eq | .NotEq => some .ne | .Lt => some .lt | .LtE => some .le | .Gt => some .gt | .GtE => some .ge | .In => some .isin | .NotIn => some .notin
  | _ => none
theorem cmpOf_ok {o : CmpOp} {b : Cop} (h : cmpOf o = some b) : o = copOf b := by
  cases o <;> cases h <;> rfl
def litOf : Const → Option ME
  | .int i => some (.lit (.int i))
  | .bool b => some (.lit (.bool b))
  | .none => some (.lit .none)
  | .str x => some (.lit (.str x))
  | _ => none
def biTab : List (Str × Nat × Bi) := [("len", 1, .len), ("all", 1, .all), ("any", 1, .any), ("tuple", 1, .tuple), ("list", 1, .list), ("sorted", 1, .sorted), ("sum", 1, .sum), ("max", 1, .max1), ("min", 1, .min1), ("max", 2, .max2), ("min", 2, .min2), ("repr", 1, .repr), ("int", 1, .int), ("str", 1, .str)]
def isTab : List (Str × Bi) := [("int", .isInt), ("bool", .isBool), ("tuple", .isTuple), ("str", .isStr), ("list", .isList)]
def biOf (x : Str) (n : Nat) : Option Bi := (biTab.find? fun p => p.1 == x && p.2.1 == n).map (·.2.2)
def isOf (x : Str) : Option Bi := (isTab.find? fun p => p.1 == x).map (·.2)
def BiFact (x : Str) (b : Bi) : Prop := tyOf b = none ∧ ((∃ id, fnBi b = .builtin id ∧ bootBuiltins x = some (.builtin id)) ∨ ∃ id, fnBi b = .type id ∧ bootBuiltins x = some (.type id))
theorem biTab_ok : ∀ p ∈ biTab, BiFact p.1 p.2.2 := by
  intro p hp
  simp only [biTab, List.mem_cons, List.not_mem_nil, or_false] at hp
  rcases hp with rfl | rfl | rfl | rfl | rfl | rfl | rfl | rfl | rfl | rfl | rfl | rfl | rfl | rfl <;> first
    | exact ⟨rfl, .inl ⟨_, rfl, by decide +kernel⟩⟩
    | exact ⟨rfl, .inr ⟨_, rfl, by decide +kernel⟩⟩
theorem isTab_ok : ∀ p ∈ isTab, ∃ nm, tyOf p.2 = some nm ∧ bootBuiltins p.1 = some (.type nm) := by
  intro p hp
  simp only [isTab, List.mem_cons, List.not_mem_nil, or_false] at hp
  rcases hp with rfl | rfl | rfl | rfl | rfl <;> exact ⟨_, rfl, by decide +kernel⟩
theorem biOf_ok {x : Str} {n : Nat} {b : Bi} (h : biOf x n = some b) : BiFact x b := by
  unfold biOf at h
  simp only [Option.map_eq_some_iff] at h
  obtain ⟨p, h1, rfl⟩ := h
  have e := List.find?_some h1
  simp only [Bool.and_eq_true, beq_iff_eq] at e
  rw [← e.1]
  exact biTab_ok p (List.mem_of_find?_eq_some h1)
theorem isOf_ok {x : Str} {b : Bi} (h : isOf x = some b) : ∃ nm, tyOf b = some nm ∧ bootBuiltins x = some (.type nm) := by
  unfold isOf at h
  simp only [Option.map_eq_some_iff] at h
  obtain ⟨p, h1, rfl⟩ := h
  have e := List.find?_some h1
  simp only [beq_iff_eq] at e
  rw [← e]
  exact isTab_ok p (List.mem_of_find?_eq_some h1)
def isTupE : Expr → Bool
  | .Tuple .. => true
  | _ => false
/-- a list that is made for this call alone -/
def isPen : Expr → Bool
  | .Call (.Name f _) _ _ _ => f == ("_law_pen" : Str)
  | _ => false
/-- plainly a text -/
def isTxtE : Expr → Bool
  | .Constant (.str _) _ _ => true
  | .Call (.Name f _) _ _ _ => f == ("str" : Str)
  | _ => false
def isSetE : Expr → Bool
  | .Set .. => true
  | _ => false
def isSlE : Expr → Bool
  | .Slice .. => true
  | _ => false
/-- a comprehension's own names by their slots -/
def ownOf (N : List Str) (scope : Scope) : List (Str × Nat) := scope.names.filterMap fun (x, k) => match k with
  | .local => (posOf N x).map fun i => (x, i)
  | .cell => (posOf N x).map fun i => (x, i)
  | _ => none
/-- may this name be stored: pm tells the comprehension's scope, if one stands in one -/
def stOk (sc : Scope) (pm : Option Scope) (x : Str) : Bool := match sc.names.lookup x with
  | some .local => true
  | some .cell => (match pm with | none => true | some s => s.names.lookup x == some .cell)
  | _ => false
mutual
def cG (N : List Str) (sc : Scope) (pm : Option Scope) : Nat → Expr → Option MT
  | n + 1, .Name x _ => if stOk sc pm x then (posOf N x).map .nm else none
  | n + 1, .Tuple es _ _ => (cGs N sc pm n es).map .tp
  | _, _ => none
def cGs (N : List Str) (sc : Scope) (pm : Option Scope) : Nat → List Expr → Option MT
  | _, [] => some .nil
  | n + 1, e :: es => if noStar e then (cG N sc pm n e).bind fun t => (cGs N sc pm n es).map fun u => .cons t u else none
  | _, _ => none
end
def inS (l vs : List Nat) : Bool := l.all fun i => vs.contains i
theorem inS_ok {l vs : List Nat} (h : inS l vs = true) : ∀ i ∈ l, i ∈ vs := fun i hi => by
  unfold inS at h
  exact List.contains_iff_mem.mp (List.all_eq_true.mp h i hi)
/-- keys of a display that are ints -/
def intKey : Option Expr → Option Int
  | some (.Constant (.int k) _ _) => some k
  | some (.UnaryOp .USub (.Constant (.int k) _ _) _) => some (-k)
  | _ => none
def intKeys : List (Option Expr) → Option (List Int)
  | [] => some []
  | k :: r => (intKey k).bind fun i => (intKeys r).map (i :: ·)
mutual
def cE (S : Sig) (N : List Str) : Nat → Scope → Expr → Option ME
  | 0, _, _ => none
  | n + 1, sc, .Constant c _ _ => litOf c
  | n + 1, sc, .Name x _ => if fine x then (if vis sc x then (posOf N x).map .var else if glb sc x then (S.cst.lookup x).map .lit else none) else none
  | n + 1, sc, .BinOp a op b _ => (bopOf op).bind fun o => (cE S N n sc a).bind fun ma => (cE S N n sc b).map fun mb => .bin o ma mb
  | n + 1, sc, .UnaryOp .USub a _ => (cE S N n sc a).map .neg
  | n + 1, sc, .UnaryOp .Not a _ => (cE S N n sc a).map .not
  | n + 1, sc, .BoolOp .And (a :: b :: r) _ => (cE S N n sc a).bind fun ma => (cB S N n sc .And (b :: r)).map fun mb => .and ma mb
  | n + 1, sc, .BoolOp .Or (a :: b :: r) _ => (cE S N n sc a).bind fun ma => (cB S N n sc .Or (b :: r)).map fun mb => .or ma mb
  | n + 1, sc, .Compare a ops cs _ => cCmp S N n sc a ops cs
  | n + 1, sc, .IfExp c a b _ => (cT S N n sc c).bind fun mc => (cE S N n sc a).bind fun ma => (cE S N n sc b).map fun mb => .ite mc ma mb
  | n + 1, sc, .Call (.Name f _) args [] _ => cCall S N n sc f args
  | n + 1, sc, .Call (.Name f _) [] (k0 :: ks) _ => if glb sc f && fine f then (kwNames (k0 :: ks)).bind fun ns => (S.kws.find? fun q => q.1 == f && q.2.1 == ns).bind fun q =>
      if q.2.2.2.length = ns.length then (cK S N n sc (k0 :: ks)).map fun m => .callK q.2.2.1 q.2.2.2 m else none else none
  | n + 1, sc, .Call (.Attribute (.Constant (.str z) _ _) f ap) [e] [] cp => if f = "join" && noStar e && ap.endLine == cp.line then (cE S N n sc e).map (.join z) else none
  | n + 1, sc, .Call (.Attribute (.Dict ks vs dp) f ap) [e, e'] [] cp => if f = "get" && noStar e && noStar e' && ap.endLine == cp.line then (cE S N n sc (.Dict ks vs dp)).bind fun mo => (cE S N n sc e).bind fun mk => (cE S N n sc e').map fun mf => .dget mo mk mf else none
  | n + 1, sc, .Call (.Attribute (.Name x _) f ap) args [] cp => cMet S N n sc x f args ap cp
  | n + 1, sc, .Subscript a (.Slice none none (some (.UnaryOp .USub (.Constant (.int 1) _ _) _)) _) _ => (cE S N n sc a).map .rev
  | n + 1, sc, .Subscript a (.Slice lo hi none _) _ => (cE S N n sc a).bind fun ma => (cO S N n sc lo).bind fun ml => (cO S N n sc hi).map fun mh => .sl ma ml mh
  | n + 1, sc, .Subscript a i _ => if isSlE i then none else (cE S N n sc a).bind fun ma => (cE S N n sc i).map fun mi => .idx ma mi
  | n + 1, sc, .Tuple es _ _ => (cA S N n sc es).map .tup
  | n + 1, sc, .List es _ => (cA S N n sc es).map .lst
  | n + 1, sc, .Dict [] [] _ => some (if S.dT then .dicT else .dic)
  | n + 1, sc, .Dict (k0 :: ks) (v0 :: vs) _ => (intKeys (k0 :: ks)).bind fun is => if (k0 :: ks).length = (v0 :: vs).length ∧ (k0 :: ks).length ≤ 15 then (cD S N n sc (v0 :: vs)).map fun m => .disp is m else none
  | n + 1, sc, .ListComp elt gens scope _ => cComp S N n sc elt gens scope
  | _, _, _ => none
/-- the values of a display -/
def cD (S : Sig) (N : List Str) : Nat → Scope → List Expr → Option ME
  | n + 1, _, [] => some .nil
  | n + 1, sc, e :: es => (cE S N n sc e).bind fun m => (cD S N n sc es).map fun r => .cons m r
  | _, _, _ => none
/-- the values of keywords -/
def cK (S : Sig) (N : List Str) : Nat → Scope → List Keyword → Option ME
  | n + 1, _, [] => some .nil
  | n + 1, sc, ⟨_, e, _⟩ :: r => (cE S N n sc e).bind fun m => (cK S N n sc r).map fun u => .cons m u
  | _, _, _ => none
/-- and, or, as values -/
def cB (S : Sig) (N : List Str) : Nat → Scope → BoolOp → List Expr → Option ME
  | n + 1, sc, _, [a] => cE S N n sc a
  | n + 1, sc, .And, a :: b :: r => (cE S N n sc a).bind fun ma => (cB S N n sc .And (b :: r)).map fun mb => .and ma mb
  | n + 1, sc, .Or, a :: b :: r => (cE S N n sc a).bind fun ma => (cB S N n sc .Or (b :: r)).map fun mb => .or ma mb
  | _, _, _, _ => none
/-- tests -/
def cT (S : Sig) (N : List Str) : Nat → Scope → Expr → Option ME
  | 0, _, _ => none
  | n + 1, sc, .UnaryOp .Not a _ => (cT S N n sc a).map .not
  | n + 1, sc, .BoolOp .And (a :: b :: r) _ => (cT S N n sc a).bind fun ma => (cBT S N n sc .And (b :: r)).map fun mb => .and ma mb
  | n + 1, sc, .BoolOp .Or (a :: b :: r) _ => (cT S N n sc a).bind fun ma => (cBT S N n sc .Or (b :: r)).map fun mb => .or ma mb
  | n + 1, sc, .Compare a ops cs _ => (cCmp S N n sc a ops cs).map .tst
  | n + 1, sc, e => if plainT e then (cE S N n sc e).map .tst else none
def cBT (S : Sig) (N : List Str) : Nat → Scope → BoolOp → List Expr → Option ME
  | n + 1, sc, _, [a] => cT S N n sc a
  | n + 1, sc, .And, a :: b :: r => (cT S N n sc a).bind fun ma => (cBT S N n sc .And (b :: r)).map fun mb => .and ma mb
  | n + 1, sc, .Or, a :: b :: r => (cT S N n sc a).bind fun ma => (cBT S N n sc .Or (b :: r)).map fun mb => .or ma mb
  | _, _, _, _ => none
def cCmp (S : Sig) (N : List Str) : Nat → Scope → Expr → List CmpOp → List Expr → Option ME
  | n + 1, sc, a, [.Is], [.Constant .none _ _] => (cE S N n sc a).map .isN
  | n + 1, sc, a, [.IsNot], [.Constant .none _ _] => (cE S N n sc a).map .notN
  | n + 1, sc, a, [.Is], [.Constant (.bool k) _ _] => (cE S N n sc a).map (.isB k)
  | n + 1, sc, a, [.IsNot], [.Constant (.bool k) _ _] => (cE S N n sc a).map (.nisB k)
  | n + 1, sc, a, [op], [b] => (cmpOf op).bind fun o => if isSetE b then none else (cE S N n sc a).bind fun ma => (cE S N n sc b).map fun mb => .cmp o ma mb
  | n + 1, sc, a, [op, op'], [b, c] => (cmpOf op).bind fun o => (cmpOf op').bind fun o' => if isSetE c then none else (cE S N n sc a).bind fun ma => (cE S N n sc b).bind fun mb => (cE S N n sc c).map fun mc => .cmp2 o o' ma mb mc
  | _, _, _, _, _ => none
def cCall (S : Sig) (N : List Str) : Nat → Scope → Str → List Expr → Option ME
  | 0, _, _, _ => none
  | n + 1, sc, f, args => if glb sc f && fine f then
      match S.fns.lookup f with
      | some id => if args.all noStar then (match args with
          | e :: es => if isPen e then (cE S N n sc e).bind fun ma => (cL S N n sc es).map fun m => .callF id ma m else if S.look.contains f then (cL S N n sc (e :: es)).map fun m => .callV id m else (cL S N n sc (e :: es)).map fun m => .call ((S.strong.lookup f).getD id) m
          | [] => (cL S N n sc []).map fun m => .call id m) else none
      | none => if S.blt.contains f then
          (if f = "isinstance" then (match args with
            | [a, .Name t _] => if glb sc t && fine t && S.blt.contains t && noStar a then (isOf t).bind fun b => (cE S N n sc a).map fun ma => .bi b (.cons ma .nil) else none
            | _ => none)
          else match args with
            | [] => none
            | [.Call (.Name g p) [a] [] pos] => if g = "set" && f = "sorted" && glb sc g && S.blt.contains g && noStar a then (cE S N n sc a).map .sset
                else if g = "set" && f = "len" && glb sc g && S.blt.contains g && noStar a then (cE S N n sc a).map .lset
                else if g = "range" && (f = "tuple" || f = "list") && glb sc g && S.blt.contains g && noStar a then (cE S N n sc a).map fun ma => .cv (decide (f = "tuple")) (.rng1 ma)
                else (biOf f 1).bind fun b => (cL S N n sc [.Call (.Name g p) [a] [] pos]).map fun m => .bi b m
            | [.Call (.Name g p) [a, a'] [] pos] => if g = "range" && (f = "tuple" || f = "list") && glb sc g && S.blt.contains g && noStar a && noStar a' then (cE S N n sc a).bind fun ma => (cE S N n sc a').map fun mb => .cv (decide (f = "tuple")) (.rng2 ma mb)
                else (biOf f 1).bind fun b => (cL S N n sc [.Call (.Name g p) [a, a'] [] pos]).map fun m => .bi b m
            | [.Call (.Name g p) [a, a', a''] [] pos] => if g = "range" && f = "tuple" && glb sc g && S.blt.contains g && noStar a && noStar a' && noStar a'' then (cE S N n sc a).bind fun ma => (cE S N n sc a').bind fun mb => (cE S N n sc a'').map fun mc => .cv true (.rng3 ma mb mc)
                else (biOf f 1).bind fun b => (cL S N n sc [.Call (.Name g p) [a, a', a''] [] pos]).map fun m => .bi b m
            | e :: es => if (e :: es).all noStar then (biOf f (e :: es).length).bind fun b => (cL S N n sc (e :: es)).map fun m => .bi b m else none)
        else none
    else none
/-- methods that are asked for a value, of a variable -/
def cMet (S : Sig) (N : List Str) : Nat → Scope → Str → Str → List Expr → Pos → Pos → Option ME
  | n + 1, sc, x, f, args, ap, cp => if fine x && vis sc x && ap.endLine == cp.line then (posOf N x).bind fun i => match args with
      | [] => if f = "pop" then some (.pop i) else none
      | [e] => if noStar e then (if f = "count" then (if isTxtE e then (cE S N n sc e).map (.met .count (.var i)) else (cE S N n sc e).map (.cnt i)) else if f = "pop" then (cE S N n sc e).map (.popAt i) else if f = "index" then (cE S N n sc e).map (.ix i)
          else if f = "split" then (cE S N n sc e).map (.met .split (.var i)) else if f = "partition" then (cE S N n sc e).map (.met .part (.var i)) else none) else none
      | _ => none
    else if fine x && glb sc x && ap.endLine == cp.line then (match args with
      | [e, e'] => if f = "get" && noStar e && noStar e' then (S.gds.lookup x).bind fun es => (cE S N n sc e).bind fun mk => (cE S N n sc e').map fun mf => .gget es mk mf else none
      | _ => none)
    else none
  | _, _, _, _, _, _, _ => none
def cL (S : Sig) (N : List Str) : Nat → Scope → List Expr → Option ME
  | n + 1, _, [] => some .nil
  | n + 1, sc, e :: es => if noStar e then (cE S N n sc e).bind fun m => (cL S N n sc es).map fun r => .cons m r else none
  | _, _, _ => none
def cA (S : Sig) (N : List Str) : Nat → Scope → List Expr → Option ME
  | n + 1, _, [] => some .nil
  | n + 1, sc, .Starred e _ :: es => (cE S N n sc e).bind fun m => (cA S N n sc es).map fun r => .star m r
  | n + 1, sc, e :: es => if noStar e then (cE S N n sc e).bind fun m => (cA S N n sc es).map fun r => .cons m r else none
  | _, _, _ => none
def cO (S : Sig) (N : List Str) : Nat → Scope → Option Expr → Option ME
  | n + 1, _, none => some .nil
  | n + 1, sc, some e => (cE S N n sc e).map fun m => .cons m .nil
  | _, _, _ => none
/-- what is walked over, for a target -/
def cI (S : Sig) (N : List Str) : Nat → Scope → Expr → Expr → Option ME
  | 0, _, _, _ => none
  | n + 1, sc, tg, .Call (.Name f p) args [] pos =>
      if f = "range" then (if glb sc f && S.blt.contains f then (match args with
        | [a] => if noStar a then (cE S N n sc a).map .rng1 else none
        | [a, b] => if noStar a && noStar b then (cE S N n sc a).bind fun ma => (cE S N n sc b).map fun mb => .rng2 ma mb else none
        | [a, b, c] => if noStar a && noStar b && noStar c then (cE S N n sc a).bind fun ma => (cE S N n sc b).bind fun mb => (cE S N n sc c).map fun mc => .rng3 ma mb mc else none
        | _ => none) else none)
      else if f = "zip" then (if glb sc f && S.blt.contains f && isTupE tg then (match args with
        | [a, b] => if noStar a && noStar b then (cE S N n sc a).bind fun ma => (cE S N n sc b).map fun mb => .zp ma mb else none
        | [a, b, c] => if noStar a && noStar b && noStar c then (cE S N n sc a).bind fun ma => (cE S N n sc b).bind fun mb => (cE S N n sc c).map fun mc => .zp3 ma mb mc else none
        | _ => none) else none)
      else if f = "enumerate" then (if glb sc f && S.blt.contains f && isTupE tg then (match args with
        | [a] => if noStar a then (cE S N n sc a).map .enm else none
        | _ => none) else none)
      else (cE S N n sc (.Call (.Name f p) args [] pos)).map .it
  | n + 1, sc, _, e => if isSetE e then none else (cE S N n sc e).map .it
def cIfs (S : Sig) (N : List Str) : Nat → Scope → List Expr → Option ME
  | n + 1, _, [] => some .nil
  | n + 1, sc, [c] => cT S N n sc c
  | _, _, _ => none
def cComp (S : Sig) (N : List Str) : Nat → Scope → Expr → List Comprehension → Scope → Option ME
  | n + 1, sc, elt, [⟨tg, it, ifs, 0⟩], scope => if blkC N sc scope (ownOf N scope) then
      (cI S N n sc tg it).bind fun mi => (cG N (relS scope sc) (some scope) n tg).bind fun t => (cIfs S N n (relS scope sc) ifs).bind fun mc => (cE S N n (relS scope sc) elt).bind fun me =>
        if inS (slotsT t) ((ownOf N scope).map (·.2)) then some (.comp ((ownOf N scope).map (·.2)) t mi mc me) else none
    else none
  | n + 1, sc, elt, [⟨tg, it, ifs, 0⟩, ⟨tg1, it1, ifs1, 0⟩], scope => if blkC N sc scope (ownOf N scope) then
      (cI S N n sc tg it).bind fun mi => (cG N (relS scope sc) (some scope) n tg).bind fun t => (cIfs S N n (relS scope sc) ifs).bind fun mc =>
      (cI S N n (relS scope sc) tg1 it1).bind fun mi1 => (cG N (relS scope sc) (some scope) n tg1).bind fun t1 => (cIfs S N n (relS scope sc) ifs1).bind fun mc1 => (cE S N n (relS scope sc) elt).bind fun me =>
        if inS (slotsT t) ((ownOf N scope).map (·.2)) && inS (slotsT t1) ((ownOf N scope).map (·.2)) then some (.comp2 ((ownOf N scope).map (·.2)) (slotsT t1) t mi mc t1 mi1 mc1 me) else none
    else none
  | _, _, _, _, _ => none
end

/-! ### the context -/
structure CxG (S : Sig) (F : Fns) (k : Nat) (N : List Str) (pm : Option Scope) (X : Cx) : Prop where
  hK : X.K = EK.k
  hN : X.N = N
  nd : N.Nodup
  calm : X.calm = true
  gd : X.A.guards = some []
  room : Room k X.A
  xe : X.xe = fun _ _ => False
  st : ∀ x, stOk X.env.scope pm x = true → X.fn x = true ∨ X.env.scope.names.lookup x = some .local
  fns : ∀ x id, S.fns.lookup x = some id → ∃ f fd ps, X.mg x = some (.ref f) ∧ PySem.W.keepIn X.K (.ref f) = true ∧ Binds X.K fd ps [] ∧ FnG X.prog X.w X.K X.mg X.base k f fd ps (spF F id)
  str : ∀ x id, S.strong.lookup x = some id → ∃ f fd ps, X.mg x = some (.ref f) ∧ PySem.W.keepIn X.K (.ref f) = true ∧ Binds X.K fd ps [] ∧ FnG X.prog X.w X.K X.mg X.base k f fd ps (spF F id)
  kw : ∀ x ks id l, (x, ks, id, l) ∈ S.kws → ∃ f fd ps, X.mg x = some (.ref f) ∧ PySem.W.keepIn X.K (.ref f) = true ∧ (∀ (s : Shared) (ws : List Value), ws.length = ks.length → BindsTo s fd ⟨[], ks.zip ws⟩ (ps.zip (permL l ws))) ∧ FnG X.prog X.w X.K X.mg X.base k f fd ps (spF F id)
  cst : ∀ x d, S.cst.lookup x = some d → ∃ v u, X.mg x = some u ∧ RelV v u ∧ ∀ A H, Rel A H v d
  blt : ∀ x, S.blt.contains x = true → X.mg x = none
  ndt : S.dT = false
  gds : ∀ x es, S.gds.lookup x = some es → ∃ a, X.mg x = some (.ref a) ∧ GdAt X.K a es
section
variable {S : Sig} {F : Fns} {k : Nat} {N : List Str} {pm : Option Scope} {X : Cx}
theorem CxG.units (c : CxG S F k N pm X) : X.A.units + 64 < cLine := c.room.units
theorem CxG.units2 (c : CxG S F k N pm X) : X.A.units + 100 < cLine := by have := c.room.un; omega
theorem CxG.blk (c : CxG S F k N pm X) (scope : Scope) (s : Shared) (H : Hp) (C : Addr) (cl : List (Str × Addr)) (fp : List Addr) : CxG S F k N (some scope) (X.blk s H scope (compEnvC scope cl C X.env) fp) := by
  refine ⟨c.hK, c.hN, c.nd, c.calm, c.gd, c.room, rfl, fun x h => ?_, c.fns, c.str, c.kw, c.cst, c.blt, c.ndt, c.gds⟩
  unfold stOk at h
  split at h
  · rename_i e; exact .inr e
  · exact .inl h
  · cases h
end
end MI

/-! MIC: what is compiled runs alike: expressions. -/
namespace MI
open PySem PySem.Spec PyProof.Rows L2
variable [EK]

section
variable {S : Sig} {F : Fns} {k : Nat} {N : List Str} {pm : Option Scope} {X : Cx}
theorem assign_no {e : Expr} {es : List Expr} {env : Env} (h : noStar e = true) : assignEach (e :: es) env = (false, assign e env) :: assignEach es env := by
  cases e <;> first | rfl | cases h
theorem loc_of {sc : Scope} {x : Str} (h : stOk sc pm x = true) : Loc sc x := by
  unfold stOk at h
  split at h
  · rename_i e; exact .inl e
  · rename_i e; exact .inr e
  · cases h
theorem g_nm (c : CxG S F k N pm X) {x : Str} {i : Nat} {p : Pos} (h : stOk X.env.scope pm x = true) (hi : posOf N x = some i) : PG X (.Name x p) (gName i) :=
  pg_name (by rw [c.hN]; exact c.nd) (by rw [c.hN]; exact posOf_ok hi) (loc_of h) (c.st x h)
mutual
theorem cG_ok (c : CxG S F k N pm X) : ∀ {n : Nat} {e : Expr} {t : MT}, cG N X.env.scope pm n e = some t → PG X e (gM t)
  | 0, e, t, h => by cases e <;> simp [cG] at h
  | n + 1, .Name x p, t, h => by
    simp only [cG] at h
    split at h
    · rename_i hs
      simp only [Option.map_eq_some_iff] at h
      obtain ⟨i, h1, rfl⟩ := h
      exact g_name (g_nm c hs h1)
    · cases h
  | n + 1, .Tuple es q p, t, h => by
    simp only [cG, Option.map_eq_some_iff] at h
    obtain ⟨u, h1, rfl⟩ := h
    obtain ⟨q1, q2, q3⟩ := cGs_ok c h1
    exact g_tup c.calm q1 q2 q3
  | n + 1, .BoolOp .., t, h => by simp [cG] at h
  | n + 1, .NamedExpr .., t, h => by simp [cG] at h
  | n + 1, .BinOp .., t, h => by simp [cG] at h
  | n + 1, .UnaryOp .., t, h => by simp [cG] at h
  | n + 1, .Lambda .., t, h => by simp [cG] at h
  | n + 1, .IfExp .., t, h => by simp [cG] at h
  | n + 1, .Dict .., t, h => by simp [cG] at h
  | n + 1, .Set .., t, h => by simp [cG] at h
  | n + 1, .ListComp .., t, h => by simp [cG] at h
  | n + 1, .SetComp .., t, h => by simp [cG] at h
  | n + 1, .DictComp .., t, h => by simp [cG] at h
  | n + 1, .GeneratorExp .., t, h => by simp [cG] at h
  | n + 1, .Await .., t, h => by simp [cG] at h
  | n + 1, .Yield .., t, h => by simp [cG] at h
  | n + 1, .YieldFrom .., t, h => by simp [cG] at h
  | n + 1, .Compare .., t, h => by simp [cG] at h
  | n + 1, .Call .., t, h => by simp [cG] at h
  | n + 1, .FormattedValue .., t, h => by simp [cG] at h
  | n + 1, .JoinedStr .., t, h => by simp [cG] at h
  | n + 1, .Constant .., t, h => by simp [cG] at h
  | n + 1, .Attribute .., t, h => by simp [cG] at h
  | n + 1, .Subscript .., t, h => by simp [cG] at h
  | n + 1, .Starred .., t, h => by simp [cG] at h
  | n + 1, .List .., t, h => by simp [cG] at h
  | n + 1, .Slice .., t, h => by simp [cG] at h
theorem cGs_ok (c : CxG S F k N pm X) : ∀ {n : Nat} {es : List Expr} {t : MT}, cGs N X.env.scope pm n es = some t → PGs X es (gMs t) ∧ (assignEach es X.env).length = lenT t ∧ (assignEach es X.env).findIdx? (·.1) = none
  | n, [], t, h => by
    have h' : some MT.nil = some t := by cases n <;> simpa [cGs] using h
    cases h'
    exact ⟨gs_nil, rfl, rfl⟩
  | 0, e :: es, t, h => by simp [cGs] at h
  | n + 1, e :: es, t, h => by
    simp only [cGs] at h
    split at h
    · rename_i ns
      simp only [Option.bind_eq_some_iff, Option.map_eq_some_iff] at h
      obtain ⟨t1, h1, u, h2, rfl⟩ := h
      obtain ⟨q1, q2, q3⟩ := cGs_ok c h2
      refine ⟨gs_cons (cG_ok c h1) q1 (by rw [assign_no ns]; rfl), by rw [assign_no ns]; exact congrArg (· + 1) q2, ?_⟩
      rw [assign_no ns, List.findIdx?_cons, q3]
      rfl
    · cases h
end
theorem nmark {b : Expr} (h : isSetE b = false) (op : CmpOp) : behindInMarks op b = false := by
  cases b <;> first | rfl | cases h
theorem noFold {e : Expr} (h : isSetE e = false) (env : Env) (x : Value) : foldedSetIterable e env x = pure x := by
  cases e <;> first | rfl | cases h
theorem plainIx {b : Expr} (h : isSlE b = false) : PlainIx b := by
  intro o i
  cases b <;> first | rfl | cases h
structure Sn (S : Sig) (F : Fns) (k : Nat) (N : List Str) (n : Nat) : Prop where
  e : ∀ {X pm e m}, CxG S F k N pm X → cE S N n X.env.scope e = some m → Eb X F e m
  b : ∀ {X pm op vs m} (pos : Pos), CxG S F k N pm X → cB S N n X.env.scope op vs = some m → PE X (.BoolOp op vs pos) (tE F m)
  t : ∀ {X pm e m}, CxG S F k N pm X → cT S N n X.env.scope e = some m → PT X e (tT F m)
  bt : ∀ {X pm op vs m} (pos : Pos), CxG S F k N pm X → cBT S N n X.env.scope op vs = some m → PW X (.BoolOp op vs pos) (tT F m)
  cmp : ∀ {X pm a ops cs m} (pos : Pos), CxG S F k N pm X → cCmp S N n X.env.scope a ops cs = some m → Eb X F (.Compare a ops cs pos) m ∧ PT X (.Compare a ops cs pos) (tT F (.tst m))
  call : ∀ {X pm f args m} (p pos : Pos), CxG S F k N pm X → cCall S N n X.env.scope f args = some m → Eb X F (.Call (.Name f p) args [] pos) m
  l : ∀ {X pm es m}, CxG S F k N pm X → cL S N n X.env.scope es = some m → PA X es (tL F m) ∧ (es = [] → m = .nil)
  a : ∀ {X pm es m}, CxG S F k N pm X → cA S N n X.env.scope es = some m → PA X es (tA F m)
  o : ∀ {X pm e m}, CxG S F k N pm X → cO S N n X.env.scope e = some m → PO X e (tO F m)
  i : ∀ {X pm tg e m}, CxG S F k N pm X → cI S N n X.env.scope tg e = some m → PI X tg e (tI F m) ∧ isSetE e = false
  ifs : ∀ {X pm es m}, CxG S F k N pm X → cIfs S N n X.env.scope es = some m → PTs X es (tT F m)
  met : ∀ {X pm x f args ap cp m} (px : Pos), CxG S F k N pm X → cMet S N n X.env.scope x f args ap cp = some m → Eb X F (.Call (.Attribute (.Name x px) f ap) args [] cp) m
  d : ∀ {X pm es m keys is} (pos : Pos), CxG S F k N pm X → cD S N n X.env.scope es = some m → intKeys keys = some is → keys.length = es.length → Dz X F pos keys es is m
  kw : ∀ {X pm kws m}, CxG S F k N pm X → cK S N n X.env.scope kws = some m → PK X kws (tA F m)
  comp : ∀ {X pm elt gens scope m} (pos : Pos), CxG S F k N pm X → cComp S N n X.env.scope elt gens scope = some m → Eb X F (.ListComp elt gens scope pos) m
variable {n : Nat}
theorem sn_l (I : Sn S F k N n) {es : List Expr} {m : ME} (c : CxG S F k N pm X) (h : cL S N (n + 1) X.env.scope es = some m) : PA X es (tL F m) ∧ (es = [] → m = .nil) := by
  cases es with
  | nil =>
    simp only [cL, Option.some.injEq] at h
    subst h
    exact ⟨l_nil, fun _ => rfl⟩
  | cons e es =>
    simp only [cL] at h
    split at h
    · rename_i ns
      simp only [Option.bind_eq_some_iff, Option.map_eq_some_iff] at h
      obtain ⟨m1, h1, r, h2, rfl⟩ := h
      exact ⟨l_cons (I.e c h1) (I.l c h2).1 ns, fun z => nomatch z⟩
    · cases h
theorem sn_a (I : Sn S F k N n) {es : List Expr} {m : ME} (c : CxG S F k N pm X) (h : cA S N (n + 1) X.env.scope es = some m) : PA X es (tA F m) := by
  unfold cA at h
  split at h
  · cases h
    exact a_nil
  · simp only [Option.bind_eq_some_iff, Option.map_eq_some_iff] at h
    rename_i q
    cases q
    obtain ⟨m1, h1, r, h2, rfl⟩ := h
    exact a_star (I.e c h1) (I.a c h2)
  · rename_i q
    cases q
    split at h
    · rename_i ns
      simp only [Option.bind_eq_some_iff, Option.map_eq_some_iff] at h
      obtain ⟨m1, h1, r, h2, rfl⟩ := h
      exact a_cons (I.e c h1) (I.a c h2) ns
    · cases h
  · cases h
theorem key_pe {k : Option Expr} {i : Int} (h : intKey k = some i) : ∃ e, k = some e ∧ PE X e (tC (.int i)) := by
  unfold intKey at h
  split at h
  · cases h; exact ⟨_, rfl, pe_int⟩
  · cases h
    exact ⟨_, rfl, (pe_un un_neg pe_int).imp fun σ H Q q => ⟨_, rfl, q⟩⟩
  · cases h
theorem keys_some : ∀ {keys : List (Option Expr)} {is : List Int}, intKeys keys = some is → keys.all (·.isSome) = true ∧ is.length = keys.length
  | [], _, h => by cases h; exact ⟨rfl, rfl⟩
  | k :: r, _, h => by
    simp only [intKeys, Option.bind_eq_some_iff, Option.map_eq_some_iff] at h
    obtain ⟨i, h1, is, h2, rfl⟩ := h
    obtain ⟨q1, q2⟩ := keys_some h2
    have h3 : k.isSome = true := by
      unfold intKey at h1
      split at h1
      · rfl
      · rfl
      · cases h1
    exact ⟨by rw [List.all_cons, h3, q1]; rfl, congrArg (· + 1) q2⟩
theorem sn_d (I : Sn S F k N n) {es : List Expr} {m : ME} {keys : List (Option Expr)} {is : List Int} (pos : Pos) (c : CxG S F k N pm X) (h : cD S N (n + 1) X.env.scope es = some m) (hk : intKeys keys = some is) (hl : keys.length = es.length) : Dz X F pos keys es is m := by
  match es, keys, h, hk, hl with
  | [], [], h, hk, _ =>
    simp only [cD, Option.some.injEq] at h
    subst h
    cases hk
    exact d_nil
  | e :: es, k0 :: keys, h, hk, hl =>
    simp only [cD, Option.bind_eq_some_iff, Option.map_eq_some_iff] at h
    obtain ⟨m1, h1, r, h2, rfl⟩ := h
    simp only [intKeys, Option.bind_eq_some_iff, Option.map_eq_some_iff] at hk
    obtain ⟨i, h3, is, h4, rfl⟩ := hk
    obtain ⟨ke, rfl, pk⟩ := key_pe (X := X) h3
    exact d_cons pk (I.e c h1) (I.d pos c h2 h4 (by simpa using hl))
theorem sn_k (I : Sn S F k N n) {kws : List Keyword} {m : ME} (c : CxG S F k N pm X) (h : cK S N (n + 1) X.env.scope kws = some m) : PK X kws (tA F m) := by
  cases kws with
  | nil =>
    simp only [cK, Option.some.injEq] at h
    subst h
    exact k_nil
  | cons q r =>
    obtain ⟨nm, e, kp⟩ := q
    simp only [cK, Option.bind_eq_some_iff, Option.map_eq_some_iff] at h
    obtain ⟨m1, h1, r, h2, rfl⟩ := h
    exact k_cons (I.e c h1) (I.kw c h2)
theorem sn_o (I : Sn S F k N n) {e : Option Expr} {m : ME} (c : CxG S F k N pm X) (h : cO S N (n + 1) X.env.scope e = some m) : PO X e (tO F m) := by
  cases e with
  | none =>
    simp only [cO, Option.some.injEq] at h
    subst h
    exact o_none
  | some e =>
    simp only [cO, Option.map_eq_some_iff] at h
    obtain ⟨m1, h1, rfl⟩ := h
    exact o_some (I.e c h1)
theorem sn_ifs (I : Sn S F k N n) {es : List Expr} {m : ME} (c : CxG S F k N pm X) (h : cIfs S N (n + 1) X.env.scope es = some m) : PTs X es (tT F m) := by
  match es, h with
  | [], h =>
    simp only [cIfs, Option.some.injEq] at h
    subst h
    exact ⟨fun pins s σ H Q J ⟨A, M, ρ, b, ρ', r, ev, q⟩ => pts_nil.run pins s σ H Q J (by
      cases ev
      exact q H A M (Shr.refl _ _) (Kp.refl _ _) r)⟩
  | [e], h =>
    simp only [cIfs] at h
    exact pts_one (I.t c h)
  | _ :: _ :: _, h => simp [cIfs] at h
theorem sn_b (I : Sn S F k N n) {op : BoolOp} {vs : List Expr} {m : ME} (pos : Pos) (c : CxG S F k N pm X) (h : cB S N (n + 1) X.env.scope op vs = some m) : PE X (.BoolOp op vs pos) (tE F m) := by
  match op, vs, h with
  | _, [], h => simp [cB] at h
  | op, [a], h => exact pe_one (I.e c (by simpa [cB] using h)).ev
  | .And, a :: b :: r, h =>
    simp only [cB, Option.bind_eq_some_iff, Option.map_eq_some_iff] at h
    obtain ⟨ma, h1, mb, h2, rfl⟩ := h
    exact (e_and (I.e c h1) (I.b pos c h2)).ev
  | .Or, a :: b :: r, h =>
    simp only [cB, Option.bind_eq_some_iff, Option.map_eq_some_iff] at h
    obtain ⟨ma, h1, mb, h2, rfl⟩ := h
    exact (e_or (I.e c h1) (I.b pos c h2)).ev
theorem sn_bt (I : Sn S F k N n) {op : BoolOp} {vs : List Expr} {m : ME} (pos : Pos) (c : CxG S F k N pm X) (h : cBT S N (n + 1) X.env.scope op vs = some m) : PW X (.BoolOp op vs pos) (tT F m) := by
  match op, vs, h with
  | _, [], h => simp [cBT] at h
  | .And, [a], h => exact pw_and1 (I.t c (by simpa [cBT] using h))
  | .Or, [a], h => exact pw_or1 (I.t c (by simpa [cBT] using h))
  | .And, a :: b :: r, h =>
    simp only [cBT, Option.bind_eq_some_iff, Option.map_eq_some_iff] at h
    obtain ⟨ma, h1, mb, h2, rfl⟩ := h
    exact w_and (I.t c h1) (I.bt pos c h2)
  | .Or, a :: b :: r, h =>
    simp only [cBT, Option.bind_eq_some_iff, Option.map_eq_some_iff] at h
    obtain ⟨ma, h1, mb, h2, rfl⟩ := h
    exact w_or (I.t c h1) (I.bt pos c h2)
theorem sn_t (I : Sn S F k N n) {e : Expr} {m : ME} (c : CxG S F k N pm X) (h : cT S N (n + 1) X.env.scope e = some m) : PT X e (tT F m) := by
  unfold cT at h
  split at h
  · rename_i e1
    cases e1
  · rename_i e1; cases e1
    simp only [Option.map_eq_some_iff] at h
    obtain ⟨m1, h1, rfl⟩ := h
    exact t_not (I.t c h1)
  · rename_i e1; cases e1
    simp only [Option.bind_eq_some_iff, Option.map_eq_some_iff] at h
    obtain ⟨ma, h1, mb, h2, rfl⟩ := h
    exact (w_and (I.t c h1) (I.bt _ c h2)).pt
  · rename_i e1; cases e1
    simp only [Option.bind_eq_some_iff, Option.map_eq_some_iff] at h
    obtain ⟨ma, h1, mb, h2, rfl⟩ := h
    exact (w_or (I.t c h1) (I.bt _ c h2)).pt
  · rename_i e1; cases e1
    simp only [Option.map_eq_some_iff] at h
    obtain ⟨m1, h1, rfl⟩ := h
    exact (I.cmp _ c h1).2
  · cases ‹n + 1 = _›
    split at h
    · rename_i hp
      simp only [Option.map_eq_some_iff] at h
      obtain ⟨m1, h1, rfl⟩ := h
      exact t_val (I.e c h1) hp
    · cases h
theorem sn_cmp (I : Sn S F k N n) {a : Expr} {ops : List CmpOp} {cs : List Expr} {m : ME} (pos : Pos) (c : CxG S F k N pm X) (h : cCmp S N (n + 1) X.env.scope a ops cs = some m) :
    Eb X F (.Compare a ops cs pos) m ∧ PT X (.Compare a ops cs pos) (tT F (.tst m)) := by
  unfold cCmp at h
  split at h
  · rename_i e1; cases e1
    simp only [Option.map_eq_some_iff] at h
    obtain ⟨m1, h1, rfl⟩ := h
    exact ⟨e_isN (I.e c h1), t_isN (I.e c h1)⟩
  · rename_i e1; cases e1
    simp only [Option.map_eq_some_iff] at h
    obtain ⟨m1, h1, rfl⟩ := h
    exact ⟨e_notN (I.e c h1), t_notN (I.e c h1)⟩
  · rename_i e1; cases e1
    simp only [Option.map_eq_some_iff] at h
    obtain ⟨m1, h1, rfl⟩ := h
    exact ⟨e_isB (I.e c h1), t_isB (I.e c h1)⟩
  · rename_i e1; cases e1
    simp only [Option.map_eq_some_iff] at h
    obtain ⟨m1, h1, rfl⟩ := h
    exact ⟨e_nisB (I.e c h1), t_nisB (I.e c h1)⟩
  · rename_i e1; cases e1
    simp only [Option.bind_eq_some_iff] at h
    obtain ⟨o, h0, h⟩ := h
    split at h
    · cases h
    · rename_i hs
      simp only [Option.bind_eq_some_iff, Option.map_eq_some_iff] at h
      obtain ⟨ma, h1, mb, h2, rfl⟩ := h
      rw [cmpOf_ok h0]
      have nm := nmark (by simpa using hs) (copOf o)
      exact ⟨e_cmp c.units (I.e c h1) (I.e c h2) nm, t_cmp c.units (I.e c h1) (I.e c h2) nm⟩
  · rename_i e1; cases e1
    simp only [Option.bind_eq_some_iff] at h
    obtain ⟨o, h0, o', h0', h⟩ := h
    split at h
    · cases h
    · rename_i hs
      simp only [Option.bind_eq_some_iff, Option.map_eq_some_iff] at h
      obtain ⟨ma, h1, mb, h2, mc, h3, rfl⟩ := h
      rw [cmpOf_ok h0, cmpOf_ok h0']
      have nm := nmark (by simpa using hs) (copOf o')
      exact ⟨e_cmp2 c.units (I.e c h1) (I.e c h2) (I.e c h3) nm, t_cmp2 c.units (I.e c h1) (I.e c h2) (I.e c h3) nm⟩
  · cases h
theorem sn_call (I : Sn S F k N n) {f : Str} {args : List Expr} {m : ME} (p pos : Pos) (c : CxG S F k N pm X) (h : cCall S N (n + 1) X.env.scope f args = some m) : Eb X F (.Call (.Name f p) args [] pos) m := by
  simp only [cCall] at h
  split at h
  · rename_i hg
    rw [Bool.and_eq_true] at hg
    have hgl : Gl X f := glb_ok hg.1
    obtain ⟨f1, f2, f3⟩ := fine_ok hg.2
    split at h
    · rename_i id hid
      obtain ⟨fa, fd, ps, g1, g2, g3, g4⟩ := c.fns f id hid
      split at h
      · rename_i ns
        split at h
        · split at h
          · simp only [Option.bind_eq_some_iff, Option.map_eq_some_iff] at h
            obtain ⟨ma, h0, m1, h1, rfl⟩ := h
            exact e_callF g4 c.gd c.room hgl g1 g2 g3 (I.e c h0) (I.l c h1).1 f1 ns
          · split at h
            · simp only [Option.map_eq_some_iff] at h
              obtain ⟨m1, h1, rfl⟩ := h
              exact e_callV g4 c.gd c.room hgl g1 g2 g3 (I.l c h1).1 f1 ns
            simp only [Option.map_eq_some_iff] at h
            obtain ⟨m1, h1, rfl⟩ := h
            cases hs : S.strong.lookup f with
            | none => exact e_call g4 c.gd c.room hgl g1 g2 g3 (I.l c h1).1 f1 ns
            | some sid =>
              obtain ⟨fa', fd', ps', k1, k2, k3, k4⟩ := c.str f sid hs
              exact e_call k4 c.gd c.room hgl k1 k2 k3 (I.l c h1).1 f1 ns
        · simp only [Option.map_eq_some_iff] at h
          obtain ⟨m1, h1, rfl⟩ := h
          rw [(I.l c h1).2 rfl]
          exact e_call0 g4 c.gd c.room hgl g1 g2 g3 f1
      · cases h
    · split at h
      · rename_i hb
        have hm := c.blt f hb
        split at h
        · rename_i hi
          subst hi
          split at h
          · split at h
            · rename_i hc
              simp only [Bool.and_eq_true] at hc
              obtain ⟨⟨⟨c1, c2⟩, c3⟩, c4⟩ := hc
              simp only [Option.bind_eq_some_iff, Option.map_eq_some_iff] at h
              obtain ⟨b, h0, ma, h1, rfl⟩ := h
              obtain ⟨nm, t1, t2⟩ := isOf_ok h0
              obtain ⟨k1, k2, k3⟩ := fine_ok c2
              exact e_is t1 hgl hm (by decide +kernel) (glb_ok c1) (c.blt _ c3) t2 k3 k1 (I.e c h1) c4
            · cases h
          · cases h
        · have bi : ∀ {e : Expr} {es : List Expr} {b : Bi} {m1 : ME}, (e :: es).all noStar = true → biOf f (e :: es).length = some b → cL S N n X.env.scope (e :: es) = some m1 → Eb X F (.Call (.Name f p) (e :: es) [] pos) (.bi b m1) := fun ns h0 h1 => by
            obtain ⟨t1, t2⟩ := biOf_ok h0
            rcases t2 with ⟨id, t2, t3⟩ | ⟨id, t2, t3⟩
            · exact e_biB c.hK c.calm c.gd c.units2 t1 t2 hgl hm t3 (I.l c h1).1 ns f3 f1
            · exact e_biT c.hK c.calm c.gd c.units2 t1 t2 hgl hm t3 (I.l c h1).1 ns f3 f1
          split at h
          · cases h
          · split at h
            · rename_i hc
              simp only [Bool.and_eq_true, decide_eq_true_eq] at hc
              obtain ⟨⟨⟨⟨c1, c2⟩, c3⟩, c4⟩, c5⟩ := hc
              subst c1
              subst c2
              simp only [Option.map_eq_some_iff] at h
              obtain ⟨ma, h1, rfl⟩ := h
              exact e_sset c.calm hgl hm (glb_ok c3) (c.blt _ c4) (I.e c h1) c5
            · split at h
              · rename_i hc
                simp only [Bool.and_eq_true, decide_eq_true_eq] at hc
                obtain ⟨⟨⟨⟨c1, c2⟩, c3⟩, c4⟩, c5⟩ := hc
                subst c1
                subst c2
                simp only [Option.map_eq_some_iff] at h
                obtain ⟨ma, h1, rfl⟩ := h
                exact e_lset c.calm hgl hm (glb_ok c3) (c.blt _ c4) (I.e c h1) c5
              · split at h
                · rename_i hc
                  simp only [Bool.and_eq_true, Bool.or_eq_true, decide_eq_true_eq] at hc
                  obtain ⟨⟨⟨⟨c1, c2⟩, c3⟩, c4⟩, c5⟩ := hc
                  subst c1
                  simp only [Option.map_eq_some_iff] at h
                  obtain ⟨ma, h1, rfl⟩ := h
                  rcases c2 with c2 | c2
                  · subst c2
                    exact e_cvT c.calm hgl hm (rg_1 (glb_ok c3) (c.blt _ c4) (I.e c h1) c5) rfl
                  · subst c2
                    exact e_cvL c.calm hgl hm (rg_1 (glb_ok c3) (c.blt _ c4) (I.e c h1) c5) rfl
                · simp only [Option.bind_eq_some_iff, Option.map_eq_some_iff] at h
                  obtain ⟨b, h0, m1, h1, rfl⟩ := h
                  exact bi rfl h0 h1
          · split at h
            · rename_i hc
              simp only [Bool.and_eq_true, Bool.or_eq_true, decide_eq_true_eq] at hc
              obtain ⟨⟨⟨⟨⟨c1, c2⟩, c3⟩, c4⟩, c5⟩, c6⟩ := hc
              subst c1
              simp only [Option.bind_eq_some_iff, Option.map_eq_some_iff] at h
              obtain ⟨ma, h1, mb, h2, rfl⟩ := h
              rcases c2 with c2 | c2
              · subst c2
                exact e_cvT c.calm hgl hm (rg_2 (glb_ok c3) (c.blt _ c4) (I.e c h1) (I.e c h2) c5 c6) rfl
              · subst c2
                exact e_cvL c.calm hgl hm (rg_2 (glb_ok c3) (c.blt _ c4) (I.e c h1) (I.e c h2) c5 c6) rfl
            · simp only [Option.bind_eq_some_iff, Option.map_eq_some_iff] at h
              obtain ⟨b, h0, m1, h1, rfl⟩ := h
              exact bi rfl h0 h1
          · split at h
            · rename_i hc
              simp only [Bool.and_eq_true, decide_eq_true_eq] at hc
              obtain ⟨⟨⟨⟨⟨⟨c1, c2⟩, c3⟩, c4⟩, c5⟩, c6⟩, c7⟩ := hc
              subst c1
              subst c2
              simp only [Option.bind_eq_some_iff, Option.map_eq_some_iff] at h
              obtain ⟨ma, h1, mb, h2, mc, h3, rfl⟩ := h
              exact e_cvT3 c.calm hgl hm (glb_ok c3) (c.blt _ c4) (I.e c h1) (I.e c h2) (I.e c h3) c5 c6 c7
            · simp only [Option.bind_eq_some_iff, Option.map_eq_some_iff] at h
              obtain ⟨b, h0, m1, h1, rfl⟩ := h
              exact bi rfl h0 h1
          · split at h
            · rename_i ns
              simp only [Option.bind_eq_some_iff, Option.map_eq_some_iff] at h
              obtain ⟨b, h0, m1, h1, rfl⟩ := h
              exact bi ns h0 h1
            · cases h
      · cases h
  · cases h
theorem sn_met (I : Sn S F k N n) {x f : Str} {args : List Expr} {ap cp : Pos} {m : ME} (px : Pos) (c : CxG S F k N pm X) (h : cMet S N (n + 1) X.env.scope x f args ap cp = some m) : Eb X F (.Call (.Attribute (.Name x px) f ap) args [] cp) m := by
  simp only [cMet] at h
  split at h
  · rename_i hc
    simp only [Bool.and_eq_true] at hc
    obtain ⟨⟨c1, c2⟩, c3⟩ := hc
    obtain ⟨f1, f2, f3⟩ := fine_ok c1
    simp only [Option.bind_eq_some_iff] at h
    obtain ⟨i, h0, h⟩ := h
    have pv : PE X (.Name x px) (tVar i) := pe_var (by rw [c.hN]; exact posOf_ok h0) (vis_ok c2) f1 f2
    split at h
    · split at h
      · rename_i hf
        subst hf
        cases h
        exact e_pop pv c3
      · cases h
    · split at h
      · rename_i ns
        split at h
        · rename_i hf
          subst hf
          split at h
          · simp only [Option.map_eq_some_iff] at h
            obtain ⟨m1, h1, rfl⟩ := h
            exact e_tcount (e_var pv) (I.e c h1) ns rfl c3
          · simp only [Option.map_eq_some_iff] at h
            obtain ⟨m1, h1, rfl⟩ := h
            exact e_cnt c.units pv (I.e c h1) ns c3
        · split at h
          · rename_i hf
            subst hf
            simp only [Option.map_eq_some_iff] at h
            obtain ⟨m1, h1, rfl⟩ := h
            exact e_popAt pv (I.e c h1) ns c3
          · split at h
            · rename_i hf
              subst hf
              simp only [Option.map_eq_some_iff] at h
              obtain ⟨m1, h1, rfl⟩ := h
              exact e_ix pv (I.e c h1) ns c3
            · split at h
              · rename_i hf
                subst hf
                simp only [Option.map_eq_some_iff] at h
                obtain ⟨m1, h1, rfl⟩ := h
                exact e_split (e_var pv) (I.e c h1) ns rfl c3
              · split at h
                · rename_i hf
                  subst hf
                  simp only [Option.map_eq_some_iff] at h
                  obtain ⟨m1, h1, rfl⟩ := h
                  exact e_part (e_var pv) (I.e c h1) ns rfl c3
                · cases h
      · cases h
    · cases h
  · split at h
    · rename_i hc
      simp only [Bool.and_eq_true] at hc
      obtain ⟨⟨c1, c2⟩, c3⟩ := hc
      obtain ⟨f1, f2, f3⟩ := fine_ok c1
      split at h
      · split at h
        · rename_i hh
          simp only [Bool.and_eq_true, decide_eq_true_eq] at hh
          obtain ⟨⟨hf, ns⟩, ns'⟩ := hh
          subst hf
          simp only [Option.bind_eq_some_iff, Option.map_eq_some_iff] at h
          obtain ⟨es, h0, mk, h1, mf, h2, rfl⟩ := h
          obtain ⟨a, g1, g2⟩ := c.gds x es h0
          exact e_gget (glb_ok c2) g1 f1 g2 (I.e c h1) (I.e c h2) ns ns' c3
        · cases h
      · cases h
    · cases h
theorem tup_of {e : Expr} (h : isTupE e = true) : ∃ es kk tp, e = .Tuple es kk tp := by
  cases e <;> first | exact ⟨_, _, _, rfl⟩ | cases h
theorem sn_i (I : Sn S F k N n) {tg e : Expr} {m : ME} (c : CxG S F k N pm X) (h : cI S N (n + 1) X.env.scope tg e = some m) : PI X tg e (tI F m) ∧ isSetE e = false := by
  unfold cI at h
  split at h
  · rename_i q; cases q
  · rename_i q; cases q
    refine ⟨?_, rfl⟩
    split at h
    · rename_i hf
      subst hf
      split at h
      · rename_i hg
        rw [Bool.and_eq_true] at hg
        have hgl : Gl X "range" := glb_ok hg.1
        have hm := c.blt _ hg.2
        split at h
        · split at h
          · rename_i ns
            simp only [Option.map_eq_some_iff] at h
            obtain ⟨m1, h1, rfl⟩ := h
            exact i_rng1 hgl hm (I.e c h1) ns
          · cases h
        · split at h
          · rename_i ns
            rw [Bool.and_eq_true] at ns
            simp only [Option.bind_eq_some_iff, Option.map_eq_some_iff] at h
            obtain ⟨ma, h1, mb, h2, rfl⟩ := h
            exact i_rng2 hgl hm (I.e c h1) (I.e c h2) ns.1 ns.2
          · cases h
        · split at h
          · rename_i ns
            simp only [Bool.and_eq_true] at ns
            simp only [Option.bind_eq_some_iff, Option.map_eq_some_iff] at h
            obtain ⟨ma, h1, mb, h2, mc, h3, rfl⟩ := h
            exact i_rng3 hgl hm (I.e c h1) (I.e c h2) (I.e c h3) ns.1.1 ns.1.2 ns.2
          · cases h
        · cases h
      · cases h
    · split at h
      · rename_i hf
        subst hf
        split at h
        · rename_i hg
          simp only [Bool.and_eq_true] at hg
          have hgl : Gl X "zip" := glb_ok hg.1.1
          have hm := c.blt _ hg.1.2
          split at h
          · split at h
            · rename_i ns
              rw [Bool.and_eq_true] at ns
              simp only [Option.bind_eq_some_iff, Option.map_eq_some_iff] at h
              obtain ⟨ma, h1, mb, h2, rfl⟩ := h
              obtain ⟨es, kk, tp, rfl⟩ := tup_of hg.2
              exact i_zp hgl hm (I.e c h1) (I.e c h2) ns.1 ns.2
            · cases h
          · split at h
            · rename_i ns
              simp only [Bool.and_eq_true] at ns
              simp only [Option.bind_eq_some_iff, Option.map_eq_some_iff] at h
              obtain ⟨ma, h1, mb, h2, mc, h3, rfl⟩ := h
              obtain ⟨es, kk, tp, rfl⟩ := tup_of hg.2
              exact i_zp3 hgl hm (I.e c h1) (I.e c h2) (I.e c h3) ns.1.1 ns.1.2 ns.2
            · cases h
          · cases h
        · cases h
      · split at h
        · rename_i hf
          subst hf
          split at h
          · rename_i hg
            simp only [Bool.and_eq_true] at hg
            have hgl : Gl X "enumerate" := glb_ok hg.1.1
            have hm := c.blt _ hg.1.2
            split at h
            · split at h
              · rename_i ns
                simp only [Option.map_eq_some_iff] at h
                obtain ⟨m1, h1, rfl⟩ := h
                obtain ⟨es, kk, tp, rfl⟩ := tup_of hg.2
                exact i_enm hgl hm (I.e c h1) ns
              · cases h
            · cases h
          · cases h
        · simp only [Option.map_eq_some_iff] at h
          obtain ⟨m1, h1, rfl⟩ := h
          exact i_it (I.e c h1)
  · cases ‹n + 1 = _›
    split at h
    · cases h
    · rename_i hs
      simp only [Option.map_eq_some_iff] at h
      obtain ⟨m1, h1, rfl⟩ := h
      exact ⟨i_it (I.e c h1), by simpa using hs⟩
/-- the parts of a comprehension -/
theorem sn_comp (I : Sn S F k N n) {elt : Expr} {gens : List Comprehension} {scope : Scope} {m : ME} (pos : Pos) (c : CxG S F k N pm X) (h : cComp S N (n + 1) X.env.scope elt gens scope = some m) : Eb X F (.ListComp elt gens scope pos) m := by
  unfold cComp at h
  split at h
  · rename_i q; cases q
    split at h
    · rename_i hb
      simp only [Option.bind_eq_some_iff] at h
      obtain ⟨mi, h1, t, h2, mc, h3, me, h4, h⟩ := h
      split at h
      · rename_i hi
        cases h
        have hN := c.hN
        subst hN
        have hb' := blkOk_by hb
        obtain ⟨pi, ns⟩ := I.i c h1
        exact Eb.of (e_comp c.calm c.nd pi hb' (inS_ok hi) (fun s H C cl fp => cG_ok (c.blk _ s H C cl fp) h2) (fun s H C cl fp => I.ifs (c.blk _ s H C cl fp) h3) (fun s H C cl fp => (I.e (c.blk _ s H C cl fp) h4).ev) (noFold ns _)) fun _ => nofun
      · cases h
    · cases h
  · rename_i q; cases q
    split at h
    · rename_i hb
      simp only [Option.bind_eq_some_iff] at h
      obtain ⟨mi, h1, t, h2, mc, h3, mi1, h5, t1, h6, mc1, h7, me, h4, h⟩ := h
      split at h
      · rename_i hi
        rw [Bool.and_eq_true] at hi
        cases h
        have hN := c.hN
        subst hN
        have hb' := blkOk_by hb
        obtain ⟨pi, ns⟩ := I.i c h1
        have ns1 := fun (s : Shared) (H : Hp) (C : Addr) (cl : List (Str × Addr)) (fp : List Addr) => (I.i (c.blk _ s H C cl fp) h5)
        have ns2 := (ns1 X.s_0 (fun _ => none) 0 [] []).2
        exact Eb.of (e_comp2 c.calm c.nd pi hb' (inS_ok hi.1) (inS_ok hi.2) (fun i z => z) (fun s H C cl fp => cG_ok (c.blk _ s H C cl fp) h2) (fun s H C cl fp => I.ifs (c.blk _ s H C cl fp) h3)
          (fun s H C cl fp => (ns1 s H C cl fp).1) (fun s H C cl fp => cG_ok (c.blk _ s H C cl fp) h6) (fun s H C cl fp => I.ifs (c.blk _ s H C cl fp) h7) (fun s H C cl fp => (I.e (c.blk _ s H C cl fp) h4).ev) (noFold ns _) (fun env x => noFold ns2 env x)) fun _ => nofun
      · cases h
    · cases h
  · cases h
theorem lit_ok {q : Const} {m : ME} {j : Nat} {p : Pos} (h : litOf q = some m) : Eb X F (.Constant q j p) m := by
  cases q <;> cases h
  · exact e_const pe_non fun _ _ => .non
  · exact e_const pe_bl fun _ _ => .bl _
  · exact e_const pe_int fun _ _ => .int _
  · exact e_const pe_str fun _ _ => .str _
theorem sn_e (I : Sn S F k N n) {e : Expr} {m : ME} (c : CxG S F k N pm X) (h : cE S N (n + 1) X.env.scope e = some m) : Eb X F e m := by
  unfold cE at h
  split at h
  · rename_i q; cases q
  · rename_i q; cases q
    exact lit_ok h
  · rename_i q; cases q
    split at h
    · rename_i hf
      obtain ⟨f1, f2, f3⟩ := fine_ok hf
      split at h
      · rename_i hv
        simp only [Option.map_eq_some_iff] at h
        obtain ⟨i, h1, rfl⟩ := h
        exact e_var (pe_var (by rw [c.hN]; exact posOf_ok h1) (vis_ok hv) f1 f2)
      · split at h
        · rename_i hg
          simp only [Option.map_eq_some_iff] at h
          obtain ⟨d, h1, rfl⟩ := h
          obtain ⟨v, u, g1, g2, g3⟩ := c.cst _ d h1
          exact e_const (pe_glob (glb_ok hg) g1 g2 f1) g3
        · cases h
    · cases h
  · rename_i q; cases q
    simp only [Option.bind_eq_some_iff, Option.map_eq_some_iff] at h
    obtain ⟨o, h0, ma, h1, mb, h2, rfl⟩ := h
    rw [bopOf_ok h0]
    exact e_bin (I.e c h1) (I.e c h2)
  · rename_i q; cases q
    simp only [Option.map_eq_some_iff] at h
    obtain ⟨ma, h1, rfl⟩ := h
    exact e_neg (I.e c h1)
  · rename_i q; cases q
    simp only [Option.map_eq_some_iff] at h
    obtain ⟨ma, h1, rfl⟩ := h
    exact e_not (I.e c h1)
  · rename_i q; cases q
    simp only [Option.bind_eq_some_iff, Option.map_eq_some_iff] at h
    obtain ⟨ma, h1, mb, h2, rfl⟩ := h
    exact e_and (I.e c h1) (I.b _ c h2)
  · rename_i q; cases q
    simp only [Option.bind_eq_some_iff, Option.map_eq_some_iff] at h
    obtain ⟨ma, h1, mb, h2, rfl⟩ := h
    exact e_or (I.e c h1) (I.b _ c h2)
  · rename_i q; cases q
    exact (I.cmp _ c h).1
  · rename_i q; cases q
    simp only [Option.bind_eq_some_iff, Option.map_eq_some_iff] at h
    obtain ⟨mc, h1, ma, h2, mb, h3, rfl⟩ := h
    exact e_ite (I.t c h1) (I.e c h2) (I.e c h3)
  · rename_i q; cases q
    exact I.call _ _ c h
  · rename_i q; cases q
    split at h
    · rename_i hg
      rw [Bool.and_eq_true] at hg
      obtain ⟨f1, f2, f3⟩ := fine_ok hg.2
      simp only [Option.bind_eq_some_iff] at h
      obtain ⟨ns, h0, q, h1, h⟩ := h
      split at h
      · rename_i hl
        simp only [Option.map_eq_some_iff] at h
        obtain ⟨m1, h2, rfl⟩ := h
        have hq := List.find?_some h1
        simp only [Bool.and_eq_true, beq_iff_eq] at hq
        obtain ⟨x', ks', id', l'⟩ := q
        obtain ⟨hq1, hq2⟩ := hq
        dsimp only at hq1 hq2 hl
        subst hq1
        subst hq2
        obtain ⟨fa, fd, ps, g1, g2, g3, g4⟩ := c.kw _ _ _ _ (List.mem_of_find?_eq_some h1)
        exact e_callK g4 c.gd c.room (glb_ok hg.1) g1 g2 g3 hl h0 (I.kw c h2) f1
      · cases h
    · cases h
  · rename_i q; cases q
    split at h
    · rename_i hg
      simp only [Bool.and_eq_true, decide_eq_true_eq] at hg
      obtain ⟨⟨c1, c2⟩, c3⟩ := hg
      subst c1
      simp only [Option.map_eq_some_iff] at h
      obtain ⟨m1, h1, rfl⟩ := h
      exact e_join (I.e c h1) c2 c3
    · cases h
  · rename_i q; cases q
    split at h
    · rename_i hg
      simp only [Bool.and_eq_true, decide_eq_true_eq] at hg
      obtain ⟨⟨⟨c1, c2⟩, c3⟩, c4⟩ := hg
      subst c1
      simp only [Option.bind_eq_some_iff, Option.map_eq_some_iff] at h
      obtain ⟨mo, h1, mk, h2, mf, h3, rfl⟩ := h
      refine e_dget c.units (I.e c h1) (I.e c h2) (I.e c h3) ⟨rfl, ?_, c4, ?_⟩
      · rw [star_no c2, star_no c3]; rfl
      · rw [star_no c2, star_no c3]; rfl
    · cases h
  · rename_i q; cases q
    exact I.met _ c h
  · rename_i q; cases q
    simp only [Option.map_eq_some_iff] at h
    obtain ⟨ma, h1, rfl⟩ := h
    exact e_rev (I.e c h1)
  · rename_i q; cases q
    simp only [Option.bind_eq_some_iff, Option.map_eq_some_iff] at h
    obtain ⟨ma, h1, ml, h2, mh, h3, rfl⟩ := h
    exact e_sl c.hK (I.e c h1) (I.o c h2) (I.o c h3)
  · cases ‹n + 1 = _›
    split at h
    · cases h
    · rename_i hs
      simp only [Option.bind_eq_some_iff, Option.map_eq_some_iff] at h
      obtain ⟨ma, h1, mi, h2, rfl⟩ := h
      exact e_idx c.hK (I.e c h1) (I.e c h2) (plainIx (by simpa using hs))
  · rename_i q; cases q
    simp only [Option.map_eq_some_iff] at h
    obtain ⟨ma, h1, rfl⟩ := h
    exact e_tup (I.a c h1)
  · rename_i q; cases q
    simp only [Option.map_eq_some_iff] at h
    obtain ⟨ma, h1, rfl⟩ := h
    exact e_lst (I.a c h1)
  · rename_i q; cases q
    cases h
    rw [c.ndt]
    exact e_dic
  · rename_i q; cases q
    simp only [Option.bind_eq_some_iff] at h
    obtain ⟨is, h1, h⟩ := h
    split at h
    · rename_i hl
      simp only [Option.map_eq_some_iff] at h
      obtain ⟨m1, h2, rfl⟩ := h
      obtain ⟨q1, q2⟩ := keys_some h1
      exact e_disp (I.d _ c h2 h1 hl.1) q1 hl.1 (fun z => nomatch z) hl.2 (by rw [q2]; exact hl.2)
    · cases h
  · rename_i q; cases q
    exact I.comp _ c h
  · cases h
theorem sn_all (S : Sig) (F : Fns) (k : Nat) (N : List Str) : ∀ n, Sn S F k N n
  | 0 => ⟨fun _ h => by simp [cE] at h, fun _ _ h => by simp [cB] at h, fun _ h => by simp [cT] at h, fun _ _ h => by simp [cBT] at h, fun _ _ h => by simp [cCmp] at h, fun _ _ _ h => by simp [cCall] at h, fun _ h => by simp [cL] at h, fun _ h => by simp [cA] at h,
      fun _ h => by simp [cO] at h, fun _ h => by simp [cI] at h, fun _ h => by simp [cIfs] at h, fun _ _ h => by simp [cMet] at h, fun _ _ h => by simp [cD] at h, fun _ h => by simp [cK] at h, fun _ _ h => by simp [cComp] at h⟩
  | n + 1 =>
    have I := sn_all S F k N n
    ⟨sn_e I, sn_b I, sn_t I, sn_bt I, sn_cmp I, sn_call I, sn_l I, sn_a I, sn_o I, sn_i I, sn_ifs I, sn_met I, sn_d I, sn_k I, sn_comp I⟩
end
end MI

/-! MID: from the model's syntax to the interpreter's: statements, defs, the program. -/
namespace MI
open PySem PySem.Spec PyProof.Rows L2
variable [EK]

def notComp : Expr → Bool
  | .ListComp .. => false
  | .SetComp .. => false
  | .DictComp .. => false
  | _ => true
def blkK (sc : Scope) : ScopeKind := if sc.kind.isAnnotationScope then .function else sc.kind
def swL (sc scope : Scope) (x : Str) (px p : Pos) : Bool :=
  blkK sc == .function && sc.names.lookup x == some .local && px.line == p.line && !(scope.names.any fun (n, k) => n == x && (k == .local || k == .cell))
theorem sw_name {e : Expr} {x : Str} {p : Pos} {l : Nat} {env : Env} (h : notComp e = true) : swapsWith e (some (.Name x p)) l env = pure false := by
  cases e <;> first | rfl | cases h
theorem sw_none {e : Expr} {l : Nat} {env : Env} (h : notComp e = true) : swapsWith e none l env = pure false := by
  cases e <;> first | rfl | cases h
theorem sw_sub {e o i : Expr} {p : Pos} {l : Nat} {env : Env} : swapsWith e (some (.Subscript o i p)) l env = pure false := by
  cases e <;> rfl
theorem sw_tup {e : Expr} {ts : List Expr} {q : Nat} {p : Pos} {l : Nat} {env : Env} : swapsWith e (some (.Tuple ts q p)) l env = pure false := by
  cases e <;> rfl
theorem sw_comp {elt : Expr} {gens : List Comprehension} {scope : Scope} {p px : Pos} {x : Str} {l : Nat} {env : Env} : swapsWith (.ListComp elt gens scope p) (some (.Name x px)) l env = pure (swL env.scope scope x px p) := rfl
theorem st_sub {e o i : Expr} {p : Pos} {env : Env} : swappedStores [.Subscript o i p] e env = pure none := by
  cases e <;> rfl
theorem st_tup {e : Expr} {ts : List Expr} {q : Nat} {p : Pos} {env : Env} (h : isTupE e = false) : swappedStores [.Tuple ts q p] e env = pure none := by
  cases e <;> first | rfl | cases h
/-- how the model stores the parts of one tuple into another -/
inductive Sw where
  | no | yes (names : List Str) | bad
def isStE : Expr → Bool
  | .Starred .. => true
  | _ => false
def swNames (sc : Scope) (ts : List Expr) : List Str := ts.filterMap fun
  | .Name id pos => if sc.names.lookup id == some .local && pos.line == (ts.head?.map (·.pos.line)).getD 0 then some id else none
  | _ => none
def swC (sc : Scope) (ts vs : List Expr) : Sw :=
  if !(ts.length == 2 || ts.length == 3) || vs.length != ts.length || blkK sc != .function then .no
  else if vs.any isStE then .no
  else if (swNames sc ts).length != ts.length || (swNames sc ts).eraseDups.length != (swNames sc ts).length then .no
  else if vs.all (foldedForSure 8) then .no
  else if vs.all (constantsAlone 8) then .bad
  else .yes (swNames sc ts)
theorem swC_eq {ts vs : List Expr} {q q2 : Nat} {p p2 : Pos} {env : Env} (nb : swC env.scope ts vs ≠ .bad) : swappedStores [.Tuple ts q p] (.Tuple vs q2 p2) env = (match swC env.scope ts vs with
    | .yes ns => pure (some ns)
    | _ => pure none) := by
  show (if (!(ts.length == 2 || ts.length == 3) || vs.length != ts.length || blkK env.scope != .function) = true then pure none
    else if vs.any isStE = true then pure none
    else if ((swNames env.scope ts).length != ts.length || (swNames env.scope ts).eraseDups.length != (swNames env.scope ts).length) = true then pure none
    else if vs.all (foldedForSure 8) = true then pure none
    else if vs.all (constantsAlone 8) = true then _ else pure (some (swNames env.scope ts))) = _
  unfold swC at nb ⊢
  by_cases h1 : (!(ts.length == 2 || ts.length == 3) || vs.length != ts.length || blkK env.scope != .function) = true
  · rw [if_pos h1, if_pos h1]
  · rw [if_neg h1] at nb
    rw [if_neg h1, if_neg h1]
    by_cases h2 : vs.any isStE = true
    · rw [if_pos h2, if_pos h2]
    · rw [if_neg h2] at nb
      rw [if_neg h2, if_neg h2]
      by_cases h3 : ((swNames env.scope ts).length != ts.length || (swNames env.scope ts).eraseDups.length != (swNames env.scope ts).length) = true
      · rw [if_pos h3, if_pos h3]
      · rw [if_neg h3] at nb
        rw [if_neg h3, if_neg h3]
        by_cases h4 : vs.all (foldedForSure 8) = true
        · rw [if_pos h4, if_pos h4]
        · rw [if_neg h4] at nb
          rw [if_neg h4, if_neg h4]
          by_cases h5 : vs.all (constantsAlone 8) = true
          · rw [if_pos h5] at nb
            exact absurd rfl nb
          · rw [if_neg h5, if_neg h5]

/-! ### statements -/
def fuel : Nat := 60
def cP (S : Sig) (N : List Str) (sc : Scope) : List Expr → Option ME
  | [] => some .nil
  | e :: es => if noStar e then (cE S N fuel sc e).bind fun m => (cP S N sc es).map fun r => .cons m r else none
def lenE : ME → Nat
  | .cons _ r => lenE r + 1
  | _ => 0
theorem evP_len {F : Fns} : ∀ {m : ME} {ρ : Rho} {ds : List (PyData × Bool)} {ρ' : Rho}, evP F m ρ = some (ds, ρ') → ds.length = lenE m
  | .nil, ρ, ds, ρ', h => by cases h; rfl
  | .cons a r, ρ, ds, ρ', h => by
    simp only [evP, Option.bind_eq_some_iff, Option.map_eq_some_iff] at h
    obtain ⟨⟨d, fr, ρ1⟩, h1, ⟨ds1, ρ2⟩, h2, h3⟩ := h
    cases h3
    exact congrArg (· + 1) (evP_len h2)
  | .lit _, _, _, _, h => by simp [evP] at h
  | .var _, _, _, _, h => by simp [evP] at h
  | .bin _ _ _, _, _, _, h => by simp [evP] at h
  | .neg _, _, _, _, h => by simp [evP] at h
  | .not _, _, _, _, h => by simp [evP] at h
  | .and _ _, _, _, _, h => by simp [evP] at h
  | .or _ _, _, _, _, h => by simp [evP] at h
  | .cmp _ _ _, _, _, _, h => by simp [evP] at h
  | .cmp2 _ _ _ _ _, _, _, _, h => by simp [evP] at h
  | .isN _, _, _, _, h => by simp [evP] at h
  | .notN _, _, _, _, h => by simp [evP] at h
  | .ite _ _ _, _, _, _, h => by simp [evP] at h
  | .call _ _, _, _, _, h => by simp [evP] at h
  | .bi _ _, _, _, _, h => by simp [evP] at h
  | .idx _ _, _, _, _, h => by simp [evP] at h
  | .sl _ _ _, _, _, _, h => by simp [evP] at h
  | .tup _, _, _, _, h => by simp [evP] at h
  | .lst _, _, _, _, h => by simp [evP] at h
  | .dic, _, _, _, h => by simp [evP] at h
  | .comp _ _ _ _ _, _, _, _, h => by simp [evP] at h
  | .comp2 _ _ _ _ _ _ _ _ _, _, _, _, h => by simp [evP] at h
  | .rng1 _, _, _, _, h => by simp [evP] at h
  | .rng2 _ _, _, _, _, h => by simp [evP] at h
  | .rng3 _ _ _, _, _, _, h => by simp [evP] at h
  | .enm _, _, _, _, h => by simp [evP] at h
  | .zp _ _, _, _, _, h => by simp [evP] at h
  | .it _, _, _, _, h => by simp [evP] at h
  | .tst _, _, _, _, h => by simp [evP] at h
  | .star _ _, _, _, _, h => by simp [evP] at h
/-- targets of a written tuple -/
def cGP (N : List Str) (sc : Scope) : List Expr → Option MT
  | [] => some .nil
  | .Name x _ :: es => if stOk sc none x then (posOf N x).bind fun i => (cGP N sc es).map fun u => .cons (.nm i) u else none
  | .Tuple ts _ _ :: es => (cGs N sc none fuel ts).bind fun t => (cGP N sc es).map fun u => .cons (.tp t) u
  | _ => none
/-- a call whose value may be a tuple of one's own -/
def cStr (S : Sig) (N : List Str) (sc : Scope) : Expr → Option (Nat × ME)
  | .Call (.Name f _) (a :: as) [] _ => if glb sc f && fine f && (a :: as).all noStar then (S.strong.lookup f).bind fun id => (cL S N fuel sc (a :: as)).map fun m => (id, m) else none
  | _ => none
/-- an item of two: a call whose value may be a tuple of one's own, or any other value -/
def cItm (S : Sig) (N : List Str) (sc : Scope) (e : Expr) : Option (Option Nat × ME) := match cStr S N sc e with
  | some (id, m) => some (some id, m)
  | none => if noStar e then (cE S N fuel sc e).map fun m => (none, m) else none
def cParS (S : Sig) (N : List Str) (sc : Scope) (i j : Nat) (a b : Expr) : Option MS :=
  if (cStr S N sc a).isSome || (cStr S N sc b).isSome then (cItm S N sc a).bind fun p => (cItm S N sc b).map fun q => .parS i p.1 p.2 j q.1 q.2 else none
/-- return tuple(xs) -/
def cTupO (S : Sig) (N : List Str) (sc : Scope) : Expr → Option ME
  | .Call (.Name f _) [e] [] _ => if S.own && f = "tuple" && glb sc f && S.blt.contains f && noStar e then cE S N fuel sc e else none
  | _ => none
/-- x[k], y = e, f -/
def cPut2 (S : Sig) (N : List Str) (sc : Scope) : List Expr → List Expr → Option MS
  | [.Subscript (.Name x _) k _, .Name y _], vs => if fine x && vis sc x && !(isSlE k) && stOk sc none y then (posOf N x).bind fun i => (posOf N y).bind fun j => (cE S N fuel sc k).bind fun mk => (cP S N sc vs).map fun m => .put2 i mk j m else none
  | _, _ => none
def cAsg (S : Sig) (N : List Str) (sc : Scope) : Expr → Expr → Option MS
  | .Name x px, .ListComp elt gens scope p => if stOk sc none x then (posOf N x).bind fun i => (cComp S N fuel sc elt gens scope).map fun m => .asg (.nm i) m else none
  | .Name x px, e => if notComp e && stOk sc none x then (posOf N x).bind fun i => (match cStr S N sc e with
      | some (id, m) => some (.asgO i id m)
      | none => (cE S N fuel sc e).map fun m => .asg (.nm i) m) else none
  | .Tuple ts _ _, .Tuple vs _ _ => match swC sc ts vs with
    | .bad => none
    | .yes _ => (match ts with
      | [.Name x _, .Name y _] => (posOf N x).bind fun i => (posOf N y).bind fun j => if i = j then none else if sc.names.lookup x == some .local && sc.names.lookup y == some .local then (match vs with
        | [a, b] => (match cParS S N sc i j a b with
          | some m => some m
          | none => (cP S N sc [a, b]).map fun m => .par (nmT [i, j]) m)
        | _ => none) else none
      | [.Name x _, .Name y _, .Name z _] => (posOf N x).bind fun i => (posOf N y).bind fun j => (posOf N z).bind fun l => if i = j ∨ i = l ∨ j = l then none else if sc.names.lookup x == some .local && sc.names.lookup y == some .local && sc.names.lookup z == some .local then (match vs with
        | [a, b, c] => (cP S N sc [a, b, c]).map fun m => .par (nmT [i, j, l]) m
        | _ => none) else none
      | _ => none)
    | .no => match cPut2 S N sc ts vs with
      | some m => some m
      | none => (cGP N sc ts).bind fun t => (cP S N sc vs).bind fun m => if lenE m ≤ 1000 then some (.par t m) else none
  | .Tuple ts _ _, e => if isTupE e then none else (cGs N sc none fuel ts).bind fun t => (cE S N fuel sc e).map fun m => .asg (.tp t) m
  | .Subscript (.Name x _) k _, e => if fine x && vis sc x && !(isSlE k) then (posOf N x).bind fun i => (cE S N fuel sc k).bind fun mk => (cE S N fuel sc e).map fun m => .put i mk m else none
  | _, _ => none
def cMeth (S : Sig) (N : List Str) (sc : Scope) (x f : Str) (e : Expr) (ap cp : Pos) : Option MS :=
  if fine x && vis sc x && noStar e && ap.endLine == cp.line then (posOf N x).bind fun i => (cE S N fuel sc e).bind fun m =>
      if f = "append" then some (.app i m) else if f = "extend" then some (.ext i m) else none
    else none
mutual
def cS (S : Sig) (N : List Str) (sc : Scope) : Nat → Stmt → MS
  | n + 1, .Pass _ => .skip
  | n + 1, .Break _ => .brk
  | n + 1, .Continue _ => .cont
  | n + 1, .Return none _ => .ret (.lit .none)
  | n + 1, .Return (some e) _ => match cTupO S N sc e with
    | some m => .retT m
    | none => match cStr S N sc e with
      | some (id, m) => .retO id m
      | none => ((cE S N fuel sc e).map .ret).getD .stuck
  | n + 1, .If c a b _ => ((cT S N fuel sc c).map fun mc => .ite mc (cSs S N sc n a) (cSs S N sc n b)).getD .stuck
  | n + 1, .For tg it body [] _ => ((cI S N fuel sc tg it).bind fun mi => (cG N sc none fuel tg).map fun t => .loop t mi (cSs S N sc n body)).getD .stuck
  | n + 1, .While c body [] _ => ((cT S N fuel sc c).map fun mc => .while mc (cSs S N sc n body)).getD .stuck
  | n + 1, .Assign [tg] e _ => (cAsg S N sc tg e).getD .stuck
  | n + 1, .Expr (.Call (.Attribute (.Name x _) f ap) [e] [] cp) _ => (cMeth S N sc x f e ap cp).getD .stuck
  | n + 1, .Expr e _ => if notComp e then ((cE S N fuel sc e).map .expr).getD .stuck else .stuck
  | _, _ => .stuck
def cSs (S : Sig) (N : List Str) (sc : Scope) : Nat → List Stmt → MS
  | _, [] => .skip
  | n + 1, [s] => cS S N sc n s
  | n + 1, s :: r => .seq (cS S N sc n s) (cSs S N sc n r)
  | _, _ => .stuck
end
section
variable {S : Sig} {F : Fns} {k W : Nat} {N : List Str} {X : Cx}
theorem cP_ok (c : CxG S F k N none X) : ∀ {es : List Expr} {m : ME}, cP S N X.env.scope es = some m → PA X es (tP F m)
  | [], m, h => by
    simp only [cP, Option.some.injEq] at h
    subst h
    exact p_nil
  | e :: es, m, h => by
    simp only [cP] at h
    split at h
    · rename_i ns
      simp only [Option.bind_eq_some_iff, Option.map_eq_some_iff] at h
      obtain ⟨m1, h1, r, h2, rfl⟩ := h
      exact p_cons ((sn_all S F k N fuel).e c h1) (cP_ok c h2) ns
    · cases h
theorem cGP_ok (c : CxG S F k N none X) : ∀ {es : List Expr} {t : MT}, cGP N X.env.scope es = some t → PGs X es (gPs t) ∧ (assignEach es X.env).length = lenT t ∧ (assignEach es X.env).findIdx? (·.1) = none := by
  intro es t h
  induction es generalizing t with
  | nil =>
    simp only [cGP, Option.some.injEq] at h
    subst h
    exact ⟨gp_nil, rfl, rfl⟩
  | cons e es ih =>
    have tail : ∀ {u : MT} {t' : MT}, noStar e = true → cGP N X.env.scope es = some u → (∀ q : PGs X es (gPs u), PGs X (e :: es) (gPs t')) → lenT t' = lenT u + 1 → PGs X (e :: es) (gPs t') ∧ (assignEach (e :: es) X.env).length = lenT t' ∧ (assignEach (e :: es) X.env).findIdx? (·.1) = none := fun {u t'} ns hu f hl => by
      obtain ⟨q1, q2, q3⟩ := ih hu
      refine ⟨f q1, ?_, ?_⟩
      · rw [assign_no ns, List.length_cons, q2, hl]
      · rw [assign_no ns, List.findIdx?_cons, q3]
        rfl
    unfold cGP at h
    split at h
    · rename_i q; cases q
    · rename_i q; cases q
      split at h
      · rename_i hs
        simp only [Option.bind_eq_some_iff, Option.map_eq_some_iff] at h
        obtain ⟨i, h1, u, h2, rfl⟩ := h
        exact tail rfl h2 (fun q => gp_name (g_nm c hs h1) q rfl) rfl
      · cases h
    · rename_i q; cases q
      simp only [Option.bind_eq_some_iff, Option.map_eq_some_iff] at h
      obtain ⟨t1, h1, u, h2, rfl⟩ := h
      obtain ⟨q1, q2, q3⟩ := cGs_ok c h1
      exact tail rfl h2 (fun q => gp_tup (g_tup c.calm q1 q2 q3) q rfl) rfl
    · cases h
theorem lk {sc : Scope} {x : Str} (h : (sc.names.lookup x == some .local) = true) : sc.names.lookup x = some .local := by simpa using h
theorem swL_loc {sc scope : Scope} {x : Str} {px p : Pos} (h : swL sc scope x px p = true) : sc.names.lookup x = some .local := by
  unfold swL at h
  simp only [Bool.and_eq_true] at h
  exact lk h.1.1.2
theorem setComp (c : CxG S F k N none X) {elt : Expr} {gens : List Comprehension} {scope : Scope} {m : ME} {x : Str} {px p pos : Pos} {i : Nat} (hs : stOk X.env.scope none x = true) (hi : posOf N x = some i) (h : cComp S N fuel X.env.scope elt gens scope = some m) :
    PS X (.Assign [.Name x px] (.ListComp elt gens scope p) pos) (tAsg (tE F m) (gName i)) := by
  have hN := c.hN
  subst hN
  cases hsw : swL X.env.scope scope x px p with
  | false =>
    have e : swapsWith (.ListComp elt gens scope p) (some (.Name x px)) pos.line X.env = pure false := by rw [sw_comp, hsw]
    exact ps_set c.nd (posOf_ok hi) (loc_of hs) ((sn_all S F k X.N fuel).comp p c h).ev e (c.st x hs)
  | true =>
    have e : swapsWith (.ListComp elt gens scope p) (some (.Name x px)) pos.line X.env = pure true := by rw [sw_comp, hsw]
    have I := sn_all S F k X.N 59
    have hl := swL_loc hsw
    unfold fuel cComp at h
    split at h
    · rename_i q; cases q
      split at h
      · rename_i hb
        simp only [Option.bind_eq_some_iff] at h
        obtain ⟨mi, h1, t, h2, mc, h3, me, h4, h⟩ := h
        split at h
        · rename_i hin
          cases h
          obtain ⟨pi, ns⟩ := I.i c h1
          exact (ps_setLc c.calm c.nd (posOf_ok hi) hl e pi (blkOk_by hb) (fun s H C cl fp => cG_ok (c.blk _ s H C cl fp) h2) (fun s H C cl fp => I.ifs (c.blk _ s H C cl fp) h3) (fun s H C cl fp => (I.e (c.blk _ s H C cl fp) h4).ev) (noFold ns _)).imp
            fun D σ H q => e_comp.comp_read (inS_ok hin) q
        · cases h
      · cases h
    · rename_i q; cases q
      split at h
      · rename_i hb
        simp only [Option.bind_eq_some_iff] at h
        obtain ⟨mi, h1, t, h2, mc, h3, mi1, h5, t1, h6, mc1, h7, me, h4, h⟩ := h
        split at h
        · rename_i hin
          rw [Bool.and_eq_true] at hin
          cases h
          obtain ⟨pi, ns⟩ := I.i c h1
          have ns1 := fun (s : Shared) (H : Hp) (C : Addr) (cl : List (Str × Addr)) (fp : List Addr) => (I.i (c.blk _ s H C cl fp) h5)
          have ns2 := (ns1 X.s_0 (fun _ => none) 0 [] []).2
          exact (ps_setLc2 c.calm c.nd (posOf_ok hi) hl e pi (blkOk_by hb) (inS_ok hin.2) (fun s H C cl fp => cG_ok (c.blk _ s H C cl fp) h2) (fun s H C cl fp => I.ifs (c.blk _ s H C cl fp) h3) (fun s H C cl fp => (ns1 s H C cl fp).1)
            (fun s H C cl fp => cG_ok (c.blk _ s H C cl fp) h6) (fun s H C cl fp => I.ifs (c.blk _ s H C cl fp) h7) (fun s H C cl fp => (I.e (c.blk _ s H C cl fp) h4).ev) (noFold ns _) (fun env x => noFold ns2 env x)).imp
            fun D σ H q => e_comp2.comp2_read (inS_ok hin.1) (inS_ok hin.2) (fun i z => z) q
        · cases h
      · cases h
    · cases h
theorem sole {t e : Expr} {l : Nat} {env : Env} : swapsWithSole [t] e l env = swapsWith e (some t) l env := rfl
theorem sw_yes {ts vs : List Expr} {q q2 : Nat} {p p2 : Pos} {ns : List Str} {env : Env} (h : swC env.scope ts vs = .yes ns) : swappedStores [.Tuple ts q p] (.Tuple vs q2 p2) env = pure (some ns) :=
  (swC_eq (by rw [h]; exact fun z => nomatch z)).trans (by rw [h])
theorem sw_no {ts vs : List Expr} {q q2 : Nat} {p p2 : Pos} {env : Env} (h : swC env.scope ts vs = .no) : swappedStores [.Tuple ts q p] (.Tuple vs q2 p2) env = pure none :=
  (swC_eq (by rw [h]; exact fun z => nomatch z)).trans (by rw [h])
theorem sw_ns {sc : Scope} {ts vs : List Expr} {ns : List Str} (h : swC sc ts vs = .yes ns) : ns = swNames sc ts ∧ ns.length = ts.length := by
  unfold swC at h
  split at h
  · cases h
  · split at h
    · cases h
    · split at h
      · cases h
      · rename_i h3
        split at h
        · cases h
        · split at h
          · cases h
          · cases h
            simp only [Bool.or_eq_true, not_or, bne_iff_ne, ne_eq, Decidable.not_not] at h3
            exact ⟨rfl, h3.1⟩
theorem names_len2 {sc : Scope} {x y : Str} {px py : Pos} {ns : List Str} (e : ns = swNames sc [.Name x px, .Name y py]) (l : ns.length = 2) : ns = [x, y] := by
  subst e
  unfold swNames at l ⊢
  simp only [List.filterMap_cons, List.filterMap_nil] at l ⊢
  split at l <;> split at l <;> simp_all
theorem names_len3 {sc : Scope} {x y z : Str} {px py pz : Pos} {ns : List Str} (e : ns = swNames sc [.Name x px, .Name y py, .Name z pz]) (l : ns.length = 3) : ns = [x, y, z] := by
  subst e
  unfold swNames at l ⊢
  simp only [List.filterMap_cons, List.filterMap_nil] at l ⊢
  split at l <;> split at l <;> split at l <;> simp_all
theorem asg_sub {x : Str} {px sp : Pos} {b : Expr} {env : Env} (h : isSlE b = false) (v : Value) : assign (.Subscript (.Name x px) b sp) env v = (do
      let ov ← holding [v] (eval (.Name x px) env)
      let iv ← holding [v, ov] (eval b env)
      standAt sp
      holding [v, ov, iv] (setItem ov iv v)
      release [v, ov, iv] []) := by
  cases b <;> first | rfl | cases h
theorem cStr_ok (c : CxG S F k N none X) {e : Expr} {id : Nat} {m : ME} (h : cStr S N X.env.scope e = some (id, m)) : PE X e (tC0 F id m) := by
  unfold cStr at h
  split at h
  · split at h
    · rename_i hc
      simp only [Bool.and_eq_true] at hc
      simp only [Option.bind_eq_some_iff, Option.map_eq_some_iff] at h
      obtain ⟨id', h0, m1, h1, h2⟩ := h
      cases h2
      obtain ⟨f1, f2, f3⟩ := fine_ok hc.1.2
      obtain ⟨fa, fd, ps, g1, g2, g3, g4⟩ := c.str _ _ h0
      exact e_call0s g4 c.gd c.room (glb_ok hc.1.1) g1 g2 g3 ((sn_all S F k N fuel).l c h1).1 f1 hc.2
    · cases h
  · cases h
theorem cItm_ok (c : CxG S F k N none X) {e : Expr} {p : Option Nat × ME} (h : cItm S N X.env.scope e = some p) : PE X e (tU F p.1 p.2) ∧ noStar e = true := by
  unfold cItm at h
  split at h
  · rename_i id m h2
    cases h
    refine ⟨cStr_ok c h2, ?_⟩
    unfold cStr at h2
    split at h2
    · rfl
    · cases h2
  · split at h
    · rename_i hn
      simp only [Option.map_eq_some_iff] at h
      obtain ⟨m, h1, rfl⟩ := h
      exact ⟨((sn_all S F k N fuel).e c h1).ev, hn⟩
    · cases h
theorem cAsg_ok (c : CxG S F k N none X) {tg e : Expr} {m : MS} {pos : Pos} (h : cAsg S N X.env.scope tg e = some m) : PS X (.Assign [tg] e pos) (tS F W m) := by
  have I := sn_all S F k N fuel
  unfold cAsg at h
  split at h
  · split at h
    · rename_i hs
      simp only [Option.bind_eq_some_iff, Option.map_eq_some_iff] at h
      obtain ⟨i, h1, m1, h2, rfl⟩ := h
      exact s_asgN (setComp c hs h1 h2)
    · cases h
  · split at h
    · rename_i hs
      rw [Bool.and_eq_true] at hs
      simp only [Option.bind_eq_some_iff] at h
      obtain ⟨i, h1, h⟩ := h
      split at h
      · rename_i id m1 h2
        cases h
        exact s_asgO (by rw [c.hN]; exact c.nd) (by rw [c.hN]; exact posOf_ok h1) (loc_of hs.2) (cStr_ok c h2) (sw_name hs.1) (c.st _ hs.2)
      · simp only [Option.map_eq_some_iff] at h
        obtain ⟨m1, h2, rfl⟩ := h
        exact s_asgN (ps_set (by rw [c.hN]; exact c.nd) (by rw [c.hN]; exact posOf_ok h1) (loc_of hs.2) (I.e c h2).ev (sw_name hs.1) (c.st _ hs.2))
    · cases h
  · split at h
    · cases h
    · rename_i hsw
      obtain ⟨n1, n2⟩ := sw_ns hsw
      split at h
      · simp only [Option.bind_eq_some_iff] at h
        obtain ⟨i, h1, j, h2, h⟩ := h
        split at h
        · cases h
        · rename_i hij
          split at h
          · rename_i hl
            rw [Bool.and_eq_true] at hl
            split at h
            · have n3 := names_len2 n1 n2
              subst n3
              split at h
              · rename_i m0 h0
                cases h
                unfold cParS at h0
                split at h0
                · simp only [Option.bind_eq_some_iff, Option.map_eq_some_iff] at h0
                  obtain ⟨p, h3, q, h4, rfl⟩ := h0
                  obtain ⟨p1, p2⟩ := cItm_ok c h3
                  obtain ⟨q1, q2⟩ := cItm_ok c h4
                  exact s_parS (ps_par c.calm (by rw [c.hN]; exact c.nd) (by rw [c.hN]; exact posOf_ok h1) (by rw [c.hN]; exact posOf_ok h2) hij (lk hl.1) (lk hl.2) (p_two p1 q1 p2 q2) (sw_yes hsw) (sole.trans sw_tup))
                · cases h0
              · simp only [Option.map_eq_some_iff] at h
                obtain ⟨m1, h3, rfl⟩ := h
                exact s_par2 (ps_par c.calm (by rw [c.hN]; exact c.nd) (by rw [c.hN]; exact posOf_ok h1) (by rw [c.hN]; exact posOf_ok h2) hij (lk hl.1) (lk hl.2) (cP_ok c h3) (sw_yes hsw) (sole.trans sw_tup))
            · cases h
          · cases h
      · simp only [Option.bind_eq_some_iff] at h
        obtain ⟨i, h1, j, h2, l, h0, h⟩ := h
        split at h
        · cases h
        · rename_i hij
          simp only [not_or] at hij
          split at h
          · rename_i hl
            simp only [Bool.and_eq_true] at hl
            split at h
            · simp only [Option.map_eq_some_iff] at h
              obtain ⟨m1, h3, rfl⟩ := h
              have n3 := names_len3 n1 n2
              subst n3
              exact s_par3 (ps_par3 c.calm (by rw [c.hN]; exact c.nd) (by rw [c.hN]; exact posOf_ok h1) (by rw [c.hN]; exact posOf_ok h2) (by rw [c.hN]; exact posOf_ok h0) hij.1 hij.2.1 hij.2.2 (lk hl.1.1) (lk hl.1.2) (lk hl.2) (cP_ok c h3) (sw_yes hsw) (sole.trans sw_tup))
            · cases h
          · cases h
      · cases h
    · rename_i hsw
      split at h
      · rename_i m0 h0
        cases h
        unfold cPut2 at h0
        split at h0
        · split at h0
          · rename_i hc
            simp only [Bool.and_eq_true, Bool.not_eq_true'] at hc
            simp only [Option.bind_eq_some_iff, Option.map_eq_some_iff] at h0
            obtain ⟨i, h1, j, h2, mk, h3, m1, h4, rfl⟩ := h0
            obtain ⟨f1, f2, f3⟩ := fine_ok hc.1.1.1
            exact s_put2 c.calm (pe_var (by rw [c.hN]; exact posOf_ok h1) (vis_ok hc.1.1.2) f1 f2) (g_nm c hc.2 h2) (I.e c h3) (cP_ok c h4) (sole.trans sw_tup) (sw_no hsw) (asg_sub hc.1.2)
          · cases h0
        · cases h0
      · simp only [Option.bind_eq_some_iff] at h
        obtain ⟨t, h1, m1, h2, h⟩ := h
        split at h
        · rename_i hle
          cases h
          obtain ⟨q1, q2, q3⟩ := cGP_ok c h1
          exact s_parG c.calm (cP_ok c h2) q1 q2 q3 (sole.trans sw_tup) (sw_no hsw) fun ρ ds ρ' hh => by rw [evP_len hh]; exact Nat.le_trans hle (by decide)
        · cases h
  · split at h
    · cases h
    · rename_i ht
      simp only [Option.bind_eq_some_iff, Option.map_eq_some_iff] at h
      obtain ⟨t, h1, m1, h2, rfl⟩ := h
      obtain ⟨q1, q2, q3⟩ := cGs_ok c h1
      exact s_asgT (ps_asg (I.e c h2).ev (g_tup c.calm q1 q2 q3) (sole.trans sw_tup) (st_tup (by simpa using ht)))
  · split at h
    · rename_i hc
      simp only [Bool.and_eq_true, Bool.not_eq_true'] at hc
      simp only [Option.bind_eq_some_iff, Option.map_eq_some_iff] at h
      obtain ⟨i, h1, mk, h2, m1, h3, rfl⟩ := h
      obtain ⟨f1, f2, f3⟩ := fine_ok hc.1.1
      exact s_put (by have := c.units; omega) (pe_var (by rw [c.hN]; exact posOf_ok h1) (vis_ok hc.1.2) f1 f2) (I.e c h2) (I.e c h3) sw_sub st_sub (asg_sub hc.2)
    · cases h
  · cases h
theorem cMeth_ok (c : CxG S F k N none X) {x f : Str} {e : Expr} {ap cp px pos : Pos} {m : MS} (h : cMeth S N X.env.scope x f e ap cp = some m) : PS X (.Expr (.Call (.Attribute (.Name x px) f ap) [e] [] cp) pos) (tS F W m) := by
  have I := sn_all S F k N fuel
  unfold cMeth at h
  split at h
  · rename_i hc
    simp only [Bool.and_eq_true] at hc
    obtain ⟨⟨⟨c1, c2⟩, c3⟩, c4⟩ := hc
    obtain ⟨f1, f2, f3⟩ := fine_ok c1
    simp only [Option.bind_eq_some_iff] at h
    obtain ⟨i, h1, m1, h2, h⟩ := h
    have pv : PE X (.Name x px) (tVar i) := pe_var (by rw [c.hN]; exact posOf_ok h1) (vis_ok c2) f1 f2
    split at h
    · rename_i hf
      subst hf
      cases h
      exact s_app pv (I.e c h2) c3 c4
    · split at h
      · rename_i hf
        subst hf
        cases h
        exact s_ext pv (I.e c h2) c3 c4
      · cases h
  · cases h
theorem getD_ok {o : Option MS} {st : Stmt} (h : ∀ m, o = some m → PS X st (tS F W m)) : PS X st (tS F W (o.getD .stuck)) := by
  cases o with
  | none => exact s_stuck
  | some m => exact h m rfl
mutual
theorem cS_ok (c : CxG S F k N none X) (hp : PassesOwn (model X.prog X.w) X.A X.env X.xe) : ∀ (n : Nat) (st : Stmt), PS X st (tS F W (cS S N X.env.scope n st))
  | 0, st => by
    have e : cS S N X.env.scope 0 st = .stuck := by cases st <;> rfl
    rw [e]
    exact s_stuck
  | n + 1, st => by
    have I := sn_all S F k N fuel
    unfold cS
    split
    · exact s_pass
    · exact s_break
    · exact s_continue
    · exact s_retN
    · split
      · rename_i m1 h1
        unfold cTupO at h1
        split at h1
        · split at h1
          · rename_i hc
            simp only [Bool.and_eq_true, decide_eq_true_eq] at hc
            obtain ⟨⟨⟨⟨_, c2⟩, c3⟩, c4⟩, c5⟩ := hc
            subst c2
            exact s_retT (glb_ok c3) (c.blt _ c4) (I.e c h1) c5
          · cases h1
        · cases h1
      · split
        · rename_i id m1 h1
          exact s_retO (cStr_ok c h1)
        · refine getD_ok fun m h => ?_
          simp only [Option.map_eq_some_iff] at h
          obtain ⟨m1, h1, rfl⟩ := h
          exact s_ret (I.e c h1)
    · refine getD_ok fun m h => ?_
      simp only [Option.map_eq_some_iff] at h
      obtain ⟨m1, h1, rfl⟩ := h
      exact s_ite (I.t c h1) (cSs_ok c hp _ _) (cSs_ok c hp _ _)
    · refine getD_ok fun m h => ?_
      simp only [Option.bind_eq_some_iff, Option.map_eq_some_iff] at h
      obtain ⟨m1, h1, t, h2, rfl⟩ := h
      obtain ⟨pi, ns⟩ := I.i c h1
      exact s_loop hp c.calm pi (cG_ok c h2) (cSs_ok c hp _ _) (noFold ns _)
    · refine getD_ok fun m h => ?_
      simp only [Option.map_eq_some_iff] at h
      obtain ⟨m1, h1, rfl⟩ := h
      exact s_while hp (I.t c h1) (cSs_ok c hp _ _)
    · exact getD_ok fun m h => cAsg_ok c h
    · exact getD_ok fun m h => cMeth_ok c h
    · split
      · rename_i hn
        refine getD_ok fun m h => ?_
        simp only [Option.map_eq_some_iff] at h
        obtain ⟨m1, h1, rfl⟩ := h
        exact s_expr (I.e c h1) (sw_none hn)
      · exact s_stuck
    · exact s_stuck
theorem cSs_ok (c : CxG S F k N none X) (hp : PassesOwn (model X.prog X.w) X.A X.env X.xe) : ∀ (n : Nat) (sts : List Stmt), PSs X sts (tS F W (cSs S N X.env.scope n sts))
  | n, [] => by
    have e : cSs S N X.env.scope n [] = .skip := by cases n <;> rfl
    rw [e]
    exact ss_nil
  | 0, s :: r => by
    have e : cSs S N X.env.scope 0 (s :: r) = .stuck := by cases r <;> rfl
    rw [e]
    exact pss_never.imp fun D σ H ⟨A, M, ρ, o, _, ev, _⟩ => by cases ev
  | n + 1, [s] => by
    have e : cSs S N X.env.scope (n + 1) [s] = cS S N X.env.scope n s := rfl
    rw [e]
    exact ss_one (cS_ok c hp n s)
  | n + 1, s :: s' :: r => by
    have e : cSs S N X.env.scope (n + 1) (s :: s' :: r) = .seq (cS S N X.env.scope n s) (cSs S N X.env.scope n (s' :: r)) := rfl
    rw [e]
    exact ss_cons (cS_ok c hp n s) (cSs_ok c hp n (s' :: r))
end
end
end MI

/-! MIE: a whole program. -/
namespace MI
open PySem PySem.Spec PyProof.Rows L2

/-- a def of the program: its name, its number, its statement, its names by slot, its parameters -/
structure Ent where
  name : Str
  id : Nat
  st : Stmt
  N : List Str
  ps : List Str
  own : Bool := false
  dT : Bool := false
  use : List (Str × Nat) := []
  kws : List (List Str × List Nat) := []
def Ent.sig (S : Sig) (e : Ent) : Sig := { S with own := e.own, dT := e.dT, strong := e.use }
def Ent.fn (S : Sig) (e : Ent) : Fn := ⟨e.ps.length, e.N.length, cSs (e.sig S) e.N (defScope e.st) 400 (defBody e.st)⟩
structure EntAt (K : PySem.W.Frag) (mg : Str → Option Value) (e : Ent) (f : Addr) (fd : FuncData) : Prop where
  fn : L2.Fun K e.name e.name e.st f fd
  at_ : mg e.name = some (.ref f)
  bind : ∀ us : List Value, us.length = e.ps.length → bindArgs fd ⟨us, []⟩ = pure (e.ps.zip us)
  kb : ∀ q ∈ e.kws, ∀ ws : List Value, ws.length = q.1.length → bindArgs fd ⟨[], q.1.zip ws⟩ = pure (e.ps.zip (permL q.2 ws))
  sc : FnScope e.N e.ps (defScope e.st)
def EntOk (K : PySem.W.Frag) (mg : Str → Option Value) (e : Ent) : Prop := ∃ f fd, EntAt K mg e f fd
def CstOk (mg : Str → Option Value) : Str × PyData → Prop
  | (x, .int i) => ∃ t, mg x = some (.int i t)
  | (x, .str z) => ∃ t, mg x = some (.str z t)
  | _ => False
/-- a dict of the module -/
def GdOk (K : PySem.W.Frag) (mg : Str → Option Value) (p : Str × List (Int × Str)) : Prop := ∃ a, mg p.1 = some (.ref a) ∧ GdAt K a p.2
theorem lookup_mem {α : Type} : ∀ {l : List (Str × α)} {x : Str} {a : α}, l.lookup x = some a → (x, a) ∈ l
  | [], _, _, h => by cases h
  | (y, b) :: r, x, a, h => by
    rw [List.lookup_cons] at h
    split at h
    · rename_i e
      cases h
      rw [beq_iff_eq.mp e]
      exact List.mem_cons_self
    · exact List.mem_cons_of_mem _ (lookup_mem h)
section
variable {P : Program} {w : World} {mg : Str → Option Value} {base : Heap}
theorem prog_ok [EK] {S : Sig} {tab : List Ent} {T : Nat → Option Fn} {W : Nat} (hS : S.fns = tab.map fun e => (e.name, e.id)) (hT : ∀ e ∈ tab, T e.id = some (e.fn S)) (hU : ∀ e ∈ tab, ∀ p ∈ e.use, ∃ e' ∈ tab, p = (e'.name, e'.id)) (hW : ∀ q ∈ S.kws, ∃ e ∈ tab, q.1 = e.name ∧ q.2.2.1 = e.id ∧ (q.2.1, q.2.2.2) ∈ e.kws) (hE : ∀ e ∈ tab, EntOk EK.k mg e) (hC : ∀ p ∈ S.cst, CstOk mg p) (hB : ∀ x, S.blt.contains x = true → mg x = none) (hD : ∀ p ∈ S.gds, GdOk EK.k mg p) (hN : ∀ e ∈ tab, e.dT = false) :
    ∀ (k : Nat), ∀ e ∈ tab, ∀ f fd, EntAt EK.k mg e f fd → FnG P w EK.k mg base k f fd e.ps (spF (evF T W k) e.id)
  | 0, e, he, f, fd, U => ⟨fun vs H Q ⟨_, _, _, _, _, _, _, z, _⟩ => (nomatch z), fun A outer s H args us vs Q _ _ _ _ _ ⟨_, _, _, _, _, _, _, z, _⟩ => (nomatch z)⟩
  | k + 1, e, he, f, fd, U => by
    have ih := prog_ok (W := W) hS hT hU hW hE hC hB hD hN k
    have sc := U.sc
    refine fn_g (F := evF T W k) (W := W) (fn := e.fn S) U.fn sc rfl rfl (fun as => ?_) fun cdv A outer s H hg hr => ?_
    · show (T e.id).bind _ = _
      rw [hT e he]
      rfl
    · have c : CxG (e.sig S) (evF T W k) k e.N none (cxOf CX0 P w EK.k mg base e.N e.name (defScope e.st) f cdv A outer s H E0).nox :=
        { hK := rfl, hN := rfl, nd := sc.nd, calm := rfl, gd := hg, room := hr, xe := rfl, st := fun x _ => .inl rfl, blt := hB, ndt := hN e he, gds := fun x es hx => hD _ (lookup_mem hx)
          fns := fun x id hx => by
            have hm := lookup_mem (show S.fns.lookup x = some id from hx)
            rw [hS, List.mem_map] at hm
            obtain ⟨e', he', q⟩ := hm
            cases q
            obtain ⟨f', fd', U'⟩ := hE e' he'
            exact ⟨f', fd', e'.ps, U'.at_, U'.fn.kp, Binds.all U'.bind, ih e' he' f' fd' U'⟩
          str := fun x id hx => by
            obtain ⟨e', he', q⟩ := hU e he _ (lookup_mem hx)
            cases q
            obtain ⟨f', fd', U'⟩ := hE e' he'
            exact ⟨f', fd', e'.ps, U'.at_, U'.fn.kp, Binds.all U'.bind, ih e' he' f' fd' U'⟩
          kw := fun x ks id l hx => by
            obtain ⟨e', he', q1, q2, q3⟩ := hW _ hx
            dsimp only at q1 q2 q3
            subst q1
            subst q2
            obtain ⟨f', fd', U'⟩ := hE e' he'
            exact ⟨f', fd', e'.ps, U'.at_, U'.fn.kp, fun s ws hl => .of_eq (U'.kb _ q3 ws hl), ih e' he' f' fd' U'⟩
          cst := fun x d hx => by
            have q := hC _ (lookup_mem hx)
            unfold CstOk at q
            split at q
            · rename_i e1; cases e1
              obtain ⟨t, q⟩ := q
              exact ⟨.int _, _, q, ⟨t, rfl⟩, fun _ _ => .int _⟩
            · rename_i e1; cases e1
              obtain ⟨t, q⟩ := q
              exact ⟨.str _, _, q, ⟨t, rfl⟩, fun _ _ => .str _⟩
            · exact q.elim }
      exact cSs_ok c PassesOwn.never 400 (defBody e.st)
/-- what the top has left of a def -/
theorem ent_ok {K : PySem.W.Frag} {h : Heap} {e : Ent} (X : K.In h) (G : h.Ns mainGlobals mg) {f : Addr} {oc kV doc pm cdv ct : Value} {od an : Option Addr} {osl : Array (Option Value)}
    (a : PySem.W.nsIn K mainGlobals e.name = some (some (.ref f))) (l : K.lookup f = some ⟨oc, od, .func (PySem.W.fnOf e.name e.name (defArgs e.st) (defBody e.st) (defScope e.st) .none kV doc pm an cdv ct), osl⟩) (cd : PySem.W.codeIn K cdv e.name = true) (kp : PySem.W.keepIn K (.ref f) = true)
    (hb : ∀ us : List Value, us.length = e.ps.length → bindArgs (PySem.W.fnOf e.name e.name (defArgs e.st) (defBody e.st) (defScope e.st) .none kV doc pm an cdv ct) ⟨us, []⟩ = pure (e.ps.zip us))
    (hk : ∀ q ∈ e.kws, ∀ ws : List Value, ws.length = q.1.length → bindArgs (PySem.W.fnOf e.name e.name (defArgs e.st) (defBody e.st) (defScope e.st) .none kV doc pm an cdv ct) ⟨[], q.1.zip ws⟩ = pure (e.ps.zip (permL q.2 ws))) (sc : FnScope e.N e.ps (defScope e.st)) : EntOk K mg e :=
  ⟨f, _, fun_mk (st := e.st) l cd kp, PySem.W.mg_of X G a, hb, hk, sc⟩
/-- the law's def -/
theorem law_ok {K : PySem.W.Frag} {S : Sig} {tab : List Ent} {T : Nat → Option Fn} {W k : Nat} {e : Ent} {fa : Addr} {x : Str} (he : e ∈ tab) (hx : e.ps = [x]) (hfa : mg e.name = some (.ref fa)) (hS : S.fns = tab.map fun e => (e.name, e.id)) (hT : ∀ e ∈ tab, T e.id = some (e.fn S)) (hU : ∀ e ∈ tab, ∀ p ∈ e.use, ∃ e' ∈ tab, p = (e'.name, e'.id)) (hW : ∀ q ∈ S.kws, ∃ e ∈ tab, q.1 = e.name ∧ q.2.2.1 = e.id ∧ (q.2.1, q.2.2.2) ∈ e.kws)
    (hE : ∀ e ∈ tab, EntOk K mg e) (hC : ∀ p ∈ S.cst, CstOk mg p) (hB : ∀ x, S.blt.contains x = true → mg x = none) (hD : ∀ p ∈ S.gds, GdOk K mg p := by exact fun p hp => absurd hp List.not_mem_nil) (hN : ∀ e ∈ tab, e.dT = false := by decide +kernel) :
    ∃ fd : FuncData, (∀ (s : Shared) (u : Value), BindsTo s fd ⟨[u], []⟩ [(x, u)]) ∧ ∀ base : Heap, K.In base → base.Ns mainGlobals mg → FnG P w K mg base k fa fd [x] (@spF ⟨K⟩ (evF T W k) e.id) := by
  obtain ⟨f, fd, U⟩ := hE e he
  have z := U.at_
  rw [hfa] at z
  cases z
  refine ⟨fd, fun s u => .of_eq ?_, fun base _ _ => ?_⟩
  · have q := U.bind [u] (by rw [hx]; rfl)
    rw [hx] at q
    exact q
  · have q := @prog_ok P w mg base ⟨K⟩ S tab T W hS hT hU hW hE hC hB hD hN k e he fa fd U
    rw [hx] at q
    exact q
/-- from the interpreter's answer to the row -/
theorem walk_g {l : PySem.W.OpenLaw} {n k id : Nat} {q : Program} {loose : List Str} {XP : (Str → Option Value) → Heap → Prop} {YP : World → Heap → Prop} {d : DefRec} {KK : Params → PySem.W.Frag} {x : Str} {F : Fns}
    (hn : l.most = some n) (hn2 : n ≤ sizeLine) (hdf : d.params.defaults = []) (room : Room k callerA) (hY : ∀ (w : World) (h : Heap), YP w h → (KK w.params).In h)
    (hG : ∀ (w : World) (mg : Str → Option Value) (fa : Addr) (h : Heap), (KK w.params).In h → h.Ns mainGlobals mg → mg d.name = some (.ref fa) →
      ∃ fd : FuncData, (∀ (s : Shared) (u : Value), BindsTo s fd ⟨[u], []⟩ [(x, u)]) ∧ ∀ base : Heap, (KK w.params).In base → base.Ns mainGlobals mg → @FnG l.prog w (KK w.params) mg base k fa fd [x] (@spF ⟨KK w.params⟩ F id))
    (hev : ∀ ns : List Int, ns.length ≤ n → ∃ fr ss, F id [(scr (ns.map PyData.int), false)] = some (.bool true, fr, ss)) :
    PySem.W.WalkO q loose XP YP l.row.toRowW d [] (fun f vs => PySem.call f vs) := by
  refine Att.attach_call hn hdf fun w s₀ s₁ mg mb fa o pm cd doc a vs ns G Y ho hd hcd hmg hobj hints hlen hg => ?_
  obtain ⟨fd, hb, hF⟩ := hG w mg fa _ (hY w _ Y) G.T.g hmg
  obtain ⟨fr, ss, ev⟩ := hev ns hlen
  exact @law_g ⟨KK w.params⟩ l.prog w (KK w.params) mg mb k id fa a fd x F s₁ vs ns fr ss rfl (hY w _ Y) G.T.g G.T.b G.T.builtins G.T.nolimit hg hobj hints (Nat.le_trans hlen hn2) room hF hb ev
theorem cst_i {K : PySem.W.Frag} {h : Heap} {x : Str} {i : Int} {t : Tok} (X : K.In h) (G : h.Ns mainGlobals mg) (a : PySem.W.nsIn K mainGlobals x = some (some (.int i t))) : CstOk mg (x, .int i) := ⟨t, PySem.W.mg_of X G a⟩
theorem cst_s {K : PySem.W.Frag} {h : Heap} {x z : Str} {t : Tok} (X : K.In h) (G : h.Ns mainGlobals mg) (a : PySem.W.nsIn K mainGlobals x = some (some (.str z t))) : CstOk mg (x, .str z) := ⟨t, PySem.W.mg_of X G a⟩
theorem gd_ok {K : PySem.W.Frag} {h : Heap} {x : Str} {es : List (Int × Str)} {a : Addr} {ents : Array DictEntry} {n : Nat} (X : K.In h) (G : h.Ns mainGlobals mg) (q : PySem.W.nsIn K mainGlobals x = some (some (.ref a))) (l : K.lookup a = some ⟨.type "dict", none, .dict ents n, #[]⟩) (p : PairsG ents.toList es) (nd : (es.map (·.1)).Nodup) (ns : (a == sysModules) = false) : GdOk K mg (x, es) := ⟨a, PySem.W.mg_of X G q, ⟨ents, n, l, p⟩, nd, ns⟩
theorem blt_all {l : List Str} (h : ∀ x ∈ l, mg x = none) : ∀ x, l.contains x = true → mg x = none := fun x hx => h x (List.contains_iff_mem.mp hx)
end
end MI
namespace MI
/-- a table has a def at a number -/
class Has (T : Nat → Option Fn) (i : Nat) (f : Fn) : Prop where
  h : T i = some f
theorem evF_has {T : Nat → Option Fn} {W k i : Nat} {f : Fn} [q : Has T i f] (as : List Arg) : evF T W (k + 1) i as = runFn (evF T W k) W f as := by
  show (T i).bind _ = _
  rw [q.h]
  rfl
end MI

/-! MIF: reasoning about runs: Wp and its rules. -/
namespace MI
open PySem

/-- it answers, and the answer is such -/
inductive Tg {α : Sort u} (a : α) : Type
  | mk
def Wp {α : Type} (o : Option α) (Q : α → Prop) (u : Tg Q := Tg.mk) : Prop := ∃ a, o = some a ∧ Q a
def Wp0 {α : Type} (o : Option α) (Q : α → Prop) : Prop := ∃ a, o = some a ∧ Q a
def Wif0 (c A B : Prop) : Prop := (c → A) ∧ (¬ c → B)
theorem pw {α : Type} {o : Option α} {Q : α → Prop} {u : Tg Q} : Wp o Q u = Wp0 o Q := rfl
section
variable {α β : Type} {Q : α → Prop}
theorem Wp0_some {a : α} : Wp0 (some a) Q = Q a := by simp [Wp0]
theorem Wp0_none : Wp0 (none : Option α) Q = False := by simp [Wp0]
theorem Wp0_bind {o : Option β} {f : β → Option α} : Wp0 (o.bind f) Q = Wp0 o (fun b => Wp0 (f b) Q) := by
  cases o <;> simp [Wp0]
theorem Wp0_map {o : Option β} {f : β → α} : Wp0 (o.map f) Q = Wp0 o (fun b => Q (f b)) := by
  cases o <;> simp [Wp0]
theorem Wp0_ite {c : Prop} [Decidable c] {x y : Option α} : Wp0 (if c then x else y) Q = Wif0 c (Wp0 x Q) (Wp0 y Q) := by
  by_cases h : c <;> simp [h, Wif0]
end
def W2 {α β : Type} (o : Option (α × β)) (Q : α → β → Prop) (u : Tg Q := Tg.mk) : Prop := ∃ a, o = some a ∧ Q a.1 a.2
def W3 {α β γ : Type} (o : Option (α × β × γ)) (Q : α → β → γ → Prop) (u : Tg Q := Tg.mk) : Prop := ∃ a, o = some a ∧ Q a.1 a.2.1 a.2.2
theorem p2 {α β : Type} {o : Option (α × β)} {Q : α → β → Prop} {u : Tg Q} : W2 o Q u = Wp0 o (fun a => Q a.1 a.2) := rfl
theorem p3 {α β γ : Type} {o : Option (α × β × γ)} {Q : α → β → γ → Prop} {u : Tg Q} : W3 o Q u = Wp0 o (fun a => Q a.1 a.2.1 a.2.2) := rfl
theorem Wp_ext {α : Type} {o : Option α} {Q Q' : α → Prop} (h : ∀ a, Q a = Q' a) : Wp o Q = Wp o Q' := by
  have : Q = Q' := funext h
  subst this; rfl
/-- two ways, by a condition -/
def Wif (c A B : Prop) (u : Tg A := Tg.mk) (v : Tg B := Tg.mk) : Prop := (c → A) ∧ (¬ c → B)
@[simp] theorem Wif_true {A B : Prop} : Wif True A B = A := by simp [Wif]
@[simp] theorem Wif_false {A B : Prop} : Wif False A B = B := by simp [Wif]
theorem pif {c A B : Prop} {u : Tg A} {v : Tg B} : Wif c A B u v = Wif0 c A B := rfl
theorem Wif_ext {c A A' B : Prop} (h : A = A') : Wif c A B = Wif c A' B := by subst h; rfl
theorem Wif_i {c A B : Prop} (h : c → A) (h' : ¬ c → B) : Wif c A B := ⟨h, h'⟩
theorem Wif_t {c A B : Prop} (h : c) (h' : A) : Wif c A B := ⟨fun _ => h', fun n => (n h).elim⟩
theorem Wif_f {c A B : Prop} (h : ¬ c) (h' : B) : Wif c A B := ⟨fun n => (h n).elim, fun _ => h'⟩
theorem Wp_mono {α : Type} {o : Option α} {Q Q' : α → Prop} (h : Wp o Q) (g : ∀ a, Q a → Q' a) : Wp o Q' := by
  obtain ⟨a, h1, h2⟩ := h; exact ⟨a, h1, g a h2⟩
theorem Wp_eq {α : Type} {o : Option α} {a : α} {Q : α → Prop} (h : o = some a) (g : Q a) : Wp o Q := ⟨a, h, g⟩
theorem Wp_of {α : Type} {o : Option α} {a : α} (h : Wp o (fun b => b = a)) : o = some a := by
  obtain ⟨b, h1, h2⟩ := h; rw [h1, h2]

@[simp ↓] theorem W2_some {α β : Type} {a : α} {b : β} {Q : α → β → Prop} : W2 (some (a, b)) Q = Q a b := by simp [W2]
@[simp ↓] theorem W3_some {α β γ : Type} {a : α} {b : β} {c : γ} {Q : α → β → γ → Prop} : W3 (some (a, b, c)) Q = Q a b c := by simp [W3]
theorem W2_mono {α β : Type} {o : Option (α × β)} {Q Q' : α → β → Prop} (h : W2 o Q) (g : ∀ a b, Q a b → Q' a b) : W2 o Q' := by
  obtain ⟨a, h1, h2⟩ := h; exact ⟨a, h1, g _ _ h2⟩
theorem W3_mono {α β γ : Type} {o : Option (α × β × γ)} {Q Q' : α → β → γ → Prop} (h : W3 o Q) (g : ∀ a b c, Q a b c → Q' a b c) : W3 o Q' := by
  obtain ⟨a, h1, h2⟩ := h; exact ⟨a, h1, g _ _ _ h2⟩
theorem W3_eq {α β γ : Type} {o : Option (α × β × γ)} {a : α} {b : β} {c : γ} {Q : α → β → γ → Prop} (h : o = some (a, b, c)) (g : Q a b c) : W3 o Q := ⟨_, h, g⟩
theorem W3_of {α β γ : Type} {o : Option (α × β × γ)} {a : α} {b : β} {c : γ} (h : W3 o (fun x y z => x = a ∧ y = b ∧ z = c)) : o = some (a, b, c) := by
  obtain ⟨⟨x, y, z⟩, h1, h2, h3, h4⟩ := h; subst h2; subst h3; subst h4; exact h1
section
variable {α β : Type} {Q : α → Prop}
@[simp ↓] theorem Wp_some {a : α} : Wp (some a) Q = Q a := by simp [Wp]
@[simp ↓] theorem Wp_none : Wp (none : Option α) Q = False := by simp [Wp]
@[simp ↓] theorem Wp_bind {o : Option β} {f : β → Option α} : Wp (o.bind f) Q = Wp o (fun b => Wp (f b) Q) := by
  cases o <;> simp [Wp]
@[simp ↓] theorem Wp_map {o : Option β} {f : β → α} : Wp (o.map f) Q = Wp o (fun b => Q (f b)) := by
  cases o <;> simp [Wp]
@[simp ↓] theorem Wp_ite {c : Prop} [Decidable c] {x y : Option α} : Wp (if c then x else y) Q = Wif c (Wp x Q) (Wp y Q) := by
  by_cases h : c <;> simp [h, Wif]
end
/-! ### operands -/
def isV : ME → Bool
  | .var _ => true
  | _ => false
def borV (ρ : Rho) (i : Nat) : Option (Bor × Rho) :=
  match ρ[i]? with
  | some (.own (.tuple xs)) => some (.v (.tuple xs), ρ)
  | some (.own _) => some (.r i, ρ)
  | some (.dat d) => some (.v d, ρ)
  | _ => none
def putV (o : Option Slot) (f : PyData → Option PyData) : Option PyData :=
  match o with
  | some (.own x) => f x
  | _ => none
def intK (d : PyData) (k : Int → Prop) (u : Tg k := Tg.mk) : Prop :=
  match d with
  | .int i => k i
  | _ => False
def boolK (d : PyData) (k : Bool → Prop) (u : Tg k := Tg.mk) : Prop :=
  match d with
  | .bool b => k b
  | _ => False
@[simp] theorem intK_int {i : Int} {k} : intK (.int i) k = k i := rfl
@[simp] theorem boolK_bool {b : Bool} {k} : boolK (.bool b) k = k b := rfl
def slotK (o : Option Slot) (A B : PyData → Prop) (u : Tg A := Tg.mk) (v : Tg B := Tg.mk) : Prop :=
  match o with
  | some (.dat d) => A d
  | some (.own (.tuple xs)) => A (.tuple xs)
  | some (.own d) => B d
  | _ => False
@[simp] theorem slotK_dat {d A B} : slotK (some (.dat d)) A B = A d := rfl
@[simp] theorem slotK_ownT {d A B} : slotK (some (.own (.tuple d))) A B = A (.tuple d) := rfl
@[simp] theorem slotK_ownL {d A B} : slotK (some (.own (.list d))) A B = B (.list d) := rfl
@[simp] theorem slotK_ownD {d A B} : slotK (some (.own (.dict d))) A B = B (.dict d) := rfl
theorem slotK_own {d A B} (h : isTup d = false) : slotK (some (.own d)) A B = B d := by
  cases d <;> first | rfl | cases h
/-- as slotK, where a tuple of one's own will do -/
def slotL (o : Option Slot) (A B : PyData → Prop) (u : Tg A := Tg.mk) (v : Tg B := Tg.mk) : Prop :=
  match o with
  | some (.dat d) => A d
  | some (.own d) => B d
  | _ => False
@[simp] theorem slotL_dat {d A B} : slotL (some (.dat d)) A B = A d := rfl
@[simp] theorem slotL_own {d A B} : slotL (some (.own d)) A B = B d := rfl
@[simp ↓] theorem w_borV {ρ : Rho} {i : Nat} {Q} : W2 (borV ρ i) Q = slotK ρ[i]? (fun d => Q (.v d) ρ) (fun _ => Q (.r i) ρ) := by
  rcases h : ρ[i]? with _ | (_ | d | d) <;> (try cases d) <;> simp only [p2, borV, h, slotK, Wp0_some, Wp0_none]
@[simp ↓] theorem w_rdVar {ρ : Rho} {i : Nat} {Q} : W3 (rdVar ρ i) Q = slotK ρ[i]? (fun d => Q d false ρ) (fun d => Q d false (ρ.set i (.dat d))) := by
  rcases h : ρ[i]? with _ | (_ | d | d) <;> (try cases d) <;> simp only [p3, rdVar, h, slotK, Wp0_some, Wp0_none]
section
variable {F : Fns} {ρ : Rho} {Q : Bor → Rho → Prop} {ev : Rho → Option (PyData × Bool × Rho)}
@[simp ↓] theorem wB_var {i : Nat} : W2 (bor ev (.var i) ρ) Q = W2 (borV ρ i) Q := rfl
theorem wB_nv {m : ME} (h : isV m = false) : W2 (bor ev m ρ) Q = W3 (ev ρ) (fun xa xb xc => Q (.v xa) xc) := by
  cases m <;> first | (simp [isV] at h; done) | (simp only [pw, p2, p3, bor, Wp0_map])
@[simp ↓] theorem wB_lit {d} : W2 (bor ev (ME.lit d) ρ) Q = W3 (ev ρ) (fun xa xb xc => Q (.v xa) xc) := wB_nv rfl
@[simp ↓] theorem wB_bin {o a b} : W2 (bor ev (ME.bin o a b) ρ) Q = W3 (ev ρ) (fun xa xb xc => Q (.v xa) xc) := wB_nv rfl
@[simp ↓] theorem wB_neg {a} : W2 (bor ev (ME.neg a) ρ) Q = W3 (ev ρ) (fun xa xb xc => Q (.v xa) xc) := wB_nv rfl
@[simp ↓] theorem wB_cmp {o a b} : W2 (bor ev (ME.cmp o a b) ρ) Q = W3 (ev ρ) (fun xa xb xc => Q (.v xa) xc) := wB_nv rfl
@[simp ↓] theorem wB_cmp2 {o o2 a b c} : W2 (bor ev (ME.cmp2 o o2 a b c) ρ) Q = W3 (ev ρ) (fun xa xb xc => Q (.v xa) xc) := wB_nv rfl
@[simp ↓] theorem wB_isN {a} : W2 (bor ev (ME.isN a) ρ) Q = W3 (ev ρ) (fun xa xb xc => Q (.v xa) xc) := wB_nv rfl
@[simp ↓] theorem wB_notN {a} : W2 (bor ev (ME.notN a) ρ) Q = W3 (ev ρ) (fun xa xb xc => Q (.v xa) xc) := wB_nv rfl
@[simp ↓] theorem wB_ite {c a b} : W2 (bor ev (ME.ite c a b) ρ) Q = W3 (ev ρ) (fun xa xb xc => Q (.v xa) xc) := wB_nv rfl
@[simp ↓] theorem wB_call {f a} : W2 (bor ev (ME.call f a) ρ) Q = W3 (ev ρ) (fun xa xb xc => Q (.v xa) xc) := wB_nv rfl
@[simp ↓] theorem wB_bi {f a} : W2 (bor ev (ME.bi f a) ρ) Q = W3 (ev ρ) (fun xa xb xc => Q (.v xa) xc) := wB_nv rfl
@[simp ↓] theorem wB_idx {a b} : W2 (bor ev (ME.idx a b) ρ) Q = W3 (ev ρ) (fun xa xb xc => Q (.v xa) xc) := wB_nv rfl
@[simp ↓] theorem wB_sl {a b c} : W2 (bor ev (ME.sl a b c) ρ) Q = W3 (ev ρ) (fun xa xb xc => Q (.v xa) xc) := wB_nv rfl
@[simp ↓] theorem wB_tup {a} : W2 (bor ev (ME.tup a) ρ) Q = W3 (ev ρ) (fun xa xb xc => Q (.v xa) xc) := wB_nv rfl
@[simp ↓] theorem wB_lst {a} : W2 (bor ev (ME.lst a) ρ) Q = W3 (ev ρ) (fun xa xb xc => Q (.v xa) xc) := wB_nv rfl
@[simp ↓] theorem wB_dic : W2 (bor ev (ME.dic) ρ) Q = W3 (ev ρ) (fun xa xb xc => Q (.v xa) xc) := wB_nv rfl
@[simp ↓] theorem wB_comp {vs tg it c e} : W2 (bor ev (ME.comp vs tg it c e) ρ) Q = W3 (ev ρ) (fun xa xb xc => Q (.v xa) xc) := wB_nv rfl
@[simp ↓] theorem wB_comp2 {vs vs1 tg it c tg1 it1 c1 e} : W2 (bor ev (ME.comp2 vs vs1 tg it c tg1 it1 c1 e) ρ) Q = W3 (ev ρ) (fun xa xb xc => Q (.v xa) xc) := wB_nv rfl
@[simp ↓] theorem wB_callF {f a b} : W2 (bor ev (ME.callF f a b) ρ) Q = W3 (ev ρ) (fun xa xb xc => Q (.v xa) xc) := wB_nv rfl
@[simp ↓] theorem wB_callV {f a} : W2 (bor ev (ME.callV f a) ρ) Q = W3 (ev ρ) (fun xa xb xc => Q (.v xa) xc) := wB_nv rfl
@[simp ↓] theorem wB_callK {f l a} : W2 (bor ev (ME.callK f l a) ρ) Q = W3 (ev ρ) (fun xa xb xc => Q (.v xa) xc) := wB_nv rfl
@[simp ↓] theorem wB_met {m a e} : W2 (bor ev (ME.met m a e) ρ) Q = W3 (ev ρ) (fun xa xb xc => Q (.v xa) xc) := wB_nv rfl
@[simp ↓] theorem wB_gget {m a e} : W2 (bor ev (ME.gget m a e) ρ) Q = W3 (ev ρ) (fun xa xb xc => Q (.v xa) xc) := wB_nv rfl
@[simp ↓] theorem wB_join {z a} : W2 (bor ev (ME.join z a) ρ) Q = W3 (ev ρ) (fun xa xb xc => Q (.v xa) xc) := wB_nv rfl
@[simp ↓] theorem wB_dicT : W2 (bor ev (ME.dicT) ρ) Q = W3 (ev ρ) (fun xa xb xc => Q (.v xa) xc) := wB_nv rfl
@[simp ↓] theorem wB_sset {a} : W2 (bor ev (ME.sset a) ρ) Q = W3 (ev ρ) (fun xa xb xc => Q (.v xa) xc) := wB_nv rfl
@[simp ↓] theorem wB_cnt {a b} : W2 (bor ev (ME.cnt a b) ρ) Q = W3 (ev ρ) (fun xa xb xc => Q (.v xa) xc) := wB_nv rfl
@[simp ↓] theorem wB_pop {a} : W2 (bor ev (ME.pop a) ρ) Q = W3 (ev ρ) (fun xa xb xc => Q (.v xa) xc) := wB_nv rfl
@[simp ↓] theorem wB_popAt {a b} : W2 (bor ev (ME.popAt a b) ρ) Q = W3 (ev ρ) (fun xa xb xc => Q (.v xa) xc) := wB_nv rfl
@[simp ↓] theorem wB_isB {a b} : W2 (bor ev (ME.isB a b) ρ) Q = W3 (ev ρ) (fun xa xb xc => Q (.v xa) xc) := wB_nv rfl
@[simp ↓] theorem wB_ix {a b} : W2 (bor ev (ME.ix a b) ρ) Q = W3 (ev ρ) (fun xa xb xc => Q (.v xa) xc) := wB_nv rfl
@[simp ↓] theorem wB_nisB {a b} : W2 (bor ev (ME.nisB a b) ρ) Q = W3 (ev ρ) (fun xa xb xc => Q (.v xa) xc) := wB_nv rfl
@[simp ↓] theorem wB_disp {ks a} : W2 (bor ev (ME.disp ks a) ρ) Q = W3 (ev ρ) (fun xa xb xc => Q (.v xa) xc) := wB_nv rfl
@[simp ↓] theorem wB_dget {a b c} : W2 (bor ev (ME.dget a b c) ρ) Q = W3 (ev ρ) (fun xa xb xc => Q (.v xa) xc) := wB_nv rfl
@[simp ↓] theorem wB_lset {a} : W2 (bor ev (ME.lset a) ρ) Q = W3 (ev ρ) (fun xa xb xc => Q (.v xa) xc) := wB_nv rfl
@[simp ↓] theorem wB_rev {a} : W2 (bor ev (ME.rev a) ρ) Q = W3 (ev ρ) (fun xa xb xc => Q (.v xa) xc) := wB_nv rfl
@[simp ↓] theorem wB_cv {a b} : W2 (bor ev (ME.cv a b) ρ) Q = W3 (ev ρ) (fun xa xb xc => Q (.v xa) xc) := wB_nv rfl
@[simp ↓] theorem wB_not {a} : W2 (bor ev (ME.not a) ρ) Q = W3 (ev ρ) (fun xa xb xc => Q (.v xa) xc) := wB_nv rfl
@[simp ↓] theorem wB_and {a b} : W2 (bor ev (ME.and a b) ρ) Q = W3 (ev ρ) (fun xa xb xc => Q (.v xa) xc) := wB_nv rfl
@[simp ↓] theorem wB_or {a b} : W2 (bor ev (ME.or a b) ρ) Q = W3 (ev ρ) (fun xa xb xc => Q (.v xa) xc) := wB_nv rfl
end
@[simp ↓] theorem wG_v {ρ : Rho} {d : PyData} {Q : PyData → Prop} : Wp (Bor.get ρ (.v d)) Q = Q d := by simp [Bor.get]
@[simp ↓] theorem wG_r {ρ : Rho} {i : Nat} {Q : PyData → Prop} : Wp (Bor.get ρ (.r i)) Q = slotK ρ[i]? Q Q := by
  rcases h : ρ[i]? with _ | (_ | d | d) <;> (try cases d) <;> simp only [pw, Bor.get, getR, h, slotK, Slot.get, Option.bind_some, Option.bind_none, Wp0_some, Wp0_none]
@[simp] theorem sget_dat {d : PyData} : Slot.get (.dat d) = some d := rfl
@[simp] theorem sget_ownL {d} : Slot.get (.own (.list d)) = some (.list d) := rfl
@[simp] theorem sget_ownD {d} : Slot.get (.own (.dict d)) = some (.dict d) := rfl
section
variable {F : Fns} {ρ : Rho} {Q : PyData → Bool → Rho → Prop}
@[simp ↓] theorem wE_lit {d : PyData} : W3 (evE F (.lit d) ρ) Q = Q d false ρ := by simp only [p3, evE, Wp0_some]
@[simp ↓] theorem wE_var {i : Nat} : W3 (evE F (.var i) ρ) Q = W3 (rdVar ρ i) Q := by simp only [p3, evE]
@[simp ↓] theorem wE_bin {op a b} : W3 (evE F (.bin op a b) ρ) Q = W2 (bor (evE F a) a ρ) fun xa xb => W2 (bor (evE F b) b xb) fun ya yb =>
    Wp (xa.get yb) fun d => Wp (ya.get yb) fun e => W2 (binD op d e) fun za zb => Q za zb yb := by simp only [pw, p2, p3, pif, evE, Wp0_bind, Wp0_map, Wp0_ite, Wp0_some, Wp0_none]
@[simp ↓] theorem wE_neg {a} : W3 (evE F (.neg a) ρ) Q = W3 (evE F a ρ) fun xa xb xc => intK xa fun i => Q (.int (-i)) false xc := by
  simp only [pw, p2, p3, pif, evE, Wp0_bind]; refine congrArg _ (funext fun x => ?_); rcases x with ⟨d, b, r⟩; cases d <;> simp only [pw, p2, p3, pif, intK, Wp0_ite, Wp0_some, Wp0_none, Wp0_map, Wp0_bind, Bool.or_eq_true, Bool.and_eq_true, Bool.not_eq_true']
@[simp ↓] theorem wE_not {a} : W3 (evE F (.not a) ρ) Q = W3 (evE F a ρ) fun xa xb xc => boolK xa fun b => Q (.bool (!b)) false xc := by
  simp only [pw, p2, p3, pif, evE, Wp0_bind]; refine congrArg _ (funext fun x => ?_); rcases x with ⟨d, b, r⟩; cases d <;> simp only [boolK, Wp0_some, Wp0_none]
@[simp ↓] theorem wE_and {a b} : W3 (evE F (.and a b) ρ) Q = W3 (evE F a ρ) fun xa xb xc => boolK xa fun t => Wif (t = true) (W3 (evE F b xc) Q) (Q (.bool false) false xc) := by
  simp only [pw, p2, p3, pif, evE, Wp0_bind]; refine congrArg _ (funext fun x => ?_); rcases x with ⟨d, c, r⟩; cases d <;> simp only [boolK, Wp0_none]
  rename_i t; cases t <;> simp [Wif0, Wp0_some]
@[simp ↓] theorem wE_or {a b} : W3 (evE F (.or a b) ρ) Q = W3 (evE F a ρ) fun xa xb xc => boolK xa fun t => Wif (t = true) (Q (.bool true) false xc) (W3 (evE F b xc) Q) := by
  simp only [pw, p2, p3, pif, evE, Wp0_bind]; refine congrArg _ (funext fun x => ?_); rcases x with ⟨d, c, r⟩; cases d <;> simp only [boolK, Wp0_none]
  rename_i t; cases t <;> simp [Wif0, Wp0_some]
@[simp ↓] theorem wE_cmp {op a b} : W3 (evE F (.cmp op a b) ρ) Q = W2 (bor (evE F a) a ρ) fun xa xb => W2 (bor (evE F b) b xb) fun ya yb =>
    Wp (xa.get yb) fun d => Wp (ya.get yb) fun e => Wp (cmpD op d e) fun z => Q (.bool z) false yb := by simp only [pw, p2, p3, pif, evE, Wp0_bind, Wp0_map, Wp0_ite, Wp0_some, Wp0_none]
@[simp ↓] theorem wE_cmp2 {op op' a b c} : W3 (evE F (.cmp2 op op' a b c) ρ) Q = W2 (bor (evE F a) a ρ) fun xa xb => W2 (bor (evE F b) b xb) fun ya yb =>
    Wp (xa.get yb) fun d => Wp (ya.get yb) fun e => Wp (cmpD op d e) fun z => Wif (z = true) (W2 (bor (evE F c) c yb) fun wa wb =>
      Wp (ya.get wb) fun e3 => Wp (wa.get wb) fun f => Wp (cmpD op' e3 f) fun z' => Q (.bool z') false wb) (Q (.bool false) false yb) := by
  simp only [pw, p2, p3, pif, evE, Wp0_bind, Wp0_map, Wp0_ite, Wp0_some, Wp0_none]
@[simp ↓] theorem wE_isN {a} : W3 (evE F (.isN a) ρ) Q = W2 (bor (evE F a) a ρ) fun xa xb => Wp (xa.get xb) fun d => Q (.bool (isNone d)) false xb := by
  simp only [pw, p2, p3, pif, evE, Wp0_bind, Wp0_map, Wp0_ite, Wp0_some, Wp0_none]
@[simp ↓] theorem wE_notN {a} : W3 (evE F (.notN a) ρ) Q = W2 (bor (evE F a) a ρ) fun xa xb => Wp (xa.get xb) fun d => Q (.bool (!isNone d)) false xb := by
  simp only [pw, p2, p3, pif, evE, Wp0_bind, Wp0_map, Wp0_ite, Wp0_some, Wp0_none]
@[simp ↓] theorem wE_ite {c a b} : W3 (evE F (.ite c a b) ρ) Q = W2 (evT F c ρ) fun xa xb => Wif (xa = true) (W3 (evE F a xb) Q) (W3 (evE F b xb) Q) := by
  simp only [pw, p2, p3, pif, evE, Wp0_bind, Wp0_map, Wp0_ite, Wp0_some, Wp0_none]
def lookV (d : PyData) (fr : Bool) : Bool := flat d && !fr
@[simp] theorem lookV_i {i} : lookV (.int i) false = true := rfl
@[simp] theorem lookV_b {i} : lookV (.bool i) false = true := rfl
@[simp] theorem lookV_n : lookV .none false = true := rfl
def strongV (d : PyData) (fr : Bool) : Bool := fr && isTup d
@[simp] theorem strongV_f {d} : strongV d false = false := rfl
@[simp] theorem strongV_l {d fr} : strongV (.list d) fr = false := by cases fr <;> rfl
@[simp] theorem strongV_d {d fr} : strongV (.dict d) fr = false := by cases fr <;> rfl
@[simp ↓] theorem wE_call {f as} : W3 (evE F (.call f as) ρ) Q = W2 (evL F as ρ) fun xa xb => W2 (lend xb xa) fun ya yb => W3 (F f ya) fun za zb zc => Wp (back yb xa ya zc) fun r => Q za zb r := by
  simp only [pw, p2, p3, pif, evE, strongV, Wp0_bind, Wp0_map, Wp0_ite, Wp0_some, Wp0_none]
@[simp ↓] theorem wE_callF {f a as} : W3 (evE F (.callF f a as) ρ) Q = W3 (evE F a ρ) fun wa wb wc => Wif (wb = true) (W2 (evL F as wc) fun xa xb => W2 (lend xb xa) fun ya yb => Wif (ya.all (fun x => !x.2) = true) (W3 (F f ((wa, true) :: ya)) fun za zb zc => Wif (strongV za zb = true) False (Q za zb yb)) False) False := by
  simp only [pw, p2, p3, pif, evE, strongV, Wp0_bind, Wp0_map, Wp0_ite, Wp0_some, Wp0_none]
@[simp ↓] theorem wE_callV {f as} : W3 (evE F (.callV f as) ρ) Q = W2 (evL F as ρ) fun xa xb => Wp (getAll xb xa) fun ds => W3 (F f (ds.map fun d => (d, false))) fun za zb zc => Wif (lookV za zb = true) (Q za false xb) False := by
  simp only [pw, p2, p3, pif, evE, lookV, Wp0_bind, Wp0_map, Wp0_ite, Wp0_some, Wp0_none]
@[simp ↓] theorem wE_callK {f l as} : W3 (evE F (.callK f l as) ρ) Q = W2 (evA F as ρ) fun xa xb => Wif (xa.length = l.length) (W3 (F f ((permL l xa).map fun d => (d, false))) fun za zb zc => Wif (zb = true) False (Q za false xb)) False := by
  simp only [pw, p2, p3, pif, evE, Wp0_bind, Wp0_map, Wp0_ite, Wp0_some, Wp0_none]
@[simp ↓] theorem wE_bi {b as} : W3 (evE F (.bi b as) ρ) Q = W2 (evL F as ρ) fun xa xb => Wp (getAll xb xa) fun ds => W2 (biD b ds) fun za zb => Q za zb xb := by
  simp only [pw, p2, p3, pif, evE, Wp0_bind, Wp0_map, Wp0_ite, Wp0_some, Wp0_none]
@[simp ↓] theorem wE_idx {a i} : W3 (evE F (.idx a i) ρ) Q = W2 (bor (evE F a) a ρ) fun xa xb => W3 (evE F i xb) fun ya yb yc => Wp (xa.get yc) fun d => Wp (idxD d ya) fun z => Q z false yc := by
  simp only [pw, p2, p3, pif, evE, Wp0_bind, Wp0_map, Wp0_ite, Wp0_some, Wp0_none]
@[simp ↓] theorem wE_sl {a lo hi} : W3 (evE F (.sl a lo hi) ρ) Q = W2 (bor (evE F a) a ρ) fun xa xb => W2 (evO F lo xb) fun ya yb => W2 (evO F hi yb) fun wa wb => Wp (xa.get wb) fun d => W2 (slD d ya wa) fun za zb => Q za zb wb := by
  simp only [pw, p2, p3, pif, evE, Wp0_bind, Wp0_map, Wp0_ite, Wp0_some, Wp0_none]
@[simp ↓] theorem wE_tup {as} : W3 (evE F (.tup as) ρ) Q = W2 (evA F as ρ) fun xa xb => Wif (xa.length ≤ sizeLine) (Q (.tuple xa) false xb) False := by
  simp only [pw, p2, p3, pif, evE, Wp0_bind, Wp0_map, Wp0_ite, Wp0_some, Wp0_none]
@[simp ↓] theorem wE_lst {as} : W3 (evE F (.lst as) ρ) Q = W2 (evA F as ρ) fun xa xb => Wif (xa.length ≤ sizeLine) (Q (.list xa) true xb) False := by
  simp only [pw, p2, p3, pif, evE, Wp0_bind, Wp0_map, Wp0_ite, Wp0_some, Wp0_none]
@[simp ↓] theorem wE_dicT : W3 (evE F .dicT ρ) Q = Q (.dict [tMark]) true ρ := by simp only [pw, p2, p3, pif, evE, Wp0_bind, Wp0_map, Wp0_ite, Wp0_some, Wp0_none]
@[simp ↓] theorem wE_dic : W3 (evE F .dic ρ) Q = Q (.dict []) true ρ := by simp only [pw, p2, p3, pif, evE, Wp0_bind, Wp0_map, Wp0_ite, Wp0_some, Wp0_none]
def popK (o : Option Slot) (k : List PyData → Prop) (u : Tg k := Tg.mk) : Prop :=
  match o with
  | some (.own (.list xs)) => k xs
  | _ => False
@[simp] theorem popK_own {xs k} : popK (some (.own (.list xs))) k = k xs := rfl
@[simp] theorem cntK_ol {xs} : cntK (some (.own (.list xs))) = some true := rfl
@[simp] theorem cntK_ot {xs} : cntK (some (.own (.tuple xs))) = some false := rfl
@[simp] theorem cntK_dl {xs} : cntK (some (.dat (.list xs))) = some true := rfl
@[simp] theorem seqS_ol {xs} : seqS (some (.own (.list xs))) = some xs := rfl
@[simp] theorem seqS_ot {xs} : seqS (some (.own (.tuple xs))) = some xs := rfl
@[simp] theorem seqS_dl {xs} : seqS (some (.dat (.list xs))) = some xs := rfl
@[simp ↓] theorem wE_cnt {i e} : W3 (evE F (.cnt i e) ρ) Q = Wp (cntK ρ[i]?) fun k => W3 (evE F e ρ) fun xa xb xc => Wif (cntK xc[i]? = some k) (Wp (seqS xc[i]?) fun xs => Wp (cntD xs xa) fun z => Q z false xc) False := by
  simp only [pw, p2, p3, pif, evE, Wp0_bind, Wp0_map, Wp0_ite, Wp0_some, Wp0_none]
@[simp ↓] theorem wE_met {m a e} : W3 (evE F (.met m a e) ρ) Q = W3 (evE F a ρ) fun xa xb xc => W3 (evE F e xc) fun ya yb yc => W2 (metD m xa ya) fun z fr => Q z fr yc := by
  simp only [pw, p2, p3, pif, evE, Wp0_bind, Wp0_map, Wp0_ite, Wp0_some, Wp0_none]
@[simp ↓] theorem wE_gget {es k e} : W3 (evE F (.gget es k e) ρ) Q = W3 (evE F k ρ) fun xa xb xc => W3 (evE F e xc) fun ya yb yc => Wp (ggetD es xa ya) fun z => Q z false yc := by
  simp only [pw, p2, p3, pif, evE, Wp0_bind, Wp0_map, Wp0_ite, Wp0_some, Wp0_none]
@[simp ↓] theorem wE_pop {i} : W3 (evE F (.pop i) ρ) Q = popK ρ[i]? fun xs => Wp (xs[xs.length - 1]?) fun d => Q d false (ρ.set i (.own (.list xs.dropLast))) := by
  rcases h : ρ[i]? with _ | (_ | d | d) <;> simp only [pw, p2, p3, pif, evE, h, popK, Wp0_bind, Wp0_map, Wp0_ite, Wp0_some, Wp0_none]
  cases d <;> simp only [pw, p2, p3, pif, evE, popK, Wp0_bind, Wp0_map, Wp0_ite, Wp0_some, Wp0_none]
@[simp ↓] theorem wE_popAt {i e} : W3 (evE F (.popAt i e) ρ) Q = Wif (isOwnL ρ[i]? = true) (W3 (evE F e ρ) fun xa xb xc => intK xa fun k => popK xc[i]? fun xs => Wif (lineI k = true) (Wp (ixOf xs.length k) fun j => Wp (xs[j]?) fun z => Q z false (xc.set i (.own (.list (xs.eraseIdx j))))) False) False := by
  simp only [evE, pw, p2, p3, pif, Wp0_ite, Wp0_some, Wp0_none, Wp0_map, Wp0_bind]; refine congrArg (fun z => Wif0 _ z _) (congrArg _ (funext fun x => ?_))
  rcases x with ⟨d, b, r⟩
  rcases h : r[i]? with _ | (_ | y | y) <;> cases d <;> simp only [h, intK, popK, pw, pif, Wp0_ite, Wp0_some, Wp0_none, Wp0_map, Wp0_bind]
  cases y <;> simp only [popK, pw, pif, Wp0_ite, Wp0_some, Wp0_none, Wp0_map, Wp0_bind]
@[simp ↓] theorem wE_isB {b a} : W3 (evE F (.isB b a) ρ) Q = W3 (evE F a ρ) fun xa xb xc => boolK xa fun t => Q (.bool (decide (t = b))) false xc := by
  simp only [pw, p2, p3, pif, evE, Wp0_bind]; refine congrArg _ (funext fun x => ?_); rcases x with ⟨d, c, r⟩; cases d <;> simp only [boolK, Wp0_some, Wp0_none]
@[simp ↓] theorem wE_cv {t it} : W3 (evE F (.cv t it) ρ) Q = W2 (evI F it ρ) fun xa xb => Wif (xa.length ≤ 65536) (Wif (t = true) (Q (.tuple xa) false xb) (Q (.list xa) true xb)) False := by
  simp only [pw, p2, p3, pif, evE, Wp0_bind, Wp0_map, Wp0_ite, Wp0_some, Wp0_none]
def lstK (d : PyData) (k : List PyData → Prop) (u : Tg k := Tg.mk) : Prop :=
  match d with
  | .list x => k x
  | _ => False
@[simp] theorem lstK_l {x k} : lstK (.list x) k = k x := rfl
@[simp ↓] theorem wE_join {z a} : W3 (evE F (.join z a) ρ) Q = W2 (bor (evE F a) a ρ) fun xa xb => Wp (xa.get xb) fun d => lstK d fun xs => Wp (strsOf xs) fun ys => Wif ((ys.map (·.length)).sum + ys.length * z.length ≤ 16777216) (Q (.str (PySem.Str.join z ys)) false xb) False := by
  simp only [pw, p2, p3, pif, evE, Wp0_bind]; refine congrArg _ (funext fun x => congrArg _ (funext fun d => ?_)); cases d <;> simp only [lstK, pw, pif, Wp0_bind, Wp0_ite, Wp0_some, Wp0_none]
def ltK (d : PyData) (k k' : List PyData → Prop) (u : Tg k := Tg.mk) (u' : Tg k' := Tg.mk) : Prop :=
  match d with
  | .list x => k x
  | .tuple x => k' x
  | _ => False
@[simp] theorem ltK_l {x k k'} : ltK (.list x) k k' = k x := rfl
@[simp] theorem ltK_t {x k k'} : ltK (.tuple x) k k' = k' x := rfl
@[simp ↓] theorem wE_rev {a} : W3 (evE F (.rev a) ρ) Q = W2 (bor (evE F a) a ρ) fun xa xb => Wp (xa.get xb) fun d => ltK d (fun xs => Q (.list xs.reverse) true xb) (fun xs => Q (.tuple xs.reverse) false xb) := by
  simp only [pw, p2, p3, pif, evE, Wp0_bind]; refine congrArg _ (funext fun x => congrArg _ (funext fun d => ?_)); cases d <;> simp only [ltK, Wp0_some, Wp0_none]
@[simp ↓] theorem wE_sset {a} : W3 (evE F (.sset a) ρ) Q = W2 (bor (evE F a) a ρ) fun xa xb => Wp (xa.get xb) fun d => ltK d (fun xs => Wp (intsOf xs) fun ns => Wif (ns.length < 4000 ∧ (setI ns).length < 64) (Q (.list ((setI ns).map .int)) true xb) False) (fun xs => Wp (intsOf xs) fun ns => Wif (ns.length < 4000 ∧ (setI ns).length < 64) (Q (.list ((setI ns).map .int)) true xb) False) := by
  simp only [pw, p2, p3, pif, evE, Wp0_bind]; refine congrArg _ (funext fun x => congrArg _ (funext fun d => ?_)); cases d <;> simp only [ltK, pw, pif, Wp0_bind, Wp0_ite, Wp0_some, Wp0_none]
@[simp ↓] theorem wE_lset {a} : W3 (evE F (.lset a) ρ) Q = W2 (bor (evE F a) a ρ) fun xa xb => Wp (xa.get xb) fun d => lstK d fun xs => Wp (intsOf xs) fun ns => Wif (ns.length < 64 ∧ ns.Nodup) (Q (.int ns.length) false xb) False := by
  simp only [pw, p2, p3, pif, evE, Wp0_bind]; refine congrArg _ (funext fun x => congrArg _ (funext fun d => ?_)); cases d <;> simp only [lstK, pw, pif, Wp0_bind, Wp0_ite, Wp0_some, Wp0_none]
@[simp ↓] theorem wE_disp {ks a} : W3 (evE F (.disp ks a) ρ) Q = W2 (evA F a ρ) fun xa xb => Wif (xa.length = ks.length) (Q (.dict ((ks.zip xa).foldl (fun acc p => dPut acc (.int p.1) p.2) [])) true xb) False := by
  simp only [pw, p2, p3, pif, evE, Wp0_bind, Wp0_map, Wp0_ite, Wp0_some, Wp0_none]
@[simp ↓] theorem wE_dget {a b c} : W3 (evE F (.dget a b c) ρ) Q = W2 (bor (evE F a) a ρ) fun xa xb => Wp (xa.get xb) fun d1 => Wif (isDK d1 = true) (W3 (evE F b xb) fun ka kb kc => W3 (evE F c kc) fun ea eb ec => Wp (xa.get ec) fun d => Wp (getD d ka ea) fun z => Q z false ec) False := by
  simp only [pw, p2, p3, pif, evE, Wp0_bind, Wp0_map, Wp0_ite, Wp0_some, Wp0_none]
@[simp ↓] theorem wE_nisB {b a} : W3 (evE F (.nisB b a) ρ) Q = W3 (evE F a ρ) fun xa xb xc => boolK xa fun t => Q (.bool (!decide (t = b))) false xc := by
  simp only [pw, p2, p3, pif, evE, Wp0_bind]; refine congrArg _ (funext fun x => ?_); rcases x with ⟨d, c, r⟩; cases d <;> simp only [boolK, Wp0_some, Wp0_none]
@[simp ↓] theorem wE_ix {i e} : W3 (evE F (.ix i e) ρ) Q = Wif (cntK ρ[i]? = some true) (W3 (evE F e ρ) fun xa xb xc => Wif (cntK xc[i]? = some true) (Wp (seqS xc[i]?) fun xs => Wp (ixD xs xa) fun z => Q z false xc) False) False := by
  simp only [pw, p2, p3, pif, evE, Wp0_bind, Wp0_map, Wp0_ite, Wp0_some, Wp0_none]
/-- the turn of a comprehension -/
def cturn (F : Fns) (c e : ME) (ρ : Rho) (acc : List PyData) : Option (Rho × List PyData) :=
  (evT F c ρ).bind fun x => if x.1 then (evE F e x.2).bind fun y => if acc.length < sizeLine then some (y.2.2, acc ++ [y.1]) else none else some (x.2, acc)
@[simp ↓] theorem wE_comp {vs tg it c e} : W3 (evE F (.comp vs tg it c e) ρ) Q = W2 (evI F it ρ) fun xa xb =>
    W2 (turns tg (cturn F c e) vs xa (wipeR xb vs) []) fun ya yb => Q (.list yb) true ya := by
  simp only [pw, p2, p3, pif, evE, Wp0_bind, Wp0_map, Wp0_ite, Wp0_some, Wp0_none]; rfl
@[simp ↓] theorem wE_comp2 {vs vs1 tg it c tg1 it1 c1 e} : W3 (evE F (.comp2 vs vs1 tg it c tg1 it1 c1 e) ρ) Q = W2 (evI F it ρ) fun xa xb =>
    W2 (turns tg (fun ρ acc => (evT F c ρ).bind fun t => if t.1 then (evI F it1 t.2).bind fun y => turns tg1 (cturn F c1 e) vs1 y.1 (wipeR y.2 vs1) acc else some (t.2, acc)) vs xa (wipeR xb vs) [])
      fun ya yb => Q (.list yb) true ya := by
  simp only [pw, p2, p3, pif, evE, Wp0_bind, Wp0_map, Wp0_ite, Wp0_some, Wp0_none]; rfl
@[simp ↓] theorem wturn {c e acc} {Q : Rho → List PyData → Prop} : W2 (cturn F c e ρ acc) Q = W2 (evT F c ρ) fun xa xb => Wif (xa = true) (W3 (evE F e xb) fun ya yb yc => Wif (acc.length < sizeLine) (Q yc (acc ++ [ya])) False) (Q xb acc) := by
  simp only [pw, p2, p3, pif, cturn, Wp0_bind, Wp0_map, Wp0_ite, Wp0_some, Wp0_none]
end
section
variable {F : Fns} {ρ : Rho} {Q : Bool → Rho → Prop}
@[simp ↓] theorem wT_not {a} : W2 (evT F (.not a) ρ) Q = W2 (evT F a ρ) fun xa xb => Q (!xa) xb := by simp only [pw, p2, p3, pif, evT, Wp0_bind, Wp0_map, Wp0_ite, Wp0_some, Wp0_none]
@[simp ↓] theorem wT_and {a b} : W2 (evT F (.and a b) ρ) Q = W2 (evT F a ρ) fun xa xb => Wif (xa = true) (W2 (evT F b xb) Q) (Q false xb) := by
  simp only [pw, p2, p3, pif, evT, Wp0_bind, Wp0_map, Wp0_ite, Wp0_some, Wp0_none]
@[simp ↓] theorem wT_or {a b} : W2 (evT F (.or a b) ρ) Q = W2 (evT F a ρ) fun xa xb => Wif (xa = true) (Q true xb) (W2 (evT F b xb) Q) := by
  simp only [pw, p2, p3, pif, evT, Wp0_bind, Wp0_map, Wp0_ite, Wp0_some, Wp0_none]
@[simp ↓] theorem wT_nil : W2 (evT F .nil ρ) Q = Q true ρ := by simp only [pw, p2, p3, pif, evT, Wp0_bind, Wp0_map, Wp0_ite, Wp0_some, Wp0_none]
@[simp ↓] theorem wT_tst {a} : W2 (evT F (.tst a) ρ) Q = W2 (bor (evE F a) a ρ) fun xa xb => Wp (xa.get xb) fun d => Wp (truthD d) fun b => Q b xb := by
  simp only [pw, p2, p3, pif, evT, Wp0_bind, Wp0_map, Wp0_ite, Wp0_some, Wp0_none]
end
@[simp ↓] theorem wL_nil {F ρ Q} : W2 (evL F .nil ρ) Q = Q [] ρ := by simp only [pw, p2, p3, pif, evL, Wp0_bind, Wp0_map, Wp0_ite, Wp0_some, Wp0_none]
@[simp ↓] theorem wL_cons {F ρ Q a r} : W2 (evL F (.cons a r) ρ) Q = W2 (bor (evE F a) a ρ) fun xa xb => W2 (evL F r xb) fun ya yb => Q (xa :: ya) yb := by
  simp only [pw, p2, p3, pif, evL, Wp0_bind, Wp0_map, Wp0_ite, Wp0_some, Wp0_none]
@[simp ↓] theorem wA_nil {F ρ Q} : W2 (evA F .nil ρ) Q = Q [] ρ := by simp only [pw, p2, p3, pif, evA, Wp0_bind, Wp0_map, Wp0_ite, Wp0_some, Wp0_none]
@[simp ↓] theorem wA_cons {F ρ Q a r} : W2 (evA F (.cons a r) ρ) Q = W3 (evE F a ρ) fun xa xb xc => W2 (evA F r xc) fun ya yb => Q (xa :: ya) yb := by
  simp only [pw, p2, p3, pif, evA, Wp0_bind, Wp0_map, Wp0_ite, Wp0_some, Wp0_none]
@[simp ↓] theorem wA_star {F ρ Q a r} : W2 (evA F (.star a r) ρ) Q = W3 (evE F a ρ) fun xa xb xc => Wp (starOf xa) fun es => W2 (evA F r xc) fun ya yb => Q (es ++ ya) yb := by
  simp only [pw, p2, p3, pif, evA, Wp0_bind, Wp0_map, Wp0_ite, Wp0_some, Wp0_none]
@[simp ↓] theorem wO_nil {F ρ Q} : W2 (evO F .nil ρ) Q = Q none ρ := by simp only [pw, p2, p3, pif, evO, Wp0_bind, Wp0_map, Wp0_ite, Wp0_some, Wp0_none]
@[simp ↓] theorem wO_cons {F ρ Q a r} : W2 (evO F (.cons a r) ρ) Q = W3 (evE F a ρ) fun xa xb xc => intK xa fun i => Q (some i) xc := by
  simp only [pw, p2, p3, pif, evO, Wp0_bind]; refine congrArg _ (funext fun x => ?_); rcases x with ⟨d, b, r⟩; cases d <;> simp only [pw, p2, p3, pif, intK, Wp0_ite, Wp0_some, Wp0_none, Wp0_map, Wp0_bind, Bool.or_eq_true, Bool.and_eq_true, Bool.not_eq_true']
section
variable {F : Fns} {ρ : Rho} {Q : List PyData → Rho → Prop}
@[simp ↓] theorem wI_rng1 {a} : W2 (evI F (.rng1 a) ρ) Q = W3 (evE F a ρ) fun xa xb xc => intK xa fun i => Wif (lineI i = true) (Q (rangeD 0 i) xc) False := by
  simp only [pw, p2, p3, pif, evI, Wp0_bind]; refine congrArg _ (funext fun x => ?_); rcases x with ⟨d, b, r⟩; cases d <;> simp only [pw, p2, p3, pif, intK, Wp0_ite, Wp0_some, Wp0_none, Wp0_map, Wp0_bind, Bool.or_eq_true, Bool.and_eq_true, Bool.not_eq_true']
@[simp ↓] theorem wI_rng2 {a b} : W2 (evI F (.rng2 a b) ρ) Q = W3 (evE F a ρ) fun xa xb xc => W3 (evE F b xc) fun ya yb yc => intK xa fun i => intK ya fun j => Wif (lineI i = true ∧ lineI j = true) (Q (rangeD i j) yc) False := by
  simp only [pw, p2, p3, pif, evI, Wp0_bind]; refine congrArg _ (funext fun x => congrArg _ (funext fun y => ?_)); rcases x with ⟨d, b, r⟩; rcases y with ⟨e, b', r'⟩
  cases d <;> cases e <;> simp only [pw, p2, p3, pif, intK, Wp0_ite, Wp0_some, Wp0_none, Wp0_map, Wp0_bind, Bool.or_eq_true, Bool.and_eq_true, Bool.not_eq_true']
def zipK : PyData → PyData → Option (List PyData)
  | .list xs, .list ys => some ((xs.zip ys).map fun p => .tuple [p.1, p.2])
  | .tuple xs, .tuple ys => some ((xs.zip ys).map fun p => .tuple [p.1, p.2])
  | .tuple xs, .list ys => some ((xs.zip ys).map fun p => .tuple [p.1, p.2])
  | _, _ => none
@[simp ↓] theorem wI_zp {a b} : W2 (evI F (.zp a b) ρ) Q = W3 (evE F a ρ) fun xa xb xc => W3 (evE F b xc) fun ya yb yc => Wp (zipK xa ya) fun zs => Q zs yc := by
  simp only [pw, p2, p3, pif, evI, Wp0_bind]; refine congrArg _ (funext fun x => congrArg _ (funext fun y => ?_)); rcases x with ⟨d, b, r⟩; rcases y with ⟨e, b', r'⟩
  cases d <;> cases e <;> simp only [pw, p2, p3, pif, zipK, Wp0_ite, Wp0_some, Wp0_none, Wp0_map, Wp0_bind, Bool.or_eq_true, Bool.and_eq_true, Bool.not_eq_true']
def enmK : PyData → Option (List PyData)
  | .list xs => some (xs.zipIdx.map fun p => .tuple [.int p.2, p.1])
  | .tuple xs => some (xs.zipIdx.map fun p => .tuple [.int p.2, p.1])
  | _ => none
@[simp ↓] theorem wI_rng3 {a b c} : W2 (evI F (.rng3 a b c) ρ) Q = W3 (evE F a ρ) fun xa xb xc => W3 (evE F b xc) fun ya yb yc => W3 (evE F c yc) fun za zb zc => intK xa fun i => intK ya fun j => intK za fun k => Wif (lineI i = true ∧ lineI j = true ∧ 0 < k ∧ k < 1000000) (Q (rangeC i j k) zc) False := by
  simp only [pw, p2, p3, pif, evI, Wp0_bind]; refine congrArg _ (funext fun x => congrArg _ (funext fun y => congrArg _ (funext fun z => ?_))); rcases x with ⟨d, b, r⟩; rcases y with ⟨e, b', r'⟩; rcases z with ⟨f, b'', r''⟩
  cases d <;> cases e <;> cases f <;> simp only [pw, p2, p3, pif, intK, Wp0_ite, Wp0_some, Wp0_none, Wp0_map, Wp0_bind, Bool.or_eq_true, Bool.and_eq_true, Bool.not_eq_true', decide_eq_true_eq, and_assoc]
def zip3K : PyData → PyData → PyData → Option (List PyData)
  | .tuple xs, .tuple ys, .tuple zs => some (((xs.zip ys).zip zs).map fun p => .tuple [p.1.1, p.1.2, p.2])
  | _, _, _ => none
@[simp ↓] theorem wI_zp3 {a b c} : W2 (evI F (.zp3 a b c) ρ) Q = W3 (evE F a ρ) fun xa xb xc => W3 (evE F b xc) fun ya yb yc => W3 (evE F c yc) fun za zb zc => Wp (zip3K xa ya za) fun zs => Q zs zc := by
  simp only [pw, p2, p3, pif, evI, Wp0_bind]; refine congrArg _ (funext fun x => congrArg _ (funext fun y => congrArg _ (funext fun z => ?_))); rcases x with ⟨d, b, r⟩; rcases y with ⟨e, b', r'⟩; rcases z with ⟨f, b'', r''⟩
  cases d <;> cases e <;> cases f <;> simp only [pw, p2, p3, pif, zip3K, Wp0_ite, Wp0_some, Wp0_none, Wp0_map, Wp0_bind]
@[simp ↓] theorem wI_enm {a} : W2 (evI F (.enm a) ρ) Q = W3 (evE F a ρ) fun xa xb xc => Wp (enmK xa) fun zs => Q zs xc := by
  simp only [pw, p2, p3, pif, evI, Wp0_bind]; refine congrArg _ (funext fun x => ?_); rcases x with ⟨d, b, r⟩; cases d <;> simp only [enmK, Wp0_some, Wp0_none]
@[simp ↓] theorem wI_it {a} : W2 (evI F (.it a) ρ) Q = W3 (evE F a ρ) fun xa xb xc => Wp (seqOf xa) fun zs => Q zs xc := by
  simp only [pw, p2, p3, pif, evI, Wp0_bind, Wp0_map, Wp0_ite, Wp0_some, Wp0_none]
end
/-! ### values -/
section
variable {Q : PyData → Bool → Prop} {a b : Int}
@[simp ↓] theorem wD_add : W2 (binD .add (.int a) (.int b)) Q = Q (.int (a + b)) false := by simp only [pw, p2, p3, pif, binD, Wp0_ite, Wp0_some, Wp0_none, Wp0_map, Wp0_bind, Bool.or_eq_true, Bool.and_eq_true, Bool.not_eq_true']
@[simp ↓] theorem wD_sub : W2 (binD .sub (.int a) (.int b)) Q = Q (.int (a - b)) false := by simp only [pw, p2, p3, pif, binD, Wp0_ite, Wp0_some, Wp0_none, Wp0_map, Wp0_bind, Bool.or_eq_true, Bool.and_eq_true, Bool.not_eq_true']
@[simp ↓] theorem wD_mul : W2 (binD .mul (.int a) (.int b)) Q = Wif (small a = true ∨ small b = true) (Q (.int (a * b)) false) False := by simp only [pw, p2, p3, pif, binD, Wp0_ite, Wp0_some, Wp0_none, Wp0_map, Wp0_bind, Bool.or_eq_true, Bool.and_eq_true, Bool.not_eq_true']
@[simp ↓] theorem wD_fdiv : W2 (binD .fdiv (.int a) (.int b)) Q = Wif (0 < b ∧ b < 1073741824) (Q (.int (a / b)) false) False := by simp only [pw, p2, p3, pif, binD, Wp0_ite, Wp0_some, Wp0_none, Wp0_map, Wp0_bind, Bool.or_eq_true, Bool.and_eq_true, Bool.not_eq_true']
@[simp ↓] theorem wD_mod : W2 (binD .mod (.int a) (.int b)) Q = Wif (0 < b) (Q (.int (a % b)) false) False := by simp only [pw, p2, p3, pif, binD, Wp0_ite, Wp0_some, Wp0_none, Wp0_map, Wp0_bind, Bool.or_eq_true, Bool.and_eq_true, Bool.not_eq_true']
@[simp ↓] theorem wD_shr : W2 (binD .shr (.int a) (.int b)) Q = Wif (0 ≤ b) (Q (.int (a / 2 ^ b.toNat)) false) False := by simp only [pw, p2, p3, pif, binD, Wp0_ite, Wp0_some, Wp0_none, Wp0_map, Wp0_bind]
@[simp ↓] theorem wD_band : W2 (binD .band (.int a) (.int b)) Q = Q (.int (Builtin.bitAnd a b)) false := by simp only [pw, p2, p3, pif, binD, Wp0_ite, Wp0_some, Wp0_none, Wp0_map, Wp0_bind]
@[simp ↓] theorem wD_pow : W2 (binD .pow (.int a) (.int b)) Q = Wif (0 ≤ b ∧ b ≤ 1000000 ∧ a.natAbs < 2 ^ 64) (Q (.int (a ^ b.toNat)) false) False := by simp only [pw, p2, p3, pif, binD, Wp0_ite, Wp0_some, Wp0_none, Wp0_map, Wp0_bind, Bool.or_eq_true, Bool.and_eq_true, Bool.not_eq_true']
@[simp ↓] theorem wD_addL {xs ys} : W2 (binD .add (.list xs) (.list ys)) Q = Wif (xs.length + ys.length ≤ sizeLine) (Q (.list (xs ++ ys)) true) False := by simp only [pw, p2, p3, pif, binD, Wp0_ite, Wp0_some, Wp0_none, Wp0_map, Wp0_bind, Bool.or_eq_true, Bool.and_eq_true, Bool.not_eq_true']
@[simp ↓] theorem wD_addT {xs ys} : W2 (binD .add (.tuple xs) (.tuple ys)) Q = Wif (xs.length + ys.length ≤ sizeLine) (Q (.tuple (xs ++ ys)) false) False := by simp only [pw, p2, p3, pif, binD, Wp0_ite, Wp0_some, Wp0_none, Wp0_map, Wp0_bind, Bool.or_eq_true, Bool.and_eq_true, Bool.not_eq_true']
@[simp ↓] theorem wD_mulL {xs} : W2 (binD .mul (.list xs) (.int b)) Q = Wif (-(2 ^ 63) ≤ b ∧ b < 2 ^ 63 ∧ xs.length * b.toNat ≤ sizeLine) (Q (.list (List.replicate b.toNat xs).flatten) true) False := by simp only [pw, p2, p3, pif, binD, Wp0_ite, Wp0_some, Wp0_none, Wp0_map, Wp0_bind, Bool.or_eq_true, Bool.and_eq_true, Bool.not_eq_true']
@[simp ↓] theorem wD_mulT {xs} : W2 (binD .mul (.tuple xs) (.int b)) Q = Wif (xs ≠ [] ∧ 2 ≤ b ∧ b ≤ 4000 ∧ xs.length ≤ 1000) (Q (.tuple (List.replicate b.toNat xs).flatten) false) False := by simp only [pw, p2, p3, pif, binD, Wp0_ite, Wp0_some, Wp0_none, Wp0_map, Wp0_bind, Bool.or_eq_true, Bool.and_eq_true, Bool.not_eq_true']
end
section
variable {Q : Bool → Prop} {a b : Int}
@[simp ↓] theorem wC_eq : Wp (cmpD .eq (.int a) (.int b)) Q = Q (decide (a = b)) := by simp only [pw, p2, p3, pif, cmpD, Wp0_ite, Wp0_some, Wp0_none, Wp0_map, Wp0_bind, Bool.or_eq_true, Bool.and_eq_true, Bool.not_eq_true']
@[simp ↓] theorem wC_ne : Wp (cmpD .ne (.int a) (.int b)) Q = Q (!decide (a = b)) := by simp only [pw, p2, p3, pif, cmpD, Wp0_ite, Wp0_some, Wp0_none, Wp0_map, Wp0_bind, Bool.or_eq_true, Bool.and_eq_true, Bool.not_eq_true']
@[simp ↓] theorem wC_lt : Wp (cmpD .lt (.int a) (.int b)) Q = Q (decide (a < b)) := by simp only [pw, p2, p3, pif, cmpD, Wp0_ite, Wp0_some, Wp0_none, Wp0_map, Wp0_bind, Bool.or_eq_true, Bool.and_eq_true, Bool.not_eq_true']
@[simp ↓] theorem wC_le : Wp (cmpD .le (.int a) (.int b)) Q = Q (decide (a ≤ b)) := by simp only [pw, p2, p3, pif, cmpD, Wp0_ite, Wp0_some, Wp0_none, Wp0_map, Wp0_bind, Bool.or_eq_true, Bool.and_eq_true, Bool.not_eq_true']
@[simp ↓] theorem wC_gt : Wp (cmpD .gt (.int a) (.int b)) Q = Q (decide (b < a)) := by simp only [pw, p2, p3, pif, cmpD, Wp0_ite, Wp0_some, Wp0_none, Wp0_map, Wp0_bind, Bool.or_eq_true, Bool.and_eq_true, Bool.not_eq_true']
@[simp ↓] theorem wC_ge : Wp (cmpD .ge (.int a) (.int b)) Q = Q (decide (b ≤ a)) := by simp only [pw, p2, p3, pif, cmpD, Wp0_ite, Wp0_some, Wp0_none, Wp0_map, Wp0_bind, Bool.or_eq_true, Bool.and_eq_true, Bool.not_eq_true']
@[simp ↓] theorem wC_eqS {s t} : Wp (cmpD .eq (.str s) (.str t)) Q = Q (decide (s = t)) := by simp only [pw, p2, p3, pif, cmpD, Wp0_ite, Wp0_some, Wp0_none, Wp0_map, Wp0_bind, Bool.or_eq_true, Bool.and_eq_true, Bool.not_eq_true']
@[simp ↓] theorem wC_neS {s t} : Wp (cmpD .ne (.str s) (.str t)) Q = Q (!decide (s = t)) := by simp only [pw, p2, p3, pif, cmpD, Wp0_ite, Wp0_some, Wp0_none, Wp0_map, Wp0_bind, Bool.or_eq_true, Bool.and_eq_true, Bool.not_eq_true']
@[simp ↓] theorem wC_eqL {xs ys} : Wp (cmpD .eq (.list xs) (.list ys)) Q = Wif (lay (.list xs) = true ∧ lay (.list ys) = true) (Q (PyData.eqv (.list xs) (.list ys))) False := by simp only [pw, p2, p3, pif, cmpD, Wp0_ite, Wp0_some, Wp0_none, Wp0_map, Wp0_bind, Bool.or_eq_true, Bool.and_eq_true, Bool.not_eq_true']
@[simp ↓] theorem wC_eqT {xs ys} : Wp (cmpD .eq (.tuple xs) (.tuple ys)) Q = Wif (lay (.tuple xs) = true ∧ lay (.tuple ys) = true) (Q (PyData.eqv (.tuple xs) (.tuple ys))) False := by simp only [pw, p2, p3, pif, cmpD, Wp0_ite, Wp0_some, Wp0_none, Wp0_map, Wp0_bind, Bool.or_eq_true, Bool.and_eq_true, Bool.not_eq_true']
@[simp ↓] theorem wC_neL {xs ys} : Wp (cmpD .ne (.list xs) (.list ys)) Q = Wif (lay (.list xs) = true ∧ lay (.list ys) = true) (Q (!PyData.eqv (.list xs) (.list ys))) False := by simp only [pw, p2, p3, pif, cmpD, Wp0_ite, Wp0_some, Wp0_none, Wp0_map, Wp0_bind, Bool.or_eq_true, Bool.and_eq_true, Bool.not_eq_true']
@[simp ↓] theorem wC_neT {xs ys} : Wp (cmpD .ne (.tuple xs) (.tuple ys)) Q = Wif (lay (.tuple xs) = true ∧ lay (.tuple ys) = true) (Q (!PyData.eqv (.tuple xs) (.tuple ys))) False := by simp only [pw, p2, p3, pif, cmpD, Wp0_ite, Wp0_some, Wp0_none, Wp0_map, Wp0_bind, Bool.or_eq_true, Bool.and_eq_true, Bool.not_eq_true']
@[simp ↓] theorem wC_inL {x ys} : Wp (cmpD .isin x (.list ys)) Q = Wp (inD x ys) Q := by simp only [pw, p2, p3, pif, cmpD, Wp0_ite, Wp0_some, Wp0_none, Wp0_map, Wp0_bind, Bool.or_eq_true, Bool.and_eq_true, Bool.not_eq_true']
@[simp ↓] theorem wC_inT {x ys} : Wp (cmpD .isin x (.tuple ys)) Q = Wp (inD x ys) Q := by simp only [pw, p2, p3, pif, cmpD, Wp0_ite, Wp0_some, Wp0_none, Wp0_map, Wp0_bind, Bool.or_eq_true, Bool.and_eq_true, Bool.not_eq_true']
@[simp ↓] theorem wC_niL {x ys} : Wp (cmpD .notin x (.list ys)) Q = Wp (inD x ys) fun b => Q (!b) := by simp only [pw, p2, p3, pif, cmpD, Wp0_ite, Wp0_some, Wp0_none, Wp0_map, Wp0_bind, Bool.or_eq_true, Bool.and_eq_true, Bool.not_eq_true']
@[simp ↓] theorem wC_niT {x ys} : Wp (cmpD .notin x (.tuple ys)) Q = Wp (inD x ys) fun b => Q (!b) := by simp only [pw, p2, p3, pif, cmpD, Wp0_ite, Wp0_some, Wp0_none, Wp0_map, Wp0_bind, Bool.or_eq_true, Bool.and_eq_true, Bool.not_eq_true']
@[simp ↓] theorem wC_inDT {x es} : Wp (cmpD .isin x (.dict (tMark :: es))) Q = Wp (tupI x) fun k => Q (tGet es k).isSome := by simp only [tMark, pw, p2, p3, pif, cmpD, Wp0_ite, Wp0_some, Wp0_none, Wp0_map, Wp0_bind]
@[simp ↓] theorem wC_niDT {x es} : Wp (cmpD .notin x (.dict (tMark :: es))) Q = Wp (tupI x) fun k => Q (!(tGet es k).isSome) := by simp only [tMark, pw, p2, p3, pif, cmpD, Wp0_ite, Wp0_some, Wp0_none, Wp0_map, Wp0_bind]
@[simp ↓] theorem wC_inD {x es} (h : isScr es = false) : Wp (cmpD .isin x (.dict es)) Q = Wif (isKey x = true) (Q ((dGet es x).isSome)) False := by
  cases es with
  | nil => simp only [pw, p2, p3, pif, cmpD, h, Wp0_ite, Wp0_some, Wp0_none, Wp0_map, Wp0_bind, Bool.or_eq_true, Bool.and_eq_true, Bool.not_eq_true', Bool.not_false, and_true]
  | cons p r =>
    obtain ⟨a, b⟩ := p
    cases a <;> first | (simp [isScr] at h; done) | simp only [pw, p2, p3, pif, cmpD, h, Wp0_ite, Wp0_some, Wp0_none, Wp0_map, Wp0_bind, Bool.or_eq_true, Bool.and_eq_true, Bool.not_eq_true', Bool.not_false, and_true]
@[simp ↓] theorem wC_niD {x es} (h : isScr es = false) : Wp (cmpD .notin x (.dict es)) Q = Wif (isKey x = true) (Q (!(dGet es x).isSome)) False := by
  cases es with
  | nil => simp only [pw, p2, p3, pif, cmpD, h, Wp0_ite, Wp0_some, Wp0_none, Wp0_map, Wp0_bind, Bool.or_eq_true, Bool.and_eq_true, Bool.not_eq_true', Bool.not_false, and_true]
  | cons p r =>
    obtain ⟨a, b⟩ := p
    cases a <;> first | (simp [isScr] at h; done) | simp only [pw, p2, p3, pif, cmpD, h, Wp0_ite, Wp0_some, Wp0_none, Wp0_map, Wp0_bind, Bool.or_eq_true, Bool.and_eq_true, Bool.not_eq_true', Bool.not_false, and_true]
end
theorem inD_ints {x : Int} {ys : List Int} : inD (.int x) (ys.map PyData.int) = some (decide (x ∈ ys)) := by
  have h : ((ys.map PyData.int).all flat) = true := by simp [flat]
  simp only [inD, flat, Bool.true_and, h, if_true, Option.some.injEq]
  rw [Bool.eq_iff_iff]
  simp only [List.any_eq_true, List.mem_map, decide_eq_true_eq]
  constructor
  · rintro ⟨z, ⟨y, hy, rfl⟩, hz⟩; simp [eqF] at hz; exact hz ▸ hy
  · intro h1; exact ⟨.int x, ⟨x, h1, rfl⟩, by simp [eqF]⟩
@[simp ↓] theorem wIn_ints {x : Int} {ys : List Int} {Q} : Wp (inD (.int x) (ys.map PyData.int)) Q = Q (decide (x ∈ ys)) := by rw [inD_ints]; simp
/-! ### statements -/
def outK (o : Out) (k : Rho → Prop) (Q : Out → Prop) (u : Tg k := Tg.mk) (v : Tg Q := Tg.mk) : Prop :=
  match o with
  | .nx ρ => k ρ
  | o => Q o
@[simp] theorem outK_nx {ρ k Q} : outK (.nx ρ) k Q = k ρ := rfl
@[simp ↓] theorem outK_rt {d fr ρ k Q} : outK (.rt d fr ρ) k Q = Q (.rt d fr ρ) := rfl
@[simp ↓] theorem outK_bk {ρ k Q} : outK (.bk ρ) k Q = Q (.bk ρ) := rfl
@[simp ↓] theorem outK_ct {ρ k Q} : outK (.ct ρ) k Q = Q (.ct ρ) := rfl
def ownK (o : Option Slot) (k : PyData → Prop) (u : Tg k := Tg.mk) : Prop :=
  match o with
  | some (.own x) => k x
  | _ => False
@[simp] theorem ownK_own {x k} : ownK (some (.own x)) k = k x := rfl
def listK (d : PyData) (k : List PyData → Prop) (u : Tg k := Tg.mk) : Prop :=
  match d with
  | .list x => k x
  | _ => False
@[simp] theorem listK_own {x k} : listK (.list x) k = k x := rfl
section
variable {F : Fns} {W : Nat} {ρ : Rho} {Q : Out → Prop}
@[simp ↓] theorem wS_skip : Wp (evS F W .skip ρ) Q = Q (.nx ρ) := by simp only [pw, p2, p3, pif, evS, Wp0_bind, Wp0_map, Wp0_ite, Wp0_some, Wp0_none]
@[simp ↓] theorem wS_brk : Wp (evS F W .brk ρ) Q = Q (.bk ρ) := by simp only [pw, p2, p3, pif, evS, Wp0_bind, Wp0_map, Wp0_ite, Wp0_some, Wp0_none]
@[simp ↓] theorem wS_cont : Wp (evS F W .cont ρ) Q = Q (.ct ρ) := by simp only [pw, p2, p3, pif, evS, Wp0_bind, Wp0_map, Wp0_ite, Wp0_some, Wp0_none]
@[simp ↓] theorem wS_seq {s t} : Wp (evS F W (.seq s t) ρ) Q = Wp (evS F W s ρ) fun o => outK o (fun ρ1 => Wp (evS F W t ρ1) Q) Q := by
  simp only [pw, evS, Wp0_bind]; refine congrArg _ (funext fun o => ?_); cases o <;> simp only [outK, pw, Wp0_some]
@[simp ↓] theorem wS_asg {tg e} : Wp (evS F W (.asg tg e) ρ) Q = W3 (evE F e ρ) fun xa xb xc => Wp (setT tg xa xb xc) fun r => Q (.nx r) := by
  simp only [pw, p2, p3, pif, evS, Wp0_bind, Wp0_map, Wp0_ite, Wp0_some, Wp0_none]
@[simp ↓] theorem wS_par {tg e} : Wp (evS F W (.par tg e) ρ) Q = W2 (evP F e ρ) fun xa xb => Wp (bindP tg xa xb) fun r => Q (.nx r) := by
  simp only [pw, p2, p3, pif, evS, Wp0_bind, Wp0_map, Wp0_ite, Wp0_some, Wp0_none]
@[simp ↓] theorem wU_none {e} {Q : PyData → Bool → Rho → Prop} : W3 (evU F none e ρ) Q = W3 (evE F e ρ) Q := rfl
@[simp ↓] theorem wU_some {f as} {Q : PyData → Bool → Rho → Prop} : W3 (evU F (some f) as ρ) Q = W2 (evL F as ρ) fun xa xb => W2 (lend xb xa) fun ya yb => W3 (F f ya) fun za zb zc => Wp (back yb xa ya zc) fun r => Q za zb r := by
  simp only [pw, p2, p3, pif, evU, Wp0_bind, Wp0_map, Wp0_ite, Wp0_some, Wp0_none]
@[simp ↓] theorem wS_parS {i f a j g b} : Wp (evS F W (.parS i f a j g b) ρ) Q = W3 (evU F f a ρ) fun xa xb xc => W3 (evU F g b xc) fun ya yb yc => Q (.nx ((yc.set i (slotOf xa xb)).set j (slotOf ya yb))) := by
  simp only [pw, p2, p3, pif, evS, Wp0_bind, Wp0_map, Wp0_ite, Wp0_some, Wp0_none]
@[simp ↓] theorem wS_put {i k e} : Wp (evS F W (.put i k e) ρ) Q = Wif (isOwn ρ[i]? = true) (W3 (evE F e ρ) fun xa xb xc => W3 (evE F k xc) fun ya yb yc =>
    ownK yc[i]? fun z => Wp (putD z ya xa) fun w => Q (.nx (yc.set i (.own w)))) False := by
  simp only [evS, pw, p2, p3, pif, Wp0_ite, Wp0_some, Wp0_none, Wp0_map, Wp0_bind]; refine congrArg (fun z => Wif0 _ z _) (congrArg _ (funext fun x => congrArg _ (funext fun y => ?_)))
  rcases h : y.2.2[i]? with _ | (_ | d | d) <;> simp only [h, ownK, pw, Wp0_ite, Wp0_some, Wp0_none, Wp0_map, Wp0_bind]
@[simp ↓] theorem wS_app {i e} : Wp (evS F W (.app i e) ρ) Q = Wif (isOwnL ρ[i]? = true) (W3 (evE F e ρ) fun xa xb xc =>
    ownK xc[i]? fun z => listK z fun xs => Wif (xs.length < sizeLine) (Q (.nx (xc.set i (.own (.list (xs ++ [xa])))))) False) False := by
  simp only [evS, pw, p2, p3, pif, Wp0_ite, Wp0_some, Wp0_none, Wp0_map, Wp0_bind]; refine congrArg (fun z => Wif0 _ z _) (congrArg _ (funext fun x => ?_))
  rcases h : x.2.2[i]? with _ | (_ | d | d) <;> simp only [h, ownK, pw, Wp0_ite, Wp0_some, Wp0_none, Wp0_map, Wp0_bind]
  cases d <;> simp only [listK, pif, Wp0_ite, Wp0_some, Wp0_none, Wp0_map, Wp0_bind]
@[simp ↓] theorem wS_ext {i e} : Wp (evS F W (.ext i e) ρ) Q = Wif (isOwnL ρ[i]? = true) (W3 (evE F e ρ) fun xa xb xc =>
    ownK xc[i]? fun z => listK z fun xs => listK xa fun ys => Wif (xs.length + ys.length ≤ sizeLine) (Q (.nx (xc.set i (.own (.list (xs ++ ys)))))) False) False := by
  simp only [evS, pw, p2, p3, pif, Wp0_ite, Wp0_some, Wp0_none, Wp0_map, Wp0_bind]; refine congrArg (fun z => Wif0 _ z _) (congrArg _ (funext fun x => ?_))
  rcases h : x.2.2[i]? with _ | (_ | d | d) <;> simp only [h, ownK, pw, Wp0_ite, Wp0_some, Wp0_none, Wp0_map, Wp0_bind]
  cases d <;> simp only [listK, pif, Wp0_ite, Wp0_some, Wp0_none, Wp0_map, Wp0_bind]
  cases x.1 <;> simp only [listK, pif, Wp0_ite, Wp0_some, Wp0_none, Wp0_map, Wp0_bind]
@[simp ↓] theorem wS_expr {e} : Wp (evS F W (.expr e) ρ) Q = W3 (evE F e ρ) fun xa xb xc => Q (.nx xc) := by simp only [pw, p2, p3, pif, evS, Wp0_bind, Wp0_map, Wp0_ite, Wp0_some, Wp0_none]
@[simp ↓] theorem wS_asgO {i f as} : Wp (evS F W (.asgO i f as) ρ) Q = W2 (evL F as ρ) fun xa xb => W2 (lend xb xa) fun ya yb => W3 (F f ya) fun za zb zc => Wp (back yb xa ya zc) fun r => Q (.nx (r.set i (slotOf za zb))) := by
  simp only [pw, p2, p3, pif, evS, Wp0_bind, Wp0_map, Wp0_ite, Wp0_some, Wp0_none]
@[simp ↓] theorem wS_retO {f as} : Wp (evS F W (.retO f as) ρ) Q = W2 (evL F as ρ) fun xa xb => W2 (lend xb xa) fun ya yb => W3 (F f ya) fun za zb zc => Wp (back yb xa ya zc) fun r => Q (.rt za zb r) := by
  simp only [pw, p2, p3, pif, evS, Wp0_bind, Wp0_map, Wp0_ite, Wp0_some, Wp0_none]
@[simp ↓] theorem wS_retT {e} : Wp (evS F W (.retT e) ρ) Q = W3 (evE F e ρ) fun xa xb xc => lstK xa fun xs => Q (.rt (.tuple xs) true xc) := by
  simp only [pw, p2, p3, pif, evS, Wp0_bind]; refine congrArg _ (funext fun x => ?_); rcases x with ⟨d, b, r⟩; cases d <;> simp only [lstK, Wp0_some, Wp0_none]
@[simp ↓] theorem wS_ret {e} : Wp (evS F W (.ret e) ρ) Q = W3 (evE F e ρ) fun xa xb xc => Q (.rt xa xb xc) := by simp only [pw, p2, p3, pif, evS, Wp0_bind, Wp0_map, Wp0_ite, Wp0_some, Wp0_none]
@[simp ↓] theorem wS_ite {c s t} : Wp (evS F W (.ite c s t) ρ) Q = W2 (evT F c ρ) fun xa xb => Wif (xa = true) (Wp (evS F W s xb) Q) (Wp (evS F W t xb) Q) := by
  simp only [pw, p2, p3, pif, evS, Wp0_bind, Wp0_map, Wp0_ite, Wp0_some, Wp0_none]
@[simp ↓] theorem wS_loop {tg it s} : Wp (evS F W (.loop tg it s) ρ) Q = W2 (evI F it ρ) fun xa xb => Wp (loopS tg (evS F W s) xa xb) Q := by
  simp only [pw, p2, p3, pif, evS, Wp0_bind, Wp0_map, Wp0_ite, Wp0_some, Wp0_none]
@[simp ↓] theorem wS_while {c s} : Wp (evS F W (.while c s) ρ) Q = Wp (whileS (evT F c) (evS F W s) W ρ) Q := by simp only [pw, p2, p3, pif, evS, Wp0_bind, Wp0_map, Wp0_ite, Wp0_some, Wp0_none]
end
@[simp ↓] theorem wP_nil {F ρ Q} : W2 (evP F .nil ρ) Q = Q [] ρ := by simp only [pw, p2, p3, pif, evP, Wp0_bind, Wp0_map, Wp0_ite, Wp0_some, Wp0_none]
@[simp ↓] theorem wP_cons {F ρ Q a r} : W2 (evP F (.cons a r) ρ) Q = W3 (evE F a ρ) fun xa xb xc => W2 (evP F r xc) fun ya yb => Q ((xa, xb) :: ya) yb := by
  simp only [pw, p2, p3, pif, evP, Wp0_bind, Wp0_map, Wp0_ite, Wp0_some, Wp0_none]
def endK (o : Out) (as : List Arg) (Q : PyData → Bool → List Slot → Prop) (u : Tg Q := Tg.mk) : Prop :=
  match o with
  | .nx ρ => Q .none false (finals as ρ)
  | .rt d fr ρ => Q d fr (finals as ρ)
  | _ => False
@[simp] theorem endK_nx {ρ as Q} : endK (.nx ρ) as Q = Q .none false (finals as ρ) := rfl
@[simp] theorem endK_rt {d fr ρ as Q} : endK (.rt d fr ρ) as Q = Q d fr (finals as ρ) := rfl
theorem w_run {F W f as Q} (h : as.length = f.np ∧ lentOk (asgd f.body) 0 as = true) (h' : Wp (evS F W f.body (as.map argSlot ++ List.replicate (f.nv - f.np) .no)) fun o => endK o as Q) : W3 (runFn F W f as) Q := by
  rw [runFn, if_pos h, p3, Wp0_bind]
  obtain ⟨o, h1, h2⟩ := h'
  refine ⟨o, h1, ?_⟩
  cases o <;> simp_all [endK, Wp0]
theorem w_fn {T : Nat → Option Fn} {W k i f as} [Has T i f] {Q} (h : W3 (runFn (evF T W k) W f as) Q) : W3 (evF T W (k + 1) i as) Q := by
  rw [evF_has (f := f)]; exact h
/-- kept as it is -/
def Kd (P : Prop) (u : Tg P := Tg.mk) : Prop := P
theorem Kd_i {P : Prop} (h : P) : Kd P := h
/-- loops -/
def turnK (I : Rho → Prop) (Q : Out → Prop) : Out → Prop
  | .nx ρ => Kd (I ρ)
  | .ct ρ => Kd (I ρ)
  | .bk ρ => Q (.nx ρ)
  | .rt d fr ρ => Q (.rt d fr ρ)
@[simp ↓] theorem turnK_nx {I Q ρ} : turnK I Q (.nx ρ) = Kd (I ρ) := rfl
@[simp ↓] theorem turnK_ct {I Q ρ} : turnK I Q (.ct ρ) = Kd (I ρ) := rfl
@[simp ↓] theorem turnK_bk {I Q ρ} : turnK I Q (.bk ρ) = Q (.nx ρ) := rfl
@[simp ↓] theorem turnK_rt {I Q d fr ρ} : turnK I Q (.rt d fr ρ) = Q (.rt d fr ρ) := rfl
theorem w_loop {tg : MT} {ev : Rho → Option Out} {ds : List PyData} {ρ : Rho} {Q : Out → Prop} (I : List PyData → Rho → Prop) (h0 : I [] ρ)
    (h1 : ∀ done d rest ρ, ds = done ++ d :: rest → I done ρ → Wp (bindT tg d ρ) fun ρ1 => Wp (ev ρ1) (turnK (I (done ++ [d])) Q))
    (h2 : ∀ ρ, I ds ρ → Q (.nx ρ)) : Wp (loopS tg ev ds ρ) Q := by
  suffices H : ∀ rest done ρ, ds = done ++ rest → I done ρ → Wp (loopS tg ev rest ρ) Q from H ds [] ρ rfl h0
  intro rest
  induction rest with
  | nil => intro done ρ h hI; rw [List.append_nil] at h; subst h; exact ⟨_, rfl, h2 _ hI⟩
  | cons d rest ih =>
    intro done ρ h hI
    simp only [loopS, Wp_bind]
    refine Wp_mono (h1 done d rest ρ h hI) fun ρ1 h3 => ?_
    rw [Wp_bind]; refine Wp_mono h3 fun o ho => ?_
    cases o with
    | nx ρ2 => exact ih (done ++ [d]) ρ2 (by simp [h]) ho
    | ct ρ2 => exact ih (done ++ [d]) ρ2 (by simp [h]) ho
    | bk ρ2 => exact ⟨_, rfl, ho⟩
    | rt d fr ρ2 => exact ⟨_, rfl, ho⟩
/-- the turns of a comprehension, by an invariant -/
theorem w_turns {tg : MT} {ev : Rho → List PyData → Option (Rho × List PyData)} {vs : List Nat} {ds : List PyData} {ρ : Rho} {acc0 : List PyData} {Q : Rho → List PyData → Prop}
    (I : List PyData → Rho → List PyData → Prop) (h0 : I [] ρ acc0)
    (h1 : ∀ done d rest ρ acc, ds = done ++ d :: rest → I done ρ acc → Wp (bindT tg d ρ) fun ρ1 => W2 (ev ρ1 acc) fun xa xb => Kd (I (done ++ [d]) (wipeR xa vs) xb))
    (h2 : ∀ ρ acc, I ds ρ acc → Q ρ acc) : W2 (turns tg ev vs ds ρ acc0) Q := by
  suffices H : ∀ rest done ρ acc, ds = done ++ rest → I done ρ acc → W2 (turns tg ev vs rest ρ acc) Q from H ds [] ρ acc0 rfl h0
  intro rest
  induction rest with
  | nil => intro done ρ acc h hI; rw [List.append_nil] at h; subst h; exact ⟨_, rfl, h2 _ _ hI⟩
  | cons d rest ih =>
    intro done ρ acc h hI
    simp only [turns, p2, Wp0_bind]
    obtain ⟨ρ1, h3, x, h4, h5⟩ := h1 done d rest ρ acc h hI
    exact ⟨ρ1, h3, x, h4, ih (done ++ [d]) _ _ (by simp [h]) h5⟩
/-- a comprehension whose turns change nothing: each item gives some parts -/
theorem w_comp {tg : MT} {ev : Rho → List PyData → Option (Rho × List PyData)} {vs : List Nat} {ds : List PyData} {ρ : Rho} {Q : Rho → List PyData → Prop}
    (g : PyData → Option PyData) (hn : ds.length ≤ sizeLine)
    (h1 : ∀ d acc, d ∈ ds → acc.length < sizeLine → Wp (bindT tg d ρ) fun ρ1 => W2 (ev ρ1 acc) fun xa xb => wipeR xa vs = ρ ∧ xb = acc ++ (g d).toList)
    (h2 : Q ρ (ds.filterMap g)) : W2 (turns tg ev vs ds ρ []) Q := by
  refine w_turns (fun done ρ' acc => ρ' = ρ ∧ acc = done.filterMap g) ⟨rfl, rfl⟩ ?_ ?_
  · intro done d rest ρ' acc hd ⟨hr, ha⟩
    subst hr
    have hl : acc.length ≤ done.length := by rw [ha]; exact List.length_filterMap_le _ _
    have hd' : done.length < ds.length := by rw [hd]; simp
    refine Wp_mono (h1 d acc (by rw [hd]; simp) (by omega)) fun ρ1 h3 => W2_mono h3 fun x y hx => ⟨hx.1, ?_⟩
    rw [hx.2, ha, List.filterMap_append]
    cases hg : g d <;> simp [hg]
  · intro ρ' acc ⟨hr, ha⟩; subst hr; subst ha; exact h2
end MI

/-! MIG: rules for values: places, built-ins, arguments. -/
namespace MI
open PySem
@[simp ↓] theorem w_ixOf {n : Nat} {i : Int} {Q} : Wp (ixOf n i) Q = Wif (0 ≤ i ∧ i < n) (Q i.toNat) (Wif (i < 0 ∧ -(n : Int) ≤ i) (Q (i + n).toNat) False) := by
  simp only [ixOf, Wp_ite, Wp_some, Wp_none, Wif, eq_iff_iff]
  constructor
  · rintro ⟨h1, h2⟩
    refine ⟨fun ⟨a, b⟩ => (h1 a).1 b, fun hn => ⟨fun ⟨a, b⟩ => (h2 (by omega)).1 b, fun hm => ?_⟩⟩
    by_cases h : 0 ≤ i
    · exact (h1 h).2 (fun hb => hn ⟨h, hb⟩)
    · exact (h2 h).2 (fun hb => hm ⟨by omega, hb⟩)
  · rintro ⟨h1, h2⟩
    refine ⟨fun a => ⟨fun b => h1 ⟨a, b⟩, fun hb => (h2 (fun c => hb c.2)).2 (fun c => by omega)⟩, fun a => ⟨fun b => (h2 (fun c => a c.1)).1 ⟨by omega, b⟩, fun b => (h2 (fun c => a c.1)).2 (fun c => b c.2)⟩⟩
/-- the item at a place -/
def nthI {α : Type} (xs : List α) (i : Int) : Option α := (ixOf xs.length i).bind (xs[·]?)
section
variable {α : Type} {a b c e : α} {l : List α}
theorem nthI_pos {xs : List α} {i : Int} (h : 0 ≤ i) (h' : i < xs.length) : nthI xs i = xs[i.toNat]? := by
  simp [nthI, ixOf, h, h']
@[simp] theorem nthI_0 : nthI (a :: l) 0 = some a := by rw [nthI_pos (by simp) (by simp)]; rfl
@[simp] theorem nthI_1 : nthI (a :: b :: l) 1 = some b := by rw [nthI_pos (by simp) (by simp; omega)]; rfl
@[simp] theorem nthI_2 : nthI (a :: b :: c :: l) 2 = some c := by rw [nthI_pos (by simp) (by simp; omega)]; rfl
@[simp] theorem nthI_3 : nthI (a :: b :: c :: e :: l) 3 = some e := by rw [nthI_pos (by simp) (by simp; omega)]; rfl
theorem nthI_get {xs : List α} {i : Int} (h : 0 ≤ i) (h' : i < xs.length) : nthI xs i = some (xs[i.toNat]'(by omega)) := by
  rw [nthI_pos h h', List.getElem?_eq_getElem]
theorem nthI_last {xs : List α} {y : α} : nthI (xs ++ [y]) (-1) = some y := by
  have : ¬ (0 ≤ (-1 : Int)) := by omega
  simp only [nthI, ixOf, List.length_append, List.length_singleton]
  rw [if_neg this, if_pos (by omega)]
  have e : (-1 + ((xs.length + 1 : Nat) : Int)).toNat = xs.length := by omega
  rw [e]; simp
end
section
variable {xs : List PyData} {i : Int} {Q : PyData → Prop}
@[simp ↓] theorem wX_list : Wp (idxD (.list xs) (.int i)) Q = Wp (nthI xs i) Q := rfl
@[simp ↓] theorem wX_tup : Wp (idxD (.tuple xs) (.int i)) Q = Wp (nthI xs i) Q := rfl
@[simp ↓] theorem wX_scr : Wp (idxD (scr xs) (.int i)) Q = Wp (nthI xs i) Q := rfl
@[simp ↓] theorem wU_list {d} : Wp (putD (.list xs) (.int i) d) Q = Wp (ixOf xs.length i) fun j => Q (.list (xs.set j d)) := by simp only [putD, Wp_map]
@[simp ↓] theorem wU_dictT {es k d} : Wp (putD (.dict (tMark :: es)) k d) Q = Wp (tupI k) fun ks => Wif (es.length < sizeLine) (Q (.dict (tMark :: tPut es ks d))) False := by
  simp only [tMark, putD, pw, pif, Wp0_ite, Wp0_some, Wp0_none, Wp0_map, Wp0_bind]
@[simp ↓] theorem wU_dict {es k d} (h : isScr es = false) : Wp (putD (.dict es) k d) Q = Wif (isKey k = true ∧ es.length < sizeLine) (Q (.dict (dPut es k d))) False := by
  cases es with
  | nil => simp only [putD, pw, pif, h, and_assoc, Bool.and_eq_true, Bool.not_eq_true', Bool.not_false, true_and, and_true, decide_eq_true_eq, Wp0_ite, Wp0_some, Wp0_none, Wp0_map, Wp0_bind]
  | cons p r =>
    obtain ⟨a, b⟩ := p
    cases a <;> first | (simp [isScr] at h; done) | simp only [putD, pw, pif, h, and_assoc, Bool.and_eq_true, Bool.not_eq_true', Bool.not_false, true_and, and_true, decide_eq_true_eq, Wp0_ite, Wp0_some, Wp0_none, Wp0_map, Wp0_bind]
end
section
variable {xs : List PyData} {lo hi : Option Int} {Q : PyData → Bool → Prop}
@[simp ↓] theorem wSl_list : W2 (slD (.list xs) lo hi) Q = Q (.list (cut xs lo hi)) true := by simp only [p2, slD, Wp0_some]
@[simp ↓] theorem wSl_tup : W2 (slD (.tuple xs) lo hi) Q = Q (.tuple (cut xs lo hi)) false := by simp only [p2, slD, Wp0_some]
@[simp ↓] theorem wSl_scr : W2 (slD (scr xs) lo hi) Q = Q (.list (cut xs lo hi)) true := by simp only [p2, slD, scr, Wp0_some]
variable {a b : Int} {ys : List PyData}
@[simp ↓] theorem wbi_lenL : W2 (biD .len [.list xs]) Q = Q (.int xs.length) false := by simp only [biD, pw, p2, p3, pif, Wp0_ite, Wp0_some, Wp0_none, Wp0_map, Wp0_bind]
@[simp ↓] theorem wbi_lenT : W2 (biD .len [.tuple xs]) Q = Q (.int xs.length) false := by simp only [biD, pw, p2, p3, pif, Wp0_ite, Wp0_some, Wp0_none, Wp0_map, Wp0_bind]
@[simp ↓] theorem wbi_lenS : W2 (biD .len [scr xs]) Q = Q (.int xs.length) false := by simp only [biD, scr, pw, p2, p3, pif, Wp0_ite, Wp0_some, Wp0_none, Wp0_map, Wp0_bind]
@[simp ↓] theorem wbi_all : W2 (biD .all [.list xs]) Q = Wp (boolsOf xs) fun bs => Q (.bool (bs.all id)) false := by simp only [biD, pw, p2, p3, pif, Wp0_ite, Wp0_some, Wp0_none, Wp0_map, Wp0_bind]
@[simp ↓] theorem wbi_any : W2 (biD .any [.list xs]) Q = Wp (boolsOf xs) fun bs => Q (.bool (bs.any id)) false := by simp only [biD, pw, p2, p3, pif, Wp0_ite, Wp0_some, Wp0_none, Wp0_map, Wp0_bind]
@[simp ↓] theorem wbi_tupL : W2 (biD .tuple [.list xs]) Q = Q (.tuple xs) false := by simp only [biD, pw, p2, p3, pif, Wp0_ite, Wp0_some, Wp0_none, Wp0_map, Wp0_bind]
@[simp ↓] theorem wbi_tupT : W2 (biD .tuple [.tuple xs]) Q = Q (.tuple xs) false := by simp only [biD, pw, p2, p3, pif, Wp0_ite, Wp0_some, Wp0_none, Wp0_map, Wp0_bind]
@[simp ↓] theorem wbi_listL : W2 (biD .list [.list xs]) Q = Q (.list xs) true := by simp only [biD, pw, p2, p3, pif, Wp0_ite, Wp0_some, Wp0_none, Wp0_map, Wp0_bind]
@[simp ↓] theorem wbi_listT : W2 (biD .list [.tuple xs]) Q = Q (.list xs) true := by simp only [biD, pw, p2, p3, pif, Wp0_ite, Wp0_some, Wp0_none, Wp0_map, Wp0_bind]
@[simp ↓] theorem wbi_listD {es} : W2 (biD .list [.dict (tMark :: es)]) Q = Q (.list (es.map (·.1))) true := by simp only [tMark, biD, pw, p2, p3, pif, Wp0_ite, Wp0_some, Wp0_none, Wp0_map, Wp0_bind]
@[simp ↓] theorem wbi_sum : W2 (biD .sum [.list xs]) Q = Wp (intsOf xs) fun ns => Q (.int ns.sum) false := by simp only [biD, pw, p2, p3, pif, Wp0_ite, Wp0_some, Wp0_none, Wp0_map, Wp0_bind]
@[simp ↓] theorem wbi_sumT : W2 (biD .sum [.tuple xs]) Q = Wp (intsOf xs) fun ns => Q (.int ns.sum) false := by simp only [biD, pw, p2, p3, pif, Wp0_ite, Wp0_some, Wp0_none, Wp0_map, Wp0_bind]
@[simp ↓] theorem wbi_maxL {x} : W2 (biD .max1 [.list (x :: xs)]) Q = Wif (ordOk (x :: xs) = true) (Q (PySem.W.maxD x xs) false) False := by simp only [biD, pw, p2, p3, pif, Wp0_ite, Wp0_some, Wp0_none, Wp0_map, Wp0_bind]
@[simp ↓] theorem wbi_maxT {x} : W2 (biD .max1 [.tuple (x :: xs)]) Q = Wif (ordOk (x :: xs) = true) (Q (PySem.W.maxD x xs) false) False := by simp only [biD, pw, p2, p3, pif, Wp0_ite, Wp0_some, Wp0_none, Wp0_map, Wp0_bind]
@[simp ↓] theorem wbi_minL {x} : W2 (biD .min1 [.list (x :: xs)]) Q = Wif (ordOk (x :: xs) = true) (Q (PySem.W.minD x xs) false) False := by simp only [biD, pw, p2, p3, pif, Wp0_ite, Wp0_some, Wp0_none, Wp0_map, Wp0_bind]
@[simp ↓] theorem wbi_minT {x} : W2 (biD .min1 [.tuple (x :: xs)]) Q = Wif (ordOk (x :: xs) = true) (Q (PySem.W.minD x xs) false) False := by simp only [biD, pw, p2, p3, pif, Wp0_ite, Wp0_some, Wp0_none, Wp0_map, Wp0_bind]
@[simp ↓] theorem wbi_max2 : W2 (biD .max2 [.int a, .int b]) Q = Q (.int (max a b)) false := by
  have : (if b > a then b else a) = max a b := by split <;> omega
  simp only [biD, this, pw, p2, p3, pif, Wp0_ite, Wp0_some, Wp0_none, Wp0_map, Wp0_bind]
@[simp ↓] theorem wbi_min2 : W2 (biD .min2 [.int a, .int b]) Q = Q (.int (min a b)) false := by
  have : (if b < a then b else a) = min a b := by split <;> omega
  simp only [biD, this, pw, p2, p3, pif, Wp0_ite, Wp0_some, Wp0_none, Wp0_map, Wp0_bind]
@[simp] theorem rowsB_ints {l : List Int} : rowsB (l.map .int) = false := by cases l <;> simp [rowsB]
@[simp] theorem rowsB_ints' {α : Type} {f : α → Int} {l : List α} : rowsB (l.map fun x => .int (f x)) = false := by cases l <;> simp [rowsB]
@[simp] theorem rowsB_nil : rowsB [] = false := rfl
@[simp] theorem rowsB_int {x : Int} {r : List PyData} : rowsB (.int x :: r) = false := by simp [rowsB]
theorem wbi_sortedR (h : rowsB xs = true) : W2 (biD .sorted [.list xs]) Q = Q (.list (xs.mergeSort (PySem.W.dataLe false id))) true := by simp only [biD, h, if_true, p2, Wp0_some]
@[simp ↓] theorem wbi_sorted (h : rowsB xs = false) : W2 (biD .sorted [.list xs]) Q = Wp (intsOf xs) fun ns => Q (.list ((sortI ns).map .int)) true := by simp only [biD, h, Bool.false_eq_true, if_false, pw, p2, p3, pif, Wp0_ite, Wp0_some, Wp0_none, Wp0_map, Wp0_bind]
@[simp ↓] theorem wbi_sortedT : W2 (biD .sorted [.tuple xs]) Q = Wp (intsOf xs) fun ns => Q (.list ((sortI ns).map .int)) true := by simp only [biD, pw, p2, p3, pif, Wp0_ite, Wp0_some, Wp0_none, Wp0_map, Wp0_bind]
@[simp ↓] theorem wbi_strL : W2 (biD .str [.list xs]) Q = Wif (shows (.list xs) = true) (Q (.str (PyData.list xs).shown) false) False := by simp only [biD, pw, p2, p3, pif, Wp0_ite, Wp0_some, Wp0_none, Wp0_map, Wp0_bind]
@[simp ↓] theorem wbi_strN : W2 (biD .str [.none]) Q = Q (.str PyData.none.shown) false := by simp only [biD, pw, p2, p3, pif, Wp0_ite, Wp0_some, Wp0_none, Wp0_map, Wp0_bind]
@[simp ↓] theorem wbi_strB {b} : W2 (biD .str [.bool b]) Q = Q (.str (PyData.bool b).shown) false := by simp only [biD, pw, p2, p3, pif, Wp0_ite, Wp0_some, Wp0_none, Wp0_map, Wp0_bind]
@[simp ↓] theorem wbi_strS {z} : W2 (biD .str [.str z]) Q = Q (.str z) false := by simp only [biD, pw, p2, p3, pif, Wp0_ite, Wp0_some, Wp0_none, Wp0_map, Wp0_bind]
@[simp ↓] theorem wbi_repr {d} : W2 (biD .repr [d]) Q = Wif (shows d = true) (Q (.str d.shown) false) False := by simp only [biD, pw, p2, p3, pif, Wp0_ite, Wp0_some, Wp0_none, Wp0_map, Wp0_bind]
@[simp ↓] theorem wbi_intI : W2 (biD .int [.int a]) Q = Q (.int a) false := by simp only [biD, pw, p2, p3, pif, Wp0_ite, Wp0_some, Wp0_none, Wp0_map, Wp0_bind]
@[simp ↓] theorem wbi_intB {t} : W2 (biD .int [.bool t]) Q = Q (.int (if t then 1 else 0)) false := by simp only [biD, pw, p2, p3, pif, Wp0_ite, Wp0_some, Wp0_none, Wp0_map, Wp0_bind]
@[simp ↓] theorem wbi_intS {z : Str} : W2 (biD .int [.str z]) Q = Wif (z.length ≤ 640) (Wp (PySem.intText? z) fun i => Q (.int i) false) False := by simp only [biD, pw, p2, p3, pif, Wp0_ite, Wp0_some, Wp0_none, Wp0_map, Wp0_bind]
@[simp ↓] theorem wmet_split {a b : Str} : W2 (metD .split (.str a) (.str b)) Q = Wif (b.length ≠ 0 ∧ a.length + 2 ≤ sizeLine) (Q (.list ((Txt.split a b).map .str)) true) False := by simp only [metD, pw, p2, p3, pif, Wp0_ite, Wp0_some, Wp0_none, Wp0_map, Wp0_bind]
@[simp ↓] theorem wmet_part {a b : Str} : W2 (metD .part (.str a) (.str b)) Q = Wif (b.length ≠ 0 ∧ a.length ≤ sizeLine) (Q (.tuple [.str (Txt.partition a b).1, .str (Txt.partition a b).2.1, .str (Txt.partition a b).2.2]) false) False := by simp only [metD, pw, p2, p3, pif, Wp0_ite, Wp0_some, Wp0_none, Wp0_map, Wp0_bind]
@[simp ↓] theorem wmet_count {a b : Str} : W2 (metD .count (.str a) (.str b)) Q = Q (.int (Txt.count a b)) false := by simp only [metD, pw, p2, p3, pif, Wp0_ite, Wp0_some, Wp0_none, Wp0_map, Wp0_bind]
@[simp ↓] theorem wbi_isInt {d} : W2 (biD .isInt [d]) Q = Wp (isaD .isInt d) fun b => Q (.bool b) false := by simp only [biD, pw, p2, p3, pif, Wp0_ite, Wp0_some, Wp0_none, Wp0_map, Wp0_bind]
@[simp ↓] theorem wbi_isBool {d} : W2 (biD .isBool [d]) Q = Wp (isaD .isBool d) fun b => Q (.bool b) false := by simp only [biD, pw, p2, p3, pif, Wp0_ite, Wp0_some, Wp0_none, Wp0_map, Wp0_bind]
@[simp ↓] theorem wbi_isTuple {d} : W2 (biD .isTuple [d]) Q = Wp (isaD .isTuple d) fun b => Q (.bool b) false := by simp only [biD, pw, p2, p3, pif, Wp0_ite, Wp0_some, Wp0_none, Wp0_map, Wp0_bind]
@[simp ↓] theorem wbi_isStr {d} : W2 (biD .isStr [d]) Q = Wp (isaD .isStr d) fun b => Q (.bool b) false := by simp only [biD, pw, p2, p3, pif, Wp0_ite, Wp0_some, Wp0_none, Wp0_map, Wp0_bind]
@[simp ↓] theorem wbi_isList {d} : W2 (biD .isList [d]) Q = Wp (isaD .isList d) fun b => Q (.bool b) false := by simp only [biD, pw, p2, p3, pif, Wp0_ite, Wp0_some, Wp0_none, Wp0_map, Wp0_bind]
end
@[simp] theorem isa_i {a} : isaD .isInt (.int a) = some true := rfl
@[simp] theorem isa_ib {a} : isaD .isInt (.bool a) = some true := rfl
@[simp] theorem isa_it {a} : isaD .isInt (.tuple a) = some false := rfl
@[simp] theorem isa_il {a} : isaD .isInt (.list a) = some false := rfl
@[simp] theorem isa_is {a} : isaD .isInt (.str a) = some false := rfl
@[simp] theorem isa_in : isaD .isInt .none = some false := rfl
@[simp] theorem isa_bi {a} : isaD .isBool (.int a) = some false := rfl
@[simp] theorem isa_bb {a} : isaD .isBool (.bool a) = some true := rfl
@[simp] theorem isa_ti {a} : isaD .isTuple (.int a) = some false := rfl
@[simp] theorem isa_tb {a} : isaD .isTuple (.bool a) = some false := rfl
@[simp] theorem isa_tt {a} : isaD .isTuple (.tuple a) = some true := rfl
@[simp] theorem isa_tl {a} : isaD .isTuple (.list a) = some false := rfl
@[simp] theorem isa_ts {a} : isaD .isTuple (.str a) = some false := rfl
@[simp] theorem isa_tn : isaD .isTuple .none = some false := rfl
@[simp] theorem truthD_b {b} : truthD (.bool b) = some b := rfl
@[simp] theorem truthD_n : truthD .none = some false := rfl
@[simp] theorem truthD_i {i} : truthD (.int i) = some (i != 0) := rfl
@[simp] theorem truthD_l {xs} : truthD (.list xs) = some (!xs.isEmpty) := rfl
@[simp] theorem truthD_t {xs} : truthD (.tuple xs) = some (!xs.isEmpty) := rfl
@[simp] theorem seqOf_l {xs} : seqOf (.list xs) = some xs := rfl
@[simp] theorem seqOf_t {xs} : seqOf (.tuple xs) = some xs := rfl
@[simp] theorem seqOf_s {z : Str} : seqOf (.str z) = some (z.cps.toList.map fun c => .str ⟨#[c]⟩) := rfl
@[simp] theorem starOf_l {xs} : starOf (.list xs) = some xs := rfl
@[simp] theorem starOf_t {xs} : starOf (.tuple xs) = some xs := rfl
@[simp] theorem ggetD_i {es : List (Int × Str)} {i e} : ggetD es (.int i) e = some (((es.lookup i).map PyData.str).getD e) := rfl
@[simp] theorem isa_ss {a} : isaD .isStr (.str a) = some true := rfl
@[simp] theorem isa_si {a} : isaD .isStr (.int a) = some false := rfl
@[simp] theorem isa_st {a} : isaD .isStr (.tuple a) = some false := rfl
@[simp] theorem isNone_n : isNone .none = true := rfl
@[simp] theorem isNone_i {a} : isNone (.int a) = false := rfl
@[simp] theorem isNone_t {a} : isNone (.tuple a) = false := rfl
@[simp] theorem isNone_l {a} : isNone (.list a) = false := rfl
@[simp] theorem isNone_b {a} : isNone (.bool a) = false := rfl
@[simp] theorem isKey_i {a} : isKey (.int a) = true := rfl
@[simp] theorem isKey_s {a} : isKey (.str a) = true := rfl
@[simp] theorem isOwn_o {d} : isOwn (some (.own d)) = true := rfl
@[simp] theorem isOwnL_o {d} : isOwnL (some (.own (.list d))) = true := rfl
@[simp] theorem zipK_t {xs ys} : zipK (.tuple xs) (.tuple ys) = some ((xs.zip ys).map fun p => .tuple [p.1, p.2]) := rfl
@[simp] theorem zipK_l {xs ys} : zipK (.list xs) (.list ys) = some ((xs.zip ys).map fun p => .tuple [p.1, p.2]) := rfl
@[simp] theorem zipK_tl {xs ys} : zipK (.tuple xs) (.list ys) = some ((xs.zip ys).map fun p => .tuple [p.1, p.2]) := rfl
@[simp] theorem enmK_t {xs} : enmK (.tuple xs) = some (xs.zipIdx.map fun p => .tuple [.int p.2, p.1]) := rfl
@[simp] theorem zip3K_t {xs ys zs} : zip3K (.tuple xs) (.tuple ys) (.tuple zs) = some (((xs.zip ys).zip zs).map fun p => .tuple [p.1.1, p.1.2, p.2]) := rfl
@[simp] theorem enmK_l {xs} : enmK (.list xs) = some (xs.zipIdx.map fun p => .tuple [.int p.2, p.1]) := rfl
@[simp] theorem intsOf_map {l : List Int} : intsOf (l.map PyData.int) = some l := by
  induction l with
  | nil => rfl
  | cons a r ih => simp [intsOf, ih]
@[simp] theorem tupI_ints {l : List Int} : tupI (.tuple (l.map .int)) = some l := by simp [tupI]
@[simp] theorem boolsOf_map {l : List Bool} : boolsOf (l.map PyData.bool) = some l := by
  induction l with
  | nil => rfl
  | cons a r ih => simp [boolsOf, ih]
@[simp] theorem boolsOf_map' {α : Type} {p : α → Bool} {l : List α} : boolsOf (l.map fun x => PyData.bool (p x)) = some (l.map p) := by
  induction l with
  | nil => rfl
  | cons a r ih => simp [boolsOf, ih]
@[simp] theorem intsOf_map' {α : Type} {p : α → Int} {l : List α} : intsOf (l.map fun x => PyData.int (p x)) = some (l.map p) := by
  induction l with
  | nil => rfl
  | cons a r ih => simp [intsOf, ih]
@[simp ↓] theorem wN_nil {ρ Q} : W2 (lend ρ []) Q = Q [] ρ := by simp only [lend, pw, p2, p3, pif, Wp0_ite, Wp0_some, Wp0_none, Wp0_map, Wp0_bind]
@[simp ↓] theorem wN_v {ρ Q d r} : W2 (lend ρ (.v d :: r)) Q = W2 (lend ρ r) fun xa xb => Q ((d, false) :: xa) xb := by simp only [lend, pw, p2, p3, pif, Wp0_ite, Wp0_some, Wp0_none, Wp0_map, Wp0_bind]
@[simp ↓] theorem wN_r {ρ : Rho} {Q i r} : W2 (lend ρ (.r i :: r)) Q = slotL ρ[i]? (fun d => W2 (lend ρ r) fun xa xb => Q ((d, false) :: xa) xb) (fun d => W2 (lend (ρ.set i .no) r) fun xa xb => Q ((d, true) :: xa) xb) := by
  rcases h : ρ[i]? with _ | (_ | d | d) <;> simp only [lend, h, slotL, pw, p2, p3, pif, Wp0_ite, Wp0_some, Wp0_none, Wp0_map, Wp0_bind]
@[simp ↓] theorem wK_nil {ρ Q as ss} : Wp (back ρ [] as ss) Q = Q ρ := by simp [back]
@[simp ↓] theorem wK_t {ρ Q i d s as ss r} : Wp (back ρ (.r i :: r) ((d, true) :: as) (s :: ss)) Q = Wp (back (ρ.set i s) r as ss) Q := by simp [back]
@[simp ↓] theorem wK_f {ρ Q b d s as ss r} : Wp (back ρ (b :: r) ((d, false) :: as) (s :: ss)) Q = Wp (back ρ r as ss) Q := by cases b <;> simp [back]
@[simp ↓] theorem wGA_nil {ρ Q} : Wp (getAll ρ []) Q = Q [] := by simp [getAll]
@[simp ↓] theorem wGA_cons {ρ Q b r} : Wp (getAll ρ (b :: r)) Q = Wp (b.get ρ) fun d => Wp (getAll ρ r) fun ds => Q (d :: ds) := by simp only [getAll, pw, Wp0_ite, Wp0_some, Wp0_none, Wp0_map, Wp0_bind]
@[simp ↓] theorem wSt_nm {i d fr ρ Q} : Wp (setT (.nm i) d fr ρ) Q = Q (ρ.set i (slotOf d fr)) := by simp [setT]
@[simp ↓] theorem wSt_tp {ts d fr ρ Q} : Wp (setT (.tp ts) d fr ρ) Q = Wp (bindT (.tp ts) d ρ) Q := by simp [setT]
@[simp] theorem slotOf_t {d} : slotOf d true = .own d := rfl
@[simp] theorem slotOf_f {d} : slotOf d false = .dat d := rfl
@[simp ↓] theorem wBt_nm {i d ρ Q} : Wp (bindT (.nm i) d ρ) Q = Q (ρ.set i (.dat d)) := by simp [bindT]
@[simp ↓] theorem wBt_tp {ts ds ρ Q} : Wp (bindT (.tp ts) (.tuple ds) ρ) Q = Wp (bindTs ts ds ρ) Q := by simp [bindT]
@[simp ↓] theorem wBs_nil {ρ Q} : Wp (bindTs .nil [] ρ) Q = Q ρ := by simp [bindTs]
@[simp ↓] theorem wBs_cons {a r d ds ρ Q} : Wp (bindTs (.cons a r) (d :: ds) ρ) Q = Wp (bindT a d ρ) fun ρ1 => Wp (bindTs r ds ρ1) Q := by simp [bindTs]
@[simp ↓] theorem wBp_nil {ρ Q} : Wp (bindP .nil [] ρ) Q = Q ρ := by simp [bindP]
@[simp ↓] theorem wBp_nm {i r d fr ds ρ Q} : Wp (bindP (.cons (.nm i) r) ((d, fr) :: ds) ρ) Q = Wp (bindP r ds (ρ.set i (slotOf d fr))) Q := by simp [bindP]
@[simp ↓] theorem wBp_tp {ts r d fr ds ρ Q} : Wp (bindP (.cons (.tp ts) r) ((d, fr) :: ds) ρ) Q = Wp (bindT (.tp ts) d ρ) fun ρ1 => Wp (bindP r ds ρ1) Q := by simp [bindP]
@[simp] theorem argSlot_t {d} : argSlot (d, true) = .own d := rfl
@[simp] theorem argSlot_f {d} : argSlot (d, false) = .dat d := rfl
@[simp] theorem finals_nil {ρ} : finals [] ρ = [] := rfl
@[simp] theorem finals_t {d as s ρ} : finals ((d, true) :: as) (s :: ρ) = s :: finals as ρ := rfl
@[simp] theorem finals_f {d as s ρ} : finals ((d, false) :: as) (s :: ρ) = .no :: finals as ρ := rfl
@[simp] theorem small_lit {i : Int} : (small i = true) = (-(2 ^ 64) < i ∧ i < 2 ^ 64) := by simp [small]
@[simp] theorem lineI_lit {i : Int} : (lineI i = true) = (-(2 ^ 62) ≤ i ∧ i < 2 ^ 62) := by simp [lineI]
@[simp] theorem wipeR_nil {ρ} : wipeR ρ [] = ρ := rfl
@[simp] theorem wipeR_cons {ρ v vs} : wipeR ρ (v :: vs) = (wipeR ρ vs).set v .no := rfl
/-! small sizes -/
@[simp] theorem szl_0 : (0 ≤ sizeLine) = True := by decide
@[simp] theorem szl_1 : (1 ≤ sizeLine) = True := by decide
@[simp] theorem szl_2 : (2 ≤ sizeLine) = True := by decide
@[simp] theorem szl_3 : (3 ≤ sizeLine) = True := by decide
@[simp] theorem szl_4 : (4 ≤ sizeLine) = True := by decide
@[simp] theorem szl_5 : (5 ≤ sizeLine) = True := by decide
@[simp] theorem szl_6 : (6 ≤ sizeLine) = True := by decide
@[simp] theorem szl_7 : (7 ≤ sizeLine) = True := by decide
@[simp] theorem szl_8 : (8 ≤ sizeLine) = True := by decide
@[simp] theorem szl_9 : (9 ≤ sizeLine) = True := by decide
@[simp] theorem szl_10 : (10 ≤ sizeLine) = True := by decide
@[simp] theorem szl_11 : (11 ≤ sizeLine) = True := by decide
@[simp] theorem szl_12 : (12 ≤ sizeLine) = True := by decide
@[simp] theorem szl_13 : (13 ≤ sizeLine) = True := by decide
@[simp] theorem szl_14 : (14 ≤ sizeLine) = True := by decide
@[simp] theorem szl_15 : (15 ≤ sizeLine) = True := by decide
@[simp] theorem szm_0 : (0 < sizeLine) = True := by decide
@[simp] theorem szm_1 : (1 < sizeLine) = True := by decide
@[simp] theorem szm_2 : (2 < sizeLine) = True := by decide
@[simp] theorem szm_3 : (3 < sizeLine) = True := by decide
@[simp] theorem szm_4 : (4 < sizeLine) = True := by decide
@[simp] theorem szm_5 : (5 < sizeLine) = True := by decide
@[simp] theorem szm_6 : (6 < sizeLine) = True := by decide
@[simp] theorem szm_7 : (7 < sizeLine) = True := by decide
@[simp] theorem szm_8 : (8 < sizeLine) = True := by decide
@[simp] theorem szm_9 : (9 < sizeLine) = True := by decide
@[simp] theorem szm_10 : (10 < sizeLine) = True := by decide
@[simp] theorem szm_11 : (11 < sizeLine) = True := by decide
@[simp] theorem szm_12 : (12 < sizeLine) = True := by decide
@[simp] theorem szm_13 : (13 < sizeLine) = True := by decide
@[simp] theorem szm_14 : (14 < sizeLine) = True := by decide
@[simp] theorem szm_15 : (15 < sizeLine) = True := by decide
/-- a def run: its parameters, then its variables -/
theorem w_go {T : Nat → Option Fn} {W k i as} (f : Fn) [Has T i f] {Q} (h : as.length = f.np ∧ lentOk (asgd f.body) 0 as = true)
    (h' : Wp (evS (evF T W k) W f.body (as.map argSlot ++ List.replicate (f.nv - f.np) .no)) fun o => endK o as Q) : W3 (evF T W (k + 1) i as) Q :=
  w_fn (f := f) (w_run h h')
end MI

/-! MIH: loops and comprehensions over lists of known make. -/
namespace MI
open PySem
section
variable {α : Type} {tg : MT} {ev : Rho → List PyData → Option (Rho × List PyData)} {vs : List Nat} {f : α → PyData} {l : List α} {ρ : Rho} {Q : Rho → List PyData → Prop}
theorem w_turnsm {acc0 : List PyData} (I : List α → Rho → List PyData → Prop) (h0 : I [] ρ acc0)
    (h1 : ∀ done d rest ρ acc, l = done ++ d :: rest → I done ρ acc → Wp (bindT tg (f d) ρ) fun ρ1 => W2 (ev ρ1 acc) fun xa xb => Kd (I (done ++ [d]) (wipeR xa vs) xb))
    (h2 : ∀ ρ acc, I l ρ acc → Q ρ acc) : W2 (turns tg ev vs (l.map f) ρ acc0) Q := by
  suffices H : ∀ rest done ρ acc, l = done ++ rest → I done ρ acc → W2 (turns tg ev vs (rest.map f) ρ acc) Q from H l [] ρ acc0 rfl h0
  intro rest
  induction rest with
  | nil => intro done ρ acc h hI; rw [List.append_nil] at h; subst h; exact ⟨_, rfl, h2 _ _ hI⟩
  | cons d rest ih =>
    intro done ρ acc h hI
    simp only [List.map_cons, turns, p2, Wp0_bind]
    obtain ⟨ρ1, h3, x, h4, h5⟩ := h1 done d rest ρ acc h hI
    exact ⟨ρ1, h3, x, h4, ih (done ++ [d]) _ _ (by simp [h]) h5⟩
/-- parts by a function that may leave some out -/
theorem w_compf (g : α → Option PyData) (hn : l.length ≤ sizeLine)
    (h1 : ∀ x acc, x ∈ l → acc.length < sizeLine → Wp (bindT tg (f x) ρ) fun ρ1 => W2 (ev ρ1 acc) fun xa xb => wipeR xa vs = ρ ∧ xb = acc ++ (g x).toList)
    (h2 : Q ρ (l.filterMap g)) : W2 (turns tg ev vs (l.map f) ρ []) Q := by
  refine w_turnsm (fun done ρ' acc => ρ' = ρ ∧ acc = done.filterMap g) ⟨rfl, rfl⟩ ?_ ?_
  · intro done d rest ρ' acc hd ⟨hr, ha⟩
    subst hr
    have hl : acc.length ≤ done.length := by rw [ha]; exact List.length_filterMap_le _ _
    have hd' : done.length < l.length := by rw [hd]; simp
    refine Wp_mono (h1 d acc (by rw [hd]; simp) (by omega)) fun ρ1 h3 => W2_mono h3 fun x y hx => ⟨hx.1, ?_⟩
    rw [hx.2, ha, List.filterMap_append]
    cases hg : g d <;> simp [hg]
  · intro ρ' acc ⟨hr, ha⟩; subst hr; subst ha; exact h2
/-- parts one by one -/
theorem w_compm (g : α → PyData) (hn : l.length ≤ sizeLine)
    (h1 : ∀ x acc, x ∈ l → acc.length < sizeLine → Wp (bindT tg (f x) ρ) fun ρ1 => W2 (ev ρ1 acc) fun xa xb => wipeR xa vs = ρ ∧ xb = acc ++ [g x])
    (h2 : Q ρ (l.map g)) : W2 (turns tg ev vs (l.map f) ρ []) Q :=
  w_compf (fun x => some (g x)) hn (fun x acc hx ha => h1 x acc hx ha) (by rw [List.filterMap_eq_map']; exact h2)
/-- some of the parts -/
theorem w_compp (p : α → Bool) (g : α → PyData) (hn : l.length ≤ sizeLine)
    (h1 : ∀ x acc, x ∈ l → acc.length < sizeLine → Wp (bindT tg (f x) ρ) fun ρ1 => W2 (ev ρ1 acc) fun xa xb => wipeR xa vs = ρ ∧ xb = acc ++ if p x then [g x] else [])
    (h2 : Q ρ ((l.filter p).map g)) : W2 (turns tg ev vs (l.map f) ρ []) Q := by
  refine w_compf (fun x => if p x then some (g x) else none) hn (fun x acc hx ha => ?_) ?_
  · refine Wp_mono (h1 x acc hx ha) fun ρ1 h3 => W2_mono h3 fun a b h => ⟨h.1, ?_⟩
    rw [h.2]; cases hp : p x <;> simp [hp]
  · have : l.filterMap (fun x => if p x then some (g x) else none) = (l.filter p).map g := by
      clear h1 h2 hn
      induction l with
      | nil => rfl
      | cons a r ih => cases hp : p a <;> simp [hp, ih]
    rw [this]; exact h2
end
section
variable {α : Type} {tg : MT} {ev : Rho → Option Out} {f : α → PyData} {l : List α} {ρ : Rho} {Q : Out → Prop}
theorem w_loopm (I : List α → Rho → Prop) (h0 : I [] ρ)
    (h1 : ∀ done d rest ρ, l = done ++ d :: rest → I done ρ → Wp (bindT tg (f d) ρ) fun ρ1 => Wp (ev ρ1) (turnK (I (done ++ [d])) Q))
    (h2 : ∀ ρ, I l ρ → Q (.nx ρ)) : Wp (loopS tg ev (l.map f) ρ) Q := by
  suffices H : ∀ rest done ρ, l = done ++ rest → I done ρ → Wp (loopS tg ev (rest.map f) ρ) Q from H l [] ρ rfl h0
  intro rest
  induction rest with
  | nil => intro done ρ h hI; rw [List.append_nil] at h; subst h; exact ⟨_, rfl, h2 _ hI⟩
  | cons d rest ih =>
    intro done ρ h hI
    simp only [List.map_cons, loopS, Wp_bind]
    refine Wp_mono (h1 done d rest ρ h hI) fun ρ1 h3 => ?_
    rw [Wp_bind]; refine Wp_mono h3 fun o ho => ?_
    cases o with
    | nx ρ2 => exact ih (done ++ [d]) ρ2 (by simp [h]) ho
    | ct ρ2 => exact ih (done ++ [d]) ρ2 (by simp [h]) ho
    | bk ρ2 => exact ⟨_, rfl, ho⟩
    | rt d fr ρ2 => exact ⟨_, rfl, ho⟩
/-- an invariant that does not count -/
theorem w_loops (I : Rho → Prop) (h0 : I ρ)
    (h1 : ∀ d ρ, d ∈ l → I ρ → Wp (bindT tg (f d) ρ) fun ρ1 => Wp (ev ρ1) (turnK I Q))
    (h2 : ∀ ρ, I ρ → Q (.nx ρ)) : Wp (loopS tg ev (l.map f) ρ) Q :=
  w_loopm (fun _ => I) h0 (fun done d rest ρ hl hI => h1 d ρ (by rw [hl]; simp) hI) h2
end
/-- while, by an invariant and a measure -/
def turnW (I : Rho → Prop) (m : Rho → Nat) (n : Nat) (Q : Out → Prop) : Out → Prop
  | .nx ρ => Kd (I ρ ∧ m ρ < n)
  | .ct ρ => Kd (I ρ ∧ m ρ < n)
  | .bk ρ => Q (.nx ρ)
  | .rt d fr ρ => Q (.rt d fr ρ)
@[simp ↓] theorem turnW_nx {I m n Q ρ} : turnW I m n Q (.nx ρ) = Kd (I ρ ∧ m ρ < n) := rfl
@[simp ↓] theorem turnW_ct {I m n Q ρ} : turnW I m n Q (.ct ρ) = Kd (I ρ ∧ m ρ < n) := rfl
@[simp ↓] theorem turnW_bk {I m n Q ρ} : turnW I m n Q (.bk ρ) = Q (.nx ρ) := rfl
@[simp ↓] theorem turnW_rt {I m n Q d fr ρ} : turnW I m n Q (.rt d fr ρ) = Q (.rt d fr ρ) := rfl
theorem w_while {c : Rho → Option (Bool × Rho)} {ev : Rho → Option Out} {W : Nat} {ρ : Rho} {Q : Out → Prop} (I : Rho → Prop) (m : Rho → Nat) (h0 : I ρ) (hm : m ρ < W)
    (h1 : ∀ ρ, I ρ → W2 (c ρ) fun t ρ1 => Wif (t = true) (Wp (ev ρ1) (turnW I m (m ρ) Q)) (Q (.nx ρ1))) : Wp (whileS c ev W ρ) Q := by
  induction W generalizing ρ with
  | zero => omega
  | succ W ih =>
    obtain ⟨⟨t, ρ1⟩, e1, e2⟩ := h1 ρ h0
    cases t with
    | false =>
      have := e2.2 (by simp)
      exact ⟨_, by simp only [whileS, e1, Option.bind_some]; rfl, this⟩
    | true =>
      obtain ⟨o, e3, e4⟩ := e2.1 rfl
      cases o with
      | nx ρ2 =>
        obtain ⟨o', e5, e6⟩ := ih (ρ := ρ2) e4.1 (by have := e4.2; omega)
        exact ⟨o', by simp only [whileS, e1, Option.bind_some, if_true, e3]; exact e5, e6⟩
      | ct ρ2 =>
        obtain ⟨o', e5, e6⟩ := ih (ρ := ρ2) e4.1 (by have := e4.2; omega)
        exact ⟨o', by simp only [whileS, e1, Option.bind_some, if_true, e3]; exact e5, e6⟩
      | bk ρ2 => exact ⟨_, by simp only [whileS, e1, Option.bind_some, if_true, e3], e4⟩
      | rt d fr ρ2 => exact ⟨_, by simp only [whileS, e1, Option.bind_some, if_true, e3], e4⟩
/-- turn by turn, over a written list -/
theorem w_tn {tg ev vs ρ acc Q} : W2 (turns tg ev vs [] ρ acc) Q = Q ρ acc := by simp only [turns, p2, Wp0_some]
theorem w_tc {tg ev vs d ds ρ acc Q} : W2 (turns tg ev vs (d :: ds) ρ acc) Q = Wp (bindT tg d ρ) fun ρ1 => W2 (ev ρ1 acc) fun xa xb => W2 (turns tg ev vs ds (wipeR xa vs) xb) Q := by
  simp only [turns, pw, p2, Wp0_bind]
theorem w_ln {tg ev ρ Q} : Wp (loopS tg ev [] ρ) Q = Q (.nx ρ) := by simp only [loopS, pw, Wp0_some]
/-- the integers from one on -/
def intR (lo hi : Int) : List Int := (List.range (hi - lo).toNat).map fun k : Nat => lo + (k : Int)
theorem rangeD_eq {lo hi : Int} : rangeD lo hi = (intR lo hi).map .int := by simp [rangeD, intR]
theorem mem_intR {lo hi x : Int} : x ∈ intR lo hi ↔ lo ≤ x ∧ x < hi := by
  simp only [intR, List.mem_map, List.mem_range]
  constructor
  · rintro ⟨k, h, rfl⟩; omega
  · intro h; exact ⟨(x - lo).toNat, by omega, by omega⟩
theorem length_intR {lo hi : Int} : (intR lo hi).length = (hi - lo).toNat := by simp [intR]
theorem intR_sorted {lo hi : Int} : (intR lo hi).Pairwise (· < ·) := by
  rw [intR, List.pairwise_map]
  exact List.Pairwise.imp (fun h => by omega) List.pairwise_lt_range
/-- neighbours ascend: all do -/
theorem zip_lt {S : List Int} : (∀ p ∈ S.zip (S.drop 1), p.1 < p.2) ↔ S.Pairwise (· < ·) := by
  induction S with
  | nil => simp
  | cons a r ih =>
    cases r with
    | nil => simp
    | cons b t =>
      simp only [List.drop_one, List.tail_cons, List.zip_cons_cons, List.mem_cons, forall_eq_or_imp] at ih ⊢
      rw [List.pairwise_cons, ← ih]
      constructor
      · rintro ⟨h1, h2⟩
        refine ⟨?_, h2⟩
        have h3 := ih.1 h2
        rw [List.pairwise_cons] at h3
        intro x hx
        rcases List.mem_cons.1 hx with rfl | hx
        · exact h1
        · have := h3.1 x hx; omega
      · rintro ⟨h1, h2⟩; exact ⟨h1 b (List.mem_cons_self), h2⟩
theorem cut_from {α : Type} {xs : List α} {i : Int} (h : 0 ≤ i) : cut xs (some i) none = xs.drop i.toNat := by
  have : ¬ i < 0 := by omega
  simp only [cut, cutIx, if_neg this]
  by_cases hl : i.toNat ≤ xs.length
  · rw [Nat.min_eq_left hl, List.take_of_length_le (by simp)]
  · rw [Nat.min_eq_right (by omega), Nat.sub_self, List.take_zero, List.drop_eq_nil_of_le (by omega)]
theorem cut_upto {α : Type} {xs : List α} {i : Int} (h : 0 ≤ i) : cut xs none (some i) = xs.take i.toNat := by
  have : ¬ i < 0 := by omega
  simp only [cut, cutIx, if_neg this, List.drop_zero, Nat.sub_zero]
  by_cases hl : i.toNat ≤ xs.length
  · rw [Nat.min_eq_left hl]
  · rw [Nat.min_eq_right (by omega), List.take_of_length_le (by omega), List.take_of_length_le (by omega)]
theorem cut_both {α : Type} {xs : List α} {i j : Int} (h : 0 ≤ i) (h' : 0 ≤ j) : cut xs (some i) (some j) = (xs.drop i.toNat).take (j.toNat - i.toNat) := by
  have hi : ¬ i < 0 := by omega
  have hj : ¬ j < 0 := by omega
  simp only [cut, cutIx, if_neg hi, if_neg hj]
  by_cases hl : i.toNat ≤ xs.length
  · rw [Nat.min_eq_left hl]
    by_cases hl2 : j.toNat ≤ xs.length
    · rw [Nat.min_eq_left hl2]
    · rw [Nat.min_eq_right (by omega), List.take_of_length_le (by simp), List.take_of_length_le (by simp; omega)]
  · rw [Nat.min_eq_right (a := i.toNat) (by omega), List.drop_eq_nil_of_le (Nat.le_refl _), List.drop_eq_nil_of_le (by omega)]; simp
@[simp] theorem cut_1 {α : Type} {xs : List α} : cut xs (some 1) none = xs.tail := by rw [cut_from (by omega)]; simp
theorem zip_ints {S R : List Int} : ((S.map PyData.int).zip (R.map PyData.int)).map (fun p => PyData.tuple [p.1, p.2]) = (S.zip R).map (fun p => PyData.tuple [.int p.1, .int p.2]) := by
  rw [List.zip_map, List.map_map]; rfl
end MI

/-! MII: data of which repr and == can be told. -/
namespace MI
open PySem
mutual
/-- no dicts, numbers not too long -/
def mild : PyData → Bool
  | .none => true
  | .bool _ => true
  | .int i => decide (i.natAbs < 2 ^ 80)
  | .str s => PyData.strOk s
  | .list xs => mildAll xs
  | .tuple xs => mildAll xs
  | .dict _ => false
def mildAll : List PyData → Bool
  | [] => true
  | x :: r => mild x && mildAll r
end
theorem mildAll_iff {xs : List PyData} : mildAll xs = true ↔ ∀ x ∈ xs, mild x = true := by
  induction xs with
  | nil => simp [mildAll]
  | cons a r ih => simp [mildAll, ih]
theorem log2_lt {n : Nat} (h : n < 2 ^ 80) : n.log2 < 80 := by
  rcases Nat.eq_zero_or_pos n with rfl | h0
  · decide
  · exact (Nat.log2_lt (by omega)).2 h
mutual
theorem mild_canLay : ∀ d : PyData, mild d = true → d.canLay0 = true
  | .none, _ => by simp only [PyData.canLay0]
  | .bool _, _ => by simp only [PyData.canLay0]
  | .int _, _ => by simp only [PyData.canLay0]
  | .str s, h => by simp only [mild] at h; simp only [PyData.canLay0, h]
  | .list xs, h => by simp only [mild] at h; simp only [PyData.canLay0]; exact mildAll_canLay xs h
  | .tuple xs, h => by simp only [mild] at h; simp only [PyData.canLay0]; exact mildAll_canLay xs h
  | .dict _, h => by simp only [mild] at h; cases h
theorem mildAll_canLay : ∀ xs : List PyData, mildAll xs = true → PyData.canLayAll0 xs = true
  | [], _ => by simp only [PyData.canLayAll0]
  | x :: r, h => by
    simp only [mildAll, Bool.and_eq_true] at h
    simp only [PyData.canLayAll0, mild_canLay x h.1, mildAll_canLay r h.2, Bool.and_self]
end
mutual
theorem mild_show : ∀ d : PyData, mild d = true → d.showable = true ∧ d.hasDict = false ∧ d.leavesShort 96 = true
  | .none, _ => by simp [PyData.showable, PyData.hasDict, PyData.leavesShort]
  | .bool _, _ => by simp [PyData.showable, PyData.hasDict, PyData.leavesShort]
  | .int i, h => by
    simp only [mild, decide_eq_true_eq] at h
    have h1 := log2_lt h
    have h2 : (Str.ofString (toString i)).length ≤ 96 := by
      rw [PySem.ofString_length]
      exact Nat.le_trans (PySem.int_text_length_le (k := 80) (by decide) h1) (by decide)
    exact ⟨by simp only [PyData.showable, decide_eq_true_eq]; omega, by simp only [PyData.hasDict], by simp only [PyData.leavesShort, PyData.shown]; exact decide_eq_true h2⟩
  | .str s, h => by
    exact ⟨by simp only [PyData.showable], by simp only [PyData.hasDict], PyData.leavesShort_of_canLay0 96 _ (mild_canLay _ h) (by simp only [PyData.intsShort])⟩
  | .list xs, h => by
    simp only [mild] at h
    have := mildAll_show xs h
    simp [PyData.showable, PyData.hasDict, PyData.leavesShort, this]
  | .tuple xs, h => by
    simp only [mild] at h
    have := mildAll_show xs h
    simp [PyData.showable, PyData.hasDict, PyData.leavesShort, this]
  | .dict _, h => by simp only [mild] at h; cases h
theorem mildAll_show : ∀ xs : List PyData, mildAll xs = true → PyData.showableAll xs = true ∧ PyData.hasDictAll xs = false ∧ PyData.leavesShortAll 96 xs = true
  | [], _ => by simp [PyData.showableAll, PyData.hasDictAll, PyData.leavesShortAll]
  | x :: r, h => by
    simp only [mildAll, Bool.and_eq_true] at h
    have h1 := mild_show x h.1
    have h2 := mildAll_show r h.2
    simp [PyData.showableAll, PyData.hasDictAll, PyData.leavesShortAll, h1, h2]
end
theorem mild_lay {d : PyData} (h : mild d = true) (h2 : d.depth ≤ 64) : lay d = true := by
  simp only [lay, SeqAt.shaped, mild_canLay d h, Bool.true_and, decide_eq_true_eq]; exact h2
theorem mild_shows {d : PyData} (h : mild d = true) (h2 : d.depth ≤ 64) (h3 : d.weight ≤ 170000) : shows d = true := by
  have h4 := mild_show d h
  have h5 := PyData.shown_le 96 (by decide) d h4.2.2
  have h6 : d.shown.length ≤ sizeLine := Nat.le_trans h5 (Nat.le_trans (Nat.add_le_add_right (Nat.mul_le_mul_left _ h3) _) (by decide))
  simp [shows, h4, h2, h6]
@[simp] theorem eqv_ints {S R : List Int} : PyData.eqvAll (S.map .int) (R.map .int) = decide (S = R) := by
  induction S generalizing R with
  | nil => cases R <;> simp [PyData.eqvAll]
  | cons a r ih => cases R with
    | nil => simp [PyData.eqvAll]
    | cons b t => simp [PyData.eqvAll, PyData.eqv, ih, Bool.decide_and]; rfl
@[simp] theorem eqv_nil {S : List PyData} : PyData.eqvAll S [] = S.isEmpty := by cases S <;> simp [PyData.eqvAll]
@[simp] theorem eqv_nil' {S : List PyData} : PyData.eqvAll [] S = S.isEmpty := by cases S <;> simp [PyData.eqvAll]
@[simp] theorem eqv_l {S R : List PyData} : PyData.eqv (.list S) (.list R) = PyData.eqvAll S R := by simp [PyData.eqv]
@[simp] theorem eqv_t {S R : List PyData} : PyData.eqv (.tuple S) (.tuple R) = PyData.eqvAll S R := by simp [PyData.eqv]
@[simp] theorem eqv_c {x y : PyData} {S R : List PyData} : PyData.eqvAll (x :: S) (y :: R) = (PyData.eqv x y && PyData.eqvAll S R) := by simp [PyData.eqvAll]
@[simp] theorem eqv_i {x y : Int} : PyData.eqv (.int x) (.int y) = decide (x = y) := by simp only [PyData.eqv]; rfl
theorem depth_ints {S : List Int} : PyData.depthAll (S.map .int) = 0 := by
  induction S with
  | nil => simp [PyData.depthAll]
  | cons a r ih => simp [PyData.depthAll, PyData.depth, ih]
theorem mild_ints {S : List Int} (h : ∀ s ∈ S, s.natAbs < 2 ^ 80) : mildAll (S.map .int) = true := by
  rw [mildAll_iff]; intro x hx
  obtain ⟨s, hs, rfl⟩ := List.mem_map.1 hx
  simp only [mild, decide_eq_true_eq]; exact h s hs
theorem lay_ints {S : List Int} (h : ∀ s ∈ S, s.natAbs < 2 ^ 80) : lay (.list (S.map .int)) = true :=
  mild_lay (by simp only [mild]; exact mild_ints h) (by simp [PyData.depth, depth_ints])
theorem lay_intsT {S : List Int} (h : ∀ s ∈ S, s.natAbs < 2 ^ 80) : lay (.tuple (S.map .int)) = true :=
  mild_lay (by simp only [mild]; exact mild_ints h) (by simp [PyData.depth, depth_ints])
@[simp] theorem lay_nil : lay (.list []) = true := by decide
@[simp] theorem lay_nilT : lay (.tuple []) = true := by decide
end MI

namespace LW
open PySem MI L2
abbrev WW : Nat := 100000
abbrev i_is_integer : Nat := 0
abbrev i_is_between : Nat := 1
abbrev i_is_set : Nat := 2
abbrev i_is_pattern : Nat := 3
abbrev i_need_pattern : Nat := 21
abbrev i_distances_of : Nat := 284
abbrev i_are_apart : Nat := 285
abbrev i_distances : Nat := 286
abbrev i_meet_once : Nat := 287
abbrev i_cell_at : Nat := 155
abbrev i_pen : Nat := 5
abbrev i_draw : Nat := 6
abbrev i_pick : Nat := 7
abbrev i_same : Nat := 8
abbrev i_sender : Nat := 245
abbrev i_does_send : Nat := 22
abbrev i_meets_once : Nat := 288
abbrev i_all : Nat := 289
abbrev i_due_12 : Nat := 290
abbrev i_right_7 : Nat := 291
abbrev i_law_k53 : Nat := 292
def f_is_integer : Fn := ⟨1, 1,
  (.ret (.and (.bi .isInt (.cons (.var 0) .nil)) (.not (.bi .isBool (.cons (.var 0) .nil)))))⟩
def f_is_between : Fn := ⟨3, 3,
  (.ret (.and (.call i_is_integer (.cons (.var 0) .nil)) (.cmp2 .le .le (.var 1) (.var 0) (.var 2))))⟩
def f_is_set : Fn := ⟨3, 5,
  (.seq (.ite (.or (.not (.tst (.bi .isTuple (.cons (.var 0) .nil)))) (.not (.tst (.bi .all (.cons (.comp [3] (.nm 3) (.it (.var 0)) .nil (.call i_is_between (.cons (.var 3) (.cons (.var 1) (.cons (.var 2) .nil))))) .nil))))) (.ret (.lit (.bool false))) .skip)
    (.ret (.bi .all (.cons (.comp [3, 4] (.tp (.cons (.nm 3) (.cons (.nm 4) .nil))) (.zp (.var 0) (.sl (.var 0) (.cons (.lit (.int 1)) .nil) .nil)) .nil (.cmp .lt (.var 3) (.var 4))) .nil))))⟩
def f_is_pattern : Fn := ⟨1, 1,
  (.seq (.ite (.or (.not (.tst (.bi .isTuple (.cons (.var 0) .nil)))) (.or (.tst (.cmp .ne (.bi .len (.cons (.var 0) .nil)) (.lit (.int 2)))) (.not (.tst (.call i_is_between (.cons (.idx (.var 0) (.lit (.int 0))) (.cons (.lit (.int 2)) (.cons (.lit (.int 60)) .nil)))))))) (.ret (.lit (.bool false))) .skip)
    (.ret (.and (.call i_is_set (.cons (.idx (.var 0) (.lit (.int 1))) (.cons (.lit (.int 0)) (.cons (.bin .sub (.idx (.var 0) (.lit (.int 0))) (.lit (.int 1))) .nil)))) (.cmp2 .le .lt (.lit (.int 1)) (.bi .len (.cons (.idx (.var 0) (.lit (.int 1))) .nil)) (.idx (.var 0) (.lit (.int 0)))))))⟩
def f_need_pattern : Fn := ⟨1, 1,
  (.ite (.not (.tst (.call i_is_pattern (.cons (.var 0) .nil)))) .stuck .skip)⟩
def f_distances_of : Fn := ⟨1, 5,
  (.seq (.asg (.tp (.cons (.nm 1) (.cons (.nm 2) .nil))) (.var 0))
    (.ret (.bi .tuple (.cons (.sset (.comp2 [3, 4] [4] (.nm 3) (.it (.var 2)) .nil (.nm 4) (.it (.var 2)) (.tst (.cmp .ne (.var 3) (.var 4))) (.bin .mod (.bin .sub (.var 3) (.var 4)) (.var 1)))) .nil))))⟩
def f_are_apart : Fn := ⟨2, 3,
  (.ret (.bi .all (.cons (.comp [2] (.nm 2) (.it (.var 0)) .nil (.cmp .notin (.var 2) (.var 1))) .nil)))⟩
def f_distances : Fn := ⟨1, 1,
  (.seq (.expr (.call i_need_pattern (.cons (.var 0) .nil)))
    (.ret (.call i_distances_of (.cons (.var 0) .nil))))⟩
def f_meet_once : Fn := ⟨2, 2,
  (.seq (.expr (.call i_need_pattern (.cons (.var 0) .nil)))
    (.seq (.expr (.call i_need_pattern (.cons (.var 1) .nil)))
    (.seq (.ite (.tst (.cmp .ne (.idx (.var 0) (.lit (.int 0))) (.idx (.var 1) (.lit (.int 0))))) .stuck .skip)
    (.ret (.call i_are_apart (.cons (.call i_distances_of (.cons (.var 0) .nil)) (.cons (.call i_distances_of (.cons (.var 1) .nil)) .nil)))))))⟩
def f_cell_at : Fn := ⟨2, 2,
  (.seq (.ite (.tst (.cmp .lt (.var 1) (.bi .len (.cons (.var 0) .nil)))) (.ret (.idx (.var 0) (.var 1))) .skip)
    (.ret (.lit (.int 0))))⟩
def f_pen : Fn := ⟨1, 1,
  (.ret (.lst (.cons (.bi .max2 (.cons (.lit (.int 0)) (.cons (.bin .sub (.var 0) (.bin .pow (.lit (.int 10)) (.lit (.int 18)))) .nil))) (.cons (.bin .add (.bin .mod (.var 0) (.lit (.int 2147483629))) (.lit (.int 1))) (.cons (.lit (.int 0)) .nil)))))⟩
def f_draw : Fn := ⟨2, 4,
  (.seq (.ite (.tst (.cmp .gt (.idx (.var 0) (.lit (.int 0))) (.lit (.int 0)))) (.seq (.asg (.nm 2) (.bin .mod (.idx (.var 0) (.lit (.int 0))) (.var 1)))
    (.seq (.put 0 (.lit (.int 0)) (.bin .fdiv (.idx (.var 0) (.lit (.int 0))) (.var 1)))
    (.ret (.var 2)))) .skip)
    (.seq (.put 0 (.lit (.int 2)) (.bin .add (.idx (.var 0) (.lit (.int 2))) (.lit (.int 1))))
    (.seq (.put 0 (.lit (.int 1)) (.bin .mod (.bin .add (.bin .add (.bin .mul (.idx (.var 0) (.lit (.int 1))) (.lit (.int 48271))) (.bin .mul (.lit (.int 1009)) (.idx (.var 0) (.lit (.int 2))))) (.lit (.int 7))) (.lit (.int 2147483647))))
    (.seq (.asg (.nm 3) (.bin .mod (.bin .add (.bin .add (.bin .mul (.idx (.var 0) (.lit (.int 1))) (.idx (.var 0) (.lit (.int 1)))) (.bin .mul (.lit (.int 69621)) (.idx (.var 0) (.lit (.int 1))))) (.lit (.int 11))) (.lit (.int 2147483629))))
    (.seq (.asg (.nm 3) (.bin .mod (.bin .add (.bin .mul (.var 3) (.var 3)) (.bin .mul (.lit (.int 40014)) (.var 3))) (.lit (.int 2147483587))))
    (.ret (.bin .mod (.bin .fdiv (.var 3) (.lit (.int 16))) (.var 1))))))))⟩
def f_pick : Fn := ⟨2, 2,
  (.ret (.idx (.var 1) (.call i_draw (.cons (.var 0) (.cons (.bi .len (.cons (.var 1) .nil)) .nil)))))⟩
def f_same : Fn := ⟨2, 2,
  (.ret (.cmp .eq (.bi .repr (.cons (.var 0) .nil)) (.bi .repr (.cons (.var 1) .nil))))⟩
def f_sender : Fn := ⟨2, 6,
  (.seq (.par (.cons (.nm 2) (.cons (.nm 3) .nil)) (.cons (.bin .add (.lit (.int 2)) (.call i_draw (.cons (.var 0) (.cons (.bin .sub (.var 1) (.lit (.int 1))) .nil)))) (.cons (.call i_pick (.cons (.var 0) (.cons (.lst (.cons (.lit (.int 2)) (.cons (.lit (.int 3)) (.cons (.lit (.int 5)) .nil)))) .nil))) .nil)))
    (.seq (.asg (.nm 4) (.comp [5] (.nm 5) (.rng1 (.var 2)) (.tst (.cmp .eq (.call i_draw (.cons (.var 0) (.cons (.var 3) .nil))) (.lit (.int 0)))) (.var 5)))
    (.seq (.asg (.nm 4) (.ite (.tst (.cmp .ne (.var 4) (.lst .nil))) (.var 4) (.lst (.cons (.call i_draw (.cons (.var 0) (.cons (.var 2) .nil))) .nil))))
    (.ret (.tup (.cons (.var 2) (.cons (.bi .tuple (.cons (.ite (.tst (.cmp .lt (.bi .len (.cons (.var 4) .nil)) (.var 2))) (.var 4) (.sl (.var 4) (.cons (.lit (.int 1)) .nil) .nil)) .nil)) .nil)))))))⟩
def f_does_send : Fn := ⟨3, 3,
  (.ret (.cmp .isin (.bin .mod (.bin .sub (.var 2) (.var 1)) (.idx (.var 0) (.lit (.int 0)))) (.idx (.var 0) (.lit (.int 1)))))⟩
def f_meets_once : Fn := ⟨2, 6,
  (.seq (.asg (.nm 2) (.idx (.var 0) (.lit (.int 0))))
    (.seq (.loop (.nm 3) (.rng1 (.var 2)) (.seq (.asg (.nm 4) (.comp [5] (.nm 5) (.rng1 (.var 2)) (.and (.tst (.call i_does_send (.cons (.var 0) (.cons (.lit (.int 0)) (.cons (.var 5) .nil))))) (.tst (.call i_does_send (.cons (.var 1) (.cons (.var 3) (.cons (.var 5) .nil)))))) (.var 5)))
    (.ite (.tst (.cmp .gt (.bi .len (.cons (.var 4) .nil)) (.lit (.int 1)))) (.ret (.lit (.bool false))) .skip)))
    (.ret (.lit (.bool true)))))⟩
def f_all : Fn := ⟨1, 4,
  (.seq (.asg (.nm 1) (.lst (.cons (.tup .nil) .nil)))
    (.seq (.loop (.nm 2) (.rng1 (.var 0)) (.asg (.nm 1) (.bin .add (.var 1) (.comp [3] (.nm 3) (.it (.var 1)) .nil (.bin .add (.var 3) (.tup (.cons (.var 2) .nil)))))))
    (.ret (.comp [3] (.nm 3) (.it (.var 1)) (.tst (.cmp2 .lt .lt (.lit (.int 0)) (.bi .len (.cons (.var 3) .nil)) (.var 0))) (.tup (.cons (.var 0) (.cons (.var 3) .nil)))))))⟩
def f_due_12 : Fn := ⟨1, 3,
  (.ret (.bi .tuple (.cons (.comp [1] (.nm 1) (.rng2 (.lit (.int 1)) (.idx (.var 0) (.lit (.int 0)))) (.tst (.cmp .ne (.comp [2] (.nm 2) (.it (.idx (.var 0) (.lit (.int 1)))) (.tst (.cmp .isin (.bin .mod (.bin .add (.var 2) (.var 1)) (.idx (.var 0) (.lit (.int 0)))) (.idx (.var 0) (.lit (.int 1))))) (.lit (.int 1))) (.lst .nil))) (.var 1)) .nil)))⟩
def f_right_7 : Fn := ⟨2, 5,
  (.seq (.par (.cons (.nm 2) (.cons (.nm 3) .nil)) (.cons (.bi .repr (.cons (.tup (.cons (.var 0) (.cons (.var 1) .nil))) .nil)) (.cons (.call i_meets_once (.cons (.var 0) (.cons (.var 1) .nil))) .nil)))
    (.seq (.asg (.nm 4) (.lst (.cons (.call i_meet_once (.cons (.var 0) (.cons (.var 1) .nil))) (.cons (.call i_meet_once (.cons (.var 1) (.cons (.var 0) .nil))) (.cons (.call i_distances (.cons (.var 0) .nil)) (.cons (.call i_distances (.cons (.var 1) .nil)) (.cons (.call i_meet_once (.cons (.var 0) (.cons (.var 1) .nil))) .nil)))))))
    (.seq (.ite (.not (.tst (.call i_same (.cons (.var 4) (.cons (.lst (.cons (.var 3) (.cons (.var 3) (.cons (.call i_due_12 (.cons (.var 0) .nil)) (.cons (.call i_due_12 (.cons (.var 1) .nil)) (.cons (.var 3) .nil)))))) .nil))))) (.ret (.lit (.bool false))) .skip)
    (.ret (.cmp .eq (.bi .repr (.cons (.tup (.cons (.var 0) (.cons (.var 1) .nil))) .nil)) (.var 2))))))⟩
def f_law_k53 : Fn := ⟨1, 13,
  (.seq (.par (.cons (.nm 1) (.cons (.nm 2) (.cons (.nm 3) .nil))) (.cons (.tup (.cons (.lit (.int 60)) (.cons (.tup (.cons (.lit (.int 0)) (.cons (.lit (.int 25)) .nil))) .nil))) (.cons (.tup (.cons (.lit (.int 60)) (.cons (.tup (.cons (.lit (.int 3)) (.cons (.lit (.int 38)) .nil))) .nil))) (.cons (.tup (.cons (.lit (.int 59)) (.cons (.tup (.cons (.lit (.int 0)) (.cons (.lit (.int 28)) .nil))) .nil))) .nil))))
    (.seq (.ite (.or (.not (.tst (.call i_right_7 (.cons (.var 1) (.cons (.var 2) .nil))))) (.or (.not (.tst (.call i_right_7 (.cons (.var 1) (.cons (.var 1) .nil))))) (.not (.tst (.call i_right_7 (.cons (.var 3) (.cons (.tup (.cons (.lit (.int 59)) (.cons (.tup (.cons (.lit (.int 5)) (.cons (.lit (.int 34)) .nil))) .nil))) .nil))))))) (.ret (.lit (.bool false))) .skip)
    (.seq (.loop (.nm 4) (.it (.tup (.cons (.lit (.int 2)) (.cons (.lit (.int 3)) (.cons (.lit (.int 4)) .nil))))) (.loop (.nm 5) (.it (.call i_all (.cons (.var 4) .nil))) (.ite (.tst (.cmp .ne (.comp [6] (.nm 6) (.it (.call i_all (.cons (.var 4) .nil))) (.not (.tst (.call i_right_7 (.cons (.var 5) (.cons (.var 6) .nil))))) (.lit (.int 1))) (.lst .nil))) (.ret (.lit (.bool false))) .skip)))
    (.seq (.loop (.nm 7) (.rng1 (.bi .max2 (.cons (.lit (.int 1)) (.cons (.bi .min2 (.cons (.bi .len (.cons (.var 0) .nil)) (.cons (.lit (.int 3)) .nil))) .nil)))) (.seq (.asg (.nm 8) (.call i_pen (.cons (.call i_cell_at (.cons (.var 0) (.cons (.var 7) .nil))) .nil)))
    (.loop (.nm 9) (.rng1 (.lit (.int 12))) (.seq (.asg (.nm 5) (.call i_sender (.cons (.var 8) (.cons (.lit (.int 60)) .nil))))
    (.seq (.ite (.not (.tst (.call i_same (.cons (.lst (.cons (.call i_distances (.cons (.var 5) .nil)) (.cons (.call i_distances (.cons (.var 5) .nil)) .nil))) (.cons (.bin .mul (.lst (.cons (.call i_due_12 (.cons (.var 5) .nil)) .nil)) (.lit (.int 2))) .nil))))) (.ret (.lit (.bool false))) .skip)
    (.seq (.asg (.nm 5) (.call i_sender (.cons (.var 8) (.cons (.idx (.lst (.cons (.lit (.int 20)) (.cons (.lit (.int 9)) (.cons (.lit (.int 14)) .nil)))) (.bin .mod (.var 9) (.lit (.int 3)))) .nil))))
    (.seq (.asg (.nm 10) (.sset (.comp [11] (.nm 11) (.rng1 (.bin .add (.lit (.int 1)) (.call i_draw (.cons (.var 8) (.cons (.lit (.int 4)) .nil))))) .nil (.call i_draw (.cons (.var 8) (.cons (.idx (.var 5) (.lit (.int 0))) .nil))))))
    (.seq (.ite (.and (.tst (.cmp .lt (.bi .len (.cons (.var 10) .nil)) (.idx (.var 5) (.lit (.int 0))))) (.not (.tst (.call i_right_7 (.cons (.var 5) (.cons (.tup (.cons (.idx (.var 5) (.lit (.int 0))) (.cons (.bi .tuple (.cons (.var 10) .nil)) .nil))) .nil)))))) (.ret (.lit (.bool false))) .skip)
    (.seq (.asg (.nm 4) (.bin .add (.lit (.int 40)) (.call i_draw (.cons (.var 8) (.cons (.lit (.int 21)) .nil)))))
    (.seq (.asg (.nm 12) (.comp [9] (.nm 9) (.it (.tup (.cons (.lit (.int 0)) (.cons (.lit (.int 1)) .nil)))) .nil (.bi .tuple (.cons (.sset (.comp [11] (.nm 11) (.rng1 (.lit (.int 3))) .nil (.call i_draw (.cons (.var 8) (.cons (.var 4) .nil))))) .nil))))
    (.ite (.not (.tst (.call i_right_7 (.cons (.tup (.cons (.var 4) (.cons (.idx (.var 12) (.lit (.int 0))) .nil))) (.cons (.tup (.cons (.var 4) (.cons (.idx (.var 12) (.lit (.int 1))) .nil))) .nil))))) (.ret (.lit (.bool false))) .skip)))))))))))
    (.ret (.lit (.bool true)))))))⟩
@[irreducible] def T : Nat → Option Fn := fun i => match i with
  | 0 => some f_is_integer
  | 1 => some f_is_between
  | 2 => some f_is_set
  | 3 => some f_is_pattern
  | 5 => some f_pen
  | 6 => some f_draw
  | 7 => some f_pick
  | 8 => some f_same
  | 21 => some f_need_pattern
  | 22 => some f_does_send
  | 155 => some f_cell_at
  | 245 => some f_sender
  | 284 => some f_distances_of
  | 285 => some f_are_apart
  | 286 => some f_distances
  | 287 => some f_meet_once
  | 288 => some f_meets_once
  | 289 => some f_all
  | 290 => some f_due_12
  | 291 => some f_right_7
  | 292 => some f_law_k53
  | _ => none
instance : Has T i_is_integer f_is_integer := ⟨by unfold T; rfl⟩
instance : Has T i_is_between f_is_between := ⟨by unfold T; rfl⟩
instance : Has T i_is_set f_is_set := ⟨by unfold T; rfl⟩
instance : Has T i_is_pattern f_is_pattern := ⟨by unfold T; rfl⟩
instance : Has T i_pen f_pen := ⟨by unfold T; rfl⟩
instance : Has T i_draw f_draw := ⟨by unfold T; rfl⟩
instance : Has T i_pick f_pick := ⟨by unfold T; rfl⟩
instance : Has T i_same f_same := ⟨by unfold T; rfl⟩
instance : Has T i_need_pattern f_need_pattern := ⟨by unfold T; rfl⟩
instance : Has T i_does_send f_does_send := ⟨by unfold T; rfl⟩
instance : Has T i_cell_at f_cell_at := ⟨by unfold T; rfl⟩
instance : Has T i_sender f_sender := ⟨by unfold T; rfl⟩
instance : Has T i_distances_of f_distances_of := ⟨by unfold T; rfl⟩
instance : Has T i_are_apart f_are_apart := ⟨by unfold T; rfl⟩
instance : Has T i_distances f_distances := ⟨by unfold T; rfl⟩
instance : Has T i_meet_once f_meet_once := ⟨by unfold T; rfl⟩
instance : Has T i_meets_once f_meets_once := ⟨by unfold T; rfl⟩
instance : Has T i_all f_all := ⟨by unfold T; rfl⟩
instance : Has T i_due_12 f_due_12 := ⟨by unfold T; rfl⟩
instance : Has T i_right_7 f_right_7 := ⟨by unfold T; rfl⟩
instance : Has T i_law_k53 f_law_k53 := ⟨by unfold T; rfl⟩
section
/-! P0: plain arithmetic: common factors, remainders, sums over lists. -/
namespace PL
theorem bezN (a b : Nat) : ∃ x y : Int, (Nat.gcd a b : Int) = a * x + b * y := by
  induction a, b using Nat.gcd.induction with
  | H0 n => exact ⟨0, 1, by simp⟩
  | H1 m n hm ih =>
    obtain ⟨x, y, h⟩ := ih
    rw [Nat.gcd_rec]
    refine ⟨y - (n / m : Nat) * x, x, ?_⟩
    rw [h]
    have e : (n : Int) = (n % m : Nat) + m * (n / m : Nat) := by
      have := Nat.mod_add_div n m
      exact_mod_cast this.symm
    generalize ((n % m : Nat) : Int) = r at *
    generalize ((n / m : Nat) : Int) = q at *
    rw [e, Int.mul_sub, Int.add_mul]
    have : (m : Int) * (q * x) = m * q * x := (Int.mul_assoc _ _ _).symm
    omega
theorem bez (a b : Int) : ∃ x y : Int, (Int.gcd a b : Int) = a * x + b * y := by
  obtain ⟨x, y, h⟩ := bezN a.natAbs b.natAbs
  have e : ∀ z : Int, ∃ s : Int, (z.natAbs : Int) = z * s := fun z => by
    rcases Int.natAbs_eq z with h | h
    · exact ⟨1, by omega⟩
    · exact ⟨-1, by omega⟩
  obtain ⟨s, hs⟩ := e a
  obtain ⟨u, hu⟩ := e b
  exact ⟨s * x, u * y, by rw [show (Int.gcd a b : Int) = (Nat.gcd a.natAbs b.natAbs : Int) from rfl, h, hs, hu, Int.mul_assoc, Int.mul_assoc]⟩
/-- two remainders that agree at the common factor -/
theorem crt {a b x y : Int} (h : (Int.gcd a b : Int) ∣ x - y) : ∃ t, a ∣ t - x ∧ b ∣ t - y := by
  obtain ⟨u, v, e⟩ := bez a b
  obtain ⟨k, hk⟩ := h
  refine ⟨x - a * u * k, ⟨-(u * k), ?_⟩, ⟨v * k, ?_⟩⟩
  · rw [Int.mul_neg, Int.mul_assoc]; omega
  · rw [e, Int.add_mul] at hk
    rw [← Int.mul_assoc]; omega
theorem crt_conv {a b x y t : Int} (h1 : a ∣ t - x) (h2 : b ∣ t - y) : (Int.gcd a b : Int) ∣ x - y := by
  have h3 := Int.dvd_trans (Int.gcd_dvd_left a b) h1
  have h4 := Int.dvd_trans (Int.gcd_dvd_right a b) h2
  have h5 := Int.dvd_sub h4 h3
  have e : t - y - (t - x) = x - y := by omega
  rwa [e] at h5
theorem emod_eq_iff {a b n : Int} : a % n = b % n ↔ n ∣ a - b := Int.emod_eq_emod_iff_emod_sub_eq_zero.trans (Int.dvd_iff_emod_eq_zero.symm)
theorem emod_of {a r n : Int} (h0 : 0 ≤ r) (h1 : r < n) (h : n ∣ a - r) : a % n = r := by
  have := emod_eq_iff.2 h
  rw [this, Int.emod_eq_of_lt h0 h1]
theorem dvd_emod {a n : Int} : n ∣ a - a % n := by
  have := Int.emod_add_mul_ediv a n
  exact ⟨a / n, by omega⟩
theorem small_dvd {a b n : Int} (h : n ∣ a - b) (ha : 0 ≤ a) (ha' : a < n) (hb : 0 ≤ b) (hb' : b < n) : a = b := by
  have := emod_eq_iff.2 h
  rwa [Int.emod_eq_of_lt ha ha', Int.emod_eq_of_lt hb hb'] at this
/-! ### sums -/
def sm {α : Type} (l : List α) (f : α → Int) : Int := (l.map f).sum
section
variable {α β : Type} {l : List α} {f g : α → Int}
@[simp] theorem sm_nil : sm ([] : List α) f = 0 := rfl
@[simp] theorem sm_cons {a : α} {l : List α} {f : α → Int} : sm (a :: l) f = f a + sm l f := by simp [sm]
theorem sm_append {l m : List α} : sm (l ++ m) f = sm l f + sm m f := by
  induction l with
  | nil => simp
  | cons a r ih => simp [ih]; omega
theorem sm_congr (h : ∀ x ∈ l, f x = g x) : sm l f = sm l g := by
  induction l with
  | nil => rfl
  | cons a r ih => simp [ih fun x hx => h x (List.mem_cons_of_mem _ hx), h a List.mem_cons_self]
theorem sm_add : sm l (fun x => f x + g x) = sm l f + sm l g := by
  induction l with
  | nil => rfl
  | cons a r ih => simp [ih]; omega
theorem sm_mul {c : Int} : sm l (fun x => c * f x) = c * sm l f := by
  induction l with
  | nil => simp
  | cons a r ih => simp [ih, Int.mul_add]
theorem sm_mul' {c : Int} : sm l (fun x => f x * c) = sm l f * c := by
  induction l with
  | nil => simp
  | cons a r ih => simp [ih, Int.add_mul]
theorem sm_zero : sm l (fun _ => 0) = 0 := by
  induction l with
  | nil => rfl
  | cons a r ih => simp [ih]
theorem sm_const {c : Int} : sm l (fun _ => c) = l.length * c := by
  induction l with
  | nil => simp
  | cons a r ih => simp [ih, Int.add_mul]; omega
theorem sm_map {h : β → α} {l : List β} : sm (l.map h) f = sm l (fun x => f (h x)) := by
  induction l with
  | nil => rfl
  | cons a r ih => simp [ih]
theorem sm_flatMap {h : β → List α} {l : List β} : sm (l.flatMap h) f = sm l (fun x => sm (h x) f) := by
  induction l with
  | nil => rfl
  | cons a r ih => simp [ih, sm_append]
theorem sm_swap {m : List β} {f : α → β → Int} : sm l (fun x => sm m (f x)) = sm m (fun y => sm l (fun x => f x y)) := by
  induction l with
  | nil => simp [sm_zero]
  | cons a r ih => simp [ih, sm_add]
theorem sm_nonneg (h : ∀ x ∈ l, 0 ≤ f x) : 0 ≤ sm l f := by
  induction l with
  | nil => simp
  | cons a r ih =>
    have := ih fun x hx => h x (List.mem_cons_of_mem _ hx)
    have := h a List.mem_cons_self
    simp; omega
theorem sm_le (h : ∀ x ∈ l, f x ≤ g x) : sm l f ≤ sm l g := by
  induction l with
  | nil => simp
  | cons a r ih =>
    have := ih fun x hx => h x (List.mem_cons_of_mem _ hx)
    have := h a List.mem_cons_self
    simp; omega
theorem sm_perm {l m : List α} (h : l.Perm m) : sm l f = sm m f := by
  induction h with
  | nil => rfl
  | cons a _ ih => simp [ih]
  | swap a b l => simp; omega
  | trans _ _ h1 h2 => rw [h1, h2]
end
/-- 1 if so -/
def ind (b : Bool) : Int := if b then 1 else 0
@[simp] theorem ind_t : ind true = 1 := rfl
@[simp] theorem ind_f : ind false = 0 := rfl
theorem ind_and {a b : Bool} : ind (a && b) = ind a * ind b := by cases a <;> cases b <;> rfl
theorem ind_not {a : Bool} : ind (!a) = 1 - ind a := by cases a <;> rfl
theorem ind_nonneg {a : Bool} : 0 ≤ ind a := by cases a <;> simp
theorem ind_le {a : Bool} : ind a ≤ 1 := by cases a <;> simp
theorem countP_sm {α : Type} {l : List α} {p : α → Bool} : (l.countP p : Int) = sm l (fun x => ind (p x)) := by
  induction l with
  | nil => rfl
  | cons a r ih => rw [List.countP_cons]; cases h : p a <;> simp [h, ih]; omega
/-- in a list without repetition just one item is such -/
theorem sm_one {α : Type} {l : List α} {p : α → Bool} {a : α} (hn : l.Nodup) (ha : a ∈ l) (hp : ∀ x ∈ l, p x = true ↔ x = a) : sm l (fun x => ind (p x)) = 1 := by
  induction l with
  | nil => cases ha
  | cons b r ih =>
    rw [List.nodup_cons] at hn
    by_cases e : b = a
    · subst e
      have h0 : p b = true := (hp b List.mem_cons_self).2 rfl
      have h1 : sm r (fun x => ind (p x)) = sm r (fun _ => 0) := sm_congr fun x hx => by
        cases h : p x with
        | false => rfl
        | true =>
          have := (hp x (List.mem_cons_of_mem _ hx)).1 h
          subst this; exact absurd hx hn.1
      simp [h0, h1, sm_zero]
    · have h0 : p b = false := by
        cases h : p b with
        | false => rfl
        | true => exact absurd ((hp b List.mem_cons_self).1 h) e
      have ha' : a ∈ r := by
        rcases List.mem_cons.1 ha with h | h
        · exact absurd h.symm e
        · exact h
      simp [h0, ih hn.2 ha' fun x hx => hp x (List.mem_cons_of_mem _ hx)]
theorem sm_none {α : Type} {l : List α} {p : α → Bool} (hp : ∀ x ∈ l, p x = false) : sm l (fun x => ind (p x)) = 0 := by
  rw [sm_congr (g := fun _ => 0) fun x hx => by rw [hp x hx]; rfl]; exact sm_zero
end PL

end
section
/-! P1: ranges, what repeats, common multiples. -/
namespace PL
/-- the integers from one on -/
def intR (lo hi : Int) : List Int := (List.range (hi - lo).toNat).map fun k : Nat => lo + (k : Int)
theorem mem_intR {lo hi x : Int} : x ∈ intR lo hi ↔ lo ≤ x ∧ x < hi := by
  simp only [intR, List.mem_map, List.mem_range]
  constructor
  · rintro ⟨k, h, rfl⟩; omega
  · intro h; exact ⟨(x - lo).toNat, by omega, by omega⟩
theorem length_intR {lo hi : Int} : (intR lo hi).length = (hi - lo).toNat := by simp [intR]
theorem intR_sorted {lo hi : Int} : (intR lo hi).Pairwise (· < ·) := by
  rw [intR, List.pairwise_map]
  exact List.Pairwise.imp (fun h => by omega) List.pairwise_lt_range
theorem intR_nodup {lo hi : Int} : (intR lo hi).Nodup := intR_sorted.imp fun h => by omega
theorem intR_nil {lo hi : Int} (h : hi ≤ lo) : intR lo hi = [] := by
  have : (hi - lo).toNat = 0 := by omega
  simp [intR, this]
theorem intR_cons {lo hi : Int} (h : lo < hi) : intR lo hi = lo :: intR (lo + 1) hi := by
  have : (hi - lo).toNat = (hi - (lo + 1)).toNat + 1 := by omega
  rw [intR, this, List.range_succ_eq_map, List.map_cons, List.map_map, intR]
  congr 1
  · simp
  · apply List.map_congr_left; intro k _; simp only [Function.comp]; omega
theorem intR_split {a b c : Int} (h1 : a ≤ b) (h2 : b ≤ c) : intR a c = intR a b ++ intR b c := by
  obtain ⟨n, rfl⟩ : ∃ n : Nat, b = a + n := ⟨(b - a).toNat, by omega⟩
  clear h1
  induction n generalizing a with
  | zero => rw [intR_nil (lo := a) (hi := a + (0 : Nat)) (by omega)]; simp
  | succ n ih =>
    rw [intR_cons (by omega), intR_cons (lo := a) (hi := a + ((n + 1 : Nat) : Int)) (by omega)]
    have := ih (a := a + 1) (by omega)
    have e : a + 1 + (n : Int) = a + ((n + 1 : Nat) : Int) := by omega
    rw [e] at this
    rw [this]; rfl
theorem intR_snoc {a b : Int} (h : a ≤ b) : intR a (b + 1) = intR a b ++ [b] := by
  rw [intR_split h (by omega), intR_cons (lo := b) (by omega), intR_nil (lo := b + 1) (by omega)]
theorem intR_shift {a b k : Int} : (intR a b).map (· + k) = intR (a + k) (b + k) := by
  rw [intR, intR, List.map_map]
  have : (b + k - (a + k)).toNat = (b - a).toNat := by omega
  rw [this]
  apply List.map_congr_left; intro j _; simp only [Function.comp]; omega
theorem getElem?_intR {a b : Int} {k : Nat} (h : a + k < b) : (intR a b)[k]? = some (a + k) := by
  rw [intR, List.getElem?_map, List.getElem?_range (by omega)]; rfl
/-- a full turn from anywhere -/
theorem sm_window {f : Int → Int} {n a : Int} (hn : 0 ≤ n) (hp : ∀ t, f (t + n) = f t) : sm (intR a (a + n)) f = sm (intR 0 n) f := by
  have step : ∀ a, sm (intR (a + 1) (a + 1 + n)) f = sm (intR a (a + n)) f := fun a => by
    rcases Int.lt_or_eq_of_le hn with h | h
    · rw [intR_cons (lo := a) (by omega), show a + 1 + n = (a + n) + 1 by omega, intR_snoc (by omega), sm_append]
      simp [hp a]; omega
    · subst h; simp [intR_nil]
  rcases Int.le_total 0 a with h | h
  · obtain ⟨k, rfl⟩ := Int.eq_ofNat_of_zero_le h
    induction k with
    | zero => simp
    | succ k ih =>
      have := step (k : Int)
      rw [show ((k + 1 : Nat) : Int) = (k : Int) + 1 by omega]
      rw [this]; exact ih (by omega)
  · obtain ⟨k, hk⟩ : ∃ k : Nat, a = -(k : Int) := ⟨(-a).toNat, by omega⟩
    subst hk
    induction k with
    | zero => simp
    | succ k ih =>
      have := step (-((k + 1 : Nat) : Int))
      rw [← this, show -((k + 1 : Nat) : Int) + 1 = -(k : Int) by omega]
      exact ih (by omega)
theorem sm_shift {f : Int → Int} {n k : Int} (hn : 0 ≤ n) (hp : ∀ t, f (t + n) = f t) : sm (intR 0 n) (fun t => f (t + k)) = sm (intR 0 n) f := by
  have := sm_map (h := fun t : Int => t + k) (f := f) (l := intR 0 n)
  rw [← this, intR_shift, Int.zero_add, Int.add_comm n k, sm_window hn hp]
theorem sm_times {f : Int → Int} {n : Int} (k : Nat) (hn : 0 ≤ n) (hp : ∀ t, f (t + n) = f t) : sm (intR 0 (k * n)) f = k * sm (intR 0 n) f := by
  induction k with
  | zero => simp [intR_nil]
  | succ k ih =>
    have h0 : 0 ≤ (k : Int) * n := Int.mul_nonneg (by omega) hn
    have e : ((k + 1 : Nat) : Int) * n = k * n + n := by rw [Int.natCast_add, Int.add_mul]; simp
    rw [e, intR_split (b := k * n) h0 (by omega), sm_append, sm_window hn hp, ih, Int.natCast_add, Int.add_mul]
    simp
/-- what repeats after n does so after each multiple -/
theorem per_mul {α : Type} {f : Int → α} {n : Int} (hp : ∀ t, f (t + n) = f t) (k : Int) : ∀ t, f (t + k * n) = f t := by
  have hN : ∀ (k : Nat) t, f (t + k * n) = f t := fun k => by
    induction k with
    | zero => intro t; simp
    | succ k ih =>
      intro t
      have e : t + ((k + 1 : Nat) : Int) * n = (t + k * n) + n := by rw [Int.natCast_add, Int.add_mul]; simp; omega
      rw [e, hp, ih]
  intro t
  rcases Int.le_total 0 k with h | h
  · obtain ⟨j, rfl⟩ := Int.eq_ofNat_of_zero_le h
    exact hN j t
  · obtain ⟨j, hj⟩ : ∃ j : Nat, k = -(j : Int) := ⟨(-k).toNat, by omega⟩
    subst hj
    have := hN j (t + -(j : Int) * n)
    rw [← this]; congr 1; rw [Int.neg_mul]; omega
theorem per_dvd {α : Type} {f : Int → α} {n m : Int} (hp : ∀ t, f (t + n) = f t) (h : n ∣ m) : ∀ t, f (t + m) = f t := by
  obtain ⟨k, rfl⟩ := h
  rw [Int.mul_comm]; exact per_mul hp k
theorem per_emod {α : Type} {f : Int → α} {n : Int} (hp : ∀ t, f (t + n) = f t) (t : Int) : f (t % n) = f t := by
  have e : t = t % n + (t / n) * n := by
    have := Int.emod_add_mul_ediv t n
    rw [Int.mul_comm] at this; omega
  exact (per_mul hp (t / n) (t % n)).symm.trans (congrArg f e.symm)
theorem add_emod_self' {t n : Int} : (t + n) % n = t % n := by simp
/-- one tick of a turn has a given remainder -/
theorem sm_res {n r o : Int} (hn : 0 < n) (h0 : 0 ≤ r) (h1 : r < n) : sm (intR 0 n) (fun t => ind (decide ((t - o) % n = r))) = 1 := by
  refine sm_one (a := (r + o) % n) intR_nodup (mem_intR.2 ⟨Int.emod_nonneg _ (by omega), Int.emod_lt_of_pos _ hn⟩) fun x hx => ?_
  have hx := mem_intR.1 hx
  rw [decide_eq_true_eq]
  constructor
  · intro h
    have e : n ∣ x - (r + o) := by
      have := dvd_emod (a := x - o) (n := n)
      rw [h] at this
      rwa [show x - o - r = x - (r + o) by omega] at this
    rw [← emod_eq_iff] at e
    rw [← e, Int.emod_eq_of_lt hx.1 hx.2]
  · intro h
    refine emod_of h0 h1 ?_
    have := dvd_emod (a := r + o) (n := n)
    rw [← h] at this
    have h2 := Int.dvd_neg.2 this
    rwa [show -(r + o - x) = x - o - r by omega] at h2
theorem ind_mem {S : List Int} (hS : S.Nodup) {x : Int} : ind (decide (x ∈ S)) = sm S (fun s => ind (decide (x = s))) := by
  by_cases h : x ∈ S
  · rw [sm_one hS h (fun y hy => by rw [decide_eq_true_eq]; exact eq_comm)]; simp [h]
  · rw [sm_none fun y hy => by
      have : x ≠ y := fun e => h (e ▸ hy)
      simp [this]]
    simp [h]
/-- how often a pattern sends in its period -/
theorem sm_pat {L o : Int} {S : List Int} (hL : 0 < L) (hS : S.Nodup) (hm : ∀ s ∈ S, 0 ≤ s ∧ s < L) : sm (intR 0 L) (fun t => ind (decide ((t - o) % L ∈ S))) = S.length := by
  rw [sm_congr (g := fun t => sm S (fun s => ind (decide ((t - o) % L = s)))) fun t _ => ind_mem hS, sm_swap,
    sm_congr (g := fun _ => 1) fun s hs => sm_res hL (hm s hs).1 (hm s hs).2, sm_const, Int.mul_one]
/-! ### common multiples -/
/-- as the program reckons it -/
def lcmI (a b : Int) : Int := a / (Int.gcd a b : Int) * b
theorem lcmI_eq {a b : Int} (ha : 0 < a) (hb : 0 < b) : lcmI a b = (Int.lcm a b : Int) := by
  have hg : (0 : Int) < Int.gcd a b := by have := Int.gcd_pos_of_ne_zero_left b (a := a) (by omega); omega
  obtain ⟨k, hk⟩ := Int.gcd_dvd_left a b
  have h1 : (Int.gcd a b : Int) * (Int.lcm a b : Int) = a * b := by
    have := Int.gcd_mul_lcm a b
    have e : ((Int.gcd a b * Int.lcm a b : Nat) : Int) = ((a.natAbs * b.natAbs : Nat) : Int) := by rw [this]
    rw [Int.natCast_mul, Int.natCast_mul] at e
    rw [e, Int.natAbs_of_nonneg (by omega), Int.natAbs_of_nonneg (by omega)]
  have h2 : (Int.gcd a b : Int) * lcmI a b = a * b := by
    rw [lcmI, ← Int.mul_assoc, Int.mul_ediv_cancel' (Int.gcd_dvd_left a b)]
  exact Int.eq_of_mul_eq_mul_left (by omega) (h2.trans h1.symm)
theorem lcmI_pos {a b : Int} (ha : 0 < a) (hb : 0 < b) : 0 < lcmI a b := by
  rw [lcmI_eq ha hb]
  have := Int.lcm_pos (m := a) (n := b) (by omega) (by omega); omega
theorem dvd_lcmI_left {a b : Int} (ha : 0 < a) (hb : 0 < b) : a ∣ lcmI a b := by rw [lcmI_eq ha hb]; exact Int.dvd_lcm_left a b
theorem dvd_lcmI_right {a b : Int} (ha : 0 < a) (hb : 0 < b) : b ∣ lcmI a b := by rw [lcmI_eq ha hb]; exact Int.dvd_lcm_right a b
theorem lcmI_dvd {a b c : Int} (ha : 0 < a) (hb : 0 < b) (h1 : a ∣ c) (h2 : b ∣ c) : lcmI a b ∣ c := by rw [lcmI_eq ha hb]; exact Int.coe_lcm_dvd h1 h2
theorem gcd_mul_lcmI {a b : Int} : (Int.gcd a b : Int) * lcmI a b = a * b := by
  rw [lcmI, ← Int.mul_assoc, Int.mul_ediv_cancel' (Int.gcd_dvd_left a b)]
theorem gcd_pos {a b : Int} (ha : 0 < a) : (0 : Int) < Int.gcd a b := by have := Int.gcd_pos_of_ne_zero_left b (a := a) (by omega); omega
/-- the ticks of a common turn with two given remainders -/
theorem sm_res2 {a b r s d : Int} (ha : 0 < a) (hb : 0 < b) (h0 : 0 ≤ r) (h1 : r < a) (h2 : 0 ≤ s) (h3 : s < b) :
    sm (intR 0 (lcmI a b)) (fun t => ind (decide (t % a = r) && decide ((t - d) % b = s))) = ind (decide ((Int.gcd a b : Int) ∣ r - s - d)) := by
  have hl := lcmI_pos ha hb
  by_cases hg : (Int.gcd a b : Int) ∣ r - s - d
  · rw [decide_eq_true hg]
    obtain ⟨t, t1, t2⟩ := crt (a := a) (b := b) (x := r) (y := s + d) (by rwa [show r - (s + d) = r - s - d by omega])
    have e1 : ∀ x : Int, lcmI a b ∣ x - t → (x % a = r ∧ (x - d) % b = s) := fun x hx => by
      have q1 := Int.dvd_add (Int.dvd_trans (dvd_lcmI_left ha hb) hx) t1
      have q2 := Int.dvd_add (Int.dvd_trans (dvd_lcmI_right ha hb) hx) t2
      rw [show x - t + (t - r) = x - r by omega] at q1
      rw [show x - t + (t - (s + d)) = x - d - s by omega] at q2
      exact ⟨emod_of h0 h1 q1, emod_of h2 h3 q2⟩
    refine sm_one (a := t % lcmI a b) intR_nodup (mem_intR.2 ⟨Int.emod_nonneg _ (by omega), Int.emod_lt_of_pos _ hl⟩) fun x hx => ?_
    have hx := mem_intR.1 hx
    rw [Bool.and_eq_true, decide_eq_true_eq, decide_eq_true_eq]
    constructor
    · rintro ⟨q1, q2⟩
      have w1 := dvd_emod (a := x) (n := a); rw [q1] at w1
      have w2 := dvd_emod (a := x - d) (n := b); rw [q2] at w2
      have v1 := Int.dvd_sub w1 t1; rw [show x - r - (t - r) = x - t by omega] at v1
      have v2 := Int.dvd_sub w2 t2; rw [show x - d - s - (t - (s + d)) = x - t by omega] at v2
      have v3 := emod_eq_iff.2 (lcmI_dvd ha hb v1 v2)
      rw [← v3, Int.emod_eq_of_lt hx.1 hx.2]
    · intro h
      refine e1 x ?_
      have := dvd_emod (a := t) (n := lcmI a b)
      rw [← h] at this
      have := Int.dvd_neg.2 this
      rwa [show -(t - x) = x - t by omega] at this
  · rw [decide_eq_false hg]
    refine sm_none fun t _ => ?_
    rw [← Bool.not_eq_true, Bool.and_eq_true, decide_eq_true_eq, decide_eq_true_eq]
    rintro ⟨q1, q2⟩
    refine hg ?_
    have w1 := dvd_emod (a := t) (n := a); rw [q1] at w1
    have w2 := dvd_emod (a := t - d) (n := b); rw [q2] at w2
    have := crt_conv (y := s + d) w1 (by rwa [show t - (s + d) = t - d - s by omega])
    rwa [show r - (s + d) = r - s - d by omega] at this
end PL

end
section
/-! P2: patterns: shortest, turned, matching. -/
namespace PL
structure IsPat (L : Int) (S : List Int) : Prop where
  lo : 2 ≤ L
  hi : L ≤ 60
  ne : S ≠ []
  few : (S.length : Int) < L
  asc : S.Pairwise (· < ·)
  mem : ∀ s ∈ S, 0 ≤ s ∧ s < L
theorem IsPat.nd {L : Int} {S : List Int} (h : IsPat L S) : S.Nodup := h.asc.imp fun h => by omega
theorem IsPat.pos {L : Int} {S : List Int} (h : IsPat L S) : 0 < L := by have := h.lo; omega
theorem asc_ext : ∀ {xs ys : List Int}, xs.Pairwise (· < ·) → ys.Pairwise (· < ·) → (∀ z, z ∈ xs ↔ z ∈ ys) → xs = ys
  | [], [], _, _, _ => rfl
  | [], y :: ys, _, _, h => absurd ((h y).2 List.mem_cons_self) (List.not_mem_nil)
  | x :: xs, [], _, _, h => absurd ((h x).1 List.mem_cons_self) (List.not_mem_nil)
  | x :: xs, y :: ys, h1, h2, h => by
    rw [List.pairwise_cons] at h1 h2
    have e : x = y := by
      rcases List.mem_cons.1 ((h x).1 List.mem_cons_self) with a | a
      · exact a
      · rcases List.mem_cons.1 ((h y).2 List.mem_cons_self) with b | b
        · exact b.symm
        · have := h1.1 y b; have := h2.1 x a; omega
    subst e
    rw [asc_ext h1.2 h2.2 fun z => ?_]
    constructor
    · intro hz
      rcases List.mem_cons.1 ((h z).1 (List.mem_cons_of_mem _ hz)) with a | a
      · subst a; have := h1.1 z hz; omega
      · exact a
    · intro hz
      rcases List.mem_cons.1 ((h z).2 (List.mem_cons_of_mem _ hz)) with a | a
      · subst a; have := h2.1 z hz; omega
      · exact a
theorem emod_le {x p : Int} (h : 0 ≤ x) (hp : 0 < p) : x % p ≤ x := by
  have := Int.emod_add_mul_ediv x p
  have : 0 ≤ p * (x / p) := Int.mul_nonneg (by omega) (Int.ediv_nonneg h (by omega))
  omega
theorem asc_len {S : List Int} {lo hi : Int} (h : S.Pairwise (· < ·)) (hm : ∀ s ∈ S, lo ≤ s ∧ s < hi) : (S.length : Int) ≤ max 0 (hi - lo) := by
  induction S generalizing lo with
  | nil => simp; omega
  | cons a r ih =>
    rw [List.pairwise_cons] at h
    have ha := hm a List.mem_cons_self
    have := ih (lo := a + 1) h.2 (fun s hs => ⟨by have := h.1 s hs; omega, (hm s (List.mem_cons_of_mem _ hs)).2⟩)
    simp; omega
/-- the slots are the same so many ticks later -/
def Per (L : Int) (S : List Int) (m : Int) : Prop := ∀ t, ((t + m) % L ∈ S ↔ t % L ∈ S)
theorem Per.sub {L m n : Int} {S : List Int} (h1 : Per L S m) (h2 : Per L S n) : Per L S (m - n) := fun t => by
  have a := h1 (t - n); have b := h2 (t - n)
  rw [show t - n + m = t + (m - n) by omega] at a
  rw [show t - n + n = t by omega] at b
  exact a.trans b.symm
theorem Per.self {L : Int} {S : List Int} : Per L S L := fun t => by rw [add_emod_self']
theorem Per.mul {L m : Int} {S : List Int} (h : Per L S m) (k : Int) : Per L S (k * m) := fun t => by
  have := per_mul (f := fun t => decide (t % L ∈ S)) (n := m) (fun t => decide_eq_decide.2 (h t)) k t
  exact decide_eq_decide.1 this
theorem Per.emod {L m n : Int} {S : List Int} (h1 : Per L S m) (h2 : Per L S n) : Per L S (m % n) := by
  have e : m % n = m - (m / n) * n := by
    have := Int.emod_add_mul_ediv m n
    rw [Int.mul_comm] at this; omega
  rw [e]; exact h1.sub (h2.mul _)
/-- seen in one period -/
theorem per_iff {L m : Int} {S : List Int} (hL : 0 < L) : Per L S m ↔ ∀ t, 0 ≤ t → t < L → ((t + m) % L ∈ S ↔ t % L ∈ S) := by
  constructor
  · intro h t _ _; exact h t
  · intro h t
    have := h (t % L) (Int.emod_nonneg _ (by omega)) (Int.emod_lt_of_pos _ hL)
    rwa [Int.emod_emod, Int.emod_add_emod] at this
/-- the first number of ticks behind which all is the same divides the period -/
theorem per_least {L m : Int} {S : List Int} (hL : 0 < L) (hm : 0 < m) (h : Per L S m) (hl : ∀ k, 0 < k → k < m → ¬ Per L S k) : m ∣ L := by
  have h1 := (Per.self (L := L) (S := S)).emod h
  rcases Int.lt_or_eq_of_le (Int.emod_nonneg L (by omega : m ≠ 0)) with h2 | h2
  · exact absurd h1 (hl _ h2 (Int.emod_lt_of_pos _ hm))
  · exact Int.dvd_of_emod_eq_zero h2.symm
theorem per_two {L m : Int} {S : List Int} (h : IsPat L S) (hm : 0 < m) (hp : Per L S m) : 2 ≤ m := by
  refine Int.not_lt.1 fun hlt => ?_
  have e : m = 1 := by omega
  subst e
  obtain ⟨s, hs⟩ := List.exists_mem_of_ne_nil S h.ne
  have hsb := h.mem s hs
  have all : ∀ t, t % L ∈ S := fun t => by
    have h0 : s % L ∈ S := by rw [Int.emod_eq_of_lt hsb.1 hsb.2]; exact hs
    have := (hp.mul (t - s)) s
    rw [Int.mul_one, show s + (t - s) = t by omega] at this
    exact this.2 h0
  have hsub : intR 0 L = S := asc_ext intR_sorted h.asc fun z => by
    rw [mem_intR]
    constructor
    · rintro ⟨a, b⟩; have := all z; rwa [Int.emod_eq_of_lt a b] at this
    · exact h.mem z
  have := congrArg List.length hsub
  rw [length_intR] at this
  have := h.few
  have := h.pos
  omega
/-- a range by steps -/
def stepR (lo hi st : Int) : List Int := (List.range ((hi - lo + st - 1) / st).toNat).map fun k : Nat => lo + (k : Int) * st
def againI (L p : Int) (S : List Int) : List Int := (stepR 0 L p).flatMap fun b => (S.filter fun s => decide (s < p)).map fun s => b + s
theorem mem_stepR {L p b : Int} (hp : 0 < p) (hd : p ∣ L) : b ∈ stepR 0 L p ↔ 0 ≤ b ∧ b < L ∧ p ∣ b := by
  obtain ⟨q, rfl⟩ := hd
  have e : (p * q - 0 + p - 1) / p = q := by
    have : p * q - 0 + p - 1 = (p - 1) + p * q := by omega
    rw [this, Int.add_mul_ediv_left _ _ (by omega), Int.ediv_eq_zero_of_lt (by omega) (by omega)]; omega
  simp only [stepR, List.mem_map, List.mem_range, e]
  constructor
  · rintro ⟨k, hk, rfl⟩
    have h1 : 0 ≤ (k : Int) * p := Int.mul_nonneg (by omega) (by omega)
    have h2 : ((k : Int) + 1) * p ≤ q * p := Int.mul_le_mul_of_nonneg_right (by omega) (by omega)
    rw [Int.add_mul, Int.mul_comm q p] at h2
    exact ⟨by omega, by omega, ⟨k, by rw [Int.mul_comm]; omega⟩⟩
  · rintro ⟨h1, h2, k, rfl⟩
    have h3 : 0 ≤ k := Int.not_lt.1 fun h => by
      have : p * k ≤ p * (-1) := Int.mul_le_mul_of_nonneg_left (by omega) (by omega)
      omega
    have h4 : k < q := Int.lt_of_mul_lt_mul_left h2 (by omega)
    refine ⟨k.toNat, by omega, ?_⟩
    rw [Int.mul_comm p k]
    have : (k.toNat : Int) = k := by omega
    rw [this]; omega
theorem stepR_asc {L p : Int} (hp : 0 < p) : (stepR 0 L p).Pairwise (fun a b => a + p ≤ b) := by
  rw [stepR, List.pairwise_map]
  refine List.Pairwise.imp ?_ List.pairwise_lt_range
  intro a b hab
  have : ((a : Int) + 1) * p ≤ (b : Int) * p := Int.mul_le_mul_of_nonneg_right (by omega) (by omega)
  rw [Int.add_mul] at this; omega
theorem mem_again {L p x : Int} {S : List Int} (h : IsPat L S) (hp : 0 < p) (hd : p ∣ L) : x ∈ againI L p S ↔ 0 ≤ x ∧ x < L ∧ x % p ∈ S := by
  simp only [againI, List.mem_flatMap, List.mem_map, List.mem_filter, decide_eq_true_eq, mem_stepR hp hd]
  constructor
  · rintro ⟨b, ⟨h1, h2, k, rfl⟩, s, ⟨hs, hsp⟩, rfl⟩
    have hs0 := h.mem s hs
    have e : (p * k + s) % p = s := by rw [Int.mul_add_emod_self_left, Int.emod_eq_of_lt hs0.1 hsp]
    obtain ⟨q, rfl⟩ := hd
    have h3 : p * (k + 1) ≤ p * q := Int.mul_le_mul_of_nonneg_left (by
      have := Int.lt_of_mul_lt_mul_left h2 (by omega); omega) (by omega)
    rw [Int.mul_add] at h3
    exact ⟨by omega, by omega, by rw [e]; exact hs⟩
  · rintro ⟨h1, h2, h3⟩
    refine ⟨x - x % p, ⟨?_, ?_, dvd_emod⟩, x % p, ⟨h3, Int.emod_lt_of_pos _ hp⟩, by omega⟩
    · have := emod_le (x := x) (p := p) (by omega) hp; omega
    · have := Int.emod_nonneg x (by omega : p ≠ 0); omega
theorem again_asc {L p : Int} {S : List Int} (h : IsPat L S) (hp : 0 < p) : (againI L p S).Pairwise (· < ·) := by
  rw [againI, List.pairwise_flatMap]
  refine ⟨fun b hb => ?_, ?_⟩
  · rw [List.pairwise_map]; exact (h.asc.filter _).imp fun h => by omega
  · refine (stepR_asc hp).imp ?_
    intro a b hab x hx y hy
    simp only [List.mem_map, List.mem_filter, decide_eq_true_eq] at hx hy
    obtain ⟨s, ⟨hs, hsp⟩, rfl⟩ := hx
    obtain ⟨u, ⟨hu, _⟩, rfl⟩ := hy
    have := h.mem s hs; have := h.mem u hu; omega
theorem again_iff {L p : Int} {S : List Int} (h : IsPat L S) (hp : 0 < p) (hd : p ∣ L) : againI L p S = S ↔ Per L S p := by
  have hL := h.pos
  constructor
  · intro he
    have hm : ∀ x, 0 ≤ x → x < L → (x ∈ S ↔ x % p ∈ S) := fun x h1 h2 => by
      have := mem_again (x := x) h hp hd
      rw [he] at this
      exact ⟨fun h3 => (this.1 h3).2.2, fun h3 => this.2 ⟨h1, h2, h3⟩⟩
    intro t
    have e : ∀ t : Int, t % L % p = t % p := fun t => Int.emod_emod_of_dvd t hd
    rw [hm _ (Int.emod_nonneg _ (by omega)) (Int.emod_lt_of_pos _ hL), hm _ (Int.emod_nonneg _ (by omega)) (Int.emod_lt_of_pos _ hL), e, e, add_emod_self']
  · intro hper
    refine asc_ext (again_asc h hp) h.asc fun z => ?_
    rw [mem_again h hp hd]
    have key : ∀ z, 0 ≤ z → z < L → (z % p ∈ S ↔ z ∈ S) := fun z h1 h2 => by
      have e : z % p = z - (z / p) * p := by
        have := Int.emod_add_mul_ediv z p
        rw [Int.mul_comm] at this; omega
      have h4 := hper.mul (z / p) (z % p)
      have h5 : z % p + z / p * p = z := by omega
      rw [h5] at h4
      have h6 : 0 ≤ z % p := Int.emod_nonneg _ (by omega)
      have h7 : z % p ≤ z := emod_le h1 hp
      rw [Int.emod_eq_of_lt h1 h2, Int.emod_eq_of_lt h6 (by omega)] at h4
      exact h4.symm
    constructor
    · rintro ⟨a, b, c⟩; exact (key z a b).1 c
    · intro hz; have := h.mem z hz; exact ⟨this.1, this.2, (key z this.1 this.2).2 hz⟩
/-- as the program finds it -/
def shortI (L : Int) (S : List Int) : Int × List Int :=
  match (intR 2 L).find? fun p => decide (L % p = 0) && decide (againI L p S = S) with
  | some p => (p, S.filter fun s => decide (s < p))
  | none => (L, S)
/-- what it is: the least number of ticks -/
structure Short (L : Int) (S : List Int) (m : Int) : Prop where
  pos : 0 < m
  per : Per L S m
  least : ∀ k, 0 < k → k < m → ¬ Per L S k
theorem Short.dvd {L m : Int} {S : List Int} (hL : 0 < L) (h : Short L S m) : m ∣ L := per_least hL h.pos h.per h.least
theorem Short.uniq {L m n : Int} {S : List Int} (h : Short L S m) (h' : Short L S n) : m = n := by
  rcases Int.lt_trichotomy m n with a | a | a
  · exact absurd h.per (h'.least m h.pos a)
  · exact a
  · exact absurd h'.per (h.least n h'.pos a)
theorem Short.le {L m : Int} {S : List Int} (hL : 0 < L) (h : Short L S m) : m ≤ L := Int.le_of_dvd hL (h.dvd hL)
theorem find_intR {lo hi p : Int} {q : Int → Bool} (h : (intR lo hi).find? q = some p) : lo ≤ p ∧ p < hi ∧ q p = true ∧ ∀ k, lo ≤ k → k < p → q k = false := by
  obtain ⟨h1, as, bs, h2, h3⟩ := List.find?_eq_some_iff_append.1 h
  have hs : (intR lo hi).Pairwise (· < ·) := intR_sorted
  have hm : p ∈ intR lo hi := by rw [h2]; simp
  have hm' := mem_intR.1 hm
  refine ⟨hm'.1, hm'.2, h1, fun k h4 h5 => ?_⟩
  have hk : k ∈ intR lo hi := mem_intR.2 ⟨h4, by omega⟩
  rw [h2, List.mem_append] at hk
  rcases hk with hk | hk
  · have := h3 k hk; simpa using this
  · rw [h2, List.pairwise_append] at hs
    rcases List.mem_cons.1 hk with e | hk
    · omega
    · have := (List.pairwise_cons.1 hs.2.1).1 k hk; omega
theorem find_none {lo hi : Int} {q : Int → Bool} (h : (intR lo hi).find? q = none) : ∀ k, lo ≤ k → k < hi → q k = false := fun k h1 h2 => by
  have := List.find?_eq_none.1 h k (mem_intR.2 ⟨h1, h2⟩)
  simpa using this
theorem short_eq {L : Int} {S : List Int} (h : IsPat L S) : ∃ m, Short L S m ∧ shortI L S = (m, S.filter fun s => decide (s < m)) := by
  have hL := h.pos
  rw [shortI]
  split
  · rename_i p hp
    obtain ⟨h1, h2, h3, h4⟩ := find_intR hp
    simp only [Bool.and_eq_true, decide_eq_true_eq] at h3
    have hd : p ∣ L := Int.dvd_of_emod_eq_zero h3.1
    have hper := (again_iff h (by omega) hd).1 h3.2
    refine ⟨p, ⟨by omega, hper, fun k hk1 hk2 hk => ?_⟩, rfl⟩
    -- the least one below would divide
    have hex : ∃ j, Short L S j ∧ j ≤ k := by
      have : ∀ n : Nat, ∀ k : Int, k ≤ n → 0 < k → Per L S k → ∃ j, Short L S j ∧ j ≤ k := fun n => by
        induction n with
        | zero => intro k a b; omega
        | succ n ih =>
          intro k a b c
          by_cases hq : ∃ j, 0 < j ∧ j < k ∧ Per L S j
          · obtain ⟨j, q1, q2, q3⟩ := hq
            obtain ⟨i, w1, w2⟩ := ih j (by omega) q1 q3
            exact ⟨i, w1, by omega⟩
          · exact ⟨k, ⟨b, c, fun j q1 q2 q3 => hq ⟨j, q1, q2, q3⟩⟩, by omega⟩
      exact this k.toNat k (by omega) hk1 hk
    obtain ⟨j, hj, hjk⟩ := hex
    have hj2 := per_two h hj.pos hj.per
    have := h4 j hj2 (by omega)
    rw [Bool.and_eq_false_iff] at this
    rcases this with e | e
    · rw [decide_eq_false_iff_not] at e; exact e (Int.emod_eq_zero_of_dvd (hj.dvd hL))
    · rw [decide_eq_false_iff_not] at e; exact e ((again_iff h hj.pos (hj.dvd hL)).2 hj.per)
  · rename_i hn
    have h4 := find_none hn
    refine ⟨L, ⟨hL, Per.self, fun k hk1 hk2 hk => ?_⟩, ?_⟩
    · have : ∀ n : Nat, ∀ k : Int, k ≤ n → 0 < k → Per L S k → ∃ j, Short L S j ∧ j ≤ k := fun n => by
        induction n with
        | zero => intro k a b; omega
        | succ n ih =>
          intro k a b c
          by_cases hq : ∃ j, 0 < j ∧ j < k ∧ Per L S j
          · obtain ⟨j, q1, q2, q3⟩ := hq
            obtain ⟨i, w1, w2⟩ := ih j (by omega) q1 q3
            exact ⟨i, w1, by omega⟩
          · exact ⟨k, ⟨b, c, fun j q1 q2 q3 => hq ⟨j, q1, q2, q3⟩⟩, by omega⟩
      obtain ⟨j, hj, hjk⟩ := this k.toNat k (by omega) hk1 hk
      have hj2 := per_two h hj.pos hj.per
      have := h4 j hj2 (by omega)
      rw [Bool.and_eq_false_iff] at this
      rcases this with e | e
      · rw [decide_eq_false_iff_not] at e; exact e (Int.emod_eq_zero_of_dvd (hj.dvd hL))
      · rw [decide_eq_false_iff_not] at e; exact e ((again_iff h hj.pos (hj.dvd hL)).2 hj.per)
    · rw [List.filter_eq_self.2 fun s hs => by simpa using (h.mem s hs).2]
end PL

end
section
/-! P3: several congruences at once. -/
namespace PL
theorem gcd_lcm_dvd {a b c : Nat} (ha : 0 < a) (hb : 0 < b) : Nat.gcd (Nat.lcm a b) c ∣ Nat.lcm (Nat.gcd a c) (Nat.gcd b c) := by
  generalize hd : Nat.gcd (Nat.lcm a b) c = d
  have d1 : d ∣ Nat.lcm a b := hd ▸ Nat.gcd_dvd_left _ _
  have d2 : d ∣ c := hd ▸ Nat.gcd_dvd_right _ _
  have hg1 : Nat.gcd a d ∣ Nat.gcd a c := Nat.dvd_gcd (Nat.gcd_dvd_left _ _) (Nat.dvd_trans (Nat.gcd_dvd_right _ _) d2)
  have hg2 : Nat.gcd b d ∣ Nat.gcd b c := Nat.dvd_gcd (Nat.gcd_dvd_left _ _) (Nat.dvd_trans (Nat.gcd_dvd_right _ _) d2)
  refine Nat.dvd_trans ?_ (Nat.lcm_dvd (Nat.dvd_trans hg1 (Nat.dvd_lcm_left _ _)) (Nat.dvd_trans hg2 (Nat.dvd_lcm_right _ _)))
  generalize h1 : Nat.gcd a d = g1
  generalize h2 : Nat.gcd b d = g2
  have p1 : 0 < g1 := h1 ▸ Nat.gcd_pos_of_pos_left _ ha
  have pg : 0 < Nat.gcd g1 g2 := Nat.gcd_pos_of_pos_left _ p1
  have ga : Nat.gcd g1 g2 ∣ a := Nat.dvd_trans (Nat.gcd_dvd_left _ _) (h1 ▸ Nat.gcd_dvd_left _ _)
  have gb : Nat.gcd g1 g2 ∣ b := Nat.dvd_trans (Nat.gcd_dvd_right _ _) (h2 ▸ Nat.gcd_dvd_left _ _)
  have key : Nat.gcd g1 g2 * d ∣ g1 * g2 := by
    have e1 : g1 * g2 = Nat.gcd (a * g2) (d * g2) := by rw [Nat.gcd_mul_right, h1]
    have e2 : a * g2 = Nat.gcd (a * b) (a * d) := by rw [Nat.gcd_mul_left, h2]
    rw [e1]
    refine Nat.dvd_gcd ?_ ?_
    · rw [e2]
      refine Nat.dvd_gcd ?_ ?_
      · rw [← Nat.gcd_mul_lcm a b]
        exact Nat.mul_dvd_mul (Nat.dvd_gcd ga gb) d1
      · exact Nat.mul_dvd_mul ga (Nat.dvd_refl _)
    · rw [Nat.mul_comm]
      exact Nat.mul_dvd_mul (Nat.dvd_refl _) (Nat.gcd_dvd_right _ _)
  rw [← Nat.gcd_mul_lcm g1 g2] at key
  exact Nat.dvd_of_mul_dvd_mul_left pg key
theorem gcd_lcmI {a b c z : Int} (ha : 0 < a) (hb : 0 < b) (h1 : (Int.gcd a c : Int) ∣ z) (h2 : (Int.gcd b c : Int) ∣ z) : (Int.gcd (lcmI a b) c : Int) ∣ z := by
  rw [lcmI_eq ha hb]
  have h := gcd_lcm_dvd (a := a.natAbs) (b := b.natAbs) (c := c.natAbs) (by omega) (by omega)
  have e : Int.gcd (Int.lcm a b : Int) c = Nat.gcd (Nat.lcm a.natAbs b.natAbs) c.natAbs := rfl
  rw [e]
  rw [Int.ofNat_dvd_left] at h1 h2 ⊢
  exact Nat.dvd_trans h (Nat.lcm_dvd h1 h2)
/-- moduli and rests -/
def lcmL (l : List (Int × Int)) : Int := l.foldr (fun p a => lcmI p.1 a) 1
theorem lcmL_pos {l : List (Int × Int)} (h : ∀ p ∈ l, 0 < p.1) : 0 < lcmL l := by
  induction l with
  | nil => decide
  | cons p r ih => exact lcmI_pos (h p List.mem_cons_self) (ih fun q hq => h q (List.mem_cons_of_mem _ hq))
theorem dvd_lcmL {l : List (Int × Int)} (h : ∀ p ∈ l, 0 < p.1) : ∀ p ∈ l, p.1 ∣ lcmL l := by
  induction l with
  | nil => intro p hp; cases hp
  | cons q r ih =>
    have hr : ∀ p ∈ r, 0 < p.1 := fun p hp => h p (List.mem_cons_of_mem _ hp)
    intro p hp
    rcases List.mem_cons.1 hp with rfl | hp
    · exact dvd_lcmI_left (h p List.mem_cons_self) (lcmL_pos hr)
    · exact Int.dvd_trans (ih hr p hp) (dvd_lcmI_right (h q List.mem_cons_self) (lcmL_pos hr))
theorem gcd_lcmL {l : List (Int × Int)} {n z : Int} (h : ∀ p ∈ l, 0 < p.1) (hz : ∀ p ∈ l, (Int.gcd p.1 n : Int) ∣ z) : (Int.gcd (lcmL l) n : Int) ∣ z := by
  induction l with
  | nil => simp [lcmL]
  | cons q r ih =>
    have hr : ∀ p ∈ r, 0 < p.1 := fun p hp => h p (List.mem_cons_of_mem _ hp)
    exact gcd_lcmI (h q List.mem_cons_self) (lcmL_pos hr) (hz q List.mem_cons_self) (ih hr fun p hp => hz p (List.mem_cons_of_mem _ hp))
theorem crt_list {l : List (Int × Int)} (h : ∀ p ∈ l, 0 < p.1) (hp : l.Pairwise fun p q => (Int.gcd p.1 q.1 : Int) ∣ p.2 - q.2) : ∃ x, ∀ p ∈ l, p.1 ∣ x - p.2 := by
  induction l with
  | nil => exact ⟨0, fun p hp => nomatch hp⟩
  | cons q r ih =>
    rw [List.pairwise_cons] at hp
    have hr : ∀ p ∈ r, 0 < p.1 := fun p hp => h p (List.mem_cons_of_mem _ hp)
    obtain ⟨x, hx⟩ := ih hr hp.2
    have hg : (Int.gcd (lcmL r) q.1 : Int) ∣ x - q.2 := gcd_lcmL hr fun p hpm => by
      have h1 : (Int.gcd p.1 q.1 : Int) ∣ x - p.2 := Int.dvd_trans (Int.gcd_dvd_left p.1 q.1) (hx p hpm)
      have h2 := hp.1 p hpm
      rw [Int.gcd_comm] at h2
      have e : x - q.2 = (x - p.2) - (q.2 - p.2) := by omega
      rw [e]; exact Int.dvd_sub h1 h2
    obtain ⟨t, t1, t2⟩ := crt hg
    refine ⟨t, fun p hpm => ?_⟩
    rcases List.mem_cons.1 hpm with rfl | hpm
    · exact t2
    · have h3 := Int.dvd_add (Int.dvd_trans (dvd_lcmL hr p hpm) t1) (hx p hpm)
      have e : t - x + (x - p.2) = t - p.2 := by omega
      rwa [e] at h3
end PL

end
section
/-! LA: pens, draws, patterns. -/
variable {T : Nat → Option Fn} {k : Nat}
theorem sizeLine_ge : 1000000 ≤ sizeLine := by decide
/-- a pen -/
def Pen (q : List PyData) : Prop := ∃ a b c : Int, q = [.int a, .int b, .int c] ∧ 0 ≤ a ∧ 0 ≤ b ∧ b < 2147483648
theorem w_draw [Has T i_draw f_draw] {p : List PyData} {m : Int} {Q} (hp : Pen p) (h0 : 0 < m) (h1 : m < 1073741824)
    (hq : ∀ r p', Pen p' → 0 ≤ r → r < m → Q (.int r) false [.own (.list p'), .no]) : W3 (evF T WW (k + 1) i_draw [(.list p, true), (.int m, false)]) Q := by
  obtain ⟨a, b, c, rfl, ha, hb, hb2⟩ := hp
  refine w_go f_draw ⟨rfl, rfl⟩ ?_
  simp -dsimp [f_draw]
  refine Wif_i (fun hpos => ?_) (fun hneg => ?_)
  · simp -dsimp [h0, h1]
    exact hq _ _ ⟨_, _, _, rfl, Int.ediv_nonneg ha (by omega), hb, hb2⟩ (Int.emod_nonneg _ (by omega)) (Int.emod_lt_of_pos _ h0)
  · have e1 : ∀ z : Int, 0 ≤ z % 2147483647 := fun z => Int.emod_nonneg _ (by omega)
    have e2 : ∀ z : Int, z % 2147483647 < 2147483647 := fun z => Int.emod_lt_of_pos _ (by omega)
    have e3 : ∀ z : Int, 0 ≤ z % 2147483629 := fun z => Int.emod_nonneg _ (by omega)
    have e4 : ∀ z : Int, z % 2147483629 < 2147483629 := fun z => Int.emod_lt_of_pos _ (by omega)
    have s1 : ∀ z : Int, (-18446744073709551616 < z % 2147483647) = True := fun z => eq_true (by have := e1 z; omega)
    have s2 : ∀ z : Int, (z % 2147483647 < 18446744073709551616) = True := fun z => eq_true (by have := e2 z; omega)
    have s3 : ∀ z : Int, (-18446744073709551616 < z % 2147483629) = True := fun z => eq_true (by have := e3 z; omega)
    have s4 : ∀ z : Int, (z % 2147483629 < 18446744073709551616) = True := fun z => eq_true (by have := e4 z; omega)
    simp -dsimp [h0, h1, s1, s2, s3, s4]
    exact hq _ _ ⟨_, _, _, rfl, ha, e1 _, by have := e2 ((b * 48271 + 1009 * (c + 1) + 7)); omega⟩ (Int.emod_nonneg _ (by omega)) (Int.emod_lt_of_pos _ h0)
theorem w_pen [Has T i_pen f_pen] {n : Int} {Q} (hq : ∀ p, Pen p → Q (.list p) true [.no]) : W3 (evF T WW (k + 1) i_pen [(.int n, false)]) Q := by
  refine w_go f_pen ⟨rfl, rfl⟩ ?_
  simp -dsimp [f_pen]
  exact hq _ ⟨_, _, _, rfl, by omega, by have := Int.emod_nonneg n (b := 2147483629) (by omega); omega, by have := Int.emod_lt_of_pos n (b := 2147483629) (by omega); omega⟩
theorem e_cell_at [Has T i_cell_at f_cell_at] {ns : List Int} {i : Int} (h : 0 ≤ i) : evF T WW (k + 1) i_cell_at [(scr (ns.map .int), false), (.int i, false)] = some (.int (ns.getD i.toNat 0), false, [.no, .no]) := by
  refine W3_of ?_
  refine w_go f_cell_at ⟨rfl, rfl⟩ ?_
  simp -dsimp [f_cell_at]
  refine Wif_i (fun hi => ?_) (fun hi => ?_)
  · simp -dsimp
    rw [nthI_get h (by simpa using hi)]
    simp -dsimp
    rw [List.getElem?_eq_getElem (by omega)]; rfl
  · simp -dsimp
    rw [List.getElem?_eq_none (by omega)]; rfl
theorem e_is_integer [Has T i_is_integer f_is_integer] {n : Int} : evF T WW (k + 1) i_is_integer [(.int n, false)] = some (.bool true, false, [.no]) := by
  refine W3_of ?_
  refine w_go f_is_integer ⟨rfl, rfl⟩ ?_
  simp -dsimp [f_is_integer]
theorem e_is_between [Has T i_is_integer f_is_integer] [Has T i_is_between f_is_between] {n lo hi : Int} :
    evF T WW (k + 2) i_is_between [(.int n, false), (.int lo, false), (.int hi, false)] = some (.bool (decide (lo ≤ n ∧ n ≤ hi)), false, [.no, .no, .no]) := by
  refine W3_of ?_
  refine w_go f_is_between ⟨rfl, rfl⟩ ?_
  simp -dsimp [f_is_between, e_is_integer]
  refine Wif_i (fun hi => ?_) (fun hi => ?_)
  · simp -dsimp [hi]
  · simp -dsimp [hi]
end
section
/-! LB: patterns. -/
variable {T : Nat → Option Fn} {k : Nat}
/-- a pattern as a value -/
def patD (L : Int) (S : List Int) : PyData := .tuple [.int L, .tuple (S.map .int)]
structure IsPat (L : Int) (S : List Int) : Prop where
  lo : 2 ≤ L
  hi : L ≤ 60
  ne : S ≠ []
  few : (S.length : Int) < L
  asc : S.Pairwise (· < ·)
  mem : ∀ s ∈ S, 0 ≤ s ∧ s < L
theorem asc_len {S : List Int} {lo hi : Int} (h : S.Pairwise (· < ·)) (hm : ∀ s ∈ S, lo ≤ s ∧ s < hi) : (S.length : Int) ≤ max 0 (hi - lo) := by
  induction S generalizing lo with
  | nil => simp; omega
  | cons a r ih =>
    rw [List.pairwise_cons] at h
    have ha := hm a List.mem_cons_self
    have := ih (lo := a + 1) h.2 (fun s hs => ⟨by have := h.1 s hs; omega, (hm s (List.mem_cons_of_mem _ hs)).2⟩)
    simp; omega
theorem e_is_set [Has T i_is_integer f_is_integer] [Has T i_is_between f_is_between] [Has T i_is_set f_is_set] {S : List Int} {lo hi : Int} (hl : S.length ≤ sizeLine) :
    evF T WW (k + 3) i_is_set [(.tuple (S.map .int), false), (.int lo, false), (.int hi, false)]
      = some (.bool (decide ((∀ s ∈ S, lo ≤ s ∧ s ≤ hi) ∧ S.Pairwise (· < ·))), false, [.no, .no, .no]) := by
  refine W3_of ?_
  refine w_go f_is_set ⟨rfl, rfl⟩ ?_
  simp -dsimp [f_is_set]
  refine w_compm (fun x => .bool (decide (lo ≤ x ∧ x ≤ hi))) hl ?_ ?_
  · intro x acc hx ha
    simp -dsimp [e_is_between, ha]
  · simp -dsimp
    refine Wif_i (fun h => ?_) (fun h => ?_)
    · obtain ⟨x, hx, hb⟩ := h
      simp -dsimp
      intro ha; have := ha x hx; omega
    · simp -dsimp
      rw [← List.map_tail, zip_ints]
      refine w_compm (fun p => .bool (decide (p.1 < p.2))) (by simp; omega) ?_ ?_
      · intro p acc hp ha
        simp -dsimp [ha]
      · simp -dsimp
        have e : (∀ s ∈ S, lo ≤ s ∧ s ≤ hi) := fun s hs => by
          refine Classical.byContradiction fun hn => h ⟨s, hs, fun h1 => ?_⟩
          exact Int.not_le.1 fun h2 => hn ⟨h1, h2⟩
        have z := zip_lt (S := S)
        rw [List.drop_one] at z
        rw [Bool.eq_iff_iff, Bool.and_eq_true]
        simp only [List.all_eq_true, decide_eq_true_eq]
        exact ⟨fun h2 => ⟨e, z.1 h2⟩, fun h2 => z.2 h2.2⟩
theorem e_is_pattern [Has T i_is_integer f_is_integer] [Has T i_is_between f_is_between] [Has T i_is_set f_is_set] [Has T i_is_pattern f_is_pattern] {L : Int} {S : List Int} (h : IsPat L S) :
    evF T WW (k + 4) i_is_pattern [(patD L S, false)] = some (.bool true, false, [.no]) := by
  obtain ⟨h1, h2, h3, h4, h5, h6⟩ := h
  refine W3_of ?_
  refine w_go f_is_pattern ⟨rfl, rfl⟩ ?_
  have hl : S.length ≤ sizeLine := by have := sizeLine_ge; omega
  have hs : (∀ s ∈ S, 0 ≤ s ∧ s ≤ L - 1) ∧ S.Pairwise (· < ·) := ⟨fun s hs => by have := h6 s hs; omega, h5⟩
  have hn : 0 < S.length := List.length_pos_iff.2 h3
  have hn1 : (1 : Int) ≤ S.length := by omega
  simp -dsimp [f_is_pattern, patD, e_is_between, h1, h2, e_is_set hl, h5]
  refine Wif_t hs.1 ?_
  simp -dsimp [hn1, h4]
theorem e_need_pattern [Has T i_is_integer f_is_integer] [Has T i_is_between f_is_between] [Has T i_is_set f_is_set] [Has T i_is_pattern f_is_pattern] [Has T i_need_pattern f_need_pattern]
    {L : Int} {S : List Int} (h : IsPat L S) : evF T WW (k + 5) i_need_pattern [(patD L S, false)] = some (.none, false, [.no]) := by
  refine W3_of ?_
  refine w_go f_need_pattern ⟨rfl, rfl⟩ ?_
  simp -dsimp [f_need_pattern, e_is_pattern h]
theorem e_does_send [Has T i_does_send f_does_send] {L : Int} {S : List Int} {o t : Int} (h : 0 < L) :
    evF T WW (k + 1) i_does_send [(patD L S, false), (.int o, false), (.int t, false)] = some (.bool (decide ((t - o) % L ∈ S)), false, [.no, .no, .no]) := by
  refine W3_of ?_
  refine w_go f_does_send ⟨rfl, rfl⟩ ?_
  simp -dsimp [f_does_send, patD, h]
theorem e_same [Has T i_same f_same] {a b : PyData} (ha : shows a = true) (hb : shows b = true) :
    evF T WW (k + 1) i_same [(a, false), (b, false)] = some (.bool (decide (a.shown = b.shown)), false, [.no, .no]) := by
  refine W3_of ?_
  refine w_go f_same ⟨rfl, rfl⟩ ?_
  simp -dsimp [f_same, ha, hb]
theorem flat_len {L : Int} {S : List Int} {l : List Int} : (l.flatMap fun j => S.map fun s => j * L + s).length = l.length * S.length := by
  induction l with
  | nil => simp
  | cons a r ih => simp [ih, Nat.succ_mul]; omega
/-- a pattern, several times over -/
def rep (L n : Int) (S : List Int) : List Int := (intR 0 n).flatMap fun j => S.map fun s => j * L + s
theorem isPat_rep {L n : Int} {S : List Int} (h : IsPat L S) (hn : 1 ≤ n) (hL : n * L ≤ 60) : IsPat (n * L) (rep L n S) := by
  obtain ⟨h1, h2, h3, h4, h5, h6⟩ := h
  have hLn : L ≤ n * L := by
    have : 1 * L ≤ n * L := Int.mul_le_mul_of_nonneg_right hn (by omega)
    omega
  have hstep : ∀ a b : Int, a < b → a * L + L ≤ b * L := fun a b hab => by
    have : (a + 1) * L ≤ b * L := Int.mul_le_mul_of_nonneg_right (by omega) (by omega)
    rw [Int.add_mul] at this; omega
  refine ⟨by omega, hL, ?_, ?_, ?_, ?_⟩
  · intro h0
    have := congrArg List.length h0
    rw [rep, flat_len, length_intR] at this
    have hS := List.length_pos_iff.2 h3
    have : 0 < (n - 0).toNat * S.length := Nat.mul_pos (by omega) hS
    simp at *; omega
  · rw [rep, flat_len, length_intR, Int.natCast_mul]
    have e : ((n - 0).toNat : Int) = n := by omega
    rw [e]
    exact Int.mul_lt_mul_of_pos_left h4 (by omega)
  · rw [rep, List.pairwise_flatMap]
    refine ⟨fun j hj => ?_, ?_⟩
    · rw [List.pairwise_map]; exact h5.imp fun h => by omega
    · refine List.Pairwise.imp ?_ intR_sorted
      intro a b hab x hx y hy
      obtain ⟨s, hs, rfl⟩ := List.mem_map.1 hx
      obtain ⟨t, ht, rfl⟩ := List.mem_map.1 hy
      have := h6 s hs; have := h6 t ht; have := hstep a b hab
      omega
  · intro x hx
    obtain ⟨j, hj, hx⟩ := List.mem_flatMap.1 hx
    obtain ⟨s, hs, rfl⟩ := List.mem_map.1 hx
    have hj := mem_intR.1 hj
    have := h6 s hs
    have := hstep j n hj.2
    have : 0 ≤ j * L := Int.mul_nonneg hj.1 (by omega)
    omega
end
section
/-! LC: common divisors, shares, turned patterns. -/
variable {T : Nat → Option Fn} {k : Nat}
theorem gcd_step {a b : Int} (hb : 0 < b) : Int.gcd b (a % b) = Int.gcd a b := by
  have e : a % b = a - b * (a / b) := by have := Int.emod_add_mul_ediv a b; omega
  rw [e, Int.gcd_sub_mul_left_right, Int.gcd_comm]
/-- the slots so many ticks later -/
def turnI (L b : Int) (S : List Int) : List Int := sortI (S.map fun s => (s + b) % L)
end
section
/-! LD: groups, offsets, what is heard. -/
variable {k : Nat}
abbrev Pat := Int × List Int
abbrev Grp := List Pat
def pD (p : Pat) : PyData := patD p.1 p.2
def grpD (G : Grp) : PyData := .tuple (G.map pD)
def offD (o : List Int) : PyData := .tuple (o.map .int)
structure IsGrp (G : Grp) : Prop where
  lo : 2 ≤ G.length
  hi : G.length ≤ 4
  pat : ∀ p ∈ G, IsPat p.1 p.2
structure IsOff (G : Grp) (o : List Int) : Prop where
  len : o.length = G.length
  mem : ∀ q ∈ o.zip G, 0 ≤ q.1 ∧ q.1 < q.2.1
theorem sz4 {n : Nat} (h : n ≤ 100000) : n ≤ sizeLine := by have := sizeLine_ge; omega
theorem zip_off {o : List Int} {G : Grp} : ((o.map PyData.int).zip (G.map pD)).map (fun p => PyData.tuple [p.1, p.2]) = (o.zip G).map (fun q => PyData.tuple [.int q.1, pD q.2]) := by
  rw [List.zip_map, List.map_map]; rfl
/-- the span, one behind the other -/
def spanF (a : Int) (G : Grp) : Int := G.foldl (fun a p => PL.lcmI a p.1) a
def spanI (G : Grp) : Int := spanF 1 G
theorem spanF_snoc {a : Int} {G : Grp} {p : Pat} : spanF a (G ++ [p]) = PL.lcmI (spanF a G) p.1 := by simp [spanF]
theorem lcm_le {a b : Int} (ha : 0 < a) (hb : 0 < b) : PL.lcmI a b ≤ a * b := by
  have h := PL.gcd_mul_lcmI (a := a) (b := b)
  have hg : (1 : Int) ≤ Int.gcd a b := by have := PL.gcd_pos (b := b) ha; omega
  have hl := PL.lcmI_pos ha hb
  have : 1 * PL.lcmI a b ≤ (Int.gcd a b : Int) * PL.lcmI a b := Int.mul_le_mul_of_nonneg_right hg (by omega)
  omega
theorem spanF_pos {a : Int} {G : Grp} (ha : 0 < a) (h : ∀ p ∈ G, 2 ≤ p.1 ∧ p.1 ≤ 60) : 0 < spanF a G := by
  induction G generalizing a with
  | nil => exact ha
  | cons p r ih => exact ih (PL.lcmI_pos ha (by have := h p List.mem_cons_self; omega)) fun q hq => h q (List.mem_cons_of_mem _ hq)
theorem spanF_le {a : Int} {G : Grp} (ha : 0 < a) (h : ∀ p ∈ G, 2 ≤ p.1 ∧ p.1 ≤ 60) : spanF a G ≤ a * 60 ^ G.length := by
  induction G generalizing a with
  | nil => simp [spanF]
  | cons p r ih =>
    have hp := h p List.mem_cons_self
    have h1 := ih (PL.lcmI_pos ha (by omega : 0 < p.1)) fun q hq => h q (List.mem_cons_of_mem _ hq)
    have h2 := lcm_le ha (by omega : 0 < p.1)
    have h3 : a * p.1 ≤ a * 60 := Int.mul_le_mul_of_nonneg_left hp.2 (by omega)
    have h4 : PL.lcmI a p.1 * 60 ^ r.length ≤ (a * 60) * 60 ^ r.length := Int.mul_le_mul_of_nonneg_right (by omega) (Int.pow_nonneg (by omega))
    have h5 : (a * 60) * 60 ^ r.length = a * 60 ^ (r.length + 1) := by rw [Int.pow_succ, Int.mul_assoc, Int.mul_comm 60]
    show spanF (PL.lcmI a p.1) r ≤ a * 60 ^ (r.length + 1)
    omega
theorem IsGrp.per {G : Grp} (h : IsGrp G) : ∀ p ∈ G, 2 ≤ p.1 ∧ p.1 ≤ 60 := fun p hp => ⟨(h.pat p hp).lo, (h.pat p hp).hi⟩
theorem spanI_pos {G : Grp} (h : IsGrp G) : 0 < spanI G := spanF_pos (by omega) h.per
/-- a number or None -/
def optI : Option Int → PyData
  | none => .none
  | some t => .int t
/-- the part at a place -/
def nth0 (o : List Int) (i : Nat) : Int := o.getD i 0
/-- who sends in a tick -/
def on1 (p : Pat) (o t : Int) : Bool := decide ((t - o) % p.1 ∈ p.2)
def onI (G : Grp) (o : List Int) (t : Int) : List Int := (G.zipIdx.filter fun q => on1 q.1 (nth0 o q.2) t).map fun q => (q.2 : Int)
theorem enum_map {α : Type} {f : α → PyData} {l : List α} : (l.map f).zipIdx.map (fun p => PyData.tuple [.int p.2, p.1]) = l.zipIdx.map (fun q => PyData.tuple [.int q.2, f q.1]) := by
  rw [List.zipIdx_map, List.map_map]; rfl
theorem idx_off {o : List Int} {i : Nat} (h : i < o.length) {Q} : Wp (idxD (offD o) (.int i)) Q = Q (.int (nth0 o i)) := by
  have e : idxD (offD o) (.int i) = some (.int (nth0 o i)) := by
    simp [idxD, offD, ixOf, h, nth0]
  rw [e]; simp
/-- the kind of a tick -/
def kindI : List Int → Int
  | [] => -1
  | [a] => a
  | _ => -2
end
section
/-! LE: what is heard, counts, meets. -/
variable {k : Nat}
theorem onI_mem {G : Grp} {o : List Int} {t x : Int} (h : x ∈ onI G o t) : 0 ≤ x ∧ x < G.length := by
  simp only [onI, List.mem_map, List.mem_filter] at h
  obtain ⟨q, ⟨hq, _⟩, rfl⟩ := h
  obtain ⟨hq1, _⟩ := List.mem_zipIdx' hq
  omega
theorem onI_len {G : Grp} {o : List Int} {t : Int} : (onI G o t).length ≤ G.length := by
  simp only [onI, List.length_map]
  exact Nat.le_trans (List.length_filter_le _ _) (by simp)
theorem onI_abs {G : Grp} {o : List Int} {t x : Int} (h : IsGrp G) (hx : x ∈ onI G o t) : x.natAbs < 2 ^ 80 := by
  have := onI_mem hx; have := h.hi; omega
def heardI (G : Grp) (o : List Int) : List Int := (intR 0 (spanI G)).map fun t => kindI (onI G o t)
theorem cnt_ints {l : List Int} {x : Int} : cntD (l.map .int) (.int x) = some (.int (l.countP fun y => decide (y = x) : Nat)) := by
  have h1 : (l.map PyData.int).all flat = true := by simp [List.all_eq_true, flat]
  have h2 : (l.map PyData.int).countP (fun y => PyData.eqv y (.int x)) = l.countP (fun y => decide (y = x)) := by
    rw [List.countP_map]; exact List.countP_congr fun y _ => by simp
  simp [cntD, flat, h1, h2]
def cntI (G : Grp) (o : List Int) (x : Int) : Int := ((heardI G o).countP fun y => decide (y = x) : Nat)
def countsI (G : Grp) (o : List Int) : List Int := cntI G o (-1) :: ((intR 0 G.length).map (cntI G o) ++ [cntI G o (-2)])
/-- a set of senders -/
structure IsSet (n : Nat) (s : List Int) : Prop where
  ne : s ≠ []
  asc : s.Pairwise (· < ·)
  mem : ∀ x ∈ s, 0 ≤ x ∧ x < n
def allIn (s l : List Int) : Bool := s.all fun x => decide (x ∈ l)
def meetsI (G : Grp) (o s : List Int) : Int := ((intR 0 (spanI G)).countP fun t => allIn s (onI G o t) : Nat)
theorem in_ints {x : Int} {l : List Int} : inD (.int x) (l.map .int) = some (decide (x ∈ l)) := by
  have h1 : (l.map PyData.int).all flat = true := by simp [List.all_eq_true, flat]
  simp only [inD, flat, h1, Bool.and_self, if_true, Option.some.injEq]
  rw [Bool.eq_iff_iff]
  simp only [List.any_map, List.any_eq_true, Function.comp, eqF, beq_iff_eq, decide_eq_true_eq]
  exact ⟨fun ⟨y, a, b⟩ => b ▸ a, fun h => ⟨x, h, rfl⟩⟩
theorem set_len {n : Nat} {s : List Int} (h : IsSet n s) : s.length ≤ n := by
  have := asc_len (lo := 0) (hi := n) h.asc h.mem; omega
end
section
/-! LF: drawn crowds. -/
variable {k : Nat}
theorem w_pick {p : List PyData} {xs : List PyData} {fr : Bool} {Q} (hp : Pen p) (h0 : xs ≠ []) (h1 : xs.length < 1000000)
    (hq : ∀ p' x, Pen p' → x ∈ xs → Q x false [.own (.list p'), if fr then .own (.list xs) else .no]) : W3 (evF T WW (k + 2) i_pick [(.list p, true), (.list xs, fr)]) Q := by
  have hn := List.length_pos_iff.2 h0
  cases fr
  · refine w_go f_pick ⟨rfl, rfl⟩ ?_
    simp -dsimp [f_pick]
    refine w_draw hp (by omega) (by omega) fun r p1 hp1 a b => ?_
    simp -dsimp
    rw [nthI_get a (by simpa using b)]
    simp -dsimp
    exact hq p1 _ hp1 (List.getElem_mem _)
  · refine w_go f_pick ⟨rfl, rfl⟩ ?_
    simp -dsimp [f_pick]
    refine w_draw hp (by omega) (by omega) fun r p1 hp1 a b => ?_
    simp -dsimp
    rw [nthI_get a (by simpa using b)]
    simp -dsimp
    exact hq p1 _ hp1 (List.getElem_mem _)
def timesF (G : Grp) : Int := G.foldl (fun a p => a * p.1) 1
theorem timesF_snoc {G : Grp} {p : Pat} : timesF (G ++ [p]) = timesF G * p.1 := by simp [timesF]
theorem timesF_bd {G : Grp} (h : ∀ p ∈ G, 2 ≤ p.1 ∧ p.1 ≤ 60) : 1 ≤ timesF G ∧ timesF G ≤ 60 ^ G.length := by
  suffices H : ∀ (a : Int), 1 ≤ a → 1 ≤ G.foldl (fun a p => a * p.1) a ∧ G.foldl (fun a p => a * p.1) a ≤ a * 60 ^ G.length by
    have := H 1 (by omega); simpa [timesF] using this
  induction G with
  | nil => intro a ha; simp; exact ha
  | cons p r ih =>
    intro a ha
    have hp := h p List.mem_cons_self
    have h1 : a * 1 ≤ a * p.1 := Int.mul_le_mul_of_nonneg_left (by omega) (by omega)
    have h2 := ih (fun q hq => h q (List.mem_cons_of_mem _ hq)) (a * p.1) (by omega)
    have h3 : a * p.1 ≤ a * 60 := Int.mul_le_mul_of_nonneg_left hp.2 (by omega)
    have h4 : a * p.1 * 60 ^ r.length ≤ (a * 60) * 60 ^ r.length := Int.mul_le_mul_of_nonneg_right h3 (Int.pow_nonneg (by omega))
    have h5 : (a * 60) * 60 ^ r.length = a * 60 ^ (r.length + 1) := by rw [Int.pow_succ, Int.mul_assoc, Int.mul_comm 60]
    refine ⟨h2.1, ?_⟩
    show _ ≤ a * 60 ^ (r.length + 1)
    exact Int.le_trans h2.2 (by omega)
/-- the lots of periods -/
def lots : List (List Int) := [[2, 3, 4, 6, 12], [2, 4, 8], [3, 6, 9], [2, 5, 10], [3, 5, 15], [2, 3, 5, 7], [4, 6], [6], [4]]
structure IsCrowd (most : Int) (G : Grp) : Prop where
  lo : 2 ≤ G.length
  hi : G.length ≤ 4
  lot : ∃ L ∈ lots, ∀ p ∈ G, IsPat p.1 p.2 ∧ p.1 ∈ L
  few : G.length = 2 ∨ timesF G ≤ most
theorem IsCrowd.grp {most : Int} {G : Grp} (h : IsCrowd most G) : IsGrp G := ⟨h.lo, h.hi, fun p hp => by obtain ⟨L, _, q⟩ := h.lot; exact (q p hp).1⟩
end
section
/-! LG: spans of crowds; what is shown; the law's own least common multiple, its own senders, sets. -/
variable {k : Nat}
/-! spans of crowds -/
theorem spanF_dvd {a m : Int} {G : Grp} (ha : 0 < a) (hm : a ∣ m) (h : ∀ p ∈ G, 0 < p.1 ∧ p.1 ∣ m) : spanF a G ∣ m := by
  induction G generalizing a with
  | nil => exact hm
  | cons p r ih =>
    have hp := h p List.mem_cons_self
    exact ih (PL.lcmI_pos ha hp.1) (PL.lcmI_dvd ha hp.1 hm hp.2) fun q hq => h q (List.mem_cons_of_mem _ hq)
theorem dvd_spanF {a : Int} {G : Grp} (ha : 0 < a) (h : ∀ p ∈ G, 0 < p.1) : a ∣ spanF a G ∧ ∀ p ∈ G, p.1 ∣ spanF a G := by
  induction G generalizing a with
  | nil => exact ⟨Int.dvd_refl _, by simp⟩
  | cons p r ih =>
    have hp := h p List.mem_cons_self
    have := ih (PL.lcmI_pos ha hp) fun q hq => h q (List.mem_cons_of_mem _ hq)
    refine ⟨Int.dvd_trans (PL.dvd_lcmI_left ha hp) this.1, fun q hq => ?_⟩
    rcases List.mem_cons.1 hq with rfl | hq
    · exact Int.dvd_trans (PL.dvd_lcmI_right ha hp) this.1
    · exact this.2 q hq
theorem span_dvd {G : Grp} {m : Int} (h : ∀ p ∈ G, 0 < p.1 ∧ p.1 ∣ m) : spanI G ∣ m := spanF_dvd (by omega) (Int.one_dvd _) h
theorem dvd_span {G : Grp} (h : ∀ p ∈ G, 0 < p.1) : ∀ p ∈ G, p.1 ∣ spanI G := (dvd_spanF (by omega) h).2
theorem lots_dvd : ∀ L ∈ lots, ∃ m : Int, 0 < m ∧ m ≤ 210 ∧ ∀ x ∈ L, 0 < x ∧ x ∣ m := by
  intro L hL
  simp only [lots, List.mem_cons, List.not_mem_nil, or_false] at hL
  rcases hL with rfl | rfl | rfl | rfl | rfl | rfl | rfl | rfl | rfl
  · exact ⟨12, by decide, by decide, by decide⟩
  · exact ⟨8, by decide, by decide, by decide⟩
  · exact ⟨18, by decide, by decide, by decide⟩
  · exact ⟨10, by decide, by decide, by decide⟩
  · exact ⟨15, by decide, by decide, by decide⟩
  · exact ⟨210, by decide, by decide, by decide⟩
  · exact ⟨12, by decide, by decide, by decide⟩
  · exact ⟨6, by decide, by decide, by decide⟩
  · exact ⟨4, by decide, by decide, by decide⟩
theorem IsCrowd.span {most : Int} {G : Grp} (h : IsCrowd most G) : spanI G ≤ 210 := by
  obtain ⟨L, hL, hp⟩ := h.lot
  obtain ⟨m, m0, m1, hm⟩ := lots_dvd L hL
  have := Int.le_of_dvd m0 (span_dvd fun p hq => hm p.1 (hp p hq).2)
  omega
theorem span2 {L M : Int} {S R : List Int} (h0 : 0 < L) (h1 : 0 < M) (h : L * M ≤ 420) : spanI [(L, S), (M, R)] ≤ 420 := by
  have e : spanI [(L, S), (M, R)] = PL.lcmI (PL.lcmI 1 L) M := rfl
  have e1 : PL.lcmI 1 L = L := by simp [PL.lcmI]
  rw [e, e1]
  exact Int.le_trans (lcm_le h0 h1) h
/-! ### what can be shown -/
structure Shw (w dp : Nat) (d : PyData) : Prop where
  mild : MI.mild d = true
  dep : d.depth ≤ dp
  wt : d.weight ≤ w
theorem Shw.shows {w dp : Nat} {d : PyData} (h : Shw w dp d) (hw : w ≤ 170000 := by decide) (hd : dp ≤ 64 := by decide) : shows d = true := mild_shows h.mild (Nat.le_trans h.dep hd) (Nat.le_trans h.wt hw)
theorem Shw.lay {w dp : Nat} {d : PyData} (h : Shw w dp d) (hd : dp ≤ 64 := by decide) : lay d = true := mild_lay h.mild (Nat.le_trans h.dep hd)
theorem Shw.mono {w dp w' dp' : Nat} {d : PyData} (h : Shw w dp d) (hw : w ≤ w') (hd : dp ≤ dp') : Shw w' dp' d := ⟨h.mild, Nat.le_trans h.dep hd, Nat.le_trans h.wt hw⟩
theorem Shw.int {i : Int} (h : i.natAbs < 2 ^ 80) : Shw 81 0 (.int i) := ⟨by simp [MI.mild, h], by simp [PyData.depth], by
  have := log2_lt h
  simp only [PyData.weight]; split <;> omega⟩
theorem Shw.bool {b : Bool} : Shw 0 0 (.bool b) := ⟨by simp [MI.mild], by simp [PyData.depth], by simp [PyData.weight]⟩
theorem Shw.none : Shw 0 0 .none := ⟨by simp [MI.mild], by simp [PyData.depth], by simp [PyData.weight]⟩
theorem shw_all {w dp : Nat} {ds : List PyData} (h : ∀ d ∈ ds, Shw w dp d) : mildAll ds = true ∧ PyData.depthAll ds ≤ dp ∧ PyData.weightAll ds ≤ ds.length * (w + 1) := by
  induction ds with
  | nil => simp [mildAll, PyData.depthAll, PyData.weightAll]
  | cons a r ih =>
    have ha := h a List.mem_cons_self
    have hr := ih fun d hd => h d (List.mem_cons_of_mem _ hd)
    have := ha.dep; have := ha.wt
    refine ⟨by simp [mildAll, ha.mild, hr.1], ?_, ?_⟩
    · simp only [PyData.depthAll]; omega
    · simp only [PyData.weightAll, List.length_cons, Nat.succ_mul]; omega
theorem Shw.tup {w dp n : Nat} {ds : List PyData} (h : ∀ d ∈ ds, Shw w dp d) (hn : ds.length ≤ n) : Shw (n * (w + 1)) (dp + 1) (.tuple ds) := by
  obtain ⟨a, b, c⟩ := shw_all h
  exact ⟨by simp only [MI.mild]; exact a, by simp only [PyData.depth]; omega, by simp only [PyData.weight]; exact Nat.le_trans c (Nat.mul_le_mul_right _ hn)⟩
theorem Shw.lst {w dp n : Nat} {ds : List PyData} (h : ∀ d ∈ ds, Shw w dp d) (hn : ds.length ≤ n) : Shw (n * (w + 1)) (dp + 1) (.list ds) := by
  obtain ⟨a, b, c⟩ := shw_all h
  exact ⟨by simp only [MI.mild]; exact a, by simp only [PyData.depth]; omega, by simp only [PyData.weight]; exact Nat.le_trans c (Nat.mul_le_mul_right _ hn)⟩
theorem Shw.ints {n : Nat} {S : List Int} (h : ∀ s ∈ S, s.natAbs < 2 ^ 80) (hn : S.length ≤ n) : Shw (n * 82) 1 (.tuple (S.map .int)) :=
  Shw.tup (w := 81) (dp := 0) (fun d hd => by obtain ⟨s, hs, rfl⟩ := List.mem_map.1 hd; exact Shw.int (h s hs)) (by simpa using hn)
theorem shw_pat {p : Pat} (h : IsPat p.1 p.2) : Shw 9842 2 (pD p) := by
  have h1 := h.lo; have h2 := h.hi; have h3 := h.few
  refine Shw.tup (w := 4920) (dp := 1) (n := 2) (ds := [.int p.1, .tuple (p.2.map .int)]) (fun d hd => ?_) (by simp)
  simp only [List.mem_cons, List.not_mem_nil, or_false] at hd
  rcases hd with rfl | rfl
  · exact (Shw.int (by omega)).mono (by omega) (by omega)
  · exact Shw.ints (n := 60) (fun s hs => by have := h.mem s hs; omega) (by omega)
theorem shw_grp {G : Grp} (h : IsGrp G) : Shw 39372 3 (grpD G) :=
  Shw.tup (w := 9842) (dp := 2) (n := 4) (fun d hd => by obtain ⟨p, hp, rfl⟩ := List.mem_map.1 hd; exact shw_pat (h.pat p hp)) (by simpa using h.hi)
theorem off_mem {G : Grp} {o : List Int} (h : IsGrp G) (ho : IsOff G o) : ∀ x ∈ o, 0 ≤ x ∧ x < 60 := fun x hx => by
  obtain ⟨i, hi, e⟩ := List.getElem_of_mem hx
  have hl : i < G.length := by rw [← ho.len]; exact hi
  have hm : (o[i], G[i]) ∈ o.zip G := by
    rw [List.mem_iff_getElem]; exact ⟨i, by simp; omega, by simp⟩
  have := ho.mem _ hm
  have := h.per _ (List.getElem_mem hl)
  rw [e] at *
  simp at *; omega
theorem shw_off {G : Grp} {o : List Int} (h : IsGrp G) (ho : IsOff G o) : Shw 328 1 (offD o) :=
  Shw.ints (n := 4) (fun s hs => by have := off_mem h ho s hs; omega) (by have := ho.len; have := h.hi; omega)
/-! ### senders, rows, sets -/
def sets2 : List (List Int) := [[0], [1], [0, 1]]
def sets3 : List (List Int) := [[0], [1], [0, 1], [2], [0, 2], [1, 2], [0, 1, 2]]
def sets4 : List (List Int) := [[0], [1], [0, 1], [2], [0, 2], [1, 2], [0, 1, 2], [3], [0, 3], [1, 3], [0, 1, 3], [2, 3], [0, 2, 3], [1, 2, 3], [0, 1, 2, 3]]
end
section
/-! LH: ticks_later. -/
variable {k : Nat}
abbrev Tri := (Pat × Int) × Int
/-- so many ticks later the ones are the others -/
def AgreeL (l : List Tri) (t : Int) : Prop := ∀ q ∈ l, q.1.1.1 ∣ q.1.2 + t - q.2
def tri (G : Grp) (a b : List Int) : List Tri := (G.zip a).zip b
def Agree (G : Grp) (a b : List Int) (t : Int) : Prop := AgreeL (tri G a b) t
def grpL (l : List Tri) : Grp := l.map fun q => q.1.1
theorem grpL_tri {G : Grp} {a b : List Int} (ha : a.length = G.length) (hb : b.length = G.length) : grpL (tri G a b) = G := by
  have e : (fun q : Tri => q.1.1) = Prod.fst ∘ Prod.fst := rfl
  rw [grpL, tri, e, ← List.map_map, List.map_fst_zip (by simp; omega), List.map_fst_zip (by omega)]
theorem zip3_map {G : Grp} {a b : List Int} : (((G.map pD).zip (a.map PyData.int)).zip (b.map PyData.int)).map (fun p => PyData.tuple [p.1.1, p.1.2, p.2]) = (tri G a b).map (fun q => PyData.tuple [pD q.1.1, .int q.1.2, .int q.2]) := by
  rw [tri, List.zip_map, List.zip_map, List.map_map]; rfl
/-- all that agree differ by a multiple of the span -/
theorem agree_span {l : List Tri} {s t : Int} (hp : ∀ q ∈ l, 0 < q.1.1.1) (h1 : AgreeL l s) (h2 : AgreeL l t) : spanI (grpL l) ∣ s - t := by
  refine span_dvd fun p hpm => ?_
  obtain ⟨q, hq, rfl⟩ := List.mem_map.1 hpm
  refine ⟨hp q hq, ?_⟩
  have := Int.dvd_sub (h1 q hq) (h2 q hq)
  have e : q.1.2 + s - q.2 - (q.1.2 + t - q.2) = s - t := by omega
  rwa [e] at this
theorem agree_add {l : List Tri} {t u : Int} (hp : ∀ q ∈ l, 0 < q.1.1.1) (h : AgreeL l t) : AgreeL l (t + spanI (grpL l) * u) := fun q hq => by
  have h1 := h q hq
  have h2 : q.1.1.1 ∣ spanI (grpL l) := dvd_span (fun p hpm => by obtain ⟨r, hr, rfl⟩ := List.mem_map.1 hpm; exact hp r hr) _ (List.mem_map.2 ⟨q, hq, rfl⟩)
  have e : q.1.2 + (t + spanI (grpL l) * u) - q.2 = (q.1.2 + t - q.2) + spanI (grpL l) * u := by omega
  rw [e]
  exact Int.dvd_add h1 (Int.dvd_mul_of_dvd_left h2)
end
section
/-! LI: offsets put off; ticks_later as a function; pairs that agree. -/
variable {k : Nat}
def moveI (G : Grp) (o : List Int) (t : Int) : List Int := (o.zip G).map fun q => (q.1 + t) % q.2.1
theorem moveI_len {G : Grp} {o : List Int} {t : Int} (ho : o.length = G.length) : (moveI G o t).length = G.length := by simp [moveI, ho]
theorem zip_get {α β : Type} {P : α × β → Prop} {l : List α} {m : List β} : (∀ q ∈ l.zip m, P q) ↔ ∀ i (h : i < l.length) (h' : i < m.length), P (l[i], m[i]) := by
  constructor
  · intro hh i h h'
    exact hh _ (by rw [List.mem_iff_getElem]; exact ⟨i, by simp; omega, by simp⟩)
  · intro hh q hq
    obtain ⟨i, hi, rfl⟩ := List.mem_iff_getElem.1 hq
    simp at hi
    simpa using hh i (by omega) (by omega)
theorem isOff_move {G : Grp} {o : List Int} {t : Int} (h : ∀ p ∈ G, 0 < p.1) (ho : o.length = G.length) : IsOff G (moveI G o t) := by
  refine ⟨moveI_len ho, ?_⟩
  rw [zip_get]
  intro i h1 h2
  have hL := h G[i] (List.getElem_mem h2)
  simp only [moveI, List.getElem_map, List.getElem_zip]
  exact ⟨Int.emod_nonneg _ (by omega), Int.emod_lt_of_pos _ hL⟩
theorem agree_get {G : Grp} {a b : List Int} {t : Int} (ha : a.length = G.length) (hb : b.length = G.length) : Agree G a b t ↔ ∀ i (h : i < G.length), G[i].1 ∣ a[i] + t - b[i] := by
  unfold Agree AgreeL tri
  rw [zip_get]
  constructor
  · intro hh i h
    have := hh i (by simp; omega) (by omega)
    simpa using this
  · intro hh i h1 h2
    simp at h1
    simpa using hh i (by omega)
theorem agree_move {G : Grp} {a b : List Int} {t : Int} (hp : ∀ p ∈ G, 0 < p.1) (ha : a.length = G.length) (hb : IsOff G b) : Agree G a b t ↔ moveI G a t = b := by
  have hbm := hb.mem
  have hbl := hb.len
  rw [zip_get] at hbm
  rw [agree_get ha hb.len]
  constructor
  · intro hh
    refine List.ext_getElem (by rw [moveI_len ha, hbl]) fun i h1 h2 => ?_
    rw [moveI_len ha] at h1
    simp only [moveI, List.getElem_map, List.getElem_zip]
    have := hbm i h2 h1
    exact PL.emod_of this.1 this.2 (hh i h1)
  · intro hh i h
    have e : (moveI G a t)[i]'(by rw [moveI_len ha]; exact h) = b[i] := by simp only [hh]
    simp only [moveI, List.getElem_map, List.getElem_zip] at e
    rw [← e]
    exact PL.dvd_emod
theorem agree_uniq {G : Grp} {a b : List Int} {s t : Int} (hp : ∀ p ∈ G, 0 < p.1) (ha : a.length = G.length) (hb : b.length = G.length) (h1 : Agree G a b s) (h2 : Agree G a b t) : spanI G ∣ s - t := by
  have := agree_span (l := tri G a b) (fun q hq => hp q.1.1 (by rw [← grpL_tri ha hb]; exact List.mem_map.2 ⟨q, hq, rfl⟩)) h1 h2
  rwa [grpL_tri ha hb] at this
def laterI (G : Grp) (a b : List Int) : Option Int := (intR 0 (spanI G)).find? fun t => decide (moveI G a t = b)
theorem later_some {G : Grp} {a b : List Int} {t : Int} (h : IsGrp G) (ha : a.length = G.length) (hb : IsOff G b) (h0 : 0 ≤ t) (h1 : t < spanI G) (hA : moveI G a t = b) : laterI G a b = some t := by
  have hp : ∀ p ∈ G, 0 < p.1 := fun p hp => by have := h.per p hp; omega
  cases e : laterI G a b with
  | none =>
    exact absurd hA (by simpa using List.find?_eq_none.1 e t (mem_intR.2 ⟨h0, h1⟩))
  | some s =>
    have hs := List.find?_some e
    have hm := mem_intR.1 (List.mem_of_find?_eq_some e)
    have := agree_uniq hp ha hb.len ((agree_move hp ha hb).2 (by simpa using hs)) ((agree_move hp ha hb).2 hA)
    rw [PL.small_dvd this hm.1 hm.2 h0 h1]
theorem later_spec {G : Grp} {a b : List Int} {t : Int} (e : laterI G a b = some t) : 0 ≤ t ∧ t < spanI G ∧ moveI G a t = b := by
  have hs := List.find?_some e
  have hm := mem_intR.1 (List.mem_of_find?_eq_some e)
  exact ⟨hm.1, hm.2, by simpa using hs⟩
/-- it can be put off to be the others exactly if each two agree -/
def PairOk (G : Grp) (a b : List Int) : Prop := ∀ i j (hi : i < G.length) (hj : j < i) (ha : i < a.length) (hb : i < b.length), (Int.gcd G[i].1 (G[j]'(by omega)).1 : Int) ∣ b[i] - (b[j]'(by omega)) - (a[i] - (a[j]'(by omega)))
theorem pair_later {G : Grp} {a b : List Int} (h : IsGrp G) (ha : a.length = G.length) (hb : IsOff G b) : PairOk G a b ↔ (laterI G a b).isSome = true := by
  have hp : ∀ p ∈ G, 0 < p.1 := fun p hp => by have := h.per p hp; omega
  have hbl := hb.len
  constructor
  · intro hh
    have hl : ∀ p ∈ (G.zip (b.zip a)).map (fun q => (q.1.1, q.2.1 - q.2.2)), 0 < p.1 := fun p hpm => by
      obtain ⟨q, hq, rfl⟩ := List.mem_map.1 hpm
      exact hp q.1 (List.of_mem_zip hq).1
    have hpw : ((G.zip (b.zip a)).map (fun q => (q.1.1, q.2.1 - q.2.2))).Pairwise fun p q => (Int.gcd p.1 q.1 : Int) ∣ p.2 - q.2 := by
      rw [List.pairwise_iff_getElem]
      intro i j hi hj hij
      simp at hi hj
      simp only [List.getElem_map, List.getElem_zip]
      have := hh j i (by omega) hij (by omega) (by omega)
      rw [Int.gcd_comm]
      have e : b[i] - a[i] - (b[j] - a[j]) = -(b[j] - b[i] - (a[j] - a[i])) := by omega
      rw [e]; exact (Int.dvd_neg).2 this
    obtain ⟨x, hx⟩ := PL.crt_list hl hpw
    have hA : Agree G a b x := by
      rw [agree_get ha hbl]
      intro i hi
      have := hx (G[i].1, b[i] - a[i]) (List.mem_map.2 ⟨(G[i], (b[i], a[i])), by rw [List.mem_iff_getElem]; exact ⟨i, by simp; omega, by simp⟩, rfl⟩)
      have e : a[i] + x - b[i] = x - (b[i] - a[i]) := by omega
      rw [e]; exact this
    have hs := spanI_pos h
    have hA2 : Agree G a b (x % spanI G) := by
      rw [agree_get ha hbl] at hA ⊢
      intro i hi
      have h1 := hA i hi
      have h2 : G[i].1 ∣ spanI G := dvd_span hp _ (List.getElem_mem hi)
      have e : a[i] + x % spanI G - b[i] = (a[i] + x - b[i]) - (x - x % spanI G) := by omega
      rw [e]
      exact Int.dvd_sub h1 (Int.dvd_trans h2 PL.dvd_emod)
    rw [later_some h ha hb (Int.emod_nonneg _ (by omega)) (Int.emod_lt_of_pos _ hs) ((agree_move hp ha hb).1 hA2)]
    rfl
  · intro hh i j hi hj hia hib
    obtain ⟨t, ht⟩ := Option.isSome_iff_exists.1 hh
    have hA := (agree_move hp ha hb).2 (later_spec ht).2.2
    rw [agree_get ha hbl] at hA
    have h1 := Int.dvd_trans (Int.gcd_dvd_left G[i].1 (G[j]'(by omega)).1) (hA i hi)
    have h2 := Int.dvd_trans (Int.gcd_dvd_right G[i].1 (G[j]'(by omega)).1) (hA j (by omega))
    have e : b[i] - b[j] - (a[i] - a[j]) = (a[j] + t - b[j]) - (a[i] + t - b[i]) := by omega
    rw [e]; exact Int.dvd_sub h2 h1
theorem lcm_div {a b : Int} (ha : 0 < a) (hb : 0 < b) : a * b / (Int.gcd a b : Nat) = PL.lcmI a b := by
  have h := PL.gcd_mul_lcmI (a := a) (b := b)
  rw [← h]
  exact Int.mul_ediv_cancel_left _ (by have := PL.gcd_pos (b := b) ha; omega)
end
section
/-! LJ: comprehensions in comprehensions; shortest patterns, matching ones. -/
variable {k : Nat}
section
variable {α : Type} {tg : MT} {ev : Rho → List PyData → Option (Rho × List PyData)} {vs : List Nat} {f : α → PyData} {l : List α} {ρ : Rho} {Q : Rho → List PyData → Prop}
/-- parts one by one, behind others -/
theorem w_compa (g : α → PyData) {acc0 : List PyData} (hn : acc0.length + l.length ≤ sizeLine)
    (h1 : ∀ x acc, x ∈ l → acc.length < sizeLine → Wp (bindT tg (f x) ρ) fun ρ1 => W2 (ev ρ1 acc) fun xa xb => wipeR xa vs = ρ ∧ xb = acc ++ [g x])
    (h2 : Q ρ (acc0 ++ l.map g)) : W2 (turns tg ev vs (l.map f) ρ acc0) Q := by
  refine w_turnsm (fun done ρ' acc => ρ' = ρ ∧ acc = acc0 ++ done.map g) ⟨rfl, by simp⟩ ?_ ?_
  · intro done d rest ρ' acc hd ⟨hr, ha⟩
    subst hr
    have hl : acc.length = acc0.length + done.length := by rw [ha]; simp
    have hd' : done.length < l.length := by rw [hd]; simp
    refine Wp_mono (h1 d acc (by rw [hd]; simp) (by omega)) fun ρ1 h3 => W2_mono h3 fun x y hx => ⟨hx.1, ?_⟩
    rw [hx.2, ha]; simp
  · intro ρ' acc ⟨hr, ha⟩; subst hr; subst ha; exact h2
end
/-- a turn of a comprehension with another one within -/
@[simp ↓] theorem W2_bind2 {α β γ δ : Type} {o : Option (α × β)} {f : α × β → Option (γ × δ)} {Q : γ → δ → Prop} : W2 (o.bind f) Q = W2 o fun a b => W2 (f (a, b)) Q := by
  simp only [p2, Wp0_bind]
@[simp ↓] theorem W2_ite2 {γ δ : Type} {c : Prop} [Decidable c] {x y : Option (γ × δ)} {Q : γ → δ → Prop} : W2 (if c then x else y) Q = Wif c (W2 x Q) (W2 y Q) := by
  simp only [p2, pif, Wp0_ite]
theorem IsPat.pl {L : Int} {S : List Int} (h : IsPat L S) : PL.IsPat L S := ⟨h.lo, h.hi, h.ne, h.few, h.asc, h.mem⟩
theorem rangeC_eq {lo hi c : Int} : rangeC lo hi c = (PL.stepR lo hi c).map .int := by simp [rangeC, PL.stepR]
theorem stepR_len {L p : Int} (hL : 0 ≤ L) (hp : 1 ≤ p) : (PL.stepR 0 L p).length ≤ L.toNat := by
  simp only [PL.stepR, List.length_map, List.length_range]
  have : (L - 0 + p - 1) / p ≤ L := by
    refine Int.le_of_lt_add_one ((Int.ediv_lt_iff_lt_mul (by omega)).2 ?_)
    have : L * 1 ≤ L * p := Int.mul_le_mul_of_nonneg_left hp hL
    rw [Int.add_mul]; omega
  omega
theorem flatMap_map_int {α : Type} {l : List α} {g : α → List Int} : (l.flatMap fun x => (g x).map PyData.int) = (l.flatMap g).map PyData.int := by
  induction l with
  | nil => rfl
  | cons a r ih => simp [ih]
end
section
/-! LK: turned patterns, matching ones. -/
variable {k : Nat}
theorem insP (x : Int) : ∀ r : List Int, (insI x r).Perm (x :: r)
  | [] => List.Perm.refl _
  | y :: r => by
    unfold insI
    split
    · exact List.Perm.refl _
    · exact (List.Perm.cons y (insP x r)).trans (List.Perm.swap x y r)
theorem sortP : ∀ r : List Int, (sortI r).Perm r
  | [] => List.Perm.refl _
  | x :: r => (insP x (sortI r)).trans (List.Perm.cons x (sortP r))
theorem insS (x : Int) : ∀ r : List Int, r.Pairwise (· ≤ ·) → (insI x r).Pairwise (· ≤ ·)
  | [], _ => List.pairwise_singleton _ _
  | y :: r, h => by
    unfold insI
    rw [List.pairwise_cons] at h
    split
    · rename_i hx
      refine List.pairwise_cons.mpr ⟨fun z hz => ?_, List.pairwise_cons.mpr h⟩
      rcases List.mem_cons.mp hz with rfl | hz
      · exact hx
      · exact Int.le_trans hx (h.1 z hz)
    · rename_i hx
      refine List.pairwise_cons.mpr ⟨fun z hz => ?_, insS x r h.2⟩
      rcases List.mem_cons.mp ((insP x r).mem_iff.mp hz) with rfl | hz
      · omega
      · exact h.1 z hz
theorem sortS : ∀ r : List Int, (sortI r).Pairwise (· ≤ ·)
  | [] => List.Pairwise.nil
  | x :: r => insS x _ (sortS r)
theorem insI_strict {x : Int} {r : List Int} (h : r.Pairwise (· < ·)) (hx : x ∉ r) : (insI x r).Pairwise (· < ·) := by
  have hp := insP x r
  have hs := insS x r (h.imp fun h => by omega)
  have hn : (insI x r).Nodup := hp.nodup_iff.2 (List.nodup_cons.2 ⟨hx, h.imp fun h => by omega⟩)
  exact (hs.and hn).imp fun ⟨a, b⟩ => by omega
theorem sortI_strict {l : List Int} (h : l.Nodup) : (sortI l).Pairwise (· < ·) := by
  have hn : (sortI l).Nodup := (sortP l).nodup_iff.2 h
  exact ((sortS l).and hn).imp fun ⟨a, b⟩ => by omega
theorem mem_sortI {l : List Int} {x : Int} : x ∈ sortI l ↔ x ∈ l := (sortP l).mem_iff
theorem turn_nodup {L b : Int} {S : List Int} (hL : 0 < L) (hn : S.Nodup) (hm : ∀ s ∈ S, 0 ≤ s ∧ s < L) : (S.map fun s => (s + b) % L).Nodup := by
  rw [List.Nodup, List.pairwise_map]
  refine List.Pairwise.imp_of_mem ?_ hn
  intro x y hx hy hxy e
  have := (PL.emod_eq_iff).1 e
  have e2 : x + b - (y + b) = x - y := by omega
  rw [e2] at this
  exact hxy (PL.small_dvd this (hm x hx).1 (hm x hx).2 (hm y hy).1 (hm y hy).2)
theorem turnI_asc {L b : Int} {S : List Int} (hL : 0 < L) (hn : S.Nodup) (hm : ∀ s ∈ S, 0 ≤ s ∧ s < L) : (turnI L b S).Pairwise (· < ·) := sortI_strict (turn_nodup hL hn hm)
theorem mem_turnI {L b x : Int} {S : List Int} (hL : 0 < L) (hm : ∀ s ∈ S, 0 ≤ s ∧ s < L) : x ∈ turnI L b S ↔ 0 ≤ x ∧ x < L ∧ (x - b) % L ∈ S := by
  rw [turnI, mem_sortI, List.mem_map]
  constructor
  · rintro ⟨s, hs, rfl⟩
    refine ⟨Int.emod_nonneg _ (by omega), Int.emod_lt_of_pos _ hL, ?_⟩
    have e : ((s + b) % L - b) % L = s := by
      rw [Int.emod_sub_emod]
      have : s + b - b = s := by omega
      rw [this, Int.emod_eq_of_lt (hm s hs).1 (hm s hs).2]
    rw [e]; exact hs
  · rintro ⟨h0, h1, h2⟩
    refine ⟨_, h2, ?_⟩
    rw [Int.emod_add_emod]
    have : x - b + b = x := by omega
    rw [this, Int.emod_eq_of_lt h0 h1]
theorem turnI_pat {L b : Int} {S : List Int} (h : IsPat L S) : IsPat L (turnI L b S) := by
  have hL : 0 < L := by have := h.lo; omega
  have hl : (turnI L b S).length = S.length := by rw [turnI, (sortP _).length_eq]; simp
  refine ⟨h.lo, h.hi, fun e => h.ne ?_, by rw [hl]; exact h.few, turnI_asc hL (h.asc.imp fun h => by omega) h.mem, fun s hs => ?_⟩
  · rw [e] at hl; exact List.length_eq_zero_iff.1 hl.symm
  · have := (mem_turnI hL h.mem).1 hs; exact ⟨this.1, this.2.1⟩
/-- the shortest pattern sends in the same ticks -/
theorem on_short {L m t : Int} {S : List Int} (h : IsPat L S) (hs : PL.Short L S m) : t % L ∈ S ↔ t % m ∈ S.filter fun s => decide (s < m) := by
  have hL : 0 < L := by have := h.lo; omega
  have hm := hs.pos
  have hle := hs.le hL
  have e : (t % m) % L ∈ S ↔ t % L ∈ S := by
    have := PL.per_emod (f := fun t => decide (t % L ∈ S)) (n := m) (fun t => decide_eq_decide.2 (hs.per t)) t
    exact decide_eq_decide.1 this
  have h0 : 0 ≤ t % m := Int.emod_nonneg _ (by omega)
  have h1 : t % m < m := Int.emod_lt_of_pos _ hm
  rw [Int.emod_eq_of_lt h0 (by omega)] at e
  rw [← e, List.mem_filter]
  simp [h1]
/-- with this offset both send in the same ticks -/
def Match (L : Int) (S : List Int) (M : Int) (R : List Int) (o : Int) : Prop := ∀ t, (t - o) % M ∈ R ↔ t % L ∈ S
theorem match_short {L M m n o : Int} {S R : List Int} (h : Match L S M R o) (h1 : PL.Short L S m) (h2 : PL.Short M R n) : m = n := by
  have key : ∀ q, PL.Per L S q ↔ PL.Per M R q := fun q => by
    constructor
    · intro hp t
      have a := hp (t + o)
      rw [← h (t + o + q), ← h (t + o)] at a
      rw [show t + o + q - o = t + q by omega, show t + o - o = t by omega] at a
      exact a
    · intro hp t
      rw [← h (t + q), ← h t]
      have a := hp (t - o)
      rw [show t - o + q = t + q - o by omega] at a
      exact a
  refine PL.Short.uniq h1 ⟨h2.pos, (key n).2 h2.per, fun q a b c => h2.least q a b ((key q).1 c)⟩
theorem match_turn {L M m n o : Int} {S R : List Int} (hS : IsPat L S) (hR : IsPat M R) (h1 : PL.Short L S m) (h2 : PL.Short M R n) :
    (n = m ∧ turnI n o (R.filter fun s => decide (s < n)) = S.filter fun s => decide (s < m)) ↔ Match L S M R o := by
  have hn := h2.pos
  have hF : ∀ s ∈ R.filter (fun s => decide (s < n)), 0 ≤ s ∧ s < n := fun s hs => by
    rw [List.mem_filter] at hs
    exact ⟨(hR.mem s hs.1).1, by simpa using hs.2⟩
  have hFn : (R.filter fun s => decide (s < n)).Nodup := (hR.asc.imp (fun h => by omega) : R.Nodup).filter _
  constructor
  · rintro ⟨rfl, e⟩ t
    rw [on_short hR h2, on_short hS h1, ← e, mem_turnI hn hF]
    have h0 : 0 ≤ t % n := Int.emod_nonneg _ (by omega)
    have h3 : t % n < n := Int.emod_lt_of_pos _ hn
    rw [Int.emod_sub_emod]
    exact ⟨fun a => ⟨h0, h3, a⟩, fun a => a.2.2⟩
  · intro hM
    have e := match_short hM h1 h2
    subst e
    refine ⟨rfl, PL.asc_ext (turnI_asc hn hFn hF) (hS.asc.filter _) fun z => ?_⟩
    rw [mem_turnI hn hF]
    have a := hM z
    rw [on_short hR h2, on_short hS h1] at a
    constructor
    · rintro ⟨h0, h3, h4⟩
      have := a.1 h4
      rwa [Int.emod_eq_of_lt h0 h3] at this
    · intro hz
      have hz' := List.mem_filter.1 hz
      have h0 := (hS.mem z hz'.1).1
      have h3 : z < m := by simpa using hz'.2
      refine ⟨h0, h3, a.2 ?_⟩
      rw [Int.emod_eq_of_lt h0 h3]; exact hz
theorem match_emod {L M n o : Int} {S R : List Int} (h2 : PL.Short M R n) (h : Match L S M R o) : Match L S M R (o % n) := fun t => by
  rw [← h t]
  have := PL.per_mul (f := fun t => decide (t % M ∈ R)) (n := n) (fun t => decide_eq_decide.2 (h2.per t)) (o / n) (t - o)
  have e := Int.emod_add_mul_ediv o n
  rw [show t - o + o / n * n = t - o % n by rw [Int.mul_comm]; omega] at this
  exact decide_eq_decide.1 this
/-- the first of some numbers with which both send alike -/
theorem find_match {L M n : Int} {S R : List Int} {A B : Int → Bool} (hM : 0 < M) (h2 : PL.Short M R n) (hA : ∀ o, A o = true ↔ Match L S M R o) (hB : ∀ o, 0 ≤ o → o < M → (B o = true ↔ Match L S M R o)) :
    (intR 0 n).find? A = (intR 0 M).find? B := by
  have hle := h2.le hM
  have hn := h2.pos
  cases e : (intR 0 M).find? B with
  | none =>
    rw [List.find?_eq_none] at e ⊢
    intro o ho hc
    have ho := mem_intR.1 ho
    exact e o (mem_intR.2 ⟨ho.1, by omega⟩) ((hB o ho.1 (by omega)).2 ((hA o).1 hc))
  | some o =>
    obtain ⟨h0, h1, hb, hl⟩ := PL.find_intR (show (PL.intR 0 M).find? B = some o from e)
    have hm := (hB o h0 h1).1 hb
    have hmm := match_emod h2 hm
    have r0 : 0 ≤ o % n := Int.emod_nonneg _ (by omega)
    have r1 : o % n < n := Int.emod_lt_of_pos _ hn
    have r2 := PL.emod_le h0 hn
    have hlt : o < n := by
      refine Int.not_le.1 fun hge => ?_
      have : o % n < o := by omega
      have := hl (o % n) r0 this
      rw [(hB _ r0 (by omega)).2 hmm] at this
      cases this
    cases e2 : (intR 0 n).find? A with
    | none =>
      rw [List.find?_eq_none] at e2
      exact absurd ((hA o).2 hm) (e2 o (mem_intR.2 ⟨h0, hlt⟩))
    | some q =>
      obtain ⟨q0, q1, qa, ql⟩ := PL.find_intR (show (PL.intR 0 n).find? A = some q from e2)
      have : q = o := by
        rcases Int.lt_trichotomy q o with a | a | a
        · have := hl q q0 a
          rw [(hB q q0 (by omega)).2 ((hA q).1 qa)] at this; cases this
        · exact a
        · have := ql o h0 a
          rw [(hA o).2 hm] at this; cases this
      rw [this]
def matchI (L : Int) (S : List Int) (M : Int) (R : List Int) : Option Int := (intR 0 (PL.shortI M R).1).find? fun o => decide ((PL.shortI M R).1 = (PL.shortI L S).1 ∧ turnI (PL.shortI M R).1 o (PL.shortI M R).2 = (PL.shortI L S).2)
theorem short_pat {L : Int} {S : List Int} (h : IsPat L S) : ∃ m, PL.Short L S m ∧ PL.shortI L S = (m, S.filter fun s => decide (s < m)) ∧ 2 ≤ m ∧ m ≤ L := by
  obtain ⟨m, h1, h2⟩ := PL.short_eq h.pl
  exact ⟨m, h1, h2, PL.per_two h.pl h1.pos h1.per, h1.le (by have := h.lo; omega)⟩
theorem lay_pat {L : Int} {S : List Int} (hL : L.natAbs < 2 ^ 80) (h : ∀ s ∈ S, s.natAbs < 2 ^ 80) : lay (patD L S) = true :=
  mild_lay (by simp only [patD, mild, mildAll, mild_ints h]; simp [hL]) (by simp [patD, PyData.depth, PyData.depthAll, depth_ints])
theorem cmp_pat {L M : Int} {S R : List Int} (h1 : lay (patD L S) = true) (h2 : lay (patD M R) = true) {Q} : Wp (cmpD .eq (patD L S) (patD M R)) Q = Q (decide (L = M ∧ S = R)) := by
  have : cmpD .eq (patD L S) (patD M R) = some (decide (L = M ∧ S = R)) := by
    simp only [patD] at h1 h2 ⊢
    simp [cmpD, h1, h2]
  rw [this]; simp
end
section
/-! LL: pairs of patterns; drawn tunes. -/
variable {k : Nat}
def restsI (g : Int) (S R : List Int) : List Int := S.flatMap fun s => R.map fun r => (s - r) % g
def pairI (L : Int) (S : List Int) (M : Int) (R : List Int) (d : Int) : Int := ((restsI (Int.gcd L M) S R).countP fun y => decide (y = d) : Nat)
def pairsI (L : Int) (S : List Int) (M : Int) (R : List Int) : List Int := (intR 0 (Int.gcd L M)).map (pairI L S M R)
theorem gcd_bd {L M : Int} {S R : List Int} (hS : IsPat L S) (hR : IsPat M R) : (1 : Int) ≤ Int.gcd L M ∧ (Int.gcd L M : Int) ≤ 60 := by
  have h1 := hS.lo; have h2 := hS.hi
  have := PL.gcd_pos (b := M) (show 0 < L by omega)
  have : (Int.gcd L M : Int) ≤ L := Int.le_of_dvd (by omega) (Int.gcd_dvd_left _ _)
  omega
theorem rests_len {g : Int} {S R : List Int} : (restsI g S R).length = S.length * R.length := by
  unfold restsI
  induction S with
  | nil => simp
  | cons a r ih => simp at ih; simp [ih, Nat.succ_mul]; omega
theorem pair_bd {L M d : Int} {S R : List Int} (hS : IsPat L S) (hR : IsPat M R) : 0 ≤ pairI L S M R d ∧ pairI L S M R d ≤ 3600 := by
  have h1 := hS.hi; have h2 := hR.hi; have h3 := hS.few; have h4 := hR.few
  have := List.countP_le_length (p := fun y => decide (y = d)) (l := restsI (Int.gcd L M) S R)
  rw [rests_len] at this
  have : S.length * R.length ≤ 60 * 60 := Nat.mul_le_mul (by omega) (by omega)
  unfold pairI; omega
/-- both send, tick by tick -/
def bothP (L : Int) (S : List Int) (M : Int) (R : List Int) (d t : Int) : Bool := decide (t % L ∈ S) && decide ((t - d) % M ∈ R)
theorem both_eq {L M d : Int} {S R : List Int} (hS : IsPat L S) (hR : IsPat M R) : ((intR 0 (PL.lcmI L M)).countP (bothP L S M R d) : Int) = pairI L S M R (d % (Int.gcd L M : Nat)) := by
  have h1 := hS.lo; have h3 := hR.lo
  have hSn : S.Nodup := hS.asc.imp fun h => by omega
  have hRn : R.Nodup := hR.asc.imp fun h => by omega
  have hg := gcd_bd hS hR
  rw [PL.countP_sm, pairI, PL.countP_sm, restsI, PL.sm_flatMap]
  have e1 : ∀ t, PL.ind (bothP L S M R d t) = PL.sm S fun s => PL.sm R fun r => PL.ind (decide (t % L = s) && decide ((t - d) % M = r)) := fun t => by
    rw [bothP, PL.ind_and, PL.ind_mem hSn, PL.ind_mem hRn, ← PL.sm_mul']
    refine PL.sm_congr fun s _ => ?_
    rw [← PL.sm_mul]
    refine PL.sm_congr fun r _ => ?_
    rw [PL.ind_and]
  rw [PL.sm_congr fun t _ => e1 t, PL.sm_swap]
  refine PL.sm_congr fun s hs => ?_
  rw [PL.sm_swap, PL.sm_map]
  refine PL.sm_congr fun r hr => ?_
  rw [show (intR 0 (PL.lcmI L M)) = PL.intR 0 (PL.lcmI L M) from rfl, PL.sm_res2 (by omega) (by omega) (hS.mem s hs).1 (hS.mem s hs).2 (hR.mem r hr).1 (hR.mem r hr).2]
  congr 1
  rw [decide_eq_decide, PL.emod_eq_iff]
theorem span_two {L M : Int} {S R : List Int} : spanI [(L, S), (M, R)] = PL.lcmI L M := by
  have e1 : PL.lcmI 1 L = L := by simp [PL.lcmI]
  show PL.lcmI (PL.lcmI 1 L) M = _
  rw [e1]
end
section
/-! LM: sure bounds; drawn lots. -/
variable {k : Nat}
theorem idx_grp {G : Grp} {i : Nat} (h : i < G.length) {Q} : Wp (idxD (grpD G) (.int i)) Q = Q (pD G[i]) := by
  have e : idxD (grpD G) (.int i) = some (pD G[i]) := by
    simp [idxD, grpD, ixOf, h]
  rw [e]; simp
theorem ordOk_ints {l : List Int} : ordOk (l.map .int) = true := by
  have h1 : PyData.depthAll (l.map .int) = 0 := depth_ints
  have h2 : PyData.hasDictAll (l.map .int) = false := by
    induction l with
    | nil => simp [PyData.hasDictAll]
    | cons a r ih => simp [PyData.hasDictAll, PyData.hasDict, ih depth_ints]
  simp [ordOk, h1, h2, List.all_eq_true, isNone, PySem.W.alike]
def maxI : List Int → Int
  | [] => 0
  | x :: r => r.foldl max x
def minI : List Int → Int
  | [] => 0
  | x :: r => r.foldl min x
theorem w_maxT {l : List Int} (h : l ≠ []) {Q} : W2 (biD .max1 [.tuple (l.map .int)]) Q = Q (.int (maxI l)) false := by
  match l, h with
  | x :: r, _ =>
    have o := ordOk_ints (l := x :: r)
    simp only [List.map_cons] at o ⊢
    simp -dsimp [o]
    rw [PySem.W.maxD_ints]; rfl
theorem w_maxL {l : List Int} (h : l ≠ []) {Q} : W2 (biD .max1 [.list (l.map .int)]) Q = Q (.int (maxI l)) false := by
  match l, h with
  | x :: r, _ =>
    have o := ordOk_ints (l := x :: r)
    simp only [List.map_cons] at o ⊢
    simp -dsimp [o]
    rw [PySem.W.maxD_ints]; rfl
theorem w_minL {l : List Int} (h : l ≠ []) {Q} : W2 (biD .min1 [.list (l.map .int)]) Q = Q (.int (minI l)) false := by
  match l, h with
  | x :: r, _ =>
    have o := ordOk_ints (l := x :: r)
    simp only [List.map_cons] at o ⊢
    simp -dsimp [o]
    rw [PySem.W.minD_ints]; rfl
theorem foldl_max_mem {l : List Int} {x : Int} : l.foldl max x = x ∨ l.foldl max x ∈ l := by
  induction l generalizing x with
  | nil => exact .inl rfl
  | cons a r ih =>
    rcases ih (x := max x a) with h | h
    · rw [List.foldl_cons, h]
      by_cases hx : a ≤ x
      · exact .inl (by omega)
      · exact .inr (by rw [show max x a = a by omega]; exact List.mem_cons_self)
    · exact .inr (List.mem_cons_of_mem _ h)
theorem maxI_mem {l : List Int} (h : l ≠ []) : maxI l ∈ l := by
  match l, h with
  | x :: r, _ =>
    rcases foldl_max_mem (l := r) (x := x) with e | e
    · rw [maxI, e]; exact List.mem_cons_self
    · exact List.mem_cons_of_mem _ e
theorem foldl_max_zero {l : List Int} (h : ∀ x ∈ l, 0 ≤ x) (hn : l ≠ []) : l.foldl max 0 = maxI l := by
  match l, hn with
  | x :: r, _ =>
    have := h x List.mem_cons_self
    show r.foldl max (max 0 x) = _
    rw [show max 0 x = x by omega]; rfl
theorem pairs_ne {L M : Int} {S R : List Int} (hS : IsPat L S) (hR : IsPat M R) : pairsI L S M R ≠ [] := fun e => by
  have := congrArg List.length e
  rw [pairsI, List.length_map, length_intR] at this
  have := gcd_bd hS hR
  simp only [List.length_nil] at *; omega
theorem pairs_nn {L M : Int} {S R : List Int} (hS : IsPat L S) (hR : IsPat M R) : ∀ x ∈ pairsI L S M R, 0 ≤ x ∧ x ≤ 3600 := fun x hx => by
  obtain ⟨d, _, rfl⟩ := List.mem_map.1 hx
  exact pair_bd hS hR
/-- the most ticks of a span in which two send -/
def mostI (G : Grp) (p q : Pat) : Int := maxI (pairsI p.1 p.2 q.1 q.2) * (spanI G / PL.lcmI p.1 q.1)
def neB (i : Nat) : Pat × Nat → Bool := fun q => decide (q.2 ≠ i)
def boundI (G : Grp) (i : Nat) (p : Pat) : Int := p.2.length * (spanI G / p.1) - ((((G.zipIdx).filter (neB i)).map fun q => mostI G p q.1).sum)
theorem span_bd4 {G : Grp} (h : IsGrp G) : spanI G ≤ 60 ^ 4 := by
  have h3 := spanF_le (a := 1) (by omega) h.per
  have h4 : (60 : Int) ^ G.length ≤ 60 ^ 4 := by exact_mod_cast Nat.pow_le_pow_right (by omega) h.hi
  have h5 : spanF 1 G = spanI G := rfl
  omega
theorem max_bd {p q : Pat} (hp : IsPat p.1 p.2) (hq : IsPat q.1 q.2) : 0 ≤ maxI (pairsI p.1 p.2 q.1 q.2) ∧ maxI (pairsI p.1 p.2 q.1 q.2) ≤ 3600 := pairs_nn hp hq _ (maxI_mem (pairs_ne hp hq))
theorem lcm_bd {p q : Pat} (hp : IsPat p.1 p.2) (hq : IsPat q.1 q.2) : 0 < PL.lcmI p.1 q.1 ∧ PL.lcmI p.1 q.1 ≤ 3600 := by
  have h1 := hp.lo; have h2 := hp.hi; have h3 := hq.lo; have h4 := hq.hi
  have := PL.lcmI_pos (a := p.1) (b := q.1) (by omega) (by omega)
  have := lcm_le (a := p.1) (b := q.1) (by omega) (by omega)
  have : p.1 * q.1 ≤ 60 * 60 := Int.mul_le_mul h2 h4 (by omega) (by omega)
  omega
theorem filt_idx {G : Grp} {i : Nat} {f : Pat → Int} : (((intR 0 G.length).filter fun x => decide (x ≠ (i : Int))).map fun x => f (G.getD x.toNat (1, []))) = (((G.zipIdx).filter (neB i)).map fun q => f q.1) := by
  have e : G.zipIdx = (List.range G.length).map fun n => (G.getD n (1, []), n) := by
    refine List.ext_getElem (by simp) fun n h1 h2 => ?_
    simp at h1
    simp [h1]
  have e2 : intR 0 (G.length : Int) = (List.range G.length).map fun n : Nat => (n : Int) := by simp [intR]
  rw [e, e2, List.filter_map, List.filter_map, List.map_map, List.map_map]
  have e3 : ((fun x : Int => decide (x ≠ (i : Int))) ∘ fun n : Nat => (n : Int)) = fun n : Nat => decide (n ≠ i) := by
    funext n; simp; omega
  have e4 : (neB i ∘ fun n => (G.getD n (1, []), n)) = fun n : Nat => decide (n ≠ i) := by
    funext n; simp [neB]
  rw [e3, e4]
  refine List.map_congr_left fun n _ => ?_
  simp
/-! ### the law's own -/
end
section
/-! LO: classes, earliest offsets. -/
variable {k : Nat}
def clsStep (m : Int) (rows : List (List Int)) (p : Pat) : List (List Int) := rows.flatMap fun row => (intR 0 (Int.gcd m p.1)).map fun x => row ++ [x]
def clsF (m : Int) (rows : List (List Int)) : Grp → List (List Int)
  | [] => rows
  | p :: r => clsF (PL.lcmI m p.1) (clsStep m rows p) r
def classesI (G : Grp) : List (List Int) := clsF 1 [[]] G
theorem clsF_snoc {m : Int} {rows : List (List Int)} {G : Grp} {p : Pat} : clsF m rows (G ++ [p]) = clsStep (spanF m G) (clsF m rows G) p := by
  induction G generalizing m rows with
  | nil => rfl
  | cons q r ih => exact ih
theorem classes_snoc {G : Grp} {p : Pat} : classesI (G ++ [p]) = clsStep (spanI G) (classesI G) p := clsF_snoc
theorem clsStep_len {m : Int} {rows : List (List Int)} {p : Pat} : (clsStep m rows p).length = rows.length * (Int.gcd m p.1) := by
  unfold clsStep
  induction rows with
  | nil => simp
  | cons a r ih =>
    rw [List.flatMap_cons, List.length_append, ih, List.length_map, length_intR, List.length_cons, Nat.succ_mul]
    omega
theorem gcd_le60 {m : Int} {p : Pat} (h : 2 ≤ p.1 ∧ p.1 ≤ 60) : (Int.gcd m p.1 : Int) ≤ 60 ∧ (1 : Int) ≤ Int.gcd m p.1 := by
  have : (Int.gcd m p.1 : Int) ≤ p.1 := Int.le_of_dvd (by omega) (Int.gcd_dvd_right _ _)
  have := Int.gcd_pos_of_ne_zero_right m (b := p.1) (by omega)
  omega
theorem classes_len {G : Grp} (h : ∀ p ∈ G, 2 ≤ p.1 ∧ p.1 ≤ 60) : (classesI G).length ≤ 60 ^ (G.length - 1) ∧ 1 ≤ (classesI G).length := by
  suffices H : ∀ n, ∀ G : Grp, G.length = n → (∀ p ∈ G, 2 ≤ p.1 ∧ p.1 ≤ 60) → (classesI G).length ≤ 60 ^ (G.length - 1) ∧ 1 ≤ (classesI G).length from H _ G rfl h
  intro n
  induction n with
  | zero =>
    intro G hl _
    rw [List.length_eq_zero_iff.1 hl]; decide
  | succ n ih =>
    intro G hl hG
    obtain ⟨G', p, rfl⟩ : ∃ G' p, G = G' ++ [p] := ⟨G.dropLast, G.getLast (by intro e; simp [e] at hl), (List.dropLast_concat_getLast _).symm⟩
    simp at hl
    have hp := hG p (by simp)
    have h1 := ih G' hl fun q hq => hG q (by simp [hq])
    rw [classes_snoc, clsStep_len]
    have hg := gcd_le60 (m := spanI G') hp
    cases n with
    | zero =>
      have : G' = [] := List.length_eq_zero_iff.1 hl
      subst this
      have e : Int.gcd (spanI []) p.1 = 1 := by simp [spanI, spanF]
      rw [e]; simp [classesI, clsF]
    | succ n =>
      have e : (G' ++ [p]).length - 1 = (G'.length - 1) + 1 := by simp; omega
      rw [e, Nat.pow_succ]
      exact ⟨Nat.mul_le_mul h1.1 (by omega), Nat.mul_pos (by omega) (by omega)⟩
theorem rows_map {rows : List (List Int)} : rows.map offD = rows.map fun r => PyData.tuple (r.map .int) := rfl
end
section
/-! LP: earliest offsets; few classes. -/
variable {k : Nat}
def earU (m t : Int) (p : Pat) (o : Int) : Option Int := (intR 0 p.1).find? fun u => decide ((o + (t + m * u)) % p.1 = (o + t) % (Int.gcd m p.1 : Nat))
def earStep (m t : Int) (p : Pat) (o : Int) : Int := t + m * ((earU m t p o).getD 0)
def earF (m t : Int) : List (Pat × Int) → Int
  | [] => t
  | q :: r => earF (PL.lcmI m q.1.1) (earStep m t q.1 q.2) r
def earT (l : List (Pat × Int)) : Int := earF 1 0 l
def earlyI (G : Grp) (o : List Int) : List Int := moveI G o (earT (G.zip o))
theorem earF_snoc {m t : Int} {l : List (Pat × Int)} {q : Pat × Int} : earF m t (l ++ [q]) = earStep (spanF m (l.map (·.1))) (earF m t l) q.1 q.2 := by
  induction l generalizing m t with
  | nil => rfl
  | cons a r ih => exact ih
theorem earT_snoc {l : List (Pat × Int)} {q : Pat × Int} : earT (l ++ [q]) = earStep (spanI (l.map (·.1))) (earT l) q.1 q.2 := earF_snoc
theorem ear_ex {m t o : Int} {p : Pat} (hm : 0 < m) (hp : 0 < p.1) : ∃ u, earU m t p o = some u := by
  have hg := PL.gcd_pos (b := p.1) hm
  have hd : (Int.gcd m p.1 : Int) ∣ t - ((o + t) % (Int.gcd m p.1 : Nat) - o) := by
    have := PL.dvd_emod (a := o + t) (n := (Int.gcd m p.1 : Nat))
    have e : o + t - (o + t) % (Int.gcd m p.1 : Nat) = t - ((o + t) % (Int.gcd m p.1 : Nat) - o) := by omega
    rwa [e] at this
  obtain ⟨x, ⟨c, hc⟩, hx⟩ := PL.crt hd
  cases e : earU m t p o with
  | some u => exact ⟨u, rfl⟩
  | none =>
    exfalso
    have := List.find?_eq_none.1 e (c % p.1) (mem_intR.2 ⟨Int.emod_nonneg _ (by omega), Int.emod_lt_of_pos _ hp⟩)
    simp only [decide_eq_true_eq] at this
    refine this ?_
    have r0 : 0 ≤ (o + t) % (Int.gcd m p.1 : Nat) := Int.emod_nonneg _ (by omega)
    have r1 : (o + t) % (Int.gcd m p.1 : Nat) < (Int.gcd m p.1 : Nat) := Int.emod_lt_of_pos _ hg
    have gl : (Int.gcd m p.1 : Int) ≤ p.1 := Int.le_of_dvd hp (Int.gcd_dvd_right _ _)
    refine PL.emod_of r0 (by omega) ?_
    have e1 := Int.emod_add_mul_ediv c p.1
    have e2 : o + (t + m * (c % p.1)) - (o + t) % (Int.gcd m p.1 : Nat) = (x - ((o + t) % (Int.gcd m p.1 : Nat) - o)) - p.1 * (m * (c / p.1)) := by
      have : m * (c % p.1) = m * c - p.1 * (m * (c / p.1)) := by
        have : c % p.1 = c - p.1 * (c / p.1) := by omega
        rw [this, Int.mul_sub, ← Int.mul_assoc, ← Int.mul_assoc, Int.mul_comm m p.1]
      rw [this, ← hc]; omega
    rw [e2]
    exact Int.dvd_sub hx (Int.dvd_mul_right _ _)
theorem zip_off2 {o : List Int} {G : Grp} : ((G.map pD).zip (o.map PyData.int)).map (fun p => PyData.tuple [p.1, p.2]) = (G.zip o).map (fun q => PyData.tuple [pD q.1, .int q.2]) := by
  rw [List.zip_map, List.map_map]; rfl
/-- a group that is not too large -/
structure Small (G : Grp) : Prop where
  span : spanI G ≤ 420
  few : timesF G / spanI G ≤ 240
/-! ### classes are offsets -/
theorem clsF_mem : ∀ (G : Grp) (m : Int) (rows : List (List Int)) (r : List Int), r ∈ clsF m rows G ↔ ∃ r0 ∈ rows, ∃ e : List Int, r = r0 ++ e ∧ e.length = G.length ∧ ∀ i (h : i < e.length) (h' : i < G.length), 0 ≤ e[i] ∧ e[i] < Int.gcd (spanF m (G.take i)) G[i].1
  | [], m, rows, r => by
    simp only [clsF]
    constructor
    · intro h; exact ⟨r, h, [], by simp, rfl, by simp⟩
    · rintro ⟨r0, h0, e, rfl, he, _⟩
      rw [List.length_eq_zero_iff.1 he]; simpa using h0
  | p :: G, m, rows, r => by
    simp only [clsF]
    rw [clsF_mem G (PL.lcmI m p.1) (clsStep m rows p) r]
    constructor
    · rintro ⟨r1, h1, e, rfl, he, hb⟩
      simp only [clsStep, List.mem_flatMap, List.mem_map] at h1
      obtain ⟨r0, h0, x, hx, rfl⟩ := h1
      have hx := mem_intR.1 hx
      refine ⟨r0, h0, x :: e, by simp, by simp [he], fun i h h' => ?_⟩
      cases i with
      | zero => exact hx
      | succ i => exact hb i (by simpa using h) (by simpa using h')
    · rintro ⟨r0, h0, e, rfl, he, hb⟩
      cases e with
      | nil => simp at he
      | cons x e =>
        refine ⟨r0 ++ [x], ?_, e, by simp, by simpa using he, fun i h h' => ?_⟩
        · simp only [clsStep, List.mem_flatMap, List.mem_map]
          exact ⟨r0, h0, x, mem_intR.2 (hb 0 (by simp) (by simp)), rfl⟩
        · exact hb (i + 1) (by simpa using h) (by simpa using h')
theorem mem_classes {G : Grp} {c : List Int} : c ∈ classesI G ↔ c.length = G.length ∧ ∀ i (h : i < c.length) (h' : i < G.length), 0 ≤ c[i] ∧ c[i] < Int.gcd (spanI (G.take i)) G[i].1 := by
  unfold classesI
  rw [clsF_mem]
  constructor
  · rintro ⟨r0, h0, e, rfl, he, hb⟩
    simp at h0
    subst h0
    exact ⟨he, hb⟩
  · rintro ⟨he, hb⟩
    exact ⟨[], by simp, c, by simp, he, hb⟩
theorem classes_off {G : Grp} {c : List Int} (h : IsGrp G) (hc : c ∈ classesI G) : IsOff G c := by
  obtain ⟨hl, hb⟩ := mem_classes.1 hc
  refine ⟨hl, ?_⟩
  rw [zip_get]
  intro i h1 h2
  have := hb i h1 h2
  have hp := h.per _ (List.getElem_mem h2)
  have := gcd_le60 (m := spanI (G.take i)) hp
  have : (Int.gcd (spanI (G.take i)) G[i].1 : Int) ≤ G[i].1 := Int.le_of_dvd (by omega) (Int.gcd_dvd_right _ _)
  show 0 ≤ c[i] ∧ c[i] < G[i].1
  omega
theorem classes_ne {G : Grp} (h : IsGrp G) : classesI G ≠ [] := fun e => by
  have := (classes_len h.per).2
  rw [e] at this; simp at this
/-! ### tables -/
def rowD (r : Int × List Int) : PyData := .tuple [.int r.1, offD r.2]
def placeI (n : Nat) (kind : Int) : Nat := if kind = -2 then n + 1 else (kind + 1).toNat
structure IsKind (n : Nat) (kind : Int) : Prop where
  lo : -2 ≤ kind
  hi : kind < n
theorem place_lt {n : Nat} {kind : Int} (h : IsKind n kind) : placeI n kind < n + 2 := by
  have := h.lo; have := h.hi
  unfold placeI; split <;> omega
theorem counts_len {G : Grp} {o : List Int} : (countsI G o).length = G.length + 2 := by simp [countsI, length_intR]
def tableI (G : Grp) (kind : Int) : List (Int × List Int) := (classesI G).map fun o => (nth0 (countsI G o) (placeI G.length kind), o)
theorem alike_off {a b : List Int} : PySem.W.alike (offD a) (offD b) = true := by
  unfold offD
  simp only [PySem.W.alike]
  induction a generalizing b with
  | nil => simp [PySem.W.alikeAll]
  | cons x r ih => cases b with
    | nil => simp [PySem.W.alikeAll]
    | cons y t => simp [PySem.W.alikeAll, PySem.W.alike, ih]
theorem dict_ints {S : List Int} : PyData.hasDictAll (S.map .int) = false := by
  induction S with
  | nil => simp [PyData.hasDictAll]
  | cons a r ih => simp [PyData.hasDictAll, PyData.hasDict, ih]
theorem ordOk_rows {l : List (Int × List Int)} : ordOk (l.map rowD) = true := by
  have h1 : PyData.depthAll (l.map rowD) ≤ 2 := by
    induction l with
    | nil => simp [PyData.depthAll]
    | cons a r ih => simp [PyData.depthAll, rowD, offD, PyData.depth, depth_ints]; omega
  have h2 : PyData.hasDictAll (l.map rowD) = false := by
    clear h1
    induction l with
    | nil => simp [PyData.hasDictAll]
    | cons a r ih => simp [PyData.hasDictAll, rowD, offD, PyData.hasDict, dict_ints]; exact ih
  have h3 : ∀ a b, PySem.W.alike (rowD a) (rowD b) = true := fun a b => by
    simp only [rowD, PySem.W.alike, PySem.W.alikeAll, alike_off, Bool.and_self]
  have h4 : decide (PyData.depthAll (l.map rowD) ≤ 32) = true := by simp; omega
  have h5 : ((l.map rowD).all fun a => !isNone a && (l.map rowD).all fun b => PySem.W.alike a b) = true := by
    rw [List.all_eq_true]
    intro x hx
    obtain ⟨a, _, rfl⟩ := List.mem_map.1 hx
    rw [Bool.and_eq_true]
    refine ⟨rfl, ?_⟩
    rw [List.all_eq_true]
    intro y hy
    obtain ⟨b, _, rfl⟩ := List.mem_map.1 hy
    exact h3 a b
  simp only [ordOk, h5, h4, h2]
  rfl
def minR (x : Int × List Int) (r : List (Int × List Int)) : Int × List Int := r.foldl (fun a y => if PySem.W.dataLt (rowD y) (rowD a) then y else a) x
theorem minR_eq {x : Int × List Int} {r : List (Int × List Int)} : PySem.W.minD (rowD x) (r.map rowD) = rowD (minR x r) := by
  unfold PySem.W.minD minR
  induction r generalizing x with
  | nil => rfl
  | cons a t ih =>
    simp only [List.map_cons, List.foldl_cons]
    split
    · rw [ih]
    · rw [ih]
theorem minR_mem {x : Int × List Int} {r : List (Int × List Int)} : minR x r ∈ x :: r := by
  unfold minR
  induction r generalizing x with
  | nil => simp
  | cons a t ih =>
    simp only [List.foldl_cons]
    split
    · rcases List.mem_cons.1 (ih (x := a)) with h | h
      · rw [h]; simp
      · exact List.mem_cons_of_mem _ (List.mem_cons_of_mem _ h)
    · rcases List.mem_cons.1 (ih (x := x)) with h | h
      · rw [h]; simp
      · exact List.mem_cons_of_mem _ (List.mem_cons_of_mem _ h)
def minL : List (Int × List Int) → Int × List Int
  | [] => (0, [])
  | x :: r => minR x r
theorem minL_mem {l : List (Int × List Int)} (h : l ≠ []) : minL l ∈ l := by
  match l, h with
  | x :: r, _ => exact minR_mem
theorem w_minRows {l : List (Int × List Int)} (h : l ≠ []) {Q} : W2 (biD .min1 [.list (l.map rowD)]) Q = Q (rowD (minL l)) false := by
  match l, h with
  | x :: r, _ =>
    have o := ordOk_rows (l := x :: r)
    simp only [List.map_cons] at o ⊢
    simp -dsimp [o]
    rw [minR_eq]; rfl
theorem table_ne {G : Grp} {kind : Int} (h : IsGrp G) : tableI G kind ≠ [] := fun e => classes_ne h (by simpa [tableI] using e)
def greatL (l : List (Int × List Int)) : Int × List Int := ((l.filter fun r => decide (r.1 = maxI (l.map (·.1)))).head?).getD (0, [])
theorem great_ex {l : List (Int × List Int)} (h : l ≠ []) : ∃ r t, (l.filter fun r => decide (r.1 = maxI (l.map (·.1)))) = r :: t ∧ greatL l = r ∧ r ∈ l := by
  have hm := maxI_mem (l := l.map (·.1)) (by simpa using h)
  obtain ⟨r, hr, he⟩ := List.mem_map.1 hm
  have hf : r ∈ l.filter fun r => decide (r.1 = maxI (l.map (·.1))) := List.mem_filter.2 ⟨hr, by simpa using he⟩
  cases e : l.filter fun r => decide (r.1 = maxI (l.map (·.1))) with
  | nil => rw [e] at hf; cases hf
  | cons a t =>
    refine ⟨a, t, rfl, by rw [greatL, e]; rfl, ?_⟩
    have : a ∈ l.filter fun r => decide (r.1 = maxI (l.map (·.1))) := by rw [e]; simp
    exact (List.mem_filter.1 this).1
/-! ### averages -/
def lowI (a b : Int) : List Int := [a / (Int.gcd a b : Nat), b / (Int.gcd a b : Nat)]
def partF (kind : Int) (l : List (Pat × Nat)) : Int := l.foldl (fun a q => a * (if (q.2 : Int) = kind then (q.1.2.length : Int) else q.1.1 - q.1.2.length)) 1
def partI (G : Grp) (kind : Int) : Int := partF kind G.zipIdx
theorem partF_snoc {kind : Int} {l : List (Pat × Nat)} {q : Pat × Nat} : partF kind (l ++ [q]) = partF kind l * (if (q.2 : Int) = kind then (q.1.2.length : Int) else q.1.1 - q.1.2.length) := by simp [partF]
def avgI (G : Grp) (kind : Int) : List Int := if kind = -2 then lowI (spanI G * (timesF G - ((intR (-1) G.length).map (partI G)).sum)) (timesF G) else lowI (spanI G * partI G kind) (timesF G)
end
section
/-! LQ: the classes: one of each kind, the smallest. -/
variable {k : Nat}
def LexLt : List Int → List Int → Prop
  | a :: r, b :: t => a < b ∨ (a = b ∧ LexLt r t)
  | _, _ => False
theorem LexLt.irrefl : ∀ {a : List Int}, ¬ LexLt a a
  | [] => fun h => h
  | a :: r => fun h => by
    rcases h with h | h
    · omega
    · exact LexLt.irrefl h.2
theorem LexLt.trans : ∀ {a b c : List Int}, LexLt a b → LexLt b c → LexLt a c
  | [], _, _, h, _ => h.elim
  | _ :: _, [], _, h, _ => h.elim
  | _ :: _, _ :: _, [], _, h => h.elim
  | x :: a, y :: b, z :: c, h1, h2 => by
    rcases h1 with h1 | ⟨rfl, h1⟩
    · rcases h2 with h2 | ⟨rfl, h2⟩
      · exact .inl (by omega)
      · exact .inl h1
    · rcases h2 with h2 | ⟨rfl, h2⟩
      · exact .inl h2
      · exact .inr ⟨rfl, LexLt.trans h1 h2⟩
theorem lex_ext : ∀ {xs ys : List (List Int)}, xs.Pairwise LexLt → ys.Pairwise LexLt → (∀ z, z ∈ xs ↔ z ∈ ys) → xs = ys
  | [], [], _, _, _ => rfl
  | [], y :: ys, _, _, h => absurd ((h y).2 List.mem_cons_self) (List.not_mem_nil)
  | x :: xs, [], _, _, h => absurd ((h x).1 List.mem_cons_self) (List.not_mem_nil)
  | x :: xs, y :: ys, h1, h2, h => by
    rw [List.pairwise_cons] at h1 h2
    have e : x = y := by
      rcases List.mem_cons.1 ((h x).1 List.mem_cons_self) with a | a
      · exact a
      · rcases List.mem_cons.1 ((h y).2 List.mem_cons_self) with b | b
        · exact b.symm
        · exact absurd ((h1.1 y b).trans (h2.1 x a)) LexLt.irrefl
    subst e
    rw [lex_ext h1.2 h2.2 fun z => ?_]
    constructor
    · intro hz
      rcases List.mem_cons.1 ((h z).1 (List.mem_cons_of_mem _ hz)) with a | a
      · subst a; exact absurd (h1.1 z hz) LexLt.irrefl
      · exact a
    · intro hz
      rcases List.mem_cons.1 ((h z).2 (List.mem_cons_of_mem _ hz)) with a | a
      · subst a; exact absurd (h2.1 z hz) LexLt.irrefl
      · exact a
theorem lex_snoc : ∀ {a b : List Int} {x y : Int}, a.length = b.length → LexLt a b → LexLt (a ++ [x]) (b ++ [y])
  | [], [], _, _, _, h => h.elim
  | a :: r, b :: t, x, y, hl, h => by
    rcases h with h | ⟨rfl, h⟩
    · exact .inl h
    · exact .inr ⟨rfl, lex_snoc (by simpa using hl) h⟩
theorem lex_snoc' : ∀ {a : List Int} {x y : Int}, x < y → LexLt (a ++ [x]) (a ++ [y])
  | [], x, y, h => .inl h
  | a :: r, x, y, h => .inr ⟨rfl, lex_snoc' h⟩
/-- by the first place at which they differ -/
theorem lex_of : ∀ {a b : List Int}, a.length = b.length → a ≠ b → (∀ i (h : i < a.length) (h' : i < b.length), a.take i = b.take i → a[i] ≤ b[i]) → LexLt a b
  | [], [], _, h, _ => absurd rfl h
  | x :: a, y :: b, hl, hne, h => by
    have h0 := h 0 (by simp) (by simp) rfl
    simp at h0
    rcases Int.lt_or_eq_of_le h0 with q | rfl
    · exact .inl q
    · refine .inr ⟨rfl, lex_of (by simpa using hl) (fun e => hne (by rw [e])) fun i h1 h2 e => ?_⟩
      have := h (i + 1) (by simpa using h1) (by simpa using h2) (by simp [e])
      simpa using this
/-! ### rows in order -/
theorem rows_lex {rows : List (List Int)} {n : Nat} {m : Int} (h : rows.Pairwise LexLt) (hl : ∀ r ∈ rows, r.length = n) : (rows.flatMap fun row => (intR 0 m).map fun x => row ++ [x]).Pairwise LexLt ∧ ∀ r ∈ (rows.flatMap fun row => (intR 0 m).map fun x => row ++ [x]), r.length = n + 1 := by
  constructor
  · rw [List.pairwise_flatMap]
    refine ⟨fun row hr => ?_, ?_⟩
    · rw [List.pairwise_map]
      exact intR_sorted.imp fun hxy => lex_snoc' hxy
    · refine List.Pairwise.imp_of_mem ?_ h
      intro a b ha hb hab x hx y hy
      obtain ⟨u, _, rfl⟩ := List.mem_map.1 hx
      obtain ⟨v, _, rfl⟩ := List.mem_map.1 hy
      exact lex_snoc (by rw [hl a ha, hl b hb]) hab
  · intro r hr
    obtain ⟨a, ha, hx⟩ := List.mem_flatMap.1 hr
    obtain ⟨u, _, rfl⟩ := List.mem_map.1 hx
    simp [hl a ha]
theorem clsF_lex : ∀ (G : Grp) (m : Int) (rows : List (List Int)) (n : Nat), rows.Pairwise LexLt → (∀ r ∈ rows, r.length = n) → (clsF m rows G).Pairwise LexLt
  | [], _, _, _, h, _ => h
  | p :: G, m, rows, n, h, hl => by
    have := rows_lex (m := Int.gcd m p.1) h hl
    exact clsF_lex G _ _ (n + 1) this.1 this.2
theorem classes_lex {G : Grp} : (classesI G).Pairwise LexLt := clsF_lex G 1 [[]] 0 (by simp) (by simp)
/-! all offsets -/
def allF (rows : List (List Int)) : Grp → List (List Int)
  | [] => rows
  | p :: r => allF (rows.flatMap fun row => (intR 0 p.1).map fun x => row ++ [x]) r
def allI (G : Grp) : List (List Int) := allF [[]] G
theorem allF_lex : ∀ (G : Grp) (rows : List (List Int)) (n : Nat), rows.Pairwise LexLt → (∀ r ∈ rows, r.length = n) → (allF rows G).Pairwise LexLt
  | [], _, _, h, _ => h
  | p :: G, rows, n, h, hl => by
    have := rows_lex (m := p.1) h hl
    exact allF_lex G _ (n + 1) this.1 this.2
theorem all_lex {G : Grp} : (allI G).Pairwise LexLt := allF_lex G [[]] 0 (by simp) (by simp)
theorem allF_mem : ∀ (G : Grp) (rows : List (List Int)) (r : List Int), r ∈ allF rows G ↔ ∃ r0 ∈ rows, ∃ e : List Int, r = r0 ++ e ∧ e.length = G.length ∧ ∀ i (h : i < e.length) (h' : i < G.length), 0 ≤ e[i] ∧ e[i] < G[i].1
  | [], rows, r => by
    simp only [allF]
    constructor
    · intro h; exact ⟨r, h, [], by simp, rfl, by simp⟩
    · rintro ⟨r0, h0, e, rfl, he, _⟩
      rw [List.length_eq_zero_iff.1 he]; simpa using h0
  | p :: G, rows, r => by
    simp only [allF]
    rw [allF_mem G _ r]
    constructor
    · rintro ⟨r1, h1, e, rfl, he, hb⟩
      simp only [List.mem_flatMap, List.mem_map] at h1
      obtain ⟨r0, h0, x, hx, rfl⟩ := h1
      have hx := mem_intR.1 hx
      refine ⟨r0, h0, x :: e, by simp, by simp [he], fun i h h' => ?_⟩
      cases i with
      | zero => exact hx
      | succ i => exact hb i (by simpa using h) (by simpa using h')
    · rintro ⟨r0, h0, e, rfl, he, hb⟩
      cases e with
      | nil => simp at he
      | cons x e =>
        refine ⟨r0 ++ [x], ?_, e, by simp, by simpa using he, fun i h h' => ?_⟩
        · simp only [List.mem_flatMap, List.mem_map]
          exact ⟨r0, h0, x, mem_intR.2 (hb 0 (by simp) (by simp)), rfl⟩
        · exact hb (i + 1) (by simpa using h) (by simpa using h')
theorem mem_all {G : Grp} {c : List Int} : c ∈ allI G ↔ IsOff G c := by
  unfold allI
  rw [allF_mem]
  constructor
  · rintro ⟨r0, h0, e, rfl, he, hb⟩
    simp at h0
    subst h0
    exact ⟨he, by rw [zip_get]; exact fun i h h' => hb i h h'⟩
  · rintro ⟨he, hb⟩
    rw [zip_get] at hb
    exact ⟨[], by simp, c, by simp, he, fun i h h' => hb i h h'⟩
theorem allF_snoc {rows : List (List Int)} {G : Grp} {p : Pat} : allF rows (G ++ [p]) = (allF rows G).flatMap fun row => (intR 0 p.1).map fun x => row ++ [x] := by
  induction G generalizing rows with
  | nil => rfl
  | cons q r ih => exact ih
theorem all_len {G : Grp} (h : ∀ p ∈ G, 0 ≤ p.1) : ((allI G).length : Int) = timesF G := by
  suffices H : ∀ n, ∀ G : Grp, G.length = n → (∀ p ∈ G, 0 ≤ p.1) → ((allI G).length : Int) = timesF G from H _ G rfl h
  intro n
  induction n with
  | zero => intro G hl _; rw [List.length_eq_zero_iff.1 hl]; decide
  | succ n ih =>
    intro G hl hG
    obtain ⟨G', p, rfl⟩ : ∃ G' p, G = G' ++ [p] := ⟨G.dropLast, G.getLast (by intro e; simp [e] at hl), (List.dropLast_concat_getLast _).symm⟩
    simp at hl
    have h1 := ih G' hl fun q hq => hG q (by simp [hq])
    have h2 : ∀ rows : List (List Int), ((rows.flatMap fun row => (intR 0 p.1).map fun x => row ++ [x]).length : Int) = rows.length * p.1 := fun rows => by
      have := hG p (by simp)
      induction rows with
      | nil => simp
      | cons a r ih2 =>
        rw [List.flatMap_cons, List.length_append, List.length_map, length_intR, Int.natCast_add, ih2, List.length_cons, Int.natCast_add, Int.add_mul]
        simp; omega
    rw [allI, allF_snoc, h2, timesF_snoc, ← h1]; rfl
/-! ### one of each kind -/
theorem take_span {G : Grp} {c d : List Int} {t : Int} {i : Nat} (hp : ∀ p ∈ G, 0 < p.1) (hc : c.length = G.length) (hd : d.length = G.length) (hA : Agree G c d t) (hi : i ≤ G.length) (e : c.take i = d.take i) : spanI (G.take i) ∣ t := by
  rw [agree_get hc hd] at hA
  refine span_dvd fun p hpm => ?_
  obtain ⟨j, hj, rfl⟩ := List.mem_iff_getElem.1 hpm
  simp at hj
  rw [List.getElem_take]
  refine ⟨hp _ (List.getElem_mem _), ?_⟩
  have h1 := hA j (by omega)
  have h2 : c[j] = d[j] := by
    have : (c.take i)[j]'(by simp; omega) = (d.take i)[j]'(by simp; omega) := by simp only [e]
    simpa using this
  rw [h2] at h1
  have e2 : d[j] + t - d[j] = t := by omega
  rwa [e2] at h1
/-- a class is the smallest of its kind -/
theorem class_le {G : Grp} {c d : List Int} {t : Int} (h : IsGrp G) (hc : c ∈ classesI G) (hd : IsOff G d) (hA : Agree G c d t) {i : Nat} (hi : i < G.length) (e : c.take i = d.take i) :
    c[i]'(by rw [(mem_classes.1 hc).1]; exact hi) ≤ d[i]'(by rw [hd.len]; exact hi) := by
  have hp : ∀ p ∈ G, 0 < p.1 := fun p hp => by have := h.per p hp; omega
  obtain ⟨hcl, hcb⟩ := mem_classes.1 hc
  have hdl := hd.len
  have hdb := hd.mem
  rw [zip_get] at hdb
  have hs := take_span hp hcl hdl hA (by omega) e
  have h1 := (agree_get hcl hdl).1 hA i hi
  have g1 : (Int.gcd (spanI (G.take i)) G[i].1 : Int) ∣ t := Int.dvd_trans (Int.gcd_dvd_left _ _) hs
  have g2 : (Int.gcd (spanI (G.take i)) G[i].1 : Int) ∣ c[i] + t - d[i] := Int.dvd_trans (Int.gcd_dvd_right _ _) h1
  have g3 := Int.dvd_sub g2 g1
  have e2 : c[i] + t - d[i] - t = c[i] - d[i] := by omega
  rw [e2] at g3
  have b1 := hcb i (by omega) hi
  have b2 := hdb i (by omega) hi
  have b2' : 0 ≤ d[i] := b2.1
  refine Int.not_lt.1 fun hlt => ?_
  obtain ⟨q, hq⟩ := g3
  have hg := Int.gcd_pos_of_ne_zero_right (spanI (G.take i)) (b := G[i].1) (by have := hp _ (List.getElem_mem hi); omega)
  have q1 : 1 ≤ q := Int.not_lt.1 fun hq0 => by
    have : (Int.gcd (spanI (G.take i)) G[i].1 : Int) * q ≤ (Int.gcd (spanI (G.take i)) G[i].1 : Int) * 0 := Int.mul_le_mul_of_nonneg_left (by omega) (by omega)
    omega
  have : (Int.gcd (spanI (G.take i)) G[i].1 : Int) * 1 ≤ (Int.gcd (spanI (G.take i)) G[i].1 : Int) * q := Int.mul_le_mul_of_nonneg_left q1 (by omega)
  omega
theorem agree_neg {G : Grp} {c d : List Int} {t : Int} (hc : c.length = G.length) (hd : d.length = G.length) (hA : Agree G c d t) : Agree G d c (-t) := by
  rw [agree_get hc hd] at hA
  rw [agree_get hd hc]
  intro i hi
  have := (Int.dvd_neg).2 (hA i hi)
  have e : -(c[i] + t - d[i]) = d[i] + -t - c[i] := by omega
  rwa [e] at this
theorem class_uniq {G : Grp} {c d : List Int} {t : Int} (h : IsGrp G) (hc : c ∈ classesI G) (hd : d ∈ classesI G) (hA : Agree G c d t) : c = d := by
  have hcl := (mem_classes.1 hc).1
  have hdl := (mem_classes.1 hd).1
  have hA' := agree_neg hcl hdl hA
  suffices H : ∀ i, i ≤ G.length → c.take i = d.take i by
    have := H G.length (Nat.le_refl _)
    rwa [List.take_of_length_le (by omega), List.take_of_length_le (by omega)] at this
  intro i
  induction i with
  | zero => intro _; simp
  | succ i ih =>
    intro hi
    have e := ih (by omega)
    have l1 := class_le h hc (classes_off h hd) hA (show i < G.length by omega) e
    have l2 := class_le h hd (classes_off h hc) hA' (show i < G.length by omega) e.symm
    rw [List.take_succ_eq_append_getElem (by omega), List.take_succ_eq_append_getElem (by omega), e]
    congr 2
    omega
theorem class_lex {G : Grp} {c d : List Int} {t : Int} (h : IsGrp G) (hc : c ∈ classesI G) (hd : IsOff G d) (hA : Agree G c d t) (hne : c ≠ d) : LexLt c d :=
  lex_of (by rw [(mem_classes.1 hc).1, hd.len]) hne fun i h1 h2 e => class_le h hc hd hA (by rw [← hd.len]; exact h2) e
/-- there is one -/
theorem ear_res {l : List (Pat × Int)} (h : ∀ q ∈ l, 0 < q.1.1) : ∀ i (hi : i < l.length), 0 ≤ (l[i].2 + earT l) % l[i].1.1 ∧ (l[i].2 + earT l) % l[i].1.1 < Int.gcd (spanI ((l.take i).map (·.1))) l[i].1.1 := by
  suffices H : ∀ n, ∀ l : List (Pat × Int), l.length = n → (∀ q ∈ l, 0 < q.1.1) → ∀ i (hi : i < l.length), 0 ≤ (l[i].2 + earT l) % l[i].1.1 ∧ (l[i].2 + earT l) % l[i].1.1 < Int.gcd (spanI ((l.take i).map (·.1))) l[i].1.1 from H _ l rfl h
  intro n
  induction n with
  | zero => intro l hl _ i hi; omega
  | succ n ih =>
    intro l hl hq i hi
    obtain ⟨l', q, rfl⟩ : ∃ l' q, l = l' ++ [q] := ⟨l.dropLast, l.getLast (by intro e; simp [e] at hl), (List.dropLast_concat_getLast _).symm⟩
    simp at hl
    have hq' : ∀ q ∈ l', 0 < q.1.1 := fun q hq'' => hq q (by simp [hq''])
    have hqq := hq q (by simp)
    have hdp : ∀ p ∈ l'.map (·.1), 0 < p.1 := fun p hp => by obtain ⟨r, hr, rfl⟩ := List.mem_map.1 hp; exact hq' r hr
    have hm : 0 < spanI (l'.map (·.1)) := by
      have : ∀ (G : Grp) (a : Int), 0 < a → (∀ p ∈ G, 0 < p.1) → 0 < spanF a G := fun G => by
        induction G with
        | nil => intro a ha _; exact ha
        | cons p r ih => intro a ha hG; exact ih _ (PL.lcmI_pos ha (hG p List.mem_cons_self)) fun q hq => hG q (List.mem_cons_of_mem _ hq)
      exact this _ 1 (by omega) hdp
    rw [earT_snoc]
    obtain ⟨u, hu⟩ := ear_ex (t := earT l') (o := q.2) hm hqq
    have es : earStep (spanI (l'.map (·.1))) (earT l') q.1 q.2 = earT l' + spanI (l'.map (·.1)) * u := by rw [earStep, hu]; rfl
    rw [es]
    by_cases hc : i < l'.length
    · have e1 : (l' ++ [q])[i] = l'[i] := List.getElem_append_left hc
      have e2 : (l' ++ [q]).take i = l'.take i := List.take_append_of_le_length (by omega)
      rw [e1, e2]
      have hd : l'[i].1.1 ∣ spanI (l'.map (·.1)) := dvd_span hdp _ (List.mem_map.2 ⟨l'[i], List.getElem_mem _, rfl⟩)
      have e3 : (l'[i].2 + (earT l' + spanI (l'.map (·.1)) * u)) % l'[i].1.1 = (l'[i].2 + earT l') % l'[i].1.1 := by
        rw [PL.emod_eq_iff]
        have : l'[i].2 + (earT l' + spanI (l'.map (·.1)) * u) - (l'[i].2 + earT l') = spanI (l'.map (·.1)) * u := by omega
        rw [this]
        exact Int.dvd_mul_of_dvd_left hd
      rw [e3]
      exact ih l' hl hq' i hc
    · have hi2 : i = l'.length := by simp at hi; omega
      subst hi2
      have e1 : (l' ++ [q])[l'.length] = q := by simp
      have e2 : (l' ++ [q]).take l'.length = l' := by simp
      rw [e1, e2]
      have hs := List.find?_some hu
      simp only [decide_eq_true_eq] at hs
      rw [hs]
      have hg := PL.gcd_pos (b := q.1.1) hm
      exact ⟨Int.emod_nonneg _ (by omega), Int.emod_lt_of_pos _ hg⟩
theorem early_class {G : Grp} {o : List Int} (h : IsGrp G) (ho : o.length = G.length) : earlyI G o ∈ classesI G := by
  have hz : ∀ q ∈ G.zip o, 0 < q.1.1 := fun q hq => by have := h.per q.1 (List.of_mem_zip hq).1; omega
  rw [mem_classes]
  refine ⟨moveI_len ho, fun i h1 h2 => ?_⟩
  have hr := ear_res hz i (by simp; omega)
  simp only [List.getElem_zip] at hr
  have e1 : ((G.zip o).take i).map (·.1) = G.take i := by
    rw [List.map_take]
    have : (G.zip o).map (fun x => x.1) = G := List.map_fst_zip (by omega)
    rw [this]
  rw [e1] at hr
  simp only [earlyI, moveI, List.getElem_map, List.getElem_zip]
  exact hr
theorem early_agree {G : Grp} {o : List Int} (h : IsGrp G) (ho : o.length = G.length) : Agree G o (earlyI G o) (earT (G.zip o)) := by
  have hp : ∀ p ∈ G, 0 < p.1 := fun p hp => by have := h.per p hp; omega
  exact (agree_move hp ho (isOff_move hp ho)).2 rfl
/-- the ticks may be taken in the span -/
theorem agree_emod {G : Grp} {a b : List Int} {t : Int} (h : IsGrp G) (ha : a.length = G.length) (hb : b.length = G.length) (hA : Agree G a b t) : Agree G a b (t % spanI G) := by
  have hp : ∀ p ∈ G, 0 < p.1 := fun p hp => by have := h.per p hp; omega
  rw [agree_get ha hb] at hA ⊢
  intro i hi
  have h2 : G[i].1 ∣ spanI G := dvd_span hp _ (List.getElem_mem hi)
  have e : a[i] + t % spanI G - b[i] = (a[i] + t - b[i]) - (t - t % spanI G) := by omega
  rw [e]
  exact Int.dvd_sub (hA i hi) (Int.dvd_trans h2 PL.dvd_emod)
theorem filter_class {G : Grp} (h : IsGrp G) : (allI G).filter (fun s => decide (s ∈ classesI G)) = classesI G := by
  refine lex_ext (all_lex.filter _) classes_lex fun z => ?_
  simp only [List.mem_filter, decide_eq_true_eq, mem_all]
  exact ⟨fun a => a.2, fun a => ⟨classes_off h a, a⟩⟩
end
section
/-! LS: codes, grown by looking at each candidate in turn -/
abbrev Cand := PyData × List Int
def apartI (a b : List Int) : Bool := a.all fun d => !b.elem d
def firstI {α β : Type} (f : α → List α → Option β) : List α → Option β
  | [] => none
  | x :: r => match f x r with
    | some b => some b
    | none => firstI f r
def growI : Nat → List Cand → List Cand → Nat → Option (List PyData)
  | 0, _, _, _ => none
  | n + 1, cs, ch, m => if ch.length = m then some (ch.map Prod.fst) else firstI (fun x rest => if ch.all (fun y => apartI x.2 y.2) then growI n rest (ch ++ [x]) m else none) cs
def canD (c : Cand) : PyData := .tuple [c.1, .tuple (c.2.map .int)]
def optT : Option (List PyData) → PyData
  | none => .none
  | some l => .tuple l
theorem e_apart {k} {a b : List Int} (ha : a.length ≤ 60) : evF T WW (k + 1) i_are_apart [(.tuple (a.map .int), false), (.tuple (b.map .int), false)] = some (.bool (apartI a b), false, [.no, .no]) := by
  refine W3_of ?_
  refine w_go f_are_apart ⟨rfl, rfl⟩ ?_
  have hz := sizeLine_ge
  simp -dsimp [f_are_apart]
  refine w_compm (fun d => .bool (!b.elem d)) (sz4 (by omega)) ?_ ?_
  · intro d acc hd hacc
    simp -dsimp [hacc]
  · simp -dsimp [apartI]
theorem firstI_app {α β : Type} {f : α → List α → Option β} {done : List α} : ∀ {rest : List α}, (∀ a x b, done = a ++ x :: b → f x (b ++ rest) = none) → firstI f (done ++ rest) = firstI f rest := by
  induction done with
  | nil => intro rest _; rfl
  | cons y done ih =>
    intro rest h
    have h0 := h [] y done rfl
    simp only [List.cons_append, firstI, h0]
    exact ih fun a x b e => h (y :: a) x b (by rw [e]; rfl)
end
section
/-! LT: cells, wide groups, do_agree (as in K10); the smallest of some offsets -/
variable {k : Nat}
theorem cells3 (ns : List Int) : PyData.int (ns[0]?.getD 0) :: List.take 2 (ns.map PyData.int).tail = (ns[0]?.getD 0 :: ns.tail.take 2).map PyData.int := by simp [List.map_take, List.map_tail]
theorem cut13 (ns : List Int) : cut (ns.map PyData.int) (some 1) (some 3) = ((ns.drop 1).take 2).map PyData.int := by
  rw [cut_both (by omega) (by omega)]; simp [List.map_drop, List.map_take]
theorem nth0_get {o : List Int} {i : Nat} (h : i < o.length) : nth0 o i = o[i] := by simp [nth0, h]
theorem span_bd {G : Grp} (h : IsGrp G) : spanI G ≤ 60 ^ 4 := by
  have h3 := spanF_le (a := 1) (by omega) h.per
  have h4 : (60 : Int) ^ G.length ≤ 60 ^ 4 := by exact_mod_cast Nat.pow_le_pow_right (by omega) h.hi
  have h5 : spanF 1 G = spanI G := rfl
  omega
theorem e_sameT {xs : List PyData} {b : PyData} (ha : shows (.list xs) = true) (hb : shows b = true) :
    evF T WW (k + 1) i_same [(.list xs, true), (b, false)] = some (.bool (decide ((PyData.list xs).shown = b.shown)), false, [.own (.list xs), .no]) := by
  refine W3_of ?_
  refine w_go f_same ⟨rfl, rfl⟩ ?_
  simp -dsimp [f_same, ha, hb]
theorem toks_cons {x : Int} {r : List Int} : PySem.W.keyToks (offD (x :: r)) = .inl 1 :: .inl x :: PySem.W.keyToks (offD r) := by
  simp [offD, PySem.W.keyToks, PySem.W.keyToksAll]
theorem blt_int {x y : Int} : PyProof.Rows.itemOrd.blt (.inl x) (.inl y) = decide (x < y) := rfl
theorem lt_cons {x y : Int} {r t : List Int} : PySem.W.dataLt (offD (x :: r)) (offD (y :: t)) = (decide (x < y) || (!decide (y < x) && PySem.W.dataLt (offD r) (offD t))) := by
  unfold PySem.W.dataLt
  rw [toks_cons, toks_cons, PyProof.Rows.lex_cons, PyProof.Rows.lex_cons, blt_int, blt_int, blt_int]
  simp
theorem lt_nil : PySem.W.dataLt (offD []) (offD []) = false := by decide
theorem lt_self : ∀ {a : List Int}, PySem.W.dataLt (offD a) (offD a) = false
  | [] => lt_nil
  | x :: r => by rw [lt_cons, lt_self]; simp
theorem lt_of_lex : ∀ {a b : List Int}, LexLt a b → PySem.W.dataLt (offD a) (offD b) = true ∧ PySem.W.dataLt (offD b) (offD a) = false
  | [], _ => fun h => h.elim
  | _ :: _, [] => fun h => h.elim
  | a :: r, b :: t => fun h => by
    rw [lt_cons, lt_cons]
    rcases h with h | ⟨h, h2⟩
    · have h3 : ¬ b < a := by omega
      simp [h, h3]
    · subst h
      have := lt_of_lex h2
      simp [this.1, this.2]
def minF (x : List Int) (r : List (List Int)) : List Int := r.foldl (fun a y => if PySem.W.dataLt (offD y) (offD a) then y else a) x
theorem minF_eq {x : List Int} {r : List (List Int)} : PySem.W.minD (offD x) (r.map offD) = offD (minF x r) := by
  unfold PySem.W.minD minF
  induction r generalizing x with
  | nil => rfl
  | cons a t ih =>
    simp only [List.map_cons, List.foldl_cons]
    split
    · rw [ih]
    · rw [ih]
theorem minF_is {c : List Int} : ∀ {r : List (List Int)} {x : List Int}, c ∈ x :: r → (∀ d ∈ x :: r, d ≠ c → LexLt c d) → minF x r = c
  | [], x, hc, _ => by rw [List.mem_singleton.1 hc]; rfl
  | y :: r, x, hc, hm => by
    show minF (if PySem.W.dataLt (offD y) (offD x) then y else x) r = c
    refine minF_is ?_ ?_
    · rcases List.mem_cons.1 hc with h | h
      · subst h
        have : PySem.W.dataLt (offD y) (offD c) = false := by
          by_cases e : y = c
          · rw [e]; exact lt_self
          · exact (lt_of_lex (hm y (by simp) e)).2
        rw [this]; simp
      · rcases List.mem_cons.1 h with h | h
        · subst h
          by_cases e : x = c
          · subst e; simp
          · rw [(lt_of_lex (hm x (by simp) e)).1]; simp
        · exact List.mem_cons_of_mem _ h
    · intro d hd hne
      refine hm d ?_ hne
      rcases List.mem_cons.1 hd with h | h
      · rw [h]; split <;> simp
      · simp [h]
theorem ordOk_off {l : List (List Int)} : ordOk (l.map offD) = true := by
  have h1 : PyData.depthAll (l.map offD) ≤ 2 := by
    induction l with
    | nil => simp [PyData.depthAll]
    | cons a r ih => simp [PyData.depthAll, offD, PyData.depth, depth_ints]; omega
  have h2 : PyData.hasDictAll (l.map offD) = false := by
    clear h1
    induction l with
    | nil => simp [PyData.hasDictAll]
    | cons a r ih => simp [PyData.hasDictAll, offD, PyData.hasDict, dict_ints]; exact ih
  have h4 : decide (PyData.depthAll (l.map offD) ≤ 32) = true := by simp; omega
  have h5 : ((l.map offD).all fun a => !isNone a && (l.map offD).all fun b => PySem.W.alike a b) = true := by
    rw [List.all_eq_true]
    intro x hx
    obtain ⟨a, _, rfl⟩ := List.mem_map.1 hx
    rw [Bool.and_eq_true]
    refine ⟨rfl, ?_⟩
    rw [List.all_eq_true]
    intro y hy
    obtain ⟨b, _, rfl⟩ := List.mem_map.1 hy
    exact alike_off
  simp only [ordOk, h5, h4, h2]
  rfl
theorem w_minOff {l : List (List Int)} {c : List Int} (hc : c ∈ l) (hm : ∀ d ∈ l, d ≠ c → LexLt c d) {Q} : W2 (biD .min1 [.list (l.map offD)]) Q = Q (offD c) false := by
  match l, hc with
  | x :: r, hc =>
    have o := ordOk_off (l := x :: r)
    simp only [List.map_cons] at o ⊢
    simp -dsimp [o]
    rw [minF_eq, minF_is hc hm]
theorem filt_no {α : Type} {l : List α} : l.filter (fun _ => false) = [] := List.filter_eq_nil_iff.2 (by simp)
theorem zip_off3 {o : List Int} {G : Grp} : ((o.map PyData.int).zip (G.map pD)).map (fun p => PyData.tuple [p.1, p.2]) = (o.zip G).map (fun q => PyData.tuple [.int q.1, pD q.2]) := by
  rw [List.zip_map, List.map_map]; rfl
end
section
/-! LX: the sure bound is a bound. -/
variable {k : Nat}
theorem foldl_max_ge {l : List Int} {x : Int} : x ≤ l.foldl max x ∧ ∀ y ∈ l, y ≤ l.foldl max x := by
  induction l generalizing x with
  | nil => simp
  | cons a r ih =>
    have h := ih (x := max x a)
    rw [List.foldl_cons]
    refine ⟨by have := h.1; omega, fun y hy => ?_⟩
    rcases List.mem_cons.1 hy with rfl | hy
    · have := h.1; omega
    · exact h.2 y hy
theorem le_maxI {l : List Int} {x : Int} (h : x ∈ l) : x ≤ maxI l := by
  match l, h with
  | a :: r, h =>
    show x ≤ r.foldl max a
    rcases List.mem_cons.1 h with rfl | h
    · exact foldl_max_ge.1
    · exact foldl_max_ge.2 x h
theorem both_per {L M d : Int} {S R : List Int} (hL : 0 < L) (hM : 0 < M) : ∀ t, bothP L S M R d (t + PL.lcmI L M) = bothP L S M R d t := fun t => by
  have h1 : (t + PL.lcmI L M) % L = t % L := PL.emod_eq_iff.2 (by rw [show t + PL.lcmI L M - t = PL.lcmI L M by omega]; exact PL.dvd_lcmI_left hL hM)
  have h2 : (t + PL.lcmI L M - d) % M = (t - d) % M := PL.emod_eq_iff.2 (by rw [show t + PL.lcmI L M - d - (t - d) = PL.lcmI L M by omega]; exact PL.dvd_lcmI_right hL hM)
  simp only [bothP, h1, h2]
/-- how often two send together in a whole number of rounds -/
theorem both_sum {L M a b W : Int} {S R : List Int} (hS : IsPat L S) (hR : IsPat M R) (hW : PL.lcmI L M ∣ W) (hW0 : 0 < W) :
    PL.sm (intR 0 W) (fun t => PL.ind (decide ((t - a) % L ∈ S) && decide ((t - b) % M ∈ R))) = (W / PL.lcmI L M) * pairI L S M R ((b - a) % (Int.gcd L M : Nat)) := by
  have hL : 0 < L := by have := hS.lo; omega
  have hM : 0 < M := by have := hR.lo; omega
  have hl := PL.lcmI_pos hL hM
  obtain ⟨c, rfl⟩ := hW
  have hc : 0 < c := by
    rcases Int.lt_or_le 0 c with h | h
    · exact h
    · have := Int.mul_nonpos_of_nonneg_of_nonpos (show 0 ≤ PL.lcmI L M by omega) h
      omega
  obtain ⟨n, rfl⟩ : ∃ n : Nat, c = n := ⟨c.toNat, by omega⟩
  have hf : ∀ t, PL.ind (decide ((t - a) % L ∈ S) && decide ((t - b) % M ∈ R)) = PL.ind (bothP L S M R (b - a) (t + -a)) := fun t => by
    simp only [bothP]
    rw [show t + -a - (b - a) = t - b by omega, show t + -a = t - a by omega]
  have hper : ∀ t, PL.ind (bothP L S M R (b - a) (t + PL.lcmI L M)) = PL.ind (bothP L S M R (b - a) t) := fun t => by rw [both_per hL hM]
  rw [PL.sm_congr fun t _ => hf t, Int.mul_comm, Int.mul_ediv_cancel _ (by omega)]
  rw [show (intR 0 (↑n * PL.lcmI L M)) = PL.intR 0 (↑n * PL.lcmI L M) from rfl, PL.sm_times (f := fun t => PL.ind (bothP L S M R (b - a) (t + -a))) n (by omega) (fun t => by rw [show t + PL.lcmI L M + -a = (t + -a) + PL.lcmI L M by omega]; exact hper _)]
  rw [PL.sm_shift (f := fun t => PL.ind (bothP L S M R (b - a) t)) (by omega) hper, ← PL.countP_sm]
  have := both_eq (d := b - a) hS hR
  rw [show (intR 0 (PL.lcmI L M)) = PL.intR 0 (PL.lcmI L M) from rfl] at this
  rw [this]
theorem one_sum {L a W : Int} {S : List Int} (hS : IsPat L S) (hW : L ∣ W) (hW0 : 0 < W) :
    PL.sm (intR 0 W) (fun t => PL.ind (decide ((t - a) % L ∈ S))) = (W / L) * S.length := by
  have hL : 0 < L := by have := hS.lo; omega
  obtain ⟨c, rfl⟩ := hW
  have hc : 0 < c := by
    rcases Int.lt_or_le 0 c with h | h
    · exact h
    · have := Int.mul_nonpos_of_nonneg_of_nonpos (show 0 ≤ L by omega) h
      omega
  obtain ⟨n, rfl⟩ : ∃ n : Nat, c = n := ⟨c.toNat, by omega⟩
  rw [Int.mul_comm, Int.mul_ediv_cancel _ (by omega)]
  rw [show (intR 0 (↑n * L)) = PL.intR 0 (↑n * L) from rfl, PL.sm_times (f := fun t => PL.ind (decide ((t - a) % L ∈ S))) n (by omega) (fun t => by rw [show t + L - a = (t - a) + L by omega, PL.add_emod_self'])]
  rw [PL.sm_pat hL (hS.asc.imp fun h => by omega) hS.mem]
theorem pair_le {L M d : Int} {S R : List Int} (hS : IsPat L S) (hR : IsPat M R) : pairI L S M R (d % (Int.gcd L M : Nat)) ≤ maxI (pairsI L S M R) := by
  have hg := gcd_bd hS hR
  exact le_maxI (List.mem_map.2 ⟨_, mem_intR.2 ⟨Int.emod_nonneg _ (by omega), Int.emod_lt_of_pos _ (by omega)⟩, rfl⟩)
theorem single_of {α : Type} {l : List α} {a : α} (hn : l.Nodup) (ha : a ∈ l) (h : ∀ x ∈ l, x = a) : l = [a] := by
  match l, ha with
  | [b], ha => rw [List.mem_singleton.1 ha]
  | b :: c :: r, _ =>
    have h1 := h b (by simp)
    have h2 := h c (by simp)
    rw [List.nodup_cons] at hn
    exact absurd (by rw [h1, ← h2]; simp) hn.1
theorem sm_one_le {α : Type} {l : List α} {f : α → Int} {a : α} (hf : ∀ x ∈ l, 0 ≤ f x) (ha : a ∈ l) : f a ≤ PL.sm l f := by
  induction l with
  | nil => cases ha
  | cons b r ih =>
    have e : PL.sm (b :: r) f = f b + PL.sm r f := by simp [PL.sm]
    rw [e]
    have h0 := PL.sm_nonneg (f := f) (l := r) fun x hx => hf x (by simp [hx])
    rcases List.mem_cons.1 ha with rfl | ha
    · omega
    · have := ih (fun x hx => hf x (by simp [hx])) ha
      have := hf b (by simp)
      omega
def snd1 (o : List Int) (t : Int) (q : Pat × Nat) : Bool := on1 q.1 (nth0 o q.2) t
theorem zip_nodup {G : Grp} : G.zipIdx.Nodup := by
  have h : (G.zipIdx.map (·.2)).Nodup := by
    rw [List.zipIdx_map_snd]
    exact List.nodup_range'
  unfold List.Nodup at h ⊢
  rw [List.pairwise_map] at h
  exact h.imp fun hne e => hne (by rw [e])
theorem alone_ge {G : Grp} {o : List Int} {t : Int} {i : Nat} (hi : i < G.length) :
    PL.ind (on1 G[i] (nth0 o i) t) ≤ PL.ind (decide (kindI (onI G o t) = i)) + PL.sm (G.zipIdx.filter (neB i)) (fun q => PL.ind (on1 G[i] (nth0 o i) t && snd1 o t q)) := by
  have hnn : ∀ q ∈ G.zipIdx.filter (neB i), 0 ≤ PL.ind (on1 G[i] (nth0 o i) t && snd1 o t q) := fun q _ => PL.ind_nonneg
  have h0 := PL.sm_nonneg hnn
  have hk := PL.ind_nonneg (a := decide (kindI (onI G o t) = i))
  cases hs : on1 G[i] (nth0 o i) t with
  | false => rw [hs] at h0; simp only [PL.ind] at *; simp at *; omega
  | true =>
    rw [hs] at h0 hnn
    by_cases hex : ∃ q ∈ G.zipIdx.filter (neB i), snd1 o t q = true
    · obtain ⟨q, hq, hq2⟩ := hex
      have := sm_one_le hnn hq
      rw [hq2] at this
      have e1 : PL.ind (true && true) = 1 := rfl
      have e2 : PL.ind true = 1 := rfl
      omega
    · have hm : (G[i], i) ∈ G.zipIdx.filter (snd1 o t) := by
        rw [List.mem_filter]
        exact ⟨by rw [List.mem_iff_getElem]; exact ⟨i, by simpa using hi, by simp⟩, hs⟩
      have hone : G.zipIdx.filter (snd1 o t) = [(G[i], i)] := by
        refine single_of (zip_nodup.filter _) hm fun q hq => ?_
        rw [List.mem_filter] at hq
        by_cases e : q.2 = i
        · obtain ⟨h1, h2⟩ := List.mem_zipIdx' hq.1
          subst e
          exact Prod.ext h2 rfl
        · exact absurd ⟨q, List.mem_filter.2 ⟨hq.1, by simpa [neB] using e⟩, hq.2⟩ hex
      have hon : onI G o t = [(i : Int)] := by
        show (G.zipIdx.filter (snd1 o t)).map _ = _
        rw [hone]; rfl
      have hk1 : kindI (onI G o t) = i := by rw [hon]; rfl
      have e2 : PL.ind (decide (kindI (onI G o t) = i)) = 1 := by simp [hk1, PL.ind]
      have e3 : PL.ind true = 1 := rfl
      omega
theorem cnt_sm {G : Grp} {o : List Int} {x : Int} : cntI G o x = PL.sm (intR 0 (spanI G)) (fun t => PL.ind (decide (kindI (onI G o t) = x))) := by
  unfold cntI heardI
  rw [List.countP_map, PL.countP_sm]; rfl
theorem bound_le {G : Grp} {o : List Int} {i : Nat} (h : IsGrp G) (hi : i < G.length) : boundI G i G[i] ≤ cntI G o i := by
  have hper : ∀ p ∈ G, 0 < p.1 := fun p hp => by have := h.per p hp; omega
  have hsp := spanI_pos h
  have hpi := h.pat _ (List.getElem_mem hi)
  have h1 : PL.sm (intR 0 (spanI G)) (fun t => PL.ind (on1 G[i] (nth0 o i) t)) = spanI G / G[i].1 * G[i].2.length := one_sum hpi (dvd_span hper _ (List.getElem_mem hi)) hsp
  have h2 : PL.sm (intR 0 (spanI G)) (fun t => PL.ind (on1 G[i] (nth0 o i) t)) ≤ _ := PL.sm_le fun t _ => alone_ge (o := o) (t := t) hi
  rw [PL.sm_add, ← cnt_sm, PL.sm_swap, h1] at h2
  have h3 : PL.sm (G.zipIdx.filter (neB i)) (fun q => PL.sm (intR 0 (spanI G)) (fun t => PL.ind (on1 G[i] (nth0 o i) t && snd1 o t q))) ≤ PL.sm (G.zipIdx.filter (neB i)) (fun q => mostI G G[i] q.1) := by
    refine PL.sm_le fun q hq => ?_
    have hqm := (List.mem_filter.1 hq).1
    obtain ⟨q1, q2⟩ := List.mem_zipIdx' hqm
    have hqG : q.1 ∈ G := by rw [q2]; exact List.getElem_mem _
    have hpq := h.pat _ hqG
    have hl := PL.lcmI_pos (hper _ (List.getElem_mem hi)) (hper _ hqG)
    have hd : PL.lcmI G[i].1 q.1.1 ∣ spanI G := PL.lcmI_dvd (hper _ (List.getElem_mem hi)) (hper _ hqG) (dvd_span hper _ (List.getElem_mem hi)) (dvd_span hper _ hqG)
    have e : PL.sm (intR 0 (spanI G)) (fun t => PL.ind (on1 G[i] (nth0 o i) t && snd1 o t q)) = _ := both_sum (a := nth0 o i) (b := nth0 o q.2) hpi hpq hd hsp
    rw [e, mostI, Int.mul_comm]
    exact Int.mul_le_mul_of_nonneg_right (pair_le hpi hpq) (Int.ediv_nonneg (by omega) (by omega))
  have e4 : boundI G i G[i] = G[i].2.length * (spanI G / G[i].1) - PL.sm (G.zipIdx.filter (neB i)) (fun q => mostI G G[i] q.1) := rfl
  rw [e4, Int.mul_comm]
  omega
end
section
/-! NG: codes: sets, distances, candidates. -/
variable {k : Nat}
theorem insU_m {x y : Int} : ∀ {l : List Int}, y ∈ insU x l ↔ y = x ∨ y ∈ l
  | [] => by simp [insU]
  | z :: r => by
    unfold insU
    split
    · simp
    · split
      · rename_i h; subst h; simp
      · simp only [List.mem_cons, insU_m (l := r)]
        constructor
        · rintro (h | h | h)
          · exact .inr (.inl h)
          · exact .inl h
          · exact .inr (.inr h)
        · rintro (h | h | h)
          · exact .inr (.inl h)
          · exact .inl h
          · exact .inr (.inr h)
theorem insU_up {x : Int} : ∀ {l : List Int}, l.Pairwise (· < ·) → (insU x l).Pairwise (· < ·)
  | [], _ => List.pairwise_singleton _ _
  | z :: r, h => by
    rw [List.pairwise_cons] at h
    unfold insU
    split
    · rename_i hx
      refine List.pairwise_cons.mpr ⟨fun y hy => ?_, List.pairwise_cons.mpr h⟩
      rcases List.mem_cons.mp hy with rfl | hy
      · exact hx
      · have := h.1 y hy; omega
    · split
      · exact List.pairwise_cons.mpr h
      · refine List.pairwise_cons.mpr ⟨fun y hy => ?_, insU_up h.2⟩
        rcases insU_m.mp hy with rfl | hy
        · omega
        · exact h.1 y hy
theorem setI_m {y : Int} : ∀ {l : List Int}, y ∈ setI l ↔ y ∈ l
  | [] => Iff.rfl
  | x :: r => by
    show y ∈ insU x (setI r) ↔ _
    rw [insU_m, setI_m (l := r), List.mem_cons]
theorem setI_up : ∀ l : List Int, (setI l).Pairwise (· < ·)
  | [] => List.Pairwise.nil
  | x :: r => insU_up (setI_up r)
def rawD (P : Int) (A S : List Int) : List Int := A.flatMap fun a => (S.filter fun b => decide (a ≠ b)).map fun b => (a - b) % P
def distI (P : Int) (S : List Int) : List Int := setI (rawD P S S)
theorem raw_len {P : Int} {A S : List Int} : (rawD P A S).length ≤ A.length * S.length := by
  unfold rawD
  induction A with
  | nil => simp
  | cons a r ih =>
    have := List.length_filter_le (fun b => decide (a ≠ b)) S
    rw [List.flatMap_cons, List.length_append, List.length_map, List.length_cons, Nat.add_mul]
    omega
theorem dist_bd {P : Int} {S : List Int} (hP : 0 < P) : ∀ x ∈ distI P S, 0 ≤ x ∧ x < P := fun x hx => by
  unfold distI rawD at hx
  rw [setI_m] at hx
  obtain ⟨a, _, hx⟩ := List.mem_flatMap.1 hx
  obtain ⟨b, _, rfl⟩ := List.mem_map.1 hx
  exact ⟨Int.emod_nonneg _ (by omega), Int.emod_lt_of_pos _ hP⟩
theorem dist_len {P : Int} {S : List Int} (hP : 0 < P) (h60 : P ≤ 60) : (distI P S).length ≤ 60 := by
  have := asc_len (setI_up (rawD P S S)) (dist_bd (S := S) hP)
  unfold distI; omega
theorem e_distances_of {P : Int} {S : List Int} (h : IsPat P S) : evF T WW (k + 1) i_distances_of [(patD P S, false)] = some (.tuple ((distI P S).map .int), false, [.no]) := by
  refine W3_of ?_
  refine w_go f_distances_of ⟨rfl, rfl⟩ ?_
  have h0 := h.lo
  have h1 := h.hi
  have hf := h.few
  have hz := sizeLine_ge
  have hP : 0 < P := by omega
  simp -dsimp [f_distances_of, patD]
  refine w_turnsm (fun dn ρ acc => ρ = [.dat (.tuple [.int P, .tuple (S.map .int)]), .dat (.int P), .dat (.tuple (S.map .int)), .no, .no] ∧ acc = (rawD P dn S).map PyData.int) ⟨rfl, rfl⟩ ?_ ?_
  · rintro dn a rest ρ acc hd ⟨rfl, rfl⟩
    have hdn : dn.length ≤ 60 := by have := congrArg List.length hd; simp at this; omega
    have hl : dn.length * S.length ≤ 60 * 60 := Nat.mul_le_mul hdn (by omega)
    have hr := raw_len (P := P) (A := dn) (S := S)
    simp -dsimp
    refine w_turnsm (fun dn2 ρ acc => ρ = [.dat (.tuple [.int P, .tuple (S.map .int)]), .dat (.int P), .dat (.tuple (S.map .int)), .dat (.int a), .no] ∧ acc = (rawD P dn S ++ (dn2.filter fun b => decide (a ≠ b)).map fun b => (a - b) % P).map PyData.int) ⟨rfl, by simp⟩ ?_ ?_
    · rintro dn2 b rest2 ρ acc hd2 ⟨rfl, rfl⟩
      have hdn2 : dn2.length ≤ 60 := by have := congrArg List.length hd2; simp at this; omega
      have hfl := List.length_filter_le (fun b => decide (a ≠ b)) dn2
      have hsz : (rawD P dn S).length + (dn2.filter fun b => decide (a ≠ b)).length < sizeLine := by omega
      simp -dsimp
      refine Wif_i (fun hc => ?_) (fun hc => ?_)
      · simp -dsimp [hP]
        refine Wif_t (by simpa using hsz) ?_
        exact Kd_i ⟨rfl, by simp [List.filter_append, hc]⟩
      · exact Kd_i ⟨rfl, by simp [List.filter_append, hc]⟩
    · rintro ρ acc ⟨rfl, rfl⟩
      exact Kd_i ⟨rfl, by simp [rawD, List.flatMap_append]⟩
  · rintro ρ acc ⟨rfl, rfl⟩
    have hr := raw_len (P := P) (A := S) (S := S)
    have hl : S.length * S.length ≤ 59 * 59 := Nat.mul_le_mul (by omega) (by omega)
    have hdl := dist_len (S := S) hP h1
    have hc : (rawD P S S).length < 4000 ∧ (setI (rawD P S S)).length < 64 := ⟨by omega, by unfold distI at hdl; omega⟩
    simp -dsimp [hc]
    rfl
/-! sets -/
def setsStep (P : Int) (rows : List (List Int)) : List (List Int) := rows.flatMap fun row => (intR (if row = [] then 0 else row.getLastD 0 + 1) P).map fun x => row ++ [x]
def setsI (P : Int) : Nat → List (List Int)
  | 0 => [[]]
  | n + 1 => setsStep P (setsI P n)
theorem sets_mem {P : Int} : ∀ {n : Nat} {s : List Int}, s ∈ setsI P n → s.length = n ∧ s.Pairwise (· < ·) ∧ ∀ x ∈ s, 0 ≤ x ∧ x < P
  | 0, s, h => by
    simp [setsI] at h; subst h; simp
  | n + 1, s, h => by
    simp only [setsI, setsStep, List.mem_flatMap, List.mem_map] at h
    obtain ⟨row, hr, x, hx, rfl⟩ := h
    obtain ⟨h1, h2, h3⟩ := sets_mem hr
    have hx := mem_intR.1 hx
    have hlast : ∀ y ∈ row, y < x := fun y hy => by
      have hne : row ≠ [] := fun e => by rw [e] at hy; cases hy
      rw [if_neg hne] at hx
      have hl : y ≤ row.getLastD 0 := by
        obtain ⟨r', z, e⟩ : ∃ r' z, row = r' ++ [z] := ⟨row.dropLast, row.getLast hne, (List.dropLast_concat_getLast _).symm⟩
        subst e
        rw [List.getLastD_concat]
        rcases List.mem_append.1 hy with hy | hy
        · have := (List.pairwise_append.1 h2).2.2 y hy z (by simp); omega
        · rw [List.mem_singleton.1 hy]; omega
      omega
    have hx0 : 0 ≤ x := by
      by_cases hne : row = []
      · rw [if_pos hne] at hx; exact hx.1
      · rw [if_neg hne] at hx
        have : 0 ≤ row.getLastD 0 := by
          obtain ⟨r', z, e⟩ : ∃ r' z, row = r' ++ [z] := ⟨row.dropLast, row.getLast hne, (List.dropLast_concat_getLast _).symm⟩
          rw [e, List.getLastD_concat]
          exact (h3 z (by rw [e]; simp)).1
        omega
    refine ⟨by simp [h1], ?_, ?_⟩
    · rw [List.pairwise_append]
      exact ⟨h2, by simp, fun a ha b hb => by rw [List.mem_singleton.1 hb]; exact hlast a ha⟩
    · intro y hy
      rcases List.mem_append.1 hy with hy | hy
      · exact h3 y hy
      · rw [List.mem_singleton.1 hy]; exact ⟨hx0, hx.2⟩
theorem step_len {P : Int} {rows : List (List Int)} (hP : P ≤ 13) (h : ∀ r ∈ rows, ∀ x ∈ r, 0 ≤ x) : (setsStep P rows).length ≤ rows.length * 13 := by
  unfold setsStep
  induction rows with
  | nil => simp
  | cons r t ih =>
    have h1 := ih fun r' hr => h r' (by simp [hr])
    rw [List.flatMap_cons, List.length_append, List.length_map, length_intR, List.length_cons, Nat.add_mul]
    have h2 : 0 ≤ (if r = [] then (0 : Int) else r.getLastD 0 + 1) := by
      by_cases hne : r = []
      · rw [if_pos hne]; omega
      · rw [if_neg hne]
        have : 0 ≤ r.getLastD 0 := by
          obtain ⟨r', z, e⟩ : ∃ r' z, r = r' ++ [z] := ⟨r.dropLast, r.getLast hne, (List.dropLast_concat_getLast _).symm⟩
          rw [e, List.getLastD_concat]
          exact h r (by simp) z (by rw [e]; simp)
        omega
    omega
theorem sets_len {P : Int} (hP : P ≤ 13) : ∀ {n : Nat}, (setsI P n).length ≤ 13 ^ n
  | 0 => by simp [setsI]
  | n + 1 => by
    have h1 := step_len (rows := setsI P n) hP fun r hr x hx => ((sets_mem hr).2.2 x hx).1
    have h2 := sets_len hP (n := n)
    rw [setsI, Nat.pow_succ]
    omega
/-! candidates -/
abbrev Cnd := List Int × List Int
def okS (P : Int) (n : Nat) (s : List Int) : Bool := decide (s.headD 1 = 0) && decide ((n : Int) < P)
def candT (P : Int) (n : Nat) : List Cnd := ((setsI P n).filter (okS P n)).map fun s => (s, distI P s)
def cndC (P : Int) (c : Cnd) : Cand := (patD P c.1, c.2)
theorem cand_mem {P : Int} {n : Nat} {c : Cnd} (hP0 : 2 ≤ P) (hP : P ≤ 13) (hn : 1 ≤ n) (h : c ∈ candT P n) : IsPat P c.1 ∧ c.1.length = n ∧ c.2 = distI P c.1 := by
  obtain ⟨s, hs, rfl⟩ := List.mem_map.1 h
  obtain ⟨h1, h2⟩ := List.mem_filter.1 hs
  unfold okS at h2
  rw [Bool.and_eq_true, decide_eq_true_eq, decide_eq_true_eq] at h2
  obtain ⟨m1, m2, m3⟩ := sets_mem h1
  have m1' : ((s.length : Nat) : Int) < P := by rw [m1]; exact h2.2
  exact ⟨⟨hP0, by omega, fun e => by simp only at e; rw [e] at m1; simp at m1; omega, m1', m2, m3⟩, m1, rfl⟩
def rowC (P : Int) (n : Nat) (l : List (List Int)) : List PyData := (((l.filter (okS P n)).map fun s => (s, distI P s)).map (cndC P)).map canD
def growT : Nat → List Cnd → List Cnd → Nat → Option (List (List Int))
  | 0, _, _, _ => none
  | n + 1, cs, ch, m => if ch.length = m then some (ch.map Prod.fst) else firstI (fun x rest => if ch.all (fun y => apartI x.2 y.2) then growT n rest (ch ++ [x]) m else none) cs
theorem first_map {α β γ δ : Type} {f : α → List α → Option β} {g : γ → List γ → Option δ} {h : γ → α} {u : δ → β} (hfg : ∀ x r, f (h x) (r.map h) = (g x r).map u) : ∀ l : List γ, firstI f (l.map h) = (firstI g l).map u
  | [] => rfl
  | x :: r => by
    rw [List.map_cons]
    simp only [firstI, hfg]
    cases g x r with
    | some b => rfl
    | none => exact first_map hfg r
theorem grow_eq {P : Int} : ∀ (n : Nat) (cs ch : List Cnd) (m : Nat), growI n (cs.map (cndC P)) (ch.map (cndC P)) m = (growT n cs ch m).map (·.map (patD P))
  | 0, _, _, _ => rfl
  | n + 1, cs, ch, m => by
    simp only [growI, growT, List.length_map]
    split
    · simp [cndC]
    · refine first_map (fun x r => ?_) cs
      have e : (ch.map (cndC P)).all (fun y => apartI (cndC P x).2 y.2) = ch.all (fun y => apartI x.2 y.2) := by
        rw [List.all_map]; rfl
      rw [e]
      split
      · have := grow_eq (P := P) n r (ch ++ [x]) m
        rw [List.map_append] at this
        exact this
      · rfl
def codeT (P : Int) (n m : Nat) : Option (List (List Int)) := growT (m + 1) (candT P n) [] m
end
section
/-! K53A: distances and meeting once, plainly. -/
variable {k : Nat}
theorem mem_dist {P x : Int} {S : List Int} : x ∈ distI P S ↔ ∃ a ∈ S, ∃ b ∈ S, a ≠ b ∧ (a - b) % P = x := by
  unfold distI rawD
  rw [setI_m, List.mem_flatMap]
  constructor
  · rintro ⟨a, ha, hx⟩
    obtain ⟨b, hb, rfl⟩ := List.mem_map.1 hx
    obtain ⟨hb1, hb2⟩ := List.mem_filter.1 hb
    exact ⟨a, ha, b, hb1, by simpa using hb2, rfl⟩
  · rintro ⟨a, ha, b, hb, hne, rfl⟩
    exact ⟨a, ha, List.mem_map.2 ⟨b, List.mem_filter.2 ⟨hb, by simpa using hne⟩, rfl⟩⟩
def dueI (P : Int) (S : List Int) : List Int := (intR 1 P).filter fun d => decide ((S.filter fun s => decide ((s + d) % P ∈ S)) ≠ [])
theorem diff_ne {P a b : Int} (h1 : 0 ≤ a ∧ a < P) (h2 : 0 ≤ b ∧ b < P) (hne : a ≠ b) : (a - b) % P ≠ 0 := fun e => by
  obtain ⟨c, hc⟩ := Int.dvd_of_emod_eq_zero e
  have c1 : c < 1 := Int.not_le.1 fun h => by
    have : P * 1 ≤ P * c := Int.mul_le_mul_of_nonneg_left h (by omega)
    omega
  have c2 : -1 < c := Int.not_le.1 fun h => by
    have : P * c ≤ P * (-1) := Int.mul_le_mul_of_nonneg_left h (by omega)
    omega
  have c3 : c = 0 := by omega
  rw [c3] at hc; omega
theorem due_dist {P : Int} {S : List Int} (h : IsPat P S) : dueI P S = distI P S := by
  have hP := h.lo
  have hm := h.mem
  refine PL.asc_ext (List.Pairwise.filter _ intR_sorted) (setI_up _) fun z => ?_
  unfold dueI
  rw [List.mem_filter, mem_dist, mem_intR, decide_eq_true_eq]
  constructor
  · rintro ⟨⟨z0, z1⟩, hz⟩
    obtain ⟨s, hs⟩ := List.exists_mem_of_ne_nil _ hz
    obtain ⟨hs1, hs2⟩ := List.mem_filter.1 hs
    have hs2 : (s + z) % P ∈ S := by simpa using hs2
    have b := hm s hs1
    have e : ((s + z) % P - s) % P = z := by
      refine PL.emod_of (by omega) (by omega) ?_
      have d := PL.dvd_emod (a := s + z) (n := P)
      rw [show (s + z) % P - s - z = -(s + z - (s + z) % P) by omega]
      exact Int.dvd_neg.2 d
    refine ⟨(s + z) % P, hs2, s, hs1, fun e2 => ?_, e⟩
    rw [e2, Int.sub_self, Int.zero_emod] at e; omega
  · rintro ⟨a, ha, b, hb, hne, rfl⟩
    have h1 := hm a ha
    have h2 := hm b hb
    have h3 := Int.emod_nonneg (a - b) (show P ≠ 0 by omega)
    have h4 := Int.emod_lt_of_pos (a - b) (show 0 < P by omega)
    have h5 := diff_ne h1 h2 hne
    refine ⟨⟨by omega, h4⟩, fun e => ?_⟩
    have : b ∈ S.filter fun s => decide ((s + (a - b) % P) % P ∈ S) := List.mem_filter.2 ⟨hb, by
      have e2 : (b + (a - b) % P) % P = a := by
        refine PL.emod_of h1.1 h1.2 ?_
        have d := PL.dvd_emod (a := a - b) (n := P)
        rw [show b + (a - b) % P - a = -(a - b - (a - b) % P) by omega]
        exact Int.dvd_neg.2 d
      rw [e2]; simpa using ha⟩
    rw [e] at this; simp at this
/-- the ticks in which both send -/
def metI (P : Int) (S R : List Int) (b : Int) : List Int := (intR 0 P).filter fun t => decide ((t - 0) % P ∈ S) && decide ((t - b) % P ∈ R)
def onceI (P : Int) (S R : List Int) : Bool := (intR 0 P).all fun b => decide (((metI P S R b).length : Int) ≤ 1)
theorem two_mem {l : List Int} (h : ¬ (l.length : Int) ≤ 1) (hn : l.Pairwise (· < ·)) : ∃ a ∈ l, ∃ b ∈ l, a < b := by
  match l, h with
  | a :: b :: r, _ => exact ⟨a, by simp, b, by simp, by rw [List.pairwise_cons] at hn; exact hn.1 b (by simp)⟩
  | [a], h => simp at h
  | [], h => simp at h
theorem mem_met {P b t : Int} {S R : List Int} (h : IsPat P S) : t ∈ metI P S R b ↔ t ∈ S ∧ (t - b) % P ∈ R := by
  have hP := h.lo
  unfold metI
  rw [List.mem_filter, mem_intR, Bool.and_eq_true, decide_eq_true_eq, decide_eq_true_eq, Int.sub_zero]
  constructor
  · rintro ⟨⟨h1, h2⟩, h3, h4⟩
    rw [Int.emod_eq_of_lt h1 h2] at h3; exact ⟨h3, h4⟩
  · rintro ⟨h1, h2⟩
    have := h.mem t h1
    rw [Int.emod_eq_of_lt this.1 this.2]
    exact ⟨this, h1, h2⟩
theorem apart_once {P : Int} {S R : List Int} (h : IsPat P S) (h' : IsPat P R) : apartI (distI P S) (distI P R) = onceI P S R := by
  have hP := h.lo
  rw [Bool.eq_iff_iff]
  unfold apartI onceI
  rw [List.all_eq_true, List.all_eq_true]
  constructor
  · intro ha b hb
    rw [decide_eq_true_eq]
    refine Classical.byContradiction fun hc => ?_
    obtain ⟨t, ht, u, hu, hlt⟩ := two_mem hc (List.Pairwise.filter _ intR_sorted)
    rw [mem_met h] at ht hu
    have h1 := h.mem t ht.1
    have h2 := h.mem u hu.1
    have hne := diff_ne h2 h1 (by omega)
    have hd := ha ((u - t) % P) (mem_dist.2 ⟨u, hu.1, t, ht.1, by omega, rfl⟩)
    have e : ((u - b) % P - (t - b) % P) % P = (u - t) % P := by
      apply PL.emod_eq_iff.2
      have d1 := PL.dvd_emod (a := u - b) (n := P)
      have d2 := PL.dvd_emod (a := t - b) (n := P)
      rw [show (u - b) % P - (t - b) % P - (u - t) = -(u - b - (u - b) % P) + (t - b - (t - b) % P) by omega]
      exact Int.dvd_add (Int.dvd_neg.2 d1) d2
    have hd2 : (u - t) % P ∈ distI P R := mem_dist.2 ⟨(u - b) % P, hu.2, (t - b) % P, ht.2, fun e2 => by
      rw [e2, Int.sub_self, Int.zero_emod] at e; exact hne e.symm, e⟩
    simp [hd2] at hd
  · intro ha d hd
    rw [mem_dist] at hd
    obtain ⟨a, haS, b, hbS, hne, rfl⟩ := hd
    simp only [Bool.not_eq_true', List.elem_eq_mem, decide_eq_false_iff_not]
    intro hd2
    obtain ⟨c, hc, e, he, hne2, heq⟩ := mem_dist.1 hd2
    have h1 := h.mem a haS
    have h2 := h.mem b hbS
    have h3 := h'.mem c hc
    have h4 := h'.mem e he
    have hb0 := Int.emod_nonneg (a - c) (show P ≠ 0 by omega)
    have hb1 := Int.emod_lt_of_pos (a - c) (show 0 < P by omega)
    have hl := ha ((a - c) % P) (mem_intR.2 ⟨hb0, hb1⟩)
    rw [decide_eq_true_eq] at hl
    have d1 := PL.dvd_emod (a := a - c) (n := P)
    have e1 : (a - (a - c) % P) % P = c := PL.emod_of h3.1 h3.2 (by
      rw [show a - (a - c) % P - c = a - c - (a - c) % P by omega]; exact d1)
    have e2 : (b - (a - c) % P) % P = e := PL.emod_of h4.1 h4.2 (by
      have d2 := PL.dvd_emod (a := a - b) (n := P)
      have d3 := PL.dvd_emod (a := c - e) (n := P)
      rw [heq] at d3
      have := Int.dvd_add (Int.dvd_add d1 (Int.dvd_neg.2 d2)) d3
      rwa [show a - c - (a - c) % P + -(a - b - (a - b) % P) + (c - e - (a - b) % P) = b - (a - c) % P - e by omega] at this)
    have m1 : a ∈ metI P S R ((a - c) % P) := (mem_met h).2 ⟨haS, by rw [e1]; exact hc⟩
    have m2 : b ∈ metI P S R ((a - c) % P) := (mem_met h).2 ⟨hbS, by rw [e2]; exact he⟩
    match hM : metI P S R ((a - c) % P), m1, m2, hl with
    | [], m1, _, _ => simp at m1
    | [x], m1, m2, _ => simp at m1 m2; omega
    | x :: y :: r, _, _, hl => simp at hl; omega
theorem once_comm {P : Int} {S R : List Int} (h : IsPat P S) (h' : IsPat P R) : apartI (distI P R) (distI P S) = apartI (distI P S) (distI P R) := by
  rw [Bool.eq_iff_iff]
  unfold apartI
  simp only [List.all_eq_true, Bool.not_eq_true', List.elem_eq_mem, decide_eq_false_iff_not]
  exact ⟨fun h d hd hr => h d hr hd, fun h d hd hr => h d hr hd⟩
end
section
/-! K53: distances and meeting once: the law. -/
variable {k : Nat}
theorem w_sender {p : List PyData} {m : Int} {Q} (hp : Pen p) (h0 : 2 ≤ m) (h1 : m ≤ 60)
    (hq : ∀ p' L S, Pen p' → L ≤ m → IsPat L S → Q (patD L S) false [.own (.list p'), .no]) : W3 (evF T WW (k + 3) i_sender [(.list p, true), (.int m, false)]) Q := by
  refine w_go f_sender ⟨rfl, rfl⟩ ?_
  simp -dsimp [f_sender]
  refine w_draw hp (by omega) (by omega) fun y0 p0 hp0 y1 y2 => ?_
  simp -dsimp
  refine w_pick hp0 (by simp) (by simp) fun p1 x hp1 hx => ?_
  have hx : ∃ r : Int, x = .int r ∧ 1 ≤ r ∧ r ≤ 5 := by
    simp only [List.mem_cons, List.not_mem_nil, or_false] at hx
    rcases hx with rfl | rfl | rfl
    · exact ⟨2, rfl, by omega, by omega⟩
    · exact ⟨3, rfl, by omega, by omega⟩
    · exact ⟨5, rfl, by omega, by omega⟩
  obtain ⟨r, rfl, hr0, hr1⟩ := hx
  have hl : -4611686018427387904 ≤ 2 + y0 ∧ 2 + y0 < 4611686018427387904 := by omega
  simp -dsimp [hl, rangeD_eq]
  have hL0 : 2 ≤ 2 + y0 := by omega
  have hL1 : 2 + y0 ≤ m := by omega
  clear hl
  generalize 2 + y0 = L at hL0 hL1
  refine w_turnsm (fun done ρ acc => ∃ p S, Pen p ∧ acc = S.map PyData.int ∧ S.Sublist done ∧ ρ = [.own (.list p), .dat (.int m), .dat (.int L), .dat (.int r), .no, .no]) ⟨p1, [], hp1, rfl, List.Sublist.refl _, rfl⟩ ?_ ?_
  · rintro done d rest ρ acc hd ⟨p2, S, hp2, rfl, hS, rfl⟩
    simp -dsimp
    refine w_draw hp2 (by omega) (by omega) fun r2 p3 hp3 _ _ => ?_
    have hSl : S.length < sizeLine := by
      have e1 := hS.length_le
      have e2 : (intR 0 L).length = (L - 0).toNat := length_intR
      rw [hd] at e2; simp at e2
      have := sizeLine_ge; omega
    simp -dsimp
    refine Wif_i (fun _ => ?_) (fun _ => ?_)
    · simp -dsimp [hSl]
      exact Kd_i ⟨p3, S ++ [d], hp3, by simp, hS.append (List.Sublist.refl _), rfl⟩
    · exact Kd_i ⟨p3, S, hp3, rfl, hS.trans (List.sublist_append_left _ _), rfl⟩
  · rintro ρ acc ⟨p2, S, hp2, rfl, hS, rfl⟩
    have hm : ∀ s ∈ S, 0 ≤ s ∧ s < L := fun s hs => mem_intR.1 (hS.subset hs)
    have hlay : lay (.list (S.map .int)) = true := lay_ints fun s hs => by have := hm s hs; omega
    have hasc : S.Pairwise (· < ·) := List.Pairwise.sublist hS intR_sorted
    have hlen : (S.length : Int) ≤ L := by have := hS.length_le; rw [length_intR] at this; omega
    have hz := sizeLine_ge
    simp -dsimp [hlay]
    refine Wif_i (fun hS0 => ?_) (fun hS0 => ?_)
    · simp -dsimp
      refine Wif_i (fun hS1 => ?_) (fun hS1 => ?_)
      · simp -dsimp
        exact hq p2 L S hp2 hL1 ⟨hL0, by omega, by simpa using hS0, by omega, hasc, hm⟩
      · simp -dsimp
        match S, hS0, hS1, hasc, hm, hlen with
        | [], hS0, _, _, _, _ => simp at hS0
        | a :: t, _, hS1, hasc, hm, hlen =>
          have h3 : (t.length : Int) + 1 = L := by simp at hS1 hlen; omega
          simp -dsimp
          exact hq p2 L t hp2 hL1 ⟨hL0, by omega, fun e => by subst e; simp at h3; omega, by omega, (List.pairwise_cons.1 hasc).2, fun s hs => hm s (List.mem_cons_of_mem _ hs)⟩
    · simp -dsimp
      refine w_draw hp2 (by omega) (by omega) fun r2 p3 hp3 a b => ?_
      have h1L : (1 : Int) < L := by omega
      simp -dsimp [h1L]
      exact hq p3 L [r2] hp3 hL1 ⟨hL0, by omega, by simp, by simp; omega, by simp, by simp; omega⟩
def top48 (n : Nat) : Int := if n = 2 then 20 else if n = 3 then 8 else 6
structure Tm (n : Nat) (G : Grp) : Prop where
  len : G.length = n
  pat : ∀ q ∈ G, IsPat q.1 q.2 ∧ q.1 ≤ top48 n
theorem e_distances {P : Int} {S : List Int} (h : IsPat P S) : evF T WW (k + 6) i_distances [(patD P S, false)] = some (.tuple ((distI P S).map .int), false, [.no]) := by
  refine W3_of ?_
  refine w_go f_distances ⟨rfl, rfl⟩ ?_
  simp -dsimp [f_distances, e_need_pattern h, e_distances_of h]
theorem e_meet_once {P : Int} {S R : List Int} (h : IsPat P S) (h' : IsPat P R) : evF T WW (k + 6) i_meet_once [(patD P S, false), (patD P R, false)] = some (.bool (apartI (distI P S) (distI P R)), false, [.no, .no]) := by
  refine W3_of ?_
  refine w_go f_meet_once ⟨rfl, rfl⟩ ?_
  have h0 := h.lo
  have h1 := h.hi
  have i1 : ∀ S Q, Wp (idxD (patD P S) (.int 0)) Q = Q (.int P) := fun S Q => by simp [patD]
  simp -dsimp [f_meet_once, e_need_pattern h, e_need_pattern h', i1, e_distances_of h, e_distances_of h', e_apart (dist_len (S := S) (by omega) h1)]
theorem ones_ne {B : List Int} {Q} : Wp (cmpD .ne (.list (B.map fun _ => PyData.int 1)) (.list [])) Q = Q (decide (B ≠ [])) := by
  have hly : lay (.list (B.map fun _ => PyData.int 1)) = true := by
    have := lay_ints (S := B.map fun _ => (1 : Int)) (by intro s hs; obtain ⟨_, _, rfl⟩ := List.mem_map.1 hs; decide)
    simpa [List.map_map, Function.comp_def] using this
  have e : cmpD .ne (.list (B.map fun _ => PyData.int 1)) (.list []) = some (decide (B ≠ [])) := by
    have : cmpD .ne (.list (B.map fun _ => PyData.int 1)) (.list []) = (if lay (.list (B.map fun _ => PyData.int 1)) && lay (.list []) then some (!PyData.eqv (.list (B.map fun _ => PyData.int 1)) (.list [])) else none) := rfl
    rw [this, hly, lay_nil]
    simp only [Bool.and_self, if_true, eqv_l, eqv_nil, Option.some.injEq]
    cases B <;> simp
  rw [e]; simp
theorem e_meets_once {P : Int} {S R : List Int} (h : IsPat P S) : evF T WW (k + 2) i_meets_once [(patD P S, false), (patD P R, false)] = some (.bool (onceI P S R), false, [.no, .no]) := by
  refine W3_of ?_
  refine w_go f_meets_once ⟨rfl, rfl⟩ ?_
  have hz := sizeLine_ge
  have h0 := h.lo
  have h1 := h.hi
  have i1 : ∀ S Q, Wp (idxD (patD P S) (.int 0)) Q = Q (.int P) := fun S Q => by simp [patD]
  have hl : -4611686018427387904 ≤ P ∧ P < 4611686018427387904 := by omega
  simp -dsimp [f_meets_once, i1, hl, rangeD_eq]
  refine w_loopm (fun done ρ => ∃ s3 s4 s5, (∀ b ∈ done, ((metI P S R b).length : Int) ≤ 1) ∧ ρ = [.dat (patD P S), .dat (patD P R), .dat (.int P), s3, s4, s5]) ⟨_, _, _, by simp, rfl⟩ ?_ ?_
  · rintro done b rest ρ hd ⟨s3, s4, s5, hdn, rfl⟩
    have hb := mem_intR.1 (show b ∈ intR 0 P by rw [hd]; simp)
    simp -dsimp [hl, rangeD_eq]
    refine w_compp (fun t => decide ((t - 0) % P ∈ S) && decide ((t - b) % P ∈ R)) (fun t => .int t) (sz4 (by rw [length_intR]; omega)) ?_ ?_
    · intro t acc ht ha
      have e1 := e_does_send (T := T) (k := k) (S := S) (o := 0) (t := t) (show 0 < P by omega)
      have e2 := e_does_send (T := T) (k := k) (S := R) (o := b) (t := t) (show 0 < P by omega)
      simp -dsimp [e1]
      refine Wif_i (fun hc => ?_) (fun hc => ?_)
      · simp -dsimp [e2]
        refine Wif_i (fun hc2 => ?_) (fun hc2 => ?_)
        · simp -dsimp [hc, hc2, ha]
        · simp -dsimp [hc, hc2]
      · simp -dsimp [hc]
    · have hml : ((intR 0 P).filter fun t => decide ((t - 0) % P ∈ S) && decide ((t - b) % P ∈ R)) = metI P S R b := rfl
      rw [hml]
      have hlen : (metI P S R b).length ≤ 60 := by
        have h1 := List.length_filter_le (fun t : Int => decide ((t - 0) % P ∈ S) && decide ((t - b) % P ∈ R)) (intR 0 P)
        rw [length_intR] at h1
        unfold metI; omega
      have hbl : ∀ Q, W2 (biD .len [.list ((metI P S R b).map fun t => PyData.int t)]) Q = Q (.int (metI P S R b).length) false := fun Q => by simp
      simp -dsimp [↓hbl]
      refine Wif_i (fun hc => ?_) (fun hc => ?_)
      · simp -dsimp
        have e : onceI P S R = false := List.all_eq_false.2 ⟨b, mem_intR.2 hb, by rw [decide_eq_true_eq]; omega⟩
        exact e
      · simp -dsimp
        exact Kd_i ⟨_, _, _, fun c hc2 => by
          rcases List.mem_append.1 hc2 with hc2 | hc2
          · exact hdn c hc2
          · rw [List.mem_singleton.1 hc2]; omega, rfl⟩
  · rintro ρ ⟨s3, s4, s5, hdn, rfl⟩
    simp -dsimp
    have e : onceI P S R = true := List.all_eq_true.2 fun b hb => by rw [decide_eq_true_eq]; exact hdn b hb
    exact e
theorem e_due_12 {P : Int} {S : List Int} (h : IsPat P S) : evF T WW (k + 1) i_due_12 [(patD P S, false)] = some (.tuple ((distI P S).map .int), false, [.no]) := by
  refine W3_of ?_
  refine w_go f_due_12 ⟨rfl, rfl⟩ ?_
  have hz := sizeLine_ge
  have h0 := h.lo
  have h1 := h.hi
  have hf := h.few
  have i1 : ∀ Q, Wp (idxD (patD P S) (.int 0)) Q = Q (.int P) := fun Q => by simp [patD]
  have i2 : ∀ Q, Wp (idxD (patD P S) (.int 1)) Q = Q (.tuple (S.map .int)) := fun Q => by simp [patD]
  have hl : -4611686018427387904 ≤ P ∧ P < 4611686018427387904 := by omega
  rw [← due_dist h]
  simp -dsimp [f_due_12, i1, i2, hl, rangeD_eq]
  refine w_compp (fun d => decide ((S.filter fun s => decide ((s + d) % P ∈ S)) ≠ [])) (fun t => .int t) (sz4 (by rw [length_intR]; omega)) ?_ ?_
  · intro d acc hd ha
    simp -dsimp [i1, i2]
    refine w_compp (fun s => decide ((s + d) % P ∈ S)) (fun _ => .int 1) (sz4 (by omega)) ?_ ?_
    · intro s acc' hs ha'
      simp -dsimp [i1, i2, in_ints, show 0 < P by omega]
      refine Wif_i (fun hc => ?_) (fun hc => ?_)
      · simp -dsimp [hc, ha']
      · simp -dsimp [hc]
    · generalize (S.filter fun s => decide ((s + d) % P ∈ S)) = B
      have hX : ∀ Q, Wp (cmpD .ne (.list (B.map fun _ => PyData.int 1)) (.list [])) Q = Q (decide (B ≠ [])) := fun Q => ones_ne
      simp -dsimp [↓hX]
      refine Wif_i (fun hc => ?_) (fun hc => ?_)
      · simp -dsimp [hc, ha]
      · have hc : B = [] := by simpa using hc
        subst hc
        simp -dsimp
  · simp -dsimp [dueI]
theorem e_same1 {xs : List PyData} {b : PyData} (ha : shows (.list xs) = true) (hb : shows b = true) :
    evF T WW (k + 1) i_same [(.list xs, true), (b, false)] = some (.bool (decide ((PyData.list xs).shown = b.shown)), false, [.own (.list xs), .no]) := by
  refine W3_of ?_
  refine w_go f_same ⟨rfl, rfl⟩ ?_
  simp -dsimp [f_same, ha, hb]
theorem e_right_7 {P : Int} {S R : List Int} (h : IsPat P S) (h' : IsPat P R) : evF T WW (k + 8) i_right_7 [(patD P S, false), (patD P R, false)] = some (.bool true, false, [.no, .no]) := by
  refine W3_of ?_
  refine w_go f_right_7 ⟨rfl, rfl⟩ ?_
  have e1 := e_meets_once (k := k + 5) (R := R) h
  have e2 := e_meet_once (k := k + 1) h h'
  have e3 := e_meet_once (k := k + 1) h' h
  have e4 := e_distances (k := k + 1) h
  have e5 := e_distances (k := k + 1) h'
  have e6 := e_due_12 (k := k + 6) h
  have e7 := e_due_12 (k := k + 6) h'
  rw [once_comm h h'] at e3
  rw [apart_once h h'] at e2 e3
  have sp : shows (.tuple [patD P S, patD P R]) = true := (Shw.tup (w := 9842) (dp := 2) (n := 2) (ds := [patD P S, patD P R]) (fun d hd => by
    simp only [List.mem_cons, List.not_mem_nil, or_false] at hd
    rcases hd with rfl | rfl
    · exact shw_pat (p := (P, S)) h
    · exact shw_pat (p := (P, R)) h') (by simp)).shows
  have hd : ∀ S : List Int, IsPat P S → Shw 4920 1 (.tuple ((distI P S).map .int)) := fun S hS => by
    have h0 := hS.lo
    have h1 := hS.hi
    exact Shw.ints (n := 60) (fun x hx => by have := dist_bd (S := S) (show 0 < P by omega) x hx; omega) (dist_len (by omega) h1)
  have sl : ∀ b : Bool, shows (.list [.bool b, .bool b, .tuple ((distI P S).map .int), .tuple ((distI P R).map .int), .bool b]) = true := fun b =>
    (Shw.lst (w := 4920) (dp := 1) (n := 5) (fun d hdm => by
      simp only [List.mem_cons, List.not_mem_nil, or_false] at hdm
      rcases hdm with rfl | rfl | rfl | rfl | rfl
      · exact Shw.bool.mono (by omega) (by omega)
      · exact Shw.bool.mono (by omega) (by omega)
      · exact hd S h
      · exact hd R h'
      · exact Shw.bool.mono (by omega) (by omega)) (by simp)).shows
  have sl := sl (onceI P S R)
  have es := e_same1 (k := k + 6) sl sl
  simp -dsimp [f_right_7, sp, e1, e2, e3, e4, e5, e6, e7, es]
theorem insU_len {x : Int} : ∀ {l : List Int}, (insU x l).length ≤ l.length + 1
  | [] => by simp [insU]
  | z :: r => by
    unfold insU
    split
    · simp
    · split
      · simp
      · simp only [List.length_cons]; have := insU_len (x := x) (l := r); omega
theorem setI_len : ∀ {l : List Int}, (setI l).length ≤ l.length
  | [] => by simp [setI]
  | x :: r => by
    show (insU x (setI r)).length ≤ _
    have h1 := insU_len (x := x) (l := setI r)
    have h2 := setI_len (l := r)
    simp only [List.length_cons]; omega
theorem pat_set {P : Int} {A : List Int} (h0 : 2 ≤ P) (h1 : P ≤ 60) (hn : A ≠ []) (hm : ∀ a ∈ A, 0 ≤ a ∧ a < P) (hl : ((setI A).length : Int) < P) : IsPat P (setI A) := by
  refine ⟨h0, h1, fun e => ?_, hl, setI_up A, fun s hs => hm s (setI_m.1 hs)⟩
  obtain ⟨a, ha⟩ := List.exists_mem_of_ne_nil _ hn
  have : a ∈ setI A := setI_m.2 ha
  rw [e] at this; simp at this
def subQ : Nat → List (List Int)
  | 0 => [[]]
  | n + 1 => subQ n ++ (subQ n).map fun s => s ++ [(n : Int)]
def allQ (n : Nat) : List (List Int) := (subQ n).filter fun s => decide (0 < s.length) && decide (s.length < n)
theorem allQ_pat : ∀ n ∈ [2, 3, 4], ∀ s ∈ allQ n, IsPat (n : Int) s := by
  intro n hn s hs
  have hk : ∀ n ∈ [2, 3, 4], ∀ s ∈ allQ n, (decide (s ≠ []) && decide ((s.length : Int) < (n : Int)) && decide (s.Pairwise (· < ·)) && s.all fun x => decide (0 ≤ x) && decide (x < (n : Int))) = true := by decide +kernel
  have h := hk n hn s hs
  simp only [Bool.and_eq_true, decide_eq_true_eq, List.all_eq_true] at h
  have h2 : 2 ≤ n ∧ n ≤ 4 := by
    simp only [List.mem_cons, List.not_mem_nil, or_false] at hn; omega
  exact ⟨by omega, by omega, h.1.1.1, h.1.1.2, h.1.2, h.2⟩
theorem e_all_4 : ∀ n ∈ [2, 3, 4], evF T WW 29 i_all [(.int ((n : Nat) : Int), false)] = some (.list ((allQ n).map fun s => patD (n : Int) s), true, [.no]) := by
  intro n hn
  simp only [List.mem_cons, List.not_mem_nil, or_false] at hn
  rcases hn with rfl | rfl | rfl <;> kernel_rfl
def tail53 : MS := (.seq (.asg (.nm 4) (.bin .add (.lit (.int 40)) (.call i_draw (.cons (.var 8) (.cons (.lit (.int 21)) .nil)))))
    (.seq (.asg (.nm 12) (.comp [9] (.nm 9) (.it (.tup (.cons (.lit (.int 0)) (.cons (.lit (.int 1)) .nil)))) .nil (.bi .tuple (.cons (.sset (.comp [11] (.nm 11) (.rng1 (.lit (.int 3))) .nil (.call i_draw (.cons (.var 8) (.cons (.var 4) .nil))))) .nil))))
    (.ite (.not (.tst (.call i_right_7 (.cons (.tup (.cons (.var 4) (.cons (.idx (.var 12) (.lit (.int 0))) .nil))) (.cons (.tup (.cons (.var 4) (.cons (.idx (.var 12) (.lit (.int 1))) .nil))) .nil))))) (.ret (.lit (.bool false))) .skip)))
theorem w_tail53 {p : List PyData} {s0 s1 s2 s3 s4 s5 s6 s7 s9 s10 s12 : MI.Slot} {Q : Out → Prop} (hp : Pen p)
    (hq : ∀ p' s4 s5 s9 s10 s11 s12, Pen p' → Q (.nx [s0, s1, s2, s3, s4, s5, s6, s7, .own (.list p'), s9, s10, s11, s12])) :
    Wp (evS (evF T WW 29) WW tail53 [s0, s1, s2, s3, s4, s5, s6, s7, .own (.list p), s9, s10, .no, s12]) Q := by
  unfold tail53
  have hz := sizeLine_ge
  simp -dsimp
  refine w_draw hp (by omega) (by omega) fun r p1 hp1 hr0 hr1 => ?_
  simp -dsimp
  generalize hP : 40 + r = P
  have hP0 : 40 ≤ P ∧ P ≤ 60 := by omega
  refine w_turnsm (f := PyData.int) (l := [0, 1]) (fun dn ρ acc => ∃ q RS, Pen q ∧ acc = RS.map offD ∧ RS.length = dn.length ∧ (∀ R ∈ RS, IsPat P R) ∧ ρ = [s0, s1, s2, s3, .dat (.int P), s5, s6, s7, .own (.list q), .no, s10, .no, s12]) ⟨_, [], hp1, rfl, rfl, by simp, rfl⟩ ?_ ?_
  · rintro dn d rest ρ acc hd ⟨q, RS, hq1, rfl, hl, hR, rfl⟩
    have hdl : dn.length ≤ 2 := by have := congrArg List.length hd; simp at this; omega
    simp -dsimp [rangeD_eq]
    refine w_turnsm (fun dn2 ρ acc => ∃ q A, Pen q ∧ acc = A.map PyData.int ∧ A.length = dn2.length ∧ (∀ a ∈ A, 0 ≤ a ∧ a < P) ∧ ρ = [s0, s1, s2, s3, .dat (.int P), s5, s6, s7, .own (.list q), .dat (.int d), s10, .no, s12]) ⟨_, [], hq1, rfl, rfl, by simp, rfl⟩ ?_ ?_
    · rintro dn2 d2 rest2 ρ acc hd2 ⟨q4, A, hq4, rfl, hA, hAm, rfl⟩
      have hdl : dn2.length ≤ 3 := by
        have := congrArg List.length hd2
        rw [length_intR] at this; simp at this; omega
      simp -dsimp
      refine w_draw hq4 (by omega) (by omega) fun a q5 hq5 ha0 ha1 => ?_
      simp -dsimp
      refine Wif_t (by omega) ?_
      exact Kd_i ⟨q5, A ++ [a], hq5, by simp, by simp [hA], fun b hb => by
        rcases List.mem_append.1 hb with hb | hb
        · exact hAm b hb
        · rw [List.mem_singleton.1 hb]; exact ⟨ha0, ha1⟩, rfl⟩
    · rintro ρ acc ⟨q4, A, hq4, rfl, hA, hAm, rfl⟩
      rw [length_intR] at hA
      have hAn : A ≠ [] := fun e => by rw [e] at hA; simp at hA
      have hsl := setI_len (l := A)
      have hc : A.length < 4000 ∧ (setI A).length < 64 := ⟨by omega, by omega⟩
      have hpat := pat_set (by omega) hP0.2 hAn hAm (by omega)
      simp -dsimp [hc]
      refine Wif_t (by omega) ?_
      exact Kd_i ⟨q4, RS ++ [setI A], hq4, by simp [offD], by simp [hl], fun R hR2 => by
        rcases List.mem_append.1 hR2 with h | h
        · exact hR R h
        · rw [List.mem_singleton.1 h]; exact hpat, rfl⟩
  · rintro ρ acc ⟨q, RS, hq1, rfl, hl, hR, rfl⟩
    match RS, hl, hR with
    | [A, B], _, hR =>
      have er : evF T WW 29 i_right_7 [(.tuple [.int P, offD A], false), (.tuple [.int P, offD B], false)] = some (.bool true, false, [.no, .no]) := e_right_7 (k := 21) (hR A (by simp)) (hR B (by simp))
      simp -dsimp [er]
      exact hq _ _ _ _ _ _ _ hq1
theorem k53_body : f_law_k53 = ⟨1, 13, (.seq (.par (.cons (.nm 1) (.cons (.nm 2) (.cons (.nm 3) .nil))) (.cons (.tup (.cons (.lit (.int 60)) (.cons (.tup (.cons (.lit (.int 0)) (.cons (.lit (.int 25)) .nil))) .nil))) (.cons (.tup (.cons (.lit (.int 60)) (.cons (.tup (.cons (.lit (.int 3)) (.cons (.lit (.int 38)) .nil))) .nil))) (.cons (.tup (.cons (.lit (.int 59)) (.cons (.tup (.cons (.lit (.int 0)) (.cons (.lit (.int 28)) .nil))) .nil))) .nil)))) (.seq (.ite (.or (.not (.tst (.call i_right_7 (.cons (.var 1) (.cons (.var 2) .nil))))) (.or (.not (.tst (.call i_right_7 (.cons (.var 1) (.cons (.var 1) .nil))))) (.not (.tst (.call i_right_7 (.cons (.var 3) (.cons (.tup (.cons (.lit (.int 59)) (.cons (.tup (.cons (.lit (.int 5)) (.cons (.lit (.int 34)) .nil))) .nil))) .nil))))))) (.ret (.lit (.bool false))) .skip) (.seq (.loop (.nm 4) (.it (.tup (.cons (.lit (.int 2)) (.cons (.lit (.int 3)) (.cons (.lit (.int 4)) .nil))))) (.loop (.nm 5) (.it (.call i_all (.cons (.var 4) .nil))) (.ite (.tst (.cmp .ne (.comp [6] (.nm 6) (.it (.call i_all (.cons (.var 4) .nil))) (.not (.tst (.call i_right_7 (.cons (.var 5) (.cons (.var 6) .nil))))) (.lit (.int 1))) (.lst .nil))) (.ret (.lit (.bool false))) .skip))) (.seq (.loop (.nm 7) (.rng1 (.bi .max2 (.cons (.lit (.int 1)) (.cons (.bi .min2 (.cons (.bi .len (.cons (.var 0) .nil)) (.cons (.lit (.int 3)) .nil))) .nil)))) (.seq (.asg (.nm 8) (.call i_pen (.cons (.call i_cell_at (.cons (.var 0) (.cons (.var 7) .nil))) .nil))) (.loop (.nm 9) (.rng1 (.lit (.int 12))) (.seq (.asg (.nm 5) (.call i_sender (.cons (.var 8) (.cons (.lit (.int 60)) .nil)))) (.seq (.ite (.not (.tst (.call i_same (.cons (.lst (.cons (.call i_distances (.cons (.var 5) .nil)) (.cons (.call i_distances (.cons (.var 5) .nil)) .nil))) (.cons (.bin .mul (.lst (.cons (.call i_due_12 (.cons (.var 5) .nil)) .nil)) (.lit (.int 2))) .nil))))) (.ret (.lit (.bool false))) .skip) (.seq (.asg (.nm 5) (.call i_sender (.cons (.var 8) (.cons (.idx (.lst (.cons (.lit (.int 20)) (.cons (.lit (.int 9)) (.cons (.lit (.int 14)) .nil)))) (.bin .mod (.var 9) (.lit (.int 3)))) .nil)))) (.seq (.asg (.nm 10) (.sset (.comp [11] (.nm 11) (.rng1 (.bin .add (.lit (.int 1)) (.call i_draw (.cons (.var 8) (.cons (.lit (.int 4)) .nil))))) .nil (.call i_draw (.cons (.var 8) (.cons (.idx (.var 5) (.lit (.int 0))) .nil)))))) (.seq (.ite (.and (.tst (.cmp .lt (.bi .len (.cons (.var 10) .nil)) (.idx (.var 5) (.lit (.int 0))))) (.not (.tst (.call i_right_7 (.cons (.var 5) (.cons (.tup (.cons (.idx (.var 5) (.lit (.int 0))) (.cons (.bi .tuple (.cons (.var 10) .nil)) .nil))) .nil)))))) (.ret (.lit (.bool false))) .skip) tail53)))))))) (.ret (.lit (.bool true)))))))⟩ := rfl
theorem plain_k53 (ns : List Int) (hlen : ns.length ≤ 63) : ∃ fr ss, evF T WW 30 i_law_k53 [(scr (ns.map .int), false)] = some (.bool true, fr, ss) := by
  suffices H : W3 (evF T WW 30 i_law_k53 [(scr (ns.map .int), false)]) (fun a _ _ => a = .bool true) by
    obtain ⟨⟨a, b, c⟩, h1, rfl⟩ := H; exact ⟨_, _, h1⟩
  refine w_go f_law_k53 ⟨rfl, rfl⟩ ?_
  have hz := sizeLine_ge
  have p1 : IsPat 60 [0, 25] := ⟨by decide, by decide, by decide, by decide, by decide, by decide⟩
  have p2 : IsPat 60 [3, 38] := ⟨by decide, by decide, by decide, by decide, by decide, by decide⟩
  have p3 : IsPat 59 [0, 28] := ⟨by decide, by decide, by decide, by decide, by decide, by decide⟩
  have p4 : IsPat 59 [5, 34] := ⟨by decide, by decide, by decide, by decide, by decide, by decide⟩
  have r1 : evF T WW 29 i_right_7 [(.tuple [.int 60, .tuple [.int 0, .int 25]], false), (.tuple [.int 60, .tuple [.int 3, .int 38]], false)] = some (.bool true, false, [.no, .no]) := e_right_7 (k := 21) p1 p2
  have r2 : evF T WW 29 i_right_7 [(.tuple [.int 60, .tuple [.int 0, .int 25]], false), (.tuple [.int 60, .tuple [.int 0, .int 25]], false)] = some (.bool true, false, [.no, .no]) := e_right_7 (k := 21) p1 p1
  have r3 : evF T WW 29 i_right_7 [(.tuple [.int 59, .tuple [.int 0, .int 28]], false), (.tuple [.int 59, .tuple [.int 5, .int 34]], false)] = some (.bool true, false, [.no, .no]) := e_right_7 (k := 21) p3 p4
  rw [k53_body]
  simp -dsimp [r1, r2, r3]
  refine w_loops (f := fun n : Nat => PyData.int (n : Int)) (l := [2, 3, 4]) (fun ρ => ∃ s4 s5 s6, ρ = [.dat (scr (ns.map .int)), .dat (.tuple [.int 60, .tuple [.int 0, .int 25]]), .dat (.tuple [.int 60, .tuple [.int 3, .int 38]]), .dat (.tuple [.int 59, .tuple [.int 0, .int 28]]), s4, s5, s6, .no, .no, .no, .no, .no, .no]) ⟨_, _, _, rfl⟩ ?_ ?_
  · rintro n ρ hn ⟨s4, s5, s6, rfl⟩
    have ea := e_all_4 n hn
    have hp := allQ_pat n hn
    have hal : (allQ n).length ≤ 16 := by
      simp only [List.mem_cons, List.not_mem_nil, or_false] at hn
      rcases hn with rfl | rfl | rfl <;> decide +kernel
    simp -dsimp [ea]
    refine w_loops (f := fun s => patD (n : Int) s) (fun ρ => ∃ s5 s6, ρ = [.dat (scr (ns.map .int)), .dat (.tuple [.int 60, .tuple [.int 0, .int 25]]), .dat (.tuple [.int 60, .tuple [.int 3, .int 38]]), .dat (.tuple [.int 59, .tuple [.int 0, .int 28]]), .dat (.int n), s5, s6, .no, .no, .no, .no, .no, .no]) ⟨_, _, rfl⟩ ?_ ?_
    · rintro A ρ hA ⟨s5, s6, rfl⟩
      simp -dsimp [ea]
      refine w_compp (f := fun s => patD (n : Int) s) (fun _ => false) (fun _ => .int 1) (sz4 (by omega)) ?_ ?_
      · intro B acc hB ha
        have er := e_right_7 (k := 21) (hp A hA) (hp B hB)
        simp -dsimp [er]
      · rw [show (allQ n).filter (fun _ => false) = [] by simp]
        simp -dsimp
        exact Kd_i ⟨_, _, rfl⟩
    · rintro ρ ⟨s5, s6, rfl⟩
      exact Kd_i ⟨_, _, _, rfl⟩
  · rintro ρ ⟨s4, s5, s6, rfl⟩
    simp -dsimp
    refine Wif_t (by omega) ?_
    rw [rangeD_eq]
    refine w_loops (fun ρ => ∃ s4 s5 s6 s7 s8 s9 s10 s11 s12, ρ = [.dat (scr (ns.map .int)), .dat (.tuple [.int 60, .tuple [.int 0, .int 25]]), .dat (.tuple [.int 60, .tuple [.int 3, .int 38]]), .dat (.tuple [.int 59, .tuple [.int 0, .int 28]]), s4, s5, s6, s7, s8, s9, s10, s11, s12]) ⟨_, _, _, _, _, _, _, _, _, rfl⟩ ?_ ?_
    · rintro j ρ hj ⟨s4, s5, s6, s7, s8, s9, s10, s11, s12, rfl⟩
      have hj := mem_intR.1 hj
      simp -dsimp
      refine W3_eq (e_cell_at hj.1) ?_
      simp -dsimp
      refine w_pen fun p hp => ?_
      simp -dsimp [rangeD_eq]
      refine w_loops (fun ρ => ∃ p s4 s5 s9 s10 s11 s12, Pen p ∧ ρ = [.dat (scr (ns.map .int)), .dat (.tuple [.int 60, .tuple [.int 0, .int 25]]), .dat (.tuple [.int 60, .tuple [.int 3, .int 38]]), .dat (.tuple [.int 59, .tuple [.int 0, .int 28]]), s4, s5, s6, .dat (.int j), .own (.list p), s9, s10, s11, s12]) ⟨_, _, _, _, _, _, _, hp, rfl⟩ ?_ ?_
      · rintro x ρ hx ⟨q, s4, s5, s9, s10, s11, s12, hq, rfl⟩
        have hx := mem_intR.1 hx
        simp -dsimp
        refine w_sender hq (by omega) (by omega) fun q1 L S hq1 hL hS => ?_
        have e1 := e_distances (k := 23) hS
        have e2 := e_due_12 (k := 28) hS
        have hd : Shw 4920 1 (.tuple ((distI L S).map .int)) := by
          have h0 := hS.lo
          have h1 := hS.hi
          exact Shw.ints (n := 60) (fun x hx => by have := dist_bd (S := S) (show 0 < L by omega) x hx; omega) (dist_len (by omega) h1)
        have sl : shows (.list [.tuple ((distI L S).map .int), .tuple ((distI L S).map .int)]) = true :=
          (Shw.lst (w := 4920) (dp := 1) (n := 2) (fun d hdm => by
            simp only [List.mem_cons, List.not_mem_nil, or_false] at hdm
            rcases hdm with rfl | rfl <;> exact hd) (by simp)).shows
        have es := e_same (T := T) (k := 28) sl sl
        simp -dsimp [e1, e2, es]
        obtain ⟨m, hm0, hm1, hm⟩ : ∃ m : Int, 9 ≤ m ∧ m ≤ 20 ∧ nthI [PyData.int 20, PyData.int 9, PyData.int 14] (x % 3) = some (.int m) := by
          have : x % 3 = 0 ∨ x % 3 = 1 ∨ x % 3 = 2 := by omega
          rcases this with e | e | e <;> rw [e]
          · exact ⟨20, by omega, by omega, rfl⟩
          · exact ⟨9, by omega, by omega, rfl⟩
          · exact ⟨14, by omega, by omega, rfl⟩
        simp -dsimp [hm]
        refine w_sender hq1 (by omega) (by omega) fun q2 L S hq2 hL hS => ?_
        have hL0 := hS.lo
        simp -dsimp
        refine w_draw hq2 (by omega) (by omega) fun r q3 hq3 hr0 hr1 => ?_
        have hl : -4611686018427387904 ≤ 1 + r ∧ 1 + r < 4611686018427387904 := by omega
        have i1 : ∀ Q, Wp (idxD (patD L S) (.int 0)) Q = Q (.int L) := fun Q => by simp [patD]
        simp -dsimp [hl, rangeD_eq]
        refine w_turnsm (fun dn ρ acc => ∃ q A, Pen q ∧ acc = A.map PyData.int ∧ A.length = dn.length ∧ (∀ a ∈ A, 0 ≤ a ∧ a < L) ∧ ρ = [.dat (scr (ns.map .int)), .dat (.tuple [.int 60, .tuple [.int 0, .int 25]]), .dat (.tuple [.int 60, .tuple [.int 3, .int 38]]), .dat (.tuple [.int 59, .tuple [.int 0, .int 28]]), s4, .dat (patD L S), s6, .dat (.int j), .own (.list q), .dat (.int x), s10, .no, s12]) ⟨_, [], hq3, rfl, rfl, by simp, rfl⟩ ?_ ?_
        · rintro dn d rest ρ acc hd ⟨q4, A, hq4, rfl, hA, hAm, rfl⟩
          have hdl : dn.length ≤ 5 := by
            have := congrArg List.length hd
            rw [length_intR] at this; simp at this; omega
          simp -dsimp [i1]
          refine w_draw hq4 (by omega) (by omega) fun a q5 hq5 ha0 ha1 => ?_
          simp -dsimp
          refine Wif_t (by omega) ?_
          exact Kd_i ⟨q5, A ++ [a], hq5, by simp, by simp [hA], fun b hb => by
            rcases List.mem_append.1 hb with hb | hb
            · exact hAm b hb
            · rw [List.mem_singleton.1 hb]; exact ⟨ha0, ha1⟩, rfl⟩
        · rintro ρ acc ⟨q4, A, hq4, rfl, hA, hAm, rfl⟩
          rw [length_intR] at hA
          have hAn : A ≠ [] := fun e => by rw [e] at hA; simp at hA; omega
          have hsl := setI_len (l := A)
          have hc : A.length < 4000 ∧ (setI A).length < 64 := ⟨by omega, by omega⟩
          simp -dsimp [hc, i1]
          have er : ((setI A).length : Int) < L → evF T WW 29 i_right_7 [(patD L S, false), (.tuple [.int L, .tuple ((setI A).map .int)], false)] = some (.bool true, false, [.no, .no]) := fun hl =>
            e_right_7 (k := 21) hS (pat_set hL0 hS.hi hAn hAm hl)
          refine Wif_i (fun hc2 => ?_) (fun hc2 => ?_)
          · simp -dsimp [i1, er hc2]
            refine w_tail53 hq4 (fun q5 s4 s5 s9 s10 s11 s12 hq5 => ?_)
            exact Kd_i ⟨_, _, _, _, _, _, _, hq5, rfl⟩
          · simp -dsimp
            refine w_tail53 hq4 (fun q5 s4 s5 s9 s10 s11 s12 hq5 => ?_)
            exact Kd_i ⟨_, _, _, _, _, _, _, hq5, rfl⟩
      · rintro ρ ⟨q, s4, s5, s9, s10, s11, s12, hq, rfl⟩
        exact Kd_i ⟨_, _, _, _, _, _, _, _, _, rfl⟩
    · rintro ρ ⟨s4, s5, s6, s7, s8, s9, s10, s11, s12, rfl⟩
      simp -dsimp
end
def topS (i : Nat) : Stmt := PySem.Challenge.pw_anyshift_k53_distances_and_meeting_once.main.body.getD i (.Pass ⟨0, 0, 0, 0⟩)
def S : Sig := ⟨[((Str.ofString "is_integer"), i_is_integer),
    ((Str.ofString "is_between"), i_is_between),
    ((Str.ofString "is_set"), i_is_set),
    ((Str.ofString "is_pattern"), i_is_pattern),
    ((Str.ofString "need_pattern"), i_need_pattern),
    ((Str.ofString "distances_of"), i_distances_of),
    ((Str.ofString "are_apart"), i_are_apart),
    ((Str.ofString "distances"), i_distances),
    ((Str.ofString "meet_once"), i_meet_once),
    ((Str.ofString "_law_cell"), i_cell_at),
    ((Str.ofString "_law_pen"), i_pen),
    ((Str.ofString "_law_draw"), i_draw),
    ((Str.ofString "_law_pick"), i_pick),
    ((Str.ofString "_law_same"), i_same),
    ((Str.ofString "_law_sender"), i_sender),
    ((Str.ofString "_law_does_send"), i_does_send),
    ((Str.ofString "_law_meets_once"), i_meets_once),
    ((Str.ofString "_law_all"), i_all),
    ((Str.ofString "_law_due"), i_due_12),
    ((Str.ofString "_law_right"), i_right_7),
    ((Str.ofString "law"), i_law_k53)],
  [((Str.ofString "LEAST_PERIOD"), .int (2)), ((Str.ofString "MOST_PERIOD"), .int (60))],
  [(Str.ofString "all"), (Str.ofString "bool"), (Str.ofString "int"), (Str.ofString "isinstance"), (Str.ofString "len"), (Str.ofString "max"), (Str.ofString "min"), (Str.ofString "range"), (Str.ofString "repr"), (Str.ofString "set"), (Str.ofString "sorted"), (Str.ofString "tuple"), (Str.ofString "zip")], false, false, [], [], [], []⟩
def e0 : Ent := ⟨(Str.ofString "is_integer"), i_is_integer, topS 7, [(Str.ofString "thing")], [(Str.ofString "thing")], false, false, [], []⟩
def e1 : Ent := ⟨(Str.ofString "is_between"), i_is_between, topS 8, [(Str.ofString "thing"), (Str.ofString "low"), (Str.ofString "high")], [(Str.ofString "thing"), (Str.ofString "low"), (Str.ofString "high")], false, false, [], []⟩
def e2 : Ent := ⟨(Str.ofString "is_set"), i_is_set, topS 9, [(Str.ofString "thing"), (Str.ofString "low"), (Str.ofString "high"), (Str.ofString "one"), (Str.ofString "other")], [(Str.ofString "thing"), (Str.ofString "low"), (Str.ofString "high")], false, false, [], []⟩
def e3 : Ent := ⟨(Str.ofString "is_pattern"), i_is_pattern, topS 10, [(Str.ofString "thing")], [(Str.ofString "thing")], false, false, [], []⟩
def e4 : Ent := ⟨(Str.ofString "need_pattern"), i_need_pattern, topS 11, [(Str.ofString "thing")], [(Str.ofString "thing")], false, false, [], []⟩
def e5 : Ent := ⟨(Str.ofString "distances_of"), i_distances_of, topS 13, [(Str.ofString "pattern"), (Str.ofString "period"), (Str.ofString "slots"), (Str.ofString "one"), (Str.ofString "other")], [(Str.ofString "pattern")], false, false, [], []⟩
def e6 : Ent := ⟨(Str.ofString "are_apart"), i_are_apart, topS 14, [(Str.ofString "one"), (Str.ofString "other"), (Str.ofString "distance")], [(Str.ofString "one"), (Str.ofString "other")], false, false, [], []⟩
def e7 : Ent := ⟨(Str.ofString "distances"), i_distances, topS 15, [(Str.ofString "pattern")], [(Str.ofString "pattern")], false, false, [], []⟩
def e8 : Ent := ⟨(Str.ofString "meet_once"), i_meet_once, topS 16, [(Str.ofString "one"), (Str.ofString "other")], [(Str.ofString "one"), (Str.ofString "other")], false, false, [], []⟩
def e9 : Ent := ⟨(Str.ofString "_law_cell"), i_cell_at, topS 18, [(Str.ofString "_law_script"), (Str.ofString "_law_k")], [(Str.ofString "_law_script"), (Str.ofString "_law_k")], false, false, [], []⟩
def e10 : Ent := ⟨(Str.ofString "_law_pen"), i_pen, topS 19, [(Str.ofString "_law_cell_here")], [(Str.ofString "_law_cell_here")], false, false, [], []⟩
def e11 : Ent := ⟨(Str.ofString "_law_draw"), i_draw, topS 20, [(Str.ofString "_law_pen_here"), (Str.ofString "_law_amount"), (Str.ofString "_law_found"), (Str.ofString "_law_mixed")], [(Str.ofString "_law_pen_here"), (Str.ofString "_law_amount")], false, false, [], []⟩
def e12 : Ent := ⟨(Str.ofString "_law_pick"), i_pick, topS 21, [(Str.ofString "_law_pen_here"), (Str.ofString "_law_some")], [(Str.ofString "_law_pen_here"), (Str.ofString "_law_some")], false, false, [], []⟩
def e13 : Ent := ⟨(Str.ofString "_law_same"), i_same, topS 22, [(Str.ofString "_law_found"), (Str.ofString "_law_due_here")], [(Str.ofString "_law_found"), (Str.ofString "_law_due_here")], false, false, [], []⟩
def e14 : Ent := ⟨(Str.ofString "_law_sender"), i_sender, topS 23, [(Str.ofString "_law_pen_here"), (Str.ofString "_law_longest"), (Str.ofString "_law_size"), (Str.ofString "_law_thin"), (Str.ofString "_law_some"), (Str.ofString "_law_at")], [(Str.ofString "_law_pen_here"), (Str.ofString "_law_longest")], false, false, [], []⟩
def e15 : Ent := ⟨(Str.ofString "_law_does_send"), i_does_send, topS 24, [(Str.ofString "_law_one"), (Str.ofString "_law_begin"), (Str.ofString "_law_when")], [(Str.ofString "_law_one"), (Str.ofString "_law_begin"), (Str.ofString "_law_when")], false, false, [], []⟩
def e16 : Ent := ⟨(Str.ofString "_law_meets_once"), i_meets_once, topS 25, [(Str.ofString "_law_one"), (Str.ofString "_law_other"), (Str.ofString "_law_size"), (Str.ofString "_law_begin"), (Str.ofString "_law_some"), (Str.ofString "_law_when")], [(Str.ofString "_law_one"), (Str.ofString "_law_other")], false, false, [], []⟩
def e17 : Ent := ⟨(Str.ofString "_law_all"), i_all, topS 26, [(Str.ofString "_law_size"), (Str.ofString "_law_found"), (Str.ofString "_law_slot"), (Str.ofString "_law_row")], [(Str.ofString "_law_size")], false, false, [], []⟩
def e18 : Ent := ⟨(Str.ofString "_law_due"), i_due_12, topS 27, [(Str.ofString "_law_one"), (Str.ofString "_law_by"), (Str.ofString "_law_slot")], [(Str.ofString "_law_one")], false, false, [], []⟩
def e19 : Ent := ⟨(Str.ofString "_law_right"), i_right_7, topS 28, [(Str.ofString "_law_one"), (Str.ofString "_law_other"), (Str.ofString "_law_kept"), (Str.ofString "_law_due_here"), (Str.ofString "_law_told")], [(Str.ofString "_law_one"), (Str.ofString "_law_other")], false, false, [], []⟩
def e20 : Ent := ⟨(Str.ofString "law"), i_law_k53, topS 29, [(Str.ofString "_law_script"), (Str.ofString "_law_far"), (Str.ofString "_law_near"), (Str.ofString "_law_free"), (Str.ofString "_law_size"), (Str.ofString "_law_one"), (Str.ofString "_law_other"), (Str.ofString "_law_k"), (Str.ofString "_law_pen_here"), (Str.ofString "_law_turn"), (Str.ofString "_law_some"), (Str.ofString "_law_lap"), (Str.ofString "_law_pair")], [(Str.ofString "_law_script")], false, false, [], []⟩
def tab : List Ent := [e0, e1, e2, e3, e4, e5, e6, e7, e8, e9, e10, e11, e12, e13, e14, e15, e16, e17, e18, e19, e20]
theorem t0 : e0.fn S = f_is_integer := by kernel_rfl
theorem t1 : e1.fn S = f_is_between := by kernel_rfl
theorem t2 : e2.fn S = f_is_set := by kernel_rfl
theorem t3 : e3.fn S = f_is_pattern := by kernel_rfl
theorem t4 : e4.fn S = f_need_pattern := by kernel_rfl
theorem t5 : e5.fn S = f_distances_of := by kernel_rfl
theorem t6 : e6.fn S = f_are_apart := by kernel_rfl
theorem t7 : e7.fn S = f_distances := by kernel_rfl
theorem t8 : e8.fn S = f_meet_once := by kernel_rfl
theorem t9 : e9.fn S = f_cell_at := by kernel_rfl
theorem t10 : e10.fn S = f_pen := by kernel_rfl
theorem t11 : e11.fn S = f_draw := by kernel_rfl
theorem t12 : e12.fn S = f_pick := by kernel_rfl
theorem t13 : e13.fn S = f_same := by kernel_rfl
theorem t14 : e14.fn S = f_sender := by kernel_rfl
theorem t15 : e15.fn S = f_does_send := by kernel_rfl
theorem t16 : e16.fn S = f_meets_once := by kernel_rfl
theorem t17 : e17.fn S = f_all := by kernel_rfl
theorem t18 : e18.fn S = f_due_12 := by kernel_rfl
theorem t19 : e19.fn S = f_right_7 := by kernel_rfl
theorem t20 : e20.fn S = f_law_k53 := by kernel_rfl
theorem hT : ∀ e ∈ tab, T e.id = some (e.fn S) := by
  intro e he
  simp only [tab, List.mem_cons, List.not_mem_nil, or_false] at he
  rcases he with rfl | rfl | rfl | rfl | rfl | rfl | rfl | rfl | rfl | rfl | rfl | rfl | rfl | rfl | rfl | rfl | rfl | rfl | rfl | rfl | rfl
  · exact (inferInstance : Has T i_is_integer f_is_integer).h.trans (congrArg some t0.symm)
  · exact (inferInstance : Has T i_is_between f_is_between).h.trans (congrArg some t1.symm)
  · exact (inferInstance : Has T i_is_set f_is_set).h.trans (congrArg some t2.symm)
  · exact (inferInstance : Has T i_is_pattern f_is_pattern).h.trans (congrArg some t3.symm)
  · exact (inferInstance : Has T i_need_pattern f_need_pattern).h.trans (congrArg some t4.symm)
  · exact (inferInstance : Has T i_distances_of f_distances_of).h.trans (congrArg some t5.symm)
  · exact (inferInstance : Has T i_are_apart f_are_apart).h.trans (congrArg some t6.symm)
  · exact (inferInstance : Has T i_distances f_distances).h.trans (congrArg some t7.symm)
  · exact (inferInstance : Has T i_meet_once f_meet_once).h.trans (congrArg some t8.symm)
  · exact (inferInstance : Has T i_cell_at f_cell_at).h.trans (congrArg some t9.symm)
  · exact (inferInstance : Has T i_pen f_pen).h.trans (congrArg some t10.symm)
  · exact (inferInstance : Has T i_draw f_draw).h.trans (congrArg some t11.symm)
  · exact (inferInstance : Has T i_pick f_pick).h.trans (congrArg some t12.symm)
  · exact (inferInstance : Has T i_same f_same).h.trans (congrArg some t13.symm)
  · exact (inferInstance : Has T i_sender f_sender).h.trans (congrArg some t14.symm)
  · exact (inferInstance : Has T i_does_send f_does_send).h.trans (congrArg some t15.symm)
  · exact (inferInstance : Has T i_meets_once f_meets_once).h.trans (congrArg some t16.symm)
  · exact (inferInstance : Has T i_all f_all).h.trans (congrArg some t17.symm)
  · exact (inferInstance : Has T i_due_12 f_due_12).h.trans (congrArg some t18.symm)
  · exact (inferInstance : Has T i_right_7 f_right_7).h.trans (congrArg some t19.symm)
  · exact (inferInstance : Has T i_law_k53 f_law_k53).h.trans (congrArg some t20.symm)
theorem hU : ∀ e ∈ tab, ∀ p ∈ e.use, ∃ e' ∈ tab, p = (e'.name, e'.id) := by
  intro e he
  simp only [tab, List.mem_cons, List.not_mem_nil, or_false] at he
  rcases he with rfl | rfl | rfl | rfl | rfl | rfl | rfl | rfl | rfl | rfl | rfl | rfl | rfl | rfl | rfl | rfl | rfl | rfl | rfl | rfl | rfl
  · intro p hp; cases hp
  · intro p hp; cases hp
  · intro p hp; cases hp
  · intro p hp; cases hp
  · intro p hp; cases hp
  · intro p hp; cases hp
  · intro p hp; cases hp
  · intro p hp; cases hp
  · intro p hp; cases hp
  · intro p hp; cases hp
  · intro p hp; cases hp
  · intro p hp; cases hp
  · intro p hp; cases hp
  · intro p hp; cases hp
  · intro p hp; cases hp
  · intro p hp; cases hp
  · intro p hp; cases hp
  · intro p hp; cases hp
  · intro p hp; cases hp
  · intro p hp; cases hp
  · intro p hp; cases hp
theorem hW : ∀ q ∈ S.kws, ∃ e ∈ tab, q.1 = e.name ∧ q.2.2.1 = e.id ∧ (q.2.1, q.2.2.2) ∈ e.kws := by
  intro q hq
  simp only [S, List.mem_cons, List.not_mem_nil, or_false] at hq
  
theorem sc0 : FnScope e0.N e0.ps (defScope e0.st) := ⟨rfl, rfl, rfl, by decide +kernel, rfl, by decide +kernel, by decide +kernel⟩
theorem sc1 : FnScope e1.N e1.ps (defScope e1.st) := ⟨rfl, rfl, rfl, by decide +kernel, rfl, by decide +kernel, by decide +kernel⟩
theorem sc2 : FnScope e2.N e2.ps (defScope e2.st) := ⟨rfl, rfl, rfl, by decide +kernel, rfl, by decide +kernel, by decide +kernel⟩
theorem sc3 : FnScope e3.N e3.ps (defScope e3.st) := ⟨rfl, rfl, rfl, by decide +kernel, rfl, by decide +kernel, by decide +kernel⟩
theorem sc4 : FnScope e4.N e4.ps (defScope e4.st) := ⟨rfl, rfl, rfl, by decide +kernel, rfl, by decide +kernel, by decide +kernel⟩
theorem sc5 : FnScope e5.N e5.ps (defScope e5.st) := ⟨rfl, rfl, rfl, by decide +kernel, rfl, by decide +kernel, by decide +kernel⟩
theorem sc6 : FnScope e6.N e6.ps (defScope e6.st) := ⟨rfl, rfl, rfl, by decide +kernel, rfl, by decide +kernel, by decide +kernel⟩
theorem sc7 : FnScope e7.N e7.ps (defScope e7.st) := ⟨rfl, rfl, rfl, by decide +kernel, rfl, by decide +kernel, by decide +kernel⟩
theorem sc8 : FnScope e8.N e8.ps (defScope e8.st) := ⟨rfl, rfl, rfl, by decide +kernel, rfl, by decide +kernel, by decide +kernel⟩
theorem sc9 : FnScope e9.N e9.ps (defScope e9.st) := ⟨rfl, rfl, rfl, by decide +kernel, rfl, by decide +kernel, by decide +kernel⟩
theorem sc10 : FnScope e10.N e10.ps (defScope e10.st) := ⟨rfl, rfl, rfl, by decide +kernel, rfl, by decide +kernel, by decide +kernel⟩
theorem sc11 : FnScope e11.N e11.ps (defScope e11.st) := ⟨rfl, rfl, rfl, by decide +kernel, rfl, by decide +kernel, by decide +kernel⟩
theorem sc12 : FnScope e12.N e12.ps (defScope e12.st) := ⟨rfl, rfl, rfl, by decide +kernel, rfl, by decide +kernel, by decide +kernel⟩
theorem sc13 : FnScope e13.N e13.ps (defScope e13.st) := ⟨rfl, rfl, rfl, by decide +kernel, rfl, by decide +kernel, by decide +kernel⟩
theorem sc14 : FnScope e14.N e14.ps (defScope e14.st) := ⟨rfl, rfl, rfl, by decide +kernel, rfl, by decide +kernel, by decide +kernel⟩
theorem sc15 : FnScope e15.N e15.ps (defScope e15.st) := ⟨rfl, rfl, rfl, by decide +kernel, rfl, by decide +kernel, by decide +kernel⟩
theorem sc16 : FnScope e16.N e16.ps (defScope e16.st) := ⟨rfl, rfl, rfl, by decide +kernel, rfl, by decide +kernel, by decide +kernel⟩
theorem sc17 : FnScope e17.N e17.ps (defScope e17.st) := ⟨rfl, rfl, rfl, by decide +kernel, rfl, by decide +kernel, by decide +kernel⟩
theorem sc18 : FnScope e18.N e18.ps (defScope e18.st) := ⟨rfl, rfl, rfl, by decide +kernel, rfl, by decide +kernel, by decide +kernel⟩
theorem sc19 : FnScope e19.N e19.ps (defScope e19.st) := ⟨rfl, rfl, rfl, by decide +kernel, rfl, by decide +kernel, by decide +kernel⟩
theorem sc20 : FnScope e20.N e20.ps (defScope e20.st) := ⟨rfl, rfl, rfl, by decide +kernel, rfl, by decide +kernel, by decide +kernel⟩
theorem ents {K : PySem.W.Frag} {h : Heap} {mg : Str → Option Value} (X : K.In h) (G : h.Ns mainGlobals mg)
    (x0 : EntOk K mg e0)
    (x1 : EntOk K mg e1)
    (x2 : EntOk K mg e2)
    (x3 : EntOk K mg e3)
    (x4 : EntOk K mg e4)
    (x5 : EntOk K mg e5)
    (x6 : EntOk K mg e6)
    (x7 : EntOk K mg e7)
    (x8 : EntOk K mg e8)
    (x9 : EntOk K mg e9)
    (x10 : EntOk K mg e10)
    (x11 : EntOk K mg e11)
    (x12 : EntOk K mg e12)
    (x13 : EntOk K mg e13)
    (x14 : EntOk K mg e14)
    (x15 : EntOk K mg e15)
    (x16 : EntOk K mg e16)
    (x17 : EntOk K mg e17)
    (x18 : EntOk K mg e18)
    (x19 : EntOk K mg e19)
    (x20 : EntOk K mg e20)
    : ∀ e ∈ tab, EntOk K mg e := by
  intro e he
  simp only [tab, List.mem_cons, List.not_mem_nil, or_false] at he
  rcases he with rfl | rfl | rfl | rfl | rfl | rfl | rfl | rfl | rfl | rfl | rfl | rfl | rfl | rfl | rfl | rfl | rfl | rfl | rfl | rfl | rfl
  · exact x0
  · exact x1
  · exact x2
  · exact x3
  · exact x4
  · exact x5
  · exact x6
  · exact x7
  · exact x8
  · exact x9
  · exact x10
  · exact x11
  · exact x12
  · exact x13
  · exact x14
  · exact x15
  · exact x16
  · exact x17
  · exact x18
  · exact x19
  · exact x20
theorem law_true : ∀ ns : List Int, ns.length ≤ 63 → ∃ fr ss, evF T WW 30 i_law_k53 [(scr (ns.map PyData.int), false)] = some (.bool true, fr, ss) := fun ns hn => plain_k53 ns hn
end LW
open PySem PySem.W PyProof.Rows LW
set_option maxHeartbeats 0 in
theorem PySem.Challenge.cw_anyshift_k53_distances_and_meeting_once_holds : PySem.Challenge.rw_anyshift_k53_distances_and_meeting_once.Holds := by
  w_on; o_law; k_head; (case hw => w_witness2)
  k_fill
  refine MI.walk_g (l := PySem.Challenge.rw_anyshift_k53_distances_and_meeting_once) (n := 63) (k := 30) (id := i_law_k53) (x := Str.ofString "_law_script") (F := MI.evF T WW 30) rfl (by decide) rfl ⟨rfl, by decide, by decide⟩ (fun w h Y => PySem.W.kIn_of Y) ?F law_true
  case F =>
    intro w mg fa h KX G hmg
    refine' MI.law_ok (e := e20) (T := T) (W := WW) (S := S) (tab := tab) (x := Str.ofString "_law_script") (by simp [tab]) rfl hmg rfl hT hU hW ?E ?C ?B
    case E =>
      refine' ents KX G ?x0 ?x1 ?x2 ?x3 ?x4 ?x5 ?x6 ?x7 ?x8 ?x9 ?x10 ?x11 ?x12 ?x13 ?x14 ?x15 ?x16 ?x17 ?x18 ?x19 ?x20
      case x0 => (refine' MI.ent_ok KX G ?a ?l ?c ?k (fun us hl => match us, hl with | [_], _ => rfl) (fun q hq => absurd hq List.not_mem_nil) sc0; (case a => k_is); (case l => k_is); (case c => k_is); (case k => k_is))
      case x1 => (refine' MI.ent_ok KX G ?a ?l ?c ?k (fun us hl => match us, hl with | [_, _, _], _ => rfl) (fun q hq => absurd hq List.not_mem_nil) sc1; (case a => k_is); (case l => k_is); (case c => k_is); (case k => k_is))
      case x2 => (refine' MI.ent_ok KX G ?a ?l ?c ?k (fun us hl => match us, hl with | [_, _, _], _ => rfl) (fun q hq => absurd hq List.not_mem_nil) sc2; (case a => k_is); (case l => k_is); (case c => k_is); (case k => k_is))
      case x3 => (refine' MI.ent_ok KX G ?a ?l ?c ?k (fun us hl => match us, hl with | [_], _ => rfl) (fun q hq => absurd hq List.not_mem_nil) sc3; (case a => k_is); (case l => k_is); (case c => k_is); (case k => k_is))
      case x4 => (refine' MI.ent_ok KX G ?a ?l ?c ?k (fun us hl => match us, hl with | [_], _ => rfl) (fun q hq => absurd hq List.not_mem_nil) sc4; (case a => k_is); (case l => k_is); (case c => k_is); (case k => k_is))
      case x5 => (refine' MI.ent_ok KX G ?a ?l ?c ?k (fun us hl => match us, hl with | [_], _ => rfl) (fun q hq => absurd hq List.not_mem_nil) sc5; (case a => k_is); (case l => k_is); (case c => k_is); (case k => k_is))
      case x6 => (refine' MI.ent_ok KX G ?a ?l ?c ?k (fun us hl => match us, hl with | [_, _], _ => rfl) (fun q hq => absurd hq List.not_mem_nil) sc6; (case a => k_is); (case l => k_is); (case c => k_is); (case k => k_is))
      case x7 => (refine' MI.ent_ok KX G ?a ?l ?c ?k (fun us hl => match us, hl with | [_], _ => rfl) (fun q hq => absurd hq List.not_mem_nil) sc7; (case a => k_is); (case l => k_is); (case c => k_is); (case k => k_is))
      case x8 => (refine' MI.ent_ok KX G ?a ?l ?c ?k (fun us hl => match us, hl with | [_, _], _ => rfl) (fun q hq => absurd hq List.not_mem_nil) sc8; (case a => k_is); (case l => k_is); (case c => k_is); (case k => k_is))
      case x9 => (refine' MI.ent_ok KX G ?a ?l ?c ?k (fun us hl => match us, hl with | [_, _], _ => rfl) (fun q hq => absurd hq List.not_mem_nil) sc9; (case a => k_is); (case l => k_is); (case c => k_is); (case k => k_is))
      case x10 => (refine' MI.ent_ok KX G ?a ?l ?c ?k (fun us hl => match us, hl with | [_], _ => rfl) (fun q hq => absurd hq List.not_mem_nil) sc10; (case a => k_is); (case l => k_is); (case c => k_is); (case k => k_is))
      case x11 => (refine' MI.ent_ok KX G ?a ?l ?c ?k (fun us hl => match us, hl with | [_, _], _ => rfl) (fun q hq => absurd hq List.not_mem_nil) sc11; (case a => k_is); (case l => k_is); (case c => k_is); (case k => k_is))
      case x12 => (refine' MI.ent_ok KX G ?a ?l ?c ?k (fun us hl => match us, hl with | [_, _], _ => rfl) (fun q hq => absurd hq List.not_mem_nil) sc12; (case a => k_is); (case l => k_is); (case c => k_is); (case k => k_is))
      case x13 => (refine' MI.ent_ok KX G ?a ?l ?c ?k (fun us hl => match us, hl with | [_, _], _ => rfl) (fun q hq => absurd hq List.not_mem_nil) sc13; (case a => k_is); (case l => k_is); (case c => k_is); (case k => k_is))
      case x14 => (refine' MI.ent_ok KX G ?a ?l ?c ?k (fun us hl => match us, hl with | [_, _], _ => rfl) (fun q hq => absurd hq List.not_mem_nil) sc14; (case a => k_is); (case l => k_is); (case c => k_is); (case k => k_is))
      case x15 => (refine' MI.ent_ok KX G ?a ?l ?c ?k (fun us hl => match us, hl with | [_, _, _], _ => rfl) (fun q hq => absurd hq List.not_mem_nil) sc15; (case a => k_is); (case l => k_is); (case c => k_is); (case k => k_is))
      case x16 => (refine' MI.ent_ok KX G ?a ?l ?c ?k (fun us hl => match us, hl with | [_, _], _ => rfl) (fun q hq => absurd hq List.not_mem_nil) sc16; (case a => k_is); (case l => k_is); (case c => k_is); (case k => k_is))
      case x17 => (refine' MI.ent_ok KX G ?a ?l ?c ?k (fun us hl => match us, hl with | [_], _ => rfl) (fun q hq => absurd hq List.not_mem_nil) sc17; (case a => k_is); (case l => k_is); (case c => k_is); (case k => k_is))
      case x18 => (refine' MI.ent_ok KX G ?a ?l ?c ?k (fun us hl => match us, hl with | [_], _ => rfl) (fun q hq => absurd hq List.not_mem_nil) sc18; (case a => k_is); (case l => k_is); (case c => k_is); (case k => k_is))
      case x19 => (refine' MI.ent_ok KX G ?a ?l ?c ?k (fun us hl => match us, hl with | [_, _], _ => rfl) (fun q hq => absurd hq List.not_mem_nil) sc19; (case a => k_is); (case l => k_is); (case c => k_is); (case k => k_is))
      case x20 => (refine' MI.ent_ok KX G ?a ?l ?c ?k (fun us hl => match us, hl with | [_], _ => rfl) (fun q hq => absurd hq List.not_mem_nil) sc20; (case a => k_is); (case l => k_is); (case c => k_is); (case k => k_is))
    case C =>
      intro p hp
      simp only [S, List.mem_cons, List.not_mem_nil, or_false] at hp
      rcases hp with rfl | rfl
      · (refine' MI.cst_i KX G ?qz; (case qz => k_is))
      · (refine' MI.cst_i KX G ?qz; (case qz => k_is))
    case B =>
      refine MI.blt_all fun y hy => ?_
      simp only [S, List.mem_cons, List.not_mem_nil, or_false] at hy
      rcases hy with rfl | rfl | rfl | rfl | rfl | rfl | rfl | rfl | rfl | rfl | rfl | rfl | rfl
      · (refine' PySem.W.mg_none_of KX G ?qz; (case qz => k_is))
      · (refine' PySem.W.mg_none_of KX G ?qz; (case qz => k_is))
      · (refine' PySem.W.mg_none_of KX G ?qz; (case qz => k_is))
      · (refine' PySem.W.mg_none_of KX G ?qz; (case qz => k_is))
      · (refine' PySem.W.mg_none_of KX G ?qz; (case qz => k_is))
      · (refine' PySem.W.mg_none_of KX G ?qz; (case qz => k_is))
      · (refine' PySem.W.mg_none_of KX G ?qz; (case qz => k_is))
      · (refine' PySem.W.mg_none_of KX G ?qz; (case qz => k_is))
      · (refine' PySem.W.mg_none_of KX G ?qz; (case qz => k_is))
      · (refine' PySem.W.mg_none_of KX G ?qz; (case qz => k_is))
      · (refine' PySem.W.mg_none_of KX G ?qz; (case qz => k_is))
      · (refine' PySem.W.mg_none_of KX G ?qz; (case qz => k_is))
      · (refine' PySem.W.mg_none_of KX G ?qz; (case qz => k_is))
