import PyProof.Rows.All
import Wide.All
import OpenK.AllK
import Wide.FinOn
import HandS.ForMost
import HandS.Walk
import HandS.IsInst
import HandS.TupAny
import HandS.TupMul
import HandS.SortInts
import HandS.Zip
import HandS.Style
import HandS.Conv
import HandS.Strs
import HandS.SetFor
import KE.DataMinMax
import KE.DataFind
import KE.SortData
import HandS.Text
import HandS.SortOrd
import HandS.Lambda
import KE.GoesZip
import KE.GoesEnum
import KE.KRevSl
import HandS.Star
import HandS.TupSets
import HandS.ForExc
import HandS.ExcOwn
import HandS.HotCalls
import HandS.Property
import HandS.FStr
import KE.KCallOwn
import PyProof.InstNe
import PyProof.EqKinds
import PyProof.NeKinds
import HandS.OwnEq
import PySem.Challenge.RW_anyshift_k13_what_is_heard_and_counted
set_option Elab.async false
set_option linter.all false
set_option maxRecDepth 100000
set_option maxHeartbeats 4000000
/-! MI0: a small interpreter over data: its syntax, its values, its evaluation. -/
namespace MI
open PySem
abbrev D := PyData
/-- whether tuples of one's own are data; where they are not, dicts may have tuples for keys -/
noncomputable def fzB : Bool := true
/-- a variable: unset, a datum that stands still, a list or dict that this variable alone holds -/
inductive Slot where
  | no
  | dat (d : PyData)
  | own (d : PyData)
  /-- an exception that is handled: its class's number, or that with its two fields -/
  | exc (d : PyData)
abbrev Rho := List Slot
inductive Bop where
  | add | sub | mul | fdiv | mod | pow | shr | band
  deriving DecidableEq
inductive Cop where
  | eq | ne | lt | le | gt | ge | isin | notin
  deriving DecidableEq
/-- built-ins over values -/
inductive Bi where
  | len | all | any | tuple | list | sorted | sum | max1 | min1 | max2 | min2 | repr | str | int | isInt | isBool | isTuple | isStr | isList
  deriving DecidableEq
/-- methods of texts -/
inductive Met where
  | split | part | count | find
  deriving DecidableEq
/-- targets -/
inductive MT where
  | nm (i : Nat) | tp (ts : MT) | nil | cons (a r : MT)
/-- expressions; lists of them by nil, cons, star -/
inductive ME where
  | lit (d : PyData)
  | var (i : Nat)
  | bin (op : Bop) (a b : ME)
  | neg (a : ME)
  | not (a : ME)
  | and (a b : ME)
  | or (a b : ME)
  | cmp (op : Cop) (a b : ME)
  | cmp2 (op op' : Cop) (a b c : ME)
  | isN (a : ME)
  | notN (a : ME)
  | ite (c a b : ME)
  | call (f : Nat) (as : ME)
  | callF (f : Nat) (a as : ME)
  | callV (f : Nat) (as : ME)
  | callK (f : Nat) (l : List Nat) (as : ME)
  | join (z : Str) (a : ME)
  | bi (b : Bi) (as : ME)
  | idx (a i : ME)
  | sl (a lo hi : ME)
  | tup (as : ME)
  | lst (as : ME)
  | dic
  | dicT
  | comp (vs : List Nat) (tg : MT) (it c e : ME)
  | comp2 (vs vs1 : List Nat) (tg : MT) (it c : ME) (tg1 : MT) (it1 c1 e : ME)
  | rng1 (a : ME) | rng2 (a b : ME) | rng3 (a b c : ME)
  | enm (a : ME) | zp (a b : ME) | zp3 (a b c : ME)
  | cnt (i : Nat) (e : ME) | pop (i : Nat) | popAt (i : Nat) (e : ME)
  | sset (a : ME) | isB (b : Bool) (a : ME) | rev (a : ME) | cv (t : Bool) (it : ME)
  | ix (i : Nat) (e : ME) | nisB (b : Bool) (a : ME) | disp (ks : List Int) (as : ME) | dget (a k e : ME) | lset (a : ME)
  | met (m : Met) (a e : ME) | gget (es : List (Int × Str)) (k e : ME)
  | isx (i : Nat) (l : List Bool)
  | wrd (i : Nat) (l : List (Str × Bool))
  /-- .. behind a text; a text and the exception's two fields -/
  | wrdP (z : Str) (i : Nat) (l : List (Str × Bool)) | xrep (z : Str) (i : Nat) (x1 x2 : Str) | xtup (i : Nat) (x1 x2 : Str)
  /-- a def that tells of which of some classes the exception is, a new list -/
  | mrk (i : Nat) (l : List (List Bool))
  | told (f x : Nat) (l : List Str) (as : ME)
  /-- a new object of a class: its making, what is handed to it -/
  | mk (c f : Nat) (as : ME)
  /-- an object's attribute; a constant by class -/
  | fld (x : Str) (a : ME) | con (x : Str) (l : List PyData) (a : ME)
  /-- a def of the object's class, by class -/
  | meth (ck : Nat) (x : Str) (l : List Nat) (a as : ME)
  /-- .. of the second operand, with the first -/
  | inO (b : Bool) (l : List Nat) (a o : ME)
  | opO (ck : Nat) (l : List Nat) (a b : ME)
  /-- a value of which it is forgotten that it is one's own -/
  | still (a : ME)
  /-- list(..).count(..) -/
  | cntL (a e : ME)
  /-- f(x, C(..), ..): x a list of one's own, lent; the second is new -/
  | callG (f i : Nat) (b as : ME)
  /-- == and != where an object stands on a side: the defs behind __eq__ by class, who is asked first -/
  | eqO (n : Bool) (l : List Nat) (nf : List (List Bool)) (a b : ME)
  /-- .. that only looks at what it is handed -/
  | methV (x : Str) (l : List Nat) (a as : ME)
  /-- what is raised, then what is told -/
  | toldE (l : List Str) (x m : ME)
  /-- repr of data, of an object, of a tuple with objects, by class -/
  | rep (l : List Nat) (a : ME)
  | fst (as : ME)
  | isO (l : List Bool) (a : ME)
  | it (a : ME) | tst (a : ME)
  | nil | cons (a r : ME) | star (a r : ME)
/-- statements; blocks by seq -/
inductive MS where
  | skip
  | seq (s t : MS)
  | asg (tg : MT) (e : ME)
  | par (tg : MT) (es : ME)
  | parS (i : Nat) (f : Option Nat) (a : ME) (j : Nat) (g : Option Nat) (b : ME)
  | put (i : Nat) (k e : ME)
  | put2 (i : Nat) (k : ME) (j : Nat) (es : ME)
  | app (i : Nat) (e : ME)
  | ext (i : Nat) (e : ME)
  | expr (e : ME)
  | ret (e : ME)
  | ite (c : ME) (s t : MS)
  | loop (tg : MT) (it : ME) (s : MS)
  | while (c : ME) (s : MS)
  | asgO (i f : Nat) (as : ME)
  | putA (i : Nat) (x : Str) (e : ME)
  | retO (f : Nat) (as : ME)
  | retT (e : ME)
  /-- for x in (e, ..): .. over new objects -/
  | loopO (i : Nat) (es : ME) (s : MS)
  /-- .. over variables that hold objects of one's own -/
  | loopV (i : Nat) (js : List Nat) (s : MS)
  | brk | cont
  | stuck
  /-- what a def raises: whether a call does (its number is told) -/
  | chk (f : Nat) (as : ME)
  /-- .. whether a statement x does; if not it goes on as m, then r -/
  | xs (x m r : MS)
/-! ### values -/
/-- the script: a list that nobody may change -/
noncomputable def scr (ds : List PyData) : PyData := .dict [(.none, .list ds)]
noncomputable def ixOf (n : Nat) (i : Int) : Option Nat :=
  if 0 ≤ i then (if i < n then some i.toNat else none)
  else if -(n : Int) ≤ i then some (i + n).toNat else none
/-- where a slice's part falls -/
noncomputable def cutIx (n d : Nat) : Option Int → Nat
  | none => d
  | some i => if i < 0 then (i + (n : Int)).toNat else min i.toNat n
noncomputable def cut {α : Type} (xs : List α) (lo hi : Option Int) : List α :=
  let a := cutIx xs.length 0 lo
  let b := cutIx xs.length xs.length hi
  (xs.drop a).take (b - a)
noncomputable def flat : PyData → Bool
  | .none => true | .bool _ => true | .int _ => true | .str _ => true
  | _ => false
/-- equality of flat values -/
noncomputable def eqF : PyData → PyData → Bool
  | .none, .none => true
  | .bool a, .bool b => a == b
  | .bool a, .int b => (if a then 1 else 0) == b
  | .int a, .bool b => a == (if b then 1 else 0)
  | .int a, .int b => a == b
  | .str a, .str b => a == b
  | _, _ => false
noncomputable def isNone : PyData → Bool
  | .none => true
  | _ => false
noncomputable def isTup : PyData → Bool
  | .tuple _ => true
  | _ => false
/-- the order of two can be asked -/
noncomputable def ord2 (a b : PyData) : Bool := PySem.W.alike a b && !isNone a && decide (a.depth ≤ 32) && !a.hasDict && !b.hasDict
/-- .. of each two -/
noncomputable def ordOk (xs : List PyData) : Bool := (xs.all fun a => !isNone a && xs.all fun b => PySem.W.alike a b) && decide (PyData.depthAll xs ≤ 32) && !PyData.hasDictAll xs
noncomputable def small (i : Int) : Bool := decide (-(2 ^ 64) < i) && decide (i < 2 ^ 64)
noncomputable def binD : Bop → PyData → PyData → Option (PyData × Bool)
  | .add, a, b => match a, b with
    | .int a, .int b => some (.int (a + b), false)
    | .list a, .list b => if a.length + b.length ≤ sizeLine then some (.list (a ++ b), true) else none
    | .tuple a, .tuple b => if a.length + b.length ≤ sizeLine then some (.tuple (a ++ b), false) else none
    | .str a, .str b => if a.length + b.length ≤ sizeLine then some (.str (a ++ b), false) else none
    | _, _ => none
  | .sub, a, b => match a, b with
    | .int a, .int b => some (.int (a - b), false)
    | _, _ => none
  | .mul, a, b => match a, b with
    | .int a, .int b => if small a || small b then some (.int (a * b), false) else none
    | .list a, .int k => if -(2 ^ 63) ≤ k ∧ k < 2 ^ 63 ∧ a.length * k.toNat ≤ sizeLine then some (.list (List.replicate k.toNat a).flatten, true) else none
    | .tuple a, .int k => if a ≠ [] ∧ 1 ≤ k ∧ k ≤ 4000 ∧ a.length ≤ 1000 then some (.tuple (List.replicate k.toNat a).flatten, false) else none
    | .str a, .int k => if a.length ≠ 0 ∧ 2 ≤ k ∧ k ≤ 4000 ∧ a.length ≤ 1000 then some (.str ⟨(List.replicate k.toNat a.cps).foldl (· ++ ·) #[]⟩, false) else none
    | _, _ => none
  | .fdiv, a, b => match a, b with
    | .int a, .int b => if 0 < b ∧ b < 1073741824 then some (.int (a / b), false) else none
    | _, _ => none
  | .mod, a, b => match a, b with
    | .int a, .int b => if 0 < b then some (.int (a % b), false) else none
    | _, _ => none
  | .shr, a, b => match a, b with
    | .int a, .int b => if 0 ≤ b then some (.int (a / 2 ^ b.toNat), false) else none
    | _, _ => none
  | .band, a, b => match a, b with
    | .int a, .int b => some (.int (Builtin.bitAnd a b), false)
    | _, _ => none
  | .pow, a, b => match a, b with
    | .int a, .int b => if 0 ≤ b ∧ b ≤ 1000000 ∧ a.natAbs < 2 ^ 64 then some (.int (a ^ b.toNat), false) else none
    | _, _ => none
/-- in another order -/
noncomputable def permL {α : Type} (l : List Nat) (xs : List α) : List α := l.filterMap (fun i => xs[i]?)
/-- a text stands in another -/
noncomputable def isSub (x y : Str) : Bool := !(Builtin.Str.occurrences y x 0 y.length 1).isEmpty
noncomputable def intsOf : List PyData → Option (List Int)
  | [] => some []
  | .int i :: r => (intsOf r).map (i :: ·)
  | _ :: _ => none
noncomputable def lay : PyData → Bool := SeqAt.shaped
/-- keys of dicts: ints and texts -/
noncomputable def isKey : PyData → Bool
  | .int _ => true
  | .str _ => true
  | _ => false
noncomputable def eqK : PyData → PyData → Bool
  | .int a, .int b => decide (a = b)
  | .str a, .str b => decide (a = b)
  | _, _ => false
/-- keys that are tuples of ints -/
noncomputable def tupI : PyData → Option (List Int)
  | .tuple xs => intsOf xs
  | _ => none
/-- a dict with such keys begins with this -/
noncomputable def tMark : PyData × PyData := (.list [], .none)
noncomputable def tGet (es : List (PyData × PyData)) (k : List Int) : Option PyData := (es.find? fun p => decide (tupI p.1 = some k)).map (·.2)
noncomputable def tPut (es : List (PyData × PyData)) (k : List Int) (v : PyData) : List (PyData × PyData) :=
  if (es.any fun p => decide (tupI p.1 = some k)) = true then es.map (fun p => if tupI p.1 = some k then (p.1, v) else p) else es ++ [(.tuple (k.map .int), v)]
noncomputable def isScr : List (PyData × PyData) → Bool
  | (.none, _) :: _ => true
  | (.list _, _) :: _ => true
  | (.tuple _, _) :: _ => true
  | _ => false
noncomputable def dGet (es : List (PyData × PyData)) (k : PyData) : Option PyData := (es.find? fun p => eqK p.1 k).map (·.2)
noncomputable def getD : PyData → PyData → PyData → Option PyData
  | .dict es, k, e => if isKey k && !isScr es then some ((dGet es k).getD e) else none
  | _, _, _ => none
noncomputable def dPut (es : List (PyData × PyData)) (k v : PyData) : List (PyData × PyData) :=
  if (es.any fun p => eqK p.1 k) = true then es.map (fun p => if eqK p.1 k then (p.1, v) else p) else es ++ [(k, v)]
noncomputable def inD (x : PyData) (ys : List PyData) : Option Bool := if flat x && ys.all flat then some (ys.any fun y => eqF y x)
  else if !x.hasDict && !PyData.hasDictAll ys && decide (x.depth ≤ 32) then some (ys.any fun y => PyData.eqv y x) else none
noncomputable def cmpD : Cop → PyData → PyData → Option Bool
  | .eq, a, b => match a, b with
    | .int a, .int b => some (decide (a = b))
    | .str a, .str b => some (decide (a = b))
    | a, b => if lay a && lay b then some (PyData.eqv a b) else none
  | .ne, a, b => match a, b with
    | .int a, .int b => some (!decide (a = b))
    | .str a, .str b => some (!decide (a = b))
    | a, b => if lay a && lay b then some (!PyData.eqv a b) else none
  | .lt, a, b => match a, b with
    | .int a, .int b => some (decide (a < b))
    | a, b => if ord2 a b then some (PySem.W.dataLt a b) else none
  | .le, a, b => match a, b with
    | .int a, .int b => some (decide (a ≤ b))
    | a, b => if ord2 a b then some (!PySem.W.dataLt b a) else none
  | .gt, a, b => match a, b with
    | .int a, .int b => some (decide (b < a))
    | a, b => if ord2 a b then some (PySem.W.dataLt b a) else none
  | .ge, a, b => match a, b with
    | .int a, .int b => some (decide (b ≤ a))
    | a, b => if ord2 a b then some (!PySem.W.dataLt a b) else none
  | .isin, a, b => match a, b with
    | .str x, .str y => some (isSub x y)
    | x, .list ys => inD x ys
    | x, .tuple ys => inD x ys
    | x, .dict ((.list [], .none) :: es) => (tupI x).map fun k => (tGet es k).isSome
    | x, .dict es => if isKey x && !isScr es then some (dGet es x).isSome else none
    | _, _ => none
  | .notin, a, b => match a, b with
    | .str x, .str y => some (!isSub x y)
    | x, .dict ((.list [], .none) :: es) => (tupI x).map fun k => !(tGet es k).isSome
    | x, .dict es => if isKey x && !isScr es then some (!(dGet es x).isSome) else none
    | x, .list ys => (inD x ys).map (!·)
    | x, .tuple ys => (inD x ys).map (!·)
    | _, _ => none
noncomputable def idxD : PyData → PyData → Option PyData
  | .list xs, .int i => (ixOf xs.length i).bind (xs[·]?)
  | .tuple xs, .int i => (ixOf xs.length i).bind (xs[·]?)
  | .dict [(.none, .list xs)], .int i => (ixOf xs.length i).bind (xs[·]?)
  | .str z, .int i => if z.length ≤ sizeLine then ((ixOf z.cps.toList.length i).bind (z.cps.toList[·]?)).map fun c => .str ⟨#[c]⟩ else none
  | _, _ => none
noncomputable def slD : PyData → Option Int → Option Int → Option (PyData × Bool)
  | .list xs, lo, hi => some (.list (cut xs lo hi), true)
  | .dict [(.none, .list xs)], lo, hi => some (.list (cut xs lo hi), true)
  | .tuple xs, lo, hi => some (.tuple (cut xs lo hi), false)
  | .str z, lo, hi => if z.length ≤ sizeLine then some (.str ⟨(cut z.cps.toList lo hi).toArray⟩, false) else none
  | _, _, _ => none
noncomputable def boolsOf : List PyData → Option (List Bool)
  | [] => some []
  | .bool b :: r => (boolsOf r).map (b :: ·)
  | _ :: _ => none
noncomputable def starOf : PyData → Option (List PyData)
  | .list xs => some xs
  | .tuple xs => some xs
  | _ => none
/-- objects: the class's number first, then the attributes -/
noncomputable def oMark (c : Nat) : PyData × PyData := (.tuple [], .int c)
noncomputable def objD (c : Nat) (fs : List (Str × PyData)) : PyData := .dict (oMark c :: fs.map fun p => (.str p.1, p.2))
noncomputable def clsD : PyData → Option Nat
  | .dict ((.tuple [], .int (.ofNat c)) :: _) => some c
  | _ => none
noncomputable def fldD (x : Str) : PyData → Option PyData
  | .dict ((.tuple [], .int (.ofNat _)) :: es) => dGet es (.str x)
  | _ => none
noncomputable def putE (x : Str) (v : PyData) : List (PyData × PyData) → List (PyData × PyData)
  | [] => [(.str x, v)]
  | (k, w) :: r => if eqK k (.str x) then (.str x, v) :: r else (k, w) :: putE x v r
noncomputable def setD (x : Str) (v : PyData) : PyData → Option PyData
  | .dict ((.tuple [], .int (.ofNat c)) :: es) => if es.length < 900 then some (.dict ((.tuple [], .int (.ofNat c)) :: putE x v es)) else none
  | _ => none
/-- what the answer of a def behind an operator may be -/
noncomputable def ckD : Nat → PyData → Option PyData
  | 0, d => some d
  | 1, .int i => if 0 ≤ i ∧ i < 2 ^ 63 then some (.int i) else none
  | 2, .str z => some (.str z)
  | 3, .bool b => some (.bool b)
  | 4, .bool b => some (.bool !b)
  | _, _ => none
/-- isinstance of an own class -/
noncomputable def isoD (l : List Bool) : PyData → Option Bool
  | .none => some false
  | .bool _ => some false
  | .int _ => some false
  | .str _ => some false
  | .tuple _ => some false
  | .list _ => some false
  | .dict ((.tuple [], .int (.ofNat c)) :: _) => l[c]?
  | .dict es => if isScr es then none else some false
/-- the parts of a text, in a row -/
noncomputable def fstD : Str → List PyData → Option Str
  | acc, [] => some acc
  | acc, .str z :: r => if z.length ≤ sizeLine ∧ (acc ++ z).length ≤ sizeLine then fstD (acc ++ z) r else none
  | acc, .int i :: r => if i.natAbs.log2 < 1920 ∧ (acc ++ Str.ofString (toString i)).length ≤ sizeLine then fstD (acc ++ Str.ofString (toString i)) r else none
  | _, _ :: _ => none
/-- what is walked over: a list, a tuple, a text -/
noncomputable def seqOf : PyData → Option (List PyData)
  | .list xs => some xs
  | .tuple xs => some xs
  | .str z => some (z.cps.toList.map fun c => .str ⟨#[c]⟩)
  | _ => none
/-- a text's method with a text -/
noncomputable def metD : Met → PyData → PyData → Option (PyData × Bool)
  | .split, .str a, .str b => if b.length ≠ 0 ∧ a.length + 2 ≤ sizeLine then some (.list ((Txt.split a b).map .str), true) else none
  | .part, .str a, .str b => if b.length ≠ 0 ∧ a.length ≤ sizeLine then some (.tuple [.str (Txt.partition a b).1, .str (Txt.partition a b).2.1, .str (Txt.partition a b).2.2], false) else none
  | .count, .str a, .str b => some (.int (Txt.count a b), false)
  | .find, .str a, .str b => some (.int (Txt.find a b), false)
  | _, _, _ => none
noncomputable def ggetD (es : List (Int × Str)) : PyData → PyData → Option PyData
  | .int i, e => some (((es.lookup i).map PyData.str).getD e)
  | _, _ => none
noncomputable def insI (x : Int) : List Int → List Int
  | [] => [x]
  | y :: r => if x ≤ y then x :: y :: r else y :: insI x r
noncomputable def sortI : List Int → List Int
  | [] => []
  | x :: r => insI x (sortI r)
/-- in order, each once -/
noncomputable def insU (x : Int) : List Int → List Int
  | [] => [x]
  | y :: r => if x < y then x :: y :: r else if x = y then y :: r else y :: insU x r
noncomputable def setI : List Int → List Int
  | [] => []
  | x :: r => insU x (setI r)
/-- the same of tuples of ints -/
noncomputable def tpD (k : List Int) : PyData := .tuple (k.map .int)
noncomputable def insTp (x : List Int) : List (List Int) → List (List Int)
  | [] => [x]
  | y :: r => if PySem.W.dataLt (tpD x) (tpD y) then x :: y :: r else if PySem.W.dataLt (tpD y) (tpD x) then y :: insTp x r else y :: r
noncomputable def setTp : List (List Int) → List (List Int)
  | [] => []
  | x :: r => insTp x (setTp r)
noncomputable def tupsN : List PyData → Option (List (List Int))
  | [] => some []
  | .tuple (x :: r) :: t => (intsOf (x :: r)).bind fun k => (tupsN t).map (k :: ·)
  | _ :: _ => none
noncomputable def rowTp : List PyData → Bool
  | .tuple _ :: _ => true
  | _ => false
/-- sorted(set(xs)) -/
noncomputable def ssD (xs : List PyData) : Option PyData :=
  if rowTp xs then (tupsN xs).bind fun ks => if ks.length < 60000 ∧ (setTp ks).length ≤ 300 then some (.list ((setTp ks).map tpD)) else none
  else (intsOf xs).bind fun ns => if ns.length < 4000 ∧ (setI ns).length < 64 then some (.list ((setI ns).map .int)) else none
mutual
/-- without lists; the keys of dicts are ints and texts -/
noncomputable def dOk : PyData → Bool
  | .list _ => false
  | .tuple xs => dOkAll xs
  | .dict es => dOkKv es
  | _ => true
noncomputable def dOkAll : List PyData → Bool
  | [] => true
  | x :: r => dOk x && dOkAll r
noncomputable def dOkKv : List (PyData × PyData) → Bool
  | [] => true
  | (k, x) :: r => isKey k && dOk x && dOkKv r
end
/-- of what repr can be told: data without dicts, or with dicts and no lists, not too deep, not too long -/
noncomputable def shows (d : PyData) : Bool := d.showable && (!d.hasDict || dOk d) && decide (d.depth ≤ 64) && decide (d.shown.length ≤ sizeLine)
/-- isinstance -/
noncomputable def isaD : Bi → PyData → Option Bool
  | _, .dict ((.none, _) :: _) => none
  | _, .dict ((.list _, _) :: _) => none
  | .isInt, .int _ => some true
  | .isInt, .bool _ => some true
  | .isBool, .bool _ => some true
  | .isTuple, .tuple _ => some true
  | .isStr, .str _ => some true
  | .isList, .list _ => some true
  | _, _ => some false
noncomputable def tyOf : Bi → Option String
  | .isInt => some "int" | .isBool => some "bool" | .isTuple => some "tuple" | .isStr => some "str" | .isList => some "list"
  | _ => none
/-- tuples that are not empty, in an order -/
noncomputable def rowsB : List PyData → Bool
  | [] => false
  | x :: r => ordOk (x :: r) && (x :: r).all fun d => match d with | .tuple (_ :: _) => true | _ => false
noncomputable def biD : Bi → List PyData → Option (PyData × Bool)
  | .len, as => match as with
    | [.list xs] => some (.int xs.length, false)
    | [.tuple xs] => some (.int xs.length, false)
    | [.dict [(.none, .list xs)]] => some (.int xs.length, false)
    | [.str z] => if z.length ≤ sizeLine then some (.int z.length, false) else none
    | _ => none
  | .all, as => match as with
    | [.list xs] => (boolsOf xs).map fun bs => (.bool (bs.all id), false)
    | _ => none
  | .any, as => match as with
    | [.list xs] => (boolsOf xs).map fun bs => (.bool (bs.any id), false)
    | _ => none
  | .tuple, as => match as with
    | [.list xs] => some (.tuple xs, false)
    | [.tuple xs] => some (.tuple xs, false)
    | _ => none
  | .list, as => match as with
    | [.list xs] => some (.list xs, true)
    | [.tuple xs] => some (.list xs, true)
    | [.str z] => if z.length ≤ sizeLine then some (.list (z.cps.toList.map fun c => .str ⟨#[c]⟩), true) else none
    | [.dict ((.list [], .none) :: es)] => some (.list (es.map (·.1)), true)
    | _ => none
  | .sum, as => match as with
    | [.list xs] => (intsOf xs).map fun ns => (.int ns.sum, false)
    | [.tuple xs] => (intsOf xs).map fun ns => (.int ns.sum, false)
    | _ => none
  | .max1, as => match as with
    | [.list (x :: r)] => if ordOk (x :: r) then some (PySem.W.maxD x r, false) else none
    | [.tuple (x :: r)] => if ordOk (x :: r) then some (PySem.W.maxD x r, false) else none
    | _ => none
  | .min1, as => match as with
    | [.list (x :: r)] => if ordOk (x :: r) then some (PySem.W.minD x r, false) else none
    | [.tuple (x :: r)] => if ordOk (x :: r) then some (PySem.W.minD x r, false) else none
    | _ => none
  | .max2, as => match as with
    | [.int a, .int b] => some (.int (if b > a then b else a), false)
    | _ => none
  | .min2, as => match as with
    | [.int a, .int b] => some (.int (if b < a then b else a), false)
    | _ => none
  | .sorted, as => match as with
    | [.list xs] => if rowsB xs then some (.list (xs.mergeSort (PySem.W.dataLe false id)), true) else (intsOf xs).map fun ns => (.list ((sortI ns).map .int), true)
    | [.tuple xs] => (intsOf xs).map fun ns => (.list ((sortI ns).map .int), true)
    | _ => none
  | .repr, as => match as with
    | [d] => if shows d then some (.str d.shown, false) else none
    | _ => none
  | .str, as => match as with
    | [.int i] => if i.natAbs.log2 < 1920 then some (.str (Str.ofString (toString i)), false) else none
    | [.tuple xs] => if shows (.tuple xs) then some (.str (PyData.tuple xs).shown, false) else none
    | [.list xs] => if shows (.list xs) then some (.str (PyData.list xs).shown, false) else none
    | [.none] => some (.str PyData.none.shown, false)
    | [.bool b] => some (.str (PyData.bool b).shown, false)
    | [.str z] => some (.str z, false)
    | _ => none
  | .int, as => match as with
    | [.int i] => some (.int i, false)
    | [.bool b] => some (.int (if b then 1 else 0), false)
    | [.str z] => if z.length ≤ 640 then (PySem.intText? z).map fun i => (.int i, false) else none
    | _ => none
  | .isInt, as => match as with
    | [d] => (isaD .isInt d).map fun b => (.bool b, false)
    | _ => none
  | .isBool, as => match as with
    | [d] => (isaD .isBool d).map fun b => (.bool b, false)
    | _ => none
  | .isTuple, as => match as with
    | [d] => (isaD .isTuple d).map fun b => (.bool b, false)
    | _ => none
  | .isStr, as => match as with
    | [d] => (isaD .isStr d).map fun b => (.bool b, false)
    | _ => none
  | .isList, as => match as with
    | [d] => (isaD .isList d).map fun b => (.bool b, false)
    | _ => none
noncomputable def truthD : PyData → Option Bool
  | .bool b => some b
  | .none => some false
  | .int i => some (i != 0)
  | .list xs => some (!xs.isEmpty)
  | .tuple xs => some (!xs.isEmpty)
  | _ => none
/-- a range's items -/
noncomputable def rangeD (lo hi : Int) : List PyData := (List.range (hi - lo).toNat).map fun (k : Nat) => PyData.int (lo + (k : Int))
noncomputable def cntD (xs : List PyData) (d : PyData) : Option PyData := if flat d && xs.all flat then some (.int (xs.countP fun y => PyData.eqv y d : Nat)) else none
/-- the first place of an int among ints -/
noncomputable def ixD (xs : List PyData) (d : PyData) : Option PyData := match d, intsOf xs with
  | .int a, some ns => (ns.findIdx? fun y => decide (y = a)).map fun j => .int (j : Nat)
  | .bool a, none => (boolsOf xs).bind fun bs => (bs.findIdx? fun y => decide (y = a)).map fun j => .int (j : Nat)
  | _, _ => none
noncomputable def lineI (i : Int) : Bool := decide (-(2 ^ 62) ≤ i) && decide (i < 2 ^ 62)
/-! ### variables -/
noncomputable def Slot.get : Slot → Option PyData
  | .dat d => some d
  | .own d => some d
  | .exc _ => none
  | .no => none
/-- a variable whose items can be counted: a list, or a tuple of one's own -/
noncomputable def cntK : Option Slot → Option Bool
  | some (.own (.list _)) => some true
  | some (.own (.tuple _)) => some false
  | some (.dat (.list _)) => some true
  | _ => none
noncomputable def seqS : Option Slot → Option (List PyData)
  | some (.own (.list xs)) => some xs
  | some (.own (.tuple xs)) => some xs
  | some (.dat (.list xs)) => some xs
  | _ => none
noncomputable def isOwnL : Option Slot → Bool
  | some (.own (.list _)) => true
  | _ => false
noncomputable def getR (ρ : Rho) (i : Nat) : Option PyData := (ρ[i]?).bind Slot.get
/-- read as a value: whatever it holds stands still from now on -/
noncomputable def rdVar (ρ : Rho) (i : Nat) : Option (PyData × Bool × Rho) :=
  match ρ[i]? with
  | some (.dat d) => some (d, false, ρ)
  | some (.own (.tuple xs)) => some (.tuple xs, false, ρ)
  | some (.own d) => some (d, false, ρ.set i (.dat d))
  | _ => none
/-- variables as operands -/
noncomputable def varsM : List Nat → ME
  | [] => .nil
  | j :: js => .cons (.var j) (varsM js)
mutual
noncomputable def bindT : MT → PyData → Rho → Option Rho
  | .nm i, d, ρ => some (ρ.set i (.dat d))
  | .tp ts, .tuple ds, ρ => bindTs ts ds ρ
  | _, _, _ => none
noncomputable def bindTs : MT → List PyData → Rho → Option Rho
  | .nil, [], ρ => some ρ
  | .cons a r, d :: ds, ρ => (bindT a d ρ).bind (bindTs r ds)
  | _, _, _ => none
end
noncomputable def wipeR (ρ : Rho) : List Nat → Rho
  | [] => ρ
  | v :: vs => (wipeR ρ vs).set v .no
/-- an operand that is only looked at: a value, or a variable's own list as it stands when it is looked at -/
inductive Bor where
  | v (d : PyData)
  | r (i : Nat)
noncomputable def Bor.get (ρ : Rho) : Bor → Option PyData
  | .v d => some d
  | .r i => getR ρ i
noncomputable def bor (ev : Rho → Option (PyData × Bool × Rho)) (m : ME) (ρ : Rho) : Option (Bor × Rho) :=
  match m with
  | .var i => match ρ[i]? with
    | some (.own (.tuple xs)) => some (.v (.tuple xs), ρ)
    | some (.own _) => some (.r i, ρ)
    | some (.dat d) => some (.v d, ρ)
    | _ => none
  | _ => (ev ρ).map fun (d, _, ρ') => (.v d, ρ')
noncomputable def getAll (ρ : Rho) : List Bor → Option (List PyData)
  | [] => some []
  | b :: r => (b.get ρ).bind fun d => (getAll ρ r).map (d :: ·)
/-! ### calls -/
/-- an argument of a call: a datum, or a list that the callee may change -/
abbrev Arg := PyData × Bool
/-- a callee: the answer, whether it is new, the parameters behind the call -/
abbrev Fns := Nat → List Arg → Option (PyData × Bool × List Slot)
/-- the operands as arguments; a variable's own list is lent, once -/
noncomputable def lend (ρ : Rho) : List Bor → Option (List Arg × Rho)
  | [] => some ([], ρ)
  | .v d :: r => (lend ρ r).map fun (as, ρ') => ((d, false) :: as, ρ')
  | .r i :: r => match ρ[i]? with
    | some (.own d) => (lend (ρ.set i .no) r).map fun (as, ρ') => ((d, true) :: as, ρ')
    | some (.dat d) => (lend ρ r).map fun (as, ρ') => ((d, false) :: as, ρ')
    | _ => none
/-- what was lent comes back -/
noncomputable def back (ρ : Rho) : List Bor → List Arg → List Slot → Option Rho
  | [], _, _ => some ρ
  | .r i :: r, (_, true) :: as, s :: ss => back (ρ.set i s) r as ss
  | _ :: r, (_, false) :: as, _ :: ss => back ρ r as ss
  | _, _, _ => none
/-- the text of an object by its class's def, or of data -/
noncomputable def shOne (F : Fns) (l : List Nat) (d : PyData) : Option Str :=
  if shows d then some d.shown else (clsD d).bind fun c => (l[c]?).bind fun f => (F f [(d, false)]).bind fun (r, fr, _) => if fr then none else match r with
    | .str z => if z.length ≤ sizeLine then some z else none
    | _ => none
noncomputable def shAll (F : Fns) (l : List Nat) : List PyData → Option (List Str)
  | [] => some []
  | d :: r => (shOne F l d).bind fun z => (shAll F l r).map fun zs => z :: zs
noncomputable def shO (F : Fns) (l : List Nat) (d : PyData) : Option Str :=
  if shows d then some d.shown else match d with
    | .tuple ds => if ds.any fun x => (clsD x).isSome then (shAll F l ds).bind fun ts => if (tupleText ts).length ≤ sizeLine then some (tupleText ts) else none else none
    | d => shOne F l d
/-- names of an exception's two fields, by class -/
noncomputable def xfN : Nat → Option (Str × Str)
  | 21 => some ("span", "limit")
  | 22 => some ("many", "limit")
  | _ => none
noncomputable def two (a b : Int) : PyData := .tuple [.int a, .int b]
/-- what is raised: a class's number, or that with two ints -/
noncomputable def xD : PyData → Bool
  | .int (.ofNat c) => (xfN c).isNone
  | .tuple [.int (.ofNat c), .int a, .int b] => (xfN c).isSome && decide (a.natAbs < 2 ^ 100) && decide (b.natAbs < 2 ^ 100) && shows (two a b)
  | _ => false
noncomputable def xcls : PyData → Option Nat
  | .int (.ofNat c) => some c
  | .tuple [.int (.ofNat c), .int _, .int _] => some c
  | _ => none
/-- the word of what is raised, its fields behind it -/
noncomputable def tellW (l : List Str) : PyData → Option Str
  | .int (.ofNat c) => l[c]?
  | .tuple [.int (.ofNat c), .int a, .int b] => (l[c]?).map fun t => t ++ (two a b).shown
  | _ => none
/-- a word by class, with the fields or without -/
noncomputable def wText (l : List (Str × Bool)) : PyData → Option Str
  | .int (.ofNat c) => (l[c]?).bind fun p => if p.2 then none else some p.1
  | .tuple [.int (.ofNat c), .int a, .int b] => (l[c]?).map fun p => if p.2 then p.1 ++ (two a b).shown else p.1
  | _ => none
/-- such a text behind a text -/
noncomputable def preW (z : Str) (l : List (Str × Bool)) : List (Str × Bool) := l.map fun p => (z ++ p.1, p.2)
/-! ### expressions -/
/-- the turns of a comprehension -/
noncomputable def turns (tg : MT) (ev : Rho → List PyData → Option (Rho × List PyData)) (vs : List Nat) : List PyData → Rho → List PyData → Option (Rho × List PyData)
  | [], ρ, acc => some (ρ, acc)
  | d :: ds, ρ, acc => (bindT tg d ρ).bind fun ρ1 => (ev ρ1 acc).bind fun (ρ2, acc2) => turns tg ev vs ds (wipeR ρ2 vs) acc2
mutual
noncomputable def evE (F : Fns) : ME → Rho → Option (PyData × Bool × Rho)
  | .lit d, ρ => some (d, false, ρ)
  | .var i, ρ => rdVar ρ i
  | .bin op a b, ρ => (bor (evE F a) a ρ).bind fun (x, ρ1) => (bor (evE F b) b ρ1).bind fun (y, ρ2) =>
      (x.get ρ2).bind fun d => (y.get ρ2).bind fun e => (binD op d e).map fun (z, fr) => (z, fr, ρ2)
  | .neg a, ρ => (evE F a ρ).bind fun (d, _, ρ1) => match d with | .int i => some (.int (-i), false, ρ1) | _ => none
  | .not a, ρ => (evE F a ρ).bind fun (d, _, ρ1) => match d with | .bool b => some (.bool (!b), false, ρ1) | _ => none
  | .and a b, ρ => (evE F a ρ).bind fun (d, _, ρ1) => match d with | .bool true => evE F b ρ1 | .bool false => some (.bool false, false, ρ1) | _ => none
  | .or a b, ρ => (evE F a ρ).bind fun (d, _, ρ1) => match d with | .bool false => evE F b ρ1 | .bool true => some (.bool true, false, ρ1) | _ => none
  | .cmp op a b, ρ => (bor (evE F a) a ρ).bind fun (x, ρ1) => (bor (evE F b) b ρ1).bind fun (y, ρ2) =>
      (x.get ρ2).bind fun d => (y.get ρ2).bind fun e => (cmpD op d e).map fun z => (.bool z, false, ρ2)
  | .cmp2 op op' a b c, ρ => (bor (evE F a) a ρ).bind fun (x, ρ1) => (bor (evE F b) b ρ1).bind fun (y, ρ2) =>
      (x.get ρ2).bind fun d => (y.get ρ2).bind fun e => (cmpD op d e).bind fun z =>
        if z then (bor (evE F c) c ρ2).bind fun (w, ρ3) => (y.get ρ3).bind fun e3 => (w.get ρ3).bind fun f => (cmpD op' e3 f).map fun z' => (.bool z', false, ρ3)
        else some (.bool false, false, ρ2)
  | .isN a, ρ => (bor (evE F a) a ρ).bind fun (x, ρ1) => (x.get ρ1).map fun d => (.bool (isNone d), false, ρ1)
  | .notN a, ρ => (bor (evE F a) a ρ).bind fun (x, ρ1) => (x.get ρ1).map fun d => (.bool (!isNone d), false, ρ1)
  | .ite c a b, ρ => (evT F c ρ).bind fun (t, ρ1) => if t then evE F a ρ1 else evE F b ρ1
  | .call f as, ρ => (evL F as ρ).bind fun (bs, ρ1) => (lend ρ1 bs).bind fun (args, ρ2) => (F f args).bind fun (d, fr, ss) => (back ρ2 bs args ss).map fun ρ3 => (d, fr, ρ3)
  | .callF _ _ _, _ => none
  | .callV f as, ρ => (evL F as ρ).bind fun (bs, ρ1) => (getAll ρ1 bs).bind fun ds => (F f (ds.map fun d => (d, false))).bind fun (d, fr, _) => if flat d && !fr then some (d, false, ρ1) else none
  | .callK f l as, ρ => (evA F as ρ).bind fun (ds, ρ1) => if ds.length = l.length then (F f ((permL l ds).map fun d => (d, false))).bind fun (d, fr, _) => if fr then none else some (d, false, ρ1) else none
  | .join _ _, _ => none
  | .bi b as, ρ => (evL F as ρ).bind fun (bs, ρ1) => (getAll ρ1 bs).bind fun ds => (biD b ds).map fun (d, fr) => (d, fr, ρ1)
  | .idx a i, ρ => (bor (evE F a) a ρ).bind fun (x, ρ1) => (evE F i ρ1).bind fun (k, _, ρ2) => (x.get ρ2).bind fun d => (idxD d k).map fun z => (z, false, ρ2)
  | .sl a lo hi, ρ => (bor (evE F a) a ρ).bind fun (x, ρ1) => (evO F lo ρ1).bind fun (l, ρ2) => (evO F hi ρ2).bind fun (h, ρ3) => (x.get ρ3).bind fun d => (slD d l h).map fun (z, fr) => (z, fr, ρ3)
  | .tup as, ρ => (evA F as ρ).bind fun (ds, ρ1) => if ds.length ≤ sizeLine then some (.tuple ds, false, ρ1) else none
  | .lst as, ρ => (evA F as ρ).bind fun (ds, ρ1) => if ds.length ≤ sizeLine then some (.list ds, true, ρ1) else none
  | .dic, ρ => some (.dict [], true, ρ)
  | .dicT, ρ => some (.dict [tMark], true, ρ)
  | .disp ks as, ρ => (evA F as ρ).bind fun (ds, ρ1) => if ds.length = ks.length then some (.dict ((ks.zip ds).foldl (fun acc p => dPut acc (.int p.1) p.2) []), true, ρ1) else none
  | .dget _ _ _, _ => none
  | .lset _, _ => none
  | .met _ _ _, _ => none
  | .isx i l, ρ => match ρ[i]? with
    | some (.exc d) => (xcls d).bind fun c => (l[c]?).map fun b => (.bool b, false, ρ)
    | _ => none
  | .wrd i l, ρ => match ρ[i]? with
    | some (.exc d) => (wText l d).map fun t => (.str t, false, ρ)
    | _ => none
  | .wrdP z i l, ρ => match ρ[i]? with
    | some (.exc d) => if z.length ≤ 1000 ∧ (l.all fun p => decide (p.1.length ≤ 1000)) = true then (wText (preW z l) d).map fun t => (.str t, false, ρ) else none
    | _ => none
  | .xrep z i x1 x2, ρ => match ρ[i]? with
    | some (.exc (.tuple [.int (.ofNat c), .int a, .int b])) => if z.length ≤ 1000 ∧ xfN c = some (x1, x2) then some (.str (z ++ (two a b).shown), false, ρ) else none
    | _ => none
  | .xtup i x1 x2, ρ => match ρ[i]? with
    | some (.exc (.tuple [.int (.ofNat c), .int a, .int b])) => if xfN c = some (x1, x2) then some (two a b, false, ρ) else none
    | _ => none
  | .mrk i l, ρ => match ρ[i]? with
    | some (.exc d) => (xcls d).bind fun c => (l[c]?).map fun bs => (.list (bs.map .bool), true, ρ)
    | _ => none
  | .told _ _ _ _, _ => none
  | .mk c f as, ρ => (evA F as ρ).bind fun (ds, ρ1) => if ds.length ≤ sizeLine then (F f [(objD c [], true), (.tuple ds, false)]).bind fun (d, _, ss) => match d, ss with
      | .none, .own o :: _ => some (o, true, ρ1)
      | _, _ => none
    else none
  | .fld x a, ρ => (bor (evE F a) a ρ).bind fun (b, ρ1) => (b.get ρ1).bind fun d => (fldD x d).map fun z => (z, false, ρ1)
  | .con x l a, ρ => (bor (evE F a) a ρ).bind fun (b, ρ1) => (b.get ρ1).bind fun d => if (fldD x d).isSome then none else (clsD d).bind fun c => (l[c]?).map fun z => (z, false, ρ1)
  | .isO l a, ρ => (bor (evE F a) a ρ).bind fun (b, ρ1) => (b.get ρ1).bind fun d => (isoD l d).map fun z => (.bool z, false, ρ1)
  | .meth ck x l a as, ρ => (bor (evE F a) a ρ).bind fun (b, ρ0) => (b.get ρ0).bind fun o => if (fldD x o).isSome then none else (clsD o).bind fun c => (l[c]?).bind fun f => (evL F as ρ0).bind fun (bs, ρ1) => (lend ρ1 (b :: bs)).bind fun (args, ρ2) =>
      (F f args).bind fun (d, fr, ss) => (back ρ2 (b :: bs) args ss).bind fun ρ3 => if ck = 0 then some (d, fr, ρ3) else if fr then none else (ckD ck d).map fun z => (z, false, ρ3)
  | .opO _ _ _ _, _ => none
  | .callG f i b as, ρ => if isOwnL ρ[i]? then (evE F b ρ).bind fun (d, fr, ρ0) => if fr then (evL F as ρ0).bind fun (bs, ρ1) => (lend ρ1 (.r i :: bs)).bind fun (args, ρ2) => match args with
      | (d0, true) :: rest => if rest.all (fun x => !x.2) then (F f ((d0, true) :: (d, true) :: rest)).bind fun (r, fr2, ss) => if fr2 && isTup r then none else (match ss with
        | .own d1 :: _ => some (r, fr2, ρ2.set i (.own d1))
        | _ => none) else none
      | _ => none else none else none
  | .cntL a e, ρ => (evE F a ρ).bind fun (d, _, ρ1) => match d with
    | .list xs => (evE F e ρ1).bind fun (y, _, ρ2) => (cntD xs y).map fun z => (z, false, ρ2)
    | _ => none
  | .still a, ρ => (evE F a ρ).map fun (d, _, ρ') => (d, false, ρ')
  | .eqO _ _ _ _ _, _ => none
  | .methV x l a as, ρ => (bor (evE F a) a ρ).bind fun (b, ρ0) => (b.get ρ0).bind fun o => if (fldD x o).isSome then none else (clsD o).bind fun c => (l[c]?).bind fun f => (evL F as ρ0).bind fun (bs, ρ1) => (getAll ρ1 (b :: bs)).bind fun ds =>
      if ds.head?.bind clsD = some c then (F f (ds.map fun d => (d, false))).bind fun (d, fr, _) => if flat d && !fr then some (d, false, ρ1) else none else none
  | .toldE l x m, ρ => (evE F x ρ).bind fun (r, _, ρx) => match r with
    | .none => (evE F m ρ).bind fun (d, _, ρ1) => if shows d then some (.str d.shown, false, ρ1) else none
    | r => if xD r then (tellW l r).map fun t => (.str t, false, ρx) else none
  | .rep l a, ρ => (bor (evE F a) a ρ).bind fun (b, ρ1) => (b.get ρ1).bind fun d => (shO F l d).map fun z => (.str z, false, ρ1)
  | .fst as, ρ => (evA F as ρ).bind fun (ds, ρ1) => (fstD Str.empty ds).map fun z => (.str z, false, ρ1)
  | .inO _ _ _ _, _ => none
  | .gget _ _ _, _ => none
  | .cnt i e, ρ => (cntK ρ[i]?).bind fun k => (evE F e ρ).bind fun (d, _, ρ1) => if cntK ρ1[i]? = some k then (seqS ρ1[i]?).bind fun xs => (cntD xs d).map fun z => (z, false, ρ1) else none
  | .pop i, ρ => match ρ[i]? with
      | some (.own (.list xs)) => (xs[xs.length - 1]?).map fun d => (d, false, ρ.set i (.own (.list xs.dropLast)))
      | _ => none
  | .popAt _ _, _ => none
  | .sset _, _ => none
  | .isB _ _, _ => none
  | .rev _, _ => none
  | .ix i e, ρ => if cntK ρ[i]? = some true then (evE F e ρ).bind fun (d, _, ρ1) => if cntK ρ1[i]? = some true then (seqS ρ1[i]?).bind fun xs => (ixD xs d).map fun z => (z, false, ρ1) else none else none
  | .nisB _ _, _ => none
  | .cv t it, ρ => (evI F it ρ).bind fun (ds, ρ1) => if ds.length ≤ 65536 then (if t then some (.tuple ds, false, ρ1) else some (.list ds, true, ρ1)) else none
  | .comp vs tg it c e, ρ => (evI F it ρ).bind fun (ds, ρ1) =>
      (turns tg (fun ρ acc => (evT F c ρ).bind fun (t, ρ2) => if t then (evE F e ρ2).bind fun (d, _, ρ3) => if acc.length < sizeLine then some (ρ3, acc ++ [d]) else none else some (ρ2, acc)) vs ds (wipeR ρ1 vs) []).map
        fun (ρ4, acc) => (.list acc, true, ρ4)
  | .comp2 _ _ _ _ _ _ _ _ _, _ => none
  | .rng1 _, _ => none
  | .rng2 _ _, _ => none
  | .rng3 _ _ _, _ => none
  | .enm _, _ => none
  | .zp _ _, _ => none
  | .zp3 _ _ _, _ => none
  | .it _, _ => none
  | .tst _, _ => none
  | .nil, _ => none
  | .cons _ _, _ => none
  | .star _ _, _ => none
noncomputable def evT (F : Fns) : ME → Rho → Option (Bool × Rho)
  | .not a, ρ => (evT F a ρ).map fun (b, ρ1) => (!b, ρ1)
  | .and a b, ρ => (evT F a ρ).bind fun (t, ρ1) => if t then evT F b ρ1 else some (false, ρ1)
  | .or a b, ρ => (evT F a ρ).bind fun (t, ρ1) => if t then some (true, ρ1) else evT F b ρ1
  | .nil, ρ => some (true, ρ)
  | .tst a, ρ => (bor (evE F a) a ρ).bind fun (x, ρ1) => (x.get ρ1).bind fun d => (truthD d).map fun b => (b, ρ1)
  | _, _ => none
/-- operands, looked at -/
noncomputable def evL (F : Fns) : ME → Rho → Option (List Bor × Rho)
  | .nil, ρ => some ([], ρ)
  | .cons a r, ρ => (bor (evE F a) a ρ).bind fun (x, ρ1) => (evL F r ρ1).map fun (xs, ρ2) => (x :: xs, ρ2)
  | _, _ => none
/-- the parts of a display -/
noncomputable def evA (F : Fns) : ME → Rho → Option (List PyData × Rho)
  | .nil, ρ => some ([], ρ)
  | .cons a r, ρ => (evE F a ρ).bind fun (d, _, ρ1) => (evA F r ρ1).map fun (ds, ρ2) => (d :: ds, ρ2)
  | .star a r, ρ => (evE F a ρ).bind fun (d, _, ρ1) => (starOf d).bind fun es => (evA F r ρ1).map fun (ds, ρ2) => (es ++ ds, ρ2)
  | _, _ => none
/-- a part of a slice -/
noncomputable def evO (F : Fns) : ME → Rho → Option (Option Int × Rho)
  | .nil, ρ => some (none, ρ)
  | .cons a _, ρ => (evE F a ρ).bind fun (d, _, ρ1) => match d with | .int i => some (some i, ρ1) | _ => none
  | _, _ => none
/-- what is walked over -/
noncomputable def evI (F : Fns) : ME → Rho → Option (List PyData × Rho)
  | .rng1 a, ρ => (evE F a ρ).bind fun (d, _, ρ1) => match d with | .int i => if lineI i then some (rangeD 0 i, ρ1) else none | _ => none
  | .rng2 _ _, _ => none
  | .zp a b, ρ => (evE F a ρ).bind fun (d, _, ρ1) => (evE F b ρ1).bind fun (e, _, ρ2) => match d, e with
      | .list xs, .list ys => some ((xs.zip ys).map fun p => .tuple [p.1, p.2], ρ2)
      | .tuple xs, .tuple ys => some ((xs.zip ys).map fun p => .tuple [p.1, p.2], ρ2)
      | .tuple xs, .list ys => some ((xs.zip ys).map fun p => .tuple [p.1, p.2], ρ2)
      | _, _ => none
  | .enm a, ρ => (evE F a ρ).bind fun (d, _, ρ1) => match d with
      | .list xs => some (xs.zipIdx.map fun p => .tuple [.int p.2, p.1], ρ1)
      | .tuple xs => some (xs.zipIdx.map fun p => .tuple [.int p.2, p.1], ρ1)
      | _ => none
  | .rng3 _ _ _, _ => none
  | .zp3 _ _ _, _ => none
  | .it a, ρ => (evE F a ρ).bind fun (d, _, ρ1) => (seqOf d).map fun xs => (xs, ρ1)
  | _, _ => none
end
/-! ### statements -/
/-- how a block ends -/
inductive Out where
  | nx (ρ : Rho)
  | bk (ρ : Rho)
  | ct (ρ : Rho)
  | rt (d : PyData) (fr : Bool) (ρ : Rho)
/-- what a fresh or a standing value makes of a variable -/
noncomputable def slotOf (d : PyData) : Bool → Slot
  | true => .own d
  | false => .dat d
/-- several values, each with whether it is new -/
noncomputable def evP (F : Fns) : ME → Rho → Option (List (PyData × Bool) × Rho)
  | .nil, ρ => some ([], ρ)
  | .cons a r, ρ => (evE F a ρ).bind fun (d, fr, ρ1) => (evP F r ρ1).map fun (ds, ρ2) => ((d, fr) :: ds, ρ2)
  | _, _ => none
/-- a value, or a call that may give out a tuple of one's own -/
noncomputable def evU (F : Fns) : Option Nat → ME → Rho → Option (PyData × Bool × Rho)
  | none, e, ρ => evE F e ρ
  | some f, as, ρ => (evL F as ρ).bind fun (bs, ρ1) => (lend ρ1 bs).bind fun (args, ρ2) => (F f args).bind fun (d, fr, ss) => (back ρ2 bs args ss).map fun ρ3 => (d, fr, ρ3)
noncomputable def bindP : MT → List (PyData × Bool) → Rho → Option Rho
  | .nil, [], ρ => some ρ
  | .cons (.nm i) r, (d, fr) :: ds, ρ => bindP r ds (ρ.set i (slotOf d fr))
  | .cons t r, (d, _) :: ds, ρ => (bindT t d ρ).bind (bindP r ds)
  | _, _, _ => none
noncomputable def setT : MT → PyData → Bool → Rho → Option Rho
  | .nm i, d, fr, ρ => some (ρ.set i (slotOf d fr))
  | t, d, _, ρ => bindT t d ρ
/-- var[k] = d -/
noncomputable def putD : PyData → PyData → PyData → Option PyData
  | .list xs, .int i, d => (ixOf xs.length i).map fun j => .list (xs.set j d)
  | .dict ((.list [], .none) :: es), k, d => (tupI k).bind fun ks => if es.length < sizeLine then some (.dict (tMark :: tPut es ks d)) else none
  | .dict es, k, d => if isKey k && !isScr es && decide (es.length < sizeLine) then some (.dict (dPut es k d)) else none
  | _, _, _ => none
noncomputable def isOwn : Option Slot → Bool
  | some (.own _) => true
  | _ => false
noncomputable def loopS (tg : MT) (ev : Rho → Option Out) : List PyData → Rho → Option Out
  | [], ρ => some (.nx ρ)
  | d :: ds, ρ => (bindT tg d ρ).bind fun ρ1 => (ev ρ1).bind fun o => match o with
    | .nx ρ2 => loopS tg ev ds ρ2
    | .ct ρ2 => loopS tg ev ds ρ2
    | .bk ρ2 => some (.nx ρ2)
    | .rt d fr ρ2 => some (.rt d fr ρ2)
noncomputable def isObj : Option Slot → Bool
  | some (.own (.dict _)) => true
  | _ => false
noncomputable def loopOS (i : Nat) (ev : Rho → Option Out) : List (PyData × Bool) → Rho → Option Out
  | [], ρ => some (.nx ρ)
  | (d, fr) :: ds, ρ => (ev (ρ.set i (slotOf d fr))).bind fun o => match o with
    | .nx ρ2 => loopOS i ev ds ρ2
    | .ct ρ2 => loopOS i ev ds ρ2
    | .bk ρ2 => some (.nx ρ2)
    | .rt d fr ρ2 => some (.rt d fr ρ2)
noncomputable def loopVS (i : Nat) (ev : Rho → Option Out) : List Nat → Rho → Option Out
  | [], ρ => some (.nx ρ)
  | j :: js, ρ => match ρ[j]? with
    | some (.own d) => if i < ρ.length then (ev (((ρ.set i .no).set j .no).set i (.own d))).bind fun o => match o with
      | .nx ρ2 => (match ρ2[i]? with
        | some (.own d2) => loopVS i ev js ((ρ2.set i .no).set j (.own d2))
        | _ => none)
      | .rt d fr ρ2 => some (.rt d fr ρ2)
      | _ => none
      else none
    | _ => none
noncomputable def whileS (c : Rho → Option (Bool × Rho)) (ev : Rho → Option Out) : Nat → Rho → Option Out
  | 0, _ => none
  | n + 1, ρ => (c ρ).bind fun (t, ρ1) => if t then (ev ρ1).bind fun o => match o with
    | .nx ρ2 => whileS c ev n ρ2
    | .ct ρ2 => whileS c ev n ρ2
    | .bk ρ2 => some (.nx ρ2)
    | .rt d fr ρ2 => some (.rt d fr ρ2)
    else some (.nx ρ1)
noncomputable def evS (F : Fns) (W : Nat) : MS → Rho → Option Out
  | .skip, ρ => some (.nx ρ)
  | .seq s t, ρ => (evS F W s ρ).bind fun o => match o with
    | .nx ρ1 => evS F W t ρ1
    | o => some o
  | .asg tg e, ρ => (evE F e ρ).bind fun (d, fr, ρ1) => (setT tg d fr ρ1).map .nx
  | .par tg es, ρ => (evP F es ρ).bind fun (ds, ρ1) => (bindP tg ds ρ1).map .nx
  | .parS _ _ _ _ _ _, _ => none
  | .put i k e, ρ => if isOwn ρ[i]? then (evE F e ρ).bind fun (d, _, ρ1) => (evE F k ρ1).bind fun (j, _, ρ2) => match ρ2[i]? with
      | some (.own x) => (putD x j d).map fun y => .nx (ρ2.set i (.own y))
      | _ => none
    else none
  | .put2 _ _ _ _, _ => none
  | .app i e, ρ => if isOwnL ρ[i]? then (evE F e ρ).bind fun (d, _, ρ1) => match ρ1[i]? with
      | some (.own (.list xs)) => if xs.length < sizeLine then some (.nx (ρ1.set i (.own (.list (xs ++ [d]))))) else none
      | _ => none
    else none
  | .ext _ _, _ => none
  | .expr e, ρ => (evE F e ρ).map fun (_, _, ρ1) => .nx ρ1
  | .ret e, ρ => (evE F e ρ).map fun (d, fr, ρ1) => .rt d fr ρ1
  | .asgO i f as, ρ => (evL F as ρ).bind fun (bs, ρ1) => (lend ρ1 bs).bind fun (args, ρ2) => (F f args).bind fun (d, fr, ss) => (back ρ2 bs args ss).map fun ρ3 => .nx (ρ3.set i (slotOf d fr))
  | .retO f as, ρ => (evL F as ρ).bind fun (bs, ρ1) => (lend ρ1 bs).bind fun (args, ρ2) => (F f args).bind fun (d, fr, ss) => (back ρ2 bs args ss).map fun ρ3 => .rt d fr ρ3
  | .putA i x e, ρ => (evE F e ρ).bind fun (d, _, ρ1) => match ρ1[i]? with
      | some (.own o) => (setD x d o).map fun y => .nx (ρ1.set i (.own y))
      | _ => none
  | .retT e, ρ => (evE F e ρ).bind fun (d, _, ρ1) => match d with | .list xs => some (.rt (.tuple xs) true ρ1) | _ => none
  | .ite c s t, ρ => (evT F c ρ).bind fun (b, ρ1) => if b then evS F W s ρ1 else evS F W t ρ1
  | .loop tg it s, ρ => (evI F it ρ).bind fun (ds, ρ1) => loopS tg (evS F W s) ds ρ1
  | .while c s, ρ => whileS (evT F c) (evS F W s) W ρ
  | .loopO i es s, ρ => (evP F es ρ).bind fun (ds, ρ1) => if ds.length ≤ sizeLine then loopOS i (evS F W s) ds ρ1 else none
  | .loopV i js s, ρ => if js.all (fun j => isObj ρ[j]?) && decide (js.length ≤ sizeLine) then loopVS i (evS F W s) js ρ else none
  | .brk, ρ => some (.bk ρ)
  | .cont, ρ => some (.ct ρ)
  | .stuck, _ => none
  | .chk f as, ρ => (evL F as ρ).bind fun (bs, ρ1) => (getAll ρ1 bs).bind fun ds => (F f (ds.map fun d => (d, false))).bind fun (d, fr, _) => match d with
    | .none => some (.nx ρ1)
    | d => if fr then none else some (.rt d false ρ1)
  | .xs x m r, ρ => (evS F W x ρ).bind fun o => match o with
    | .rt d _ _ => some (.rt d false ρ)
    | .nx _ => (evS F W m ρ).bind fun o => match o with
      | .nx ρ1 => evS F W r ρ1
      | _ => none
    | _ => none
/-! ### defs -/
structure Fn where
  np : Nat
  nv : Nat
  body : MS
noncomputable def argSlot : Arg → Slot
  | (d, true) => .own d
  | (d, false) => .dat d
noncomputable def slotsT : MT → List Nat
  | .nm i => [i]
  | .tp ts => slotsT ts
  | .nil => []
  | .cons a r => slotsT a ++ slotsT r
/-- the variables that a block stores -/
noncomputable def asgd : MS → List Nat
  | .seq s t => asgd s ++ asgd t
  | .asg tg _ => slotsT tg
  | .asgO i _ _ => [i]
  | .par tg _ => slotsT tg
  | .put2 _ _ j _ => [j]
  | .parS i _ _ j _ _ => [i, j]
  | .ite _ s t => asgd s ++ asgd t
  | .loop tg _ s => slotsT tg ++ asgd s
  | .while _ s => asgd s
  | .loopO i _ s => i :: asgd s
  | .loopV i _ s => i :: asgd s
  | _ => []
/-- parameters that were lent are not stored -/
noncomputable def lentOk (l : List Nat) : Nat → List Arg → Bool
  | _, [] => true
  | i, (_, true) :: as => !l.contains i && lentOk l (i + 1) as
  | i, (_, false) :: as => lentOk l (i + 1) as
noncomputable def finals : List Arg → Rho → List Slot
  | [], _ => []
  | (_, true) :: as, s :: ρ => s :: finals as ρ
  | _ :: as, ρ => .no :: finals as ρ.tail
noncomputable def runFn (F : Fns) (W : Nat) (f : Fn) (as : List Arg) : Option (PyData × Bool × List Slot) :=
  if as.length = f.np ∧ lentOk (asgd f.body) 0 as = true then
    (evS F W f.body (as.map argSlot ++ List.replicate (f.nv - f.np) .no)).bind fun o => match o with
      | .nx ρ => some (.none, false, finals as ρ)
      | .rt d fr ρ => some (d, fr, finals as ρ)
      | _ => none
  else none
noncomputable def evF (T : Nat → Option Fn) (W : Nat) : Nat → Fns
  | 0, _, _ => none
  | k + 1, i, as => (T i).bind fun f => runFn (evF T W k) W f as
end MI
/-! MIJ: sorted of a tuple. -/
namespace MI
open PySem PySem.Spec PyProof.Rows L2 HT
section
variable {prog : Program} {w : World} {A : Around} {E : Value → Shared → Prop} {s : Shared}
/-- the heap behind the collecting of `xs` -/
noncomputable def gotH (h : Heap) (xs : List Value) : Heap := (h.push (seqObj "list" #[] 0)).update h.objs.size (Obj.mapSeq (· ++ xs.toArray))
theorem collect_tup {t : Addr} {xs : List Value} {R : List Value → Shared → Prop} (ht : IsTup s.heap t xs.toArray) (hn : xs.length ≤ sizeLine) (hR : R xs { s with heap := gotH s.heap xs }) :
    wpAny (model prog w) A (collect (.ref t)) R E s := by
  obtain ⟨o, ho, hc, n, hd⟩ := id ht
  have hot : (s.heap.push (seqObj "list" #[] 0)).get? t = some o := Heap.get?_push_of_some _ ho
  have hnew : (s.heap.push (seqObj "list" #[] 0)).get? s.heap.objs.size = some (seqObj "list" #[] 0) := Heap.get?_push_size _ rfl
  have hle : ((#[] : Array Value) ++ xs.toArray).size ≤ sizeLine + 1 := by simp; omega
  have hsame : (Value.type "tuple" == Value.type "tuple") = true := rfl
  unfold collect
  refine wpAny_bind (wpAny_runValue (codeAny_builtin entry_proto_collect' ?_))
  show wpAny _ _ (do again (.builtin "list.__iadd__" ⟨[← newList [], .ref t], []⟩)) _ _ s
  refine wpAny_bind (wpAny_newList (wpAny_pure ⟨Code.quiet_builtin _ (by decide +kernel), codeAny_builtin entry_list_iadd' ?_⟩))
  show wpAny _ _ (Builtin.List.listExtendWith (.ref s.heap.objs.size) (.ref t) (.ref s.heap.objs.size)) _ _ _
  unfold Builtin.List.listExtendWith
  refine wpAny_bind (wpAny_typeOf (T := "tuple") ⟨o, hot, hc⟩ ?_)
  rw [if_pos (by rw [hsame]; simp)]
  refine wpAny_bind (listItems_at hot hd (wpAny_bind (listItems_at hnew rfl ?_)))
  rw [if_neg (by simp)]
  refine wpAny_bind (listUpdate_at hnew rfl ?_ (Nat.zero_le _) hle)
  refine wpAny_pure (wpAny_bind (wpAny_load (get?_update_seq hnew _) ?_))
  show wpAny _ _ (pure ((#[] : Array Value) ++ xs.toArray).toList) R E _
  simp only [Array.empty_append, List.toList_toArray]
  exact wpAny_pure hR
/-- sorted of a tuple whose parts are in a strict weak order -/
theorem sorted_tup {t : Addr} {xs : List Value} {lt : Value → Value → Bool} {R : Value → Shared → Prop} (O : SrtO.Swo lt) (ht : IsTup s.heap t xs.toArray) (hn : xs.length ≤ sizeLine)
    (hS : 2 ≤ xs.length → ∀ (h1 : Heap) (a : Addr), SrtO.SortableO prog w A.in1.in1 { s with heap := h1 } a xs lt)
    (hR : ∀ ys : List Value, SrtO.Srtd lt ys → SrtO.Stb lt ys xs → R (.ref (s.heap.objs.size + 1)) { s with heap := sortedAll s.heap xs ys.toArray }) :
    wpAny (model prog w) A (call (.builtin "sorted") [.ref t]) R E s := by
  refine Calls.call_function_entry kind_sorted plain_sorted entry_sorted (args_sorted1 _) ?_
  unfold Builtin.«sorted»
  refine wpAny_bind (m := checkCount "sorted" 1 1 _) (wpAny_pure (wpAny_bind (collect_tup ht hn (wpAny_bind (wpAny_newList ?_ hn)))))
  have hsz : (gotH s.heap xs).objs.size = s.heap.objs.size + 1 := by
    unfold gotH; rw [Heap.size_update, size_push']
  have hnew : ((gotH s.heap xs).push (seqObj "list" xs.toArray 0)).get? (s.heap.objs.size + 1) = some (seqObj "list" xs.toArray 0) := by
    rw [← hsz]; exact Heap.get?_push_size _ rfl
  show wpAny _ _ _ _ _ { s with heap := (gotH s.heap xs).push (seqObj "list" xs.toArray 0) }
  rw [hsz]
  refine wpAny_bind (wpAny_holding (wpAny_call_entry slot_list_sort ⟨_, hnew, rfl⟩ entry_list_sort (SrtO.list_sort_ord O hnew hn (fun h2 => hS h2 _ _) fun ys h1 h2 => ⟨_, rfl, ?_⟩) (args_list_sort _)))
  exact wpAny_pure ⟨_, rfl, hR ys h1 h2⟩
end
/-- sorted(xs), a tuple of ints -/
noncomputable def rSortTI (K : PySem.W.Frag) : List V → Hp → VK → Prop := fun vs H Q => ∃ (a : Addr) (ns : List Int), vs = [V.ref a] ∧ SqT K H a (ns.map V.int) ∧
  ∀ (ms : List Int) (p : Addr), ms.Perm ns → ms.Pairwise (· ≤ ·) → H p = none → Q (.ref p) (upd H p (.lst (ms.map V.int)))
theorem cr_sortTI {X : Cx} : CallR X (.builtin "sorted") (rSortTI X.K) := by
  intro pins s σ H vs us Q I r h
  obtain ⟨a, ns, rfl, hs, q⟩ := h
  obtain ⟨its, rv, pl, hz⟩ := I.tuple hs
  rw [Vals.ref1 r]
  have hi := rv.ints
  refine sorted_tup SrtO.swo_int pl (by rw [← rv.length]; exact hz) (fun h2 h₁ a' => SrtO.ints_sortable hi h2) fun out h1 h2 => ?_
  obtain ⟨k1, k2, k3⟩ := SrtO.ints_out hi h1 h2
  obtain ⟨ep, hat⟩ := sortedAll_at s.heap its out.toArray
  have hlen : ((out.map SrtO.iv).map V.int).length ≤ sizeLine := by
    rw [List.length_map, k2.length_eq, ← List.length_map (f := V.int)]; exact hz
  refine ⟨.ref _, upd H (s.heap.objs.size + 1) (.lst ((out.map SrtO.iv).map V.int)), ?_, rfl, q _ _ k2 k3 (I.hok.fresh (Nat.le_succ _))⟩
  exact I.laid (t' := s.toks) (fun _ _ => sortedAll_old) (Nat.le_succ _) ⟨hlen, out, ep, vals_of_ints k1, hat⟩
/-! tuple * int, up to 4000 times -/
noncomputable def rRepW (K : PySem.W.Frag) : R2 := fun x y H Q => ∃ l k xs, x = .ref l ∧ y = .int k ∧ SqT K H l xs ∧ xs ≠ [] ∧ 2 ≤ k ∧ k ≤ 4000 ∧ xs.length ≤ 1000 ∧ ∀ p, H p = none → Q (.ref p) (upd H p (.tup (List.replicate k.toNat xs).flatten))
theorem op_repW {X : Cx} : OpR X (binaryOp .Mult) (rRepW X.K) := by
  intro pins s σ H x y v u Q I rx ry ⟨l, k, xs, ex, ey, hT, hne, h1, h2, hz, q⟩
  subst ex; subst ey
  cases rx
  obtain ⟨t, et⟩ := ry
  subst et
  obtain ⟨its, r, ⟨⟨oc, dd, od, sl⟩, ho, hc, n, hd⟩, hs⟩ := I.tuple hT
  have hc : oc = _ := hc
  have hd : od = _ := hd
  subst hc; subst hd
  have hl : xs.length = its.length := r.length
  have h0 : 0 < its.length := by
    rw [← hl]; exact List.length_pos_iff.2 hne
  have he : its.toArray.isEmpty = false := by
    cases its with
    | nil => simp at h0
    | cons a b => rfl
  have hprod : k.toNat * xs.length ≤ 4000000 := by
    have := Nat.mul_le_mul (show k.toNat ≤ 4000 by omega) hz
    omega
  have hline : 4000000 ≤ sizeLine := by decide
  have hI : ((its.toArray.size : Nat) : Int) * k ≤ 4000000 := by
    rw [List.size_toArray, ← hl]
    have e : ((xs.length : Nat) : Int) * k = ((k.toNat * xs.length : Nat) : Int) := by
      rw [Int.natCast_mul, Int.toNat_of_nonneg (by omega), Int.mul_comm]
    omega
  have hlen : (List.replicate k.toNat its).flatten.length ≤ sizeLine := by
    rw [PyProof.Rows.lm_len_rep_flat, ← hl]; omega
  have g0 : (decide (k < -(2 ^ 63)) || decide (k ≥ 2 ^ 63)) = false := by simp; omega
  have g1 : (its.toArray.isEmpty || k == 1) = false := by rw [he]; simp; omega
  have g2 : (decide (k ≤ 0) || its.toArray.isEmpty) = false := by rw [he]; simp; omega
  have g4 : Builtin.Tuple.tupleTooMany (((its.toArray.size : Nat) : Int) * k) = false := by
    unfold Builtin.Tuple.tupleTooMany
    simp only [decide_eq_false_iff_not]; omega
  have mw := tuple_mulW l its.toArray n dd sl k t g0 g1 g2 (by omega) g4 (by rw [size_rep, List.size_toArray]; exact hlen)
  have mr := int_rmul_tuple k t l its.toArray n dd sl
  refine wpAny_binaryOp_repeat_ref (T := "tuple") (U := "int") (by decide) ⟨_, ho, rfl⟩ (fun s' => typeIs_int s' k t) noFill_tuple_mul F.fills_int_mul F.slot_int_rmul repeat_tuple
    F.slot_int_index.lookup ?_
  refine call_meets F.slot_int_rmul (typeIs_int s k t) F.entry_int_rmul (F.args_int_rmul_2 _ _) mr ⟨ho, rfl, ⟨_, ho, rfl⟩, ?_⟩
  refine call_meets F.slot_tuple_mul ⟨_, ho, rfl⟩ F.entry_tuple_mul (F.args_tuple_mul_2 _ _) mw ⟨ho, ?_⟩
  rw [size_rep]
  have hnew : ObjOk X.prog X.w (upd H s.heap.objs.size (.tup (List.replicate k.toNat xs).flatten)) (s.heap.push { cls := Value.type "tuple", data := Data.seq (List.replicate k.toNat its).flatten.toArray }) s.heap.objs.size (.tup (List.replicate k.toNat xs).flatten) :=
    ⟨by rw [PyProof.Rows.lm_len_rep_flat]; omega, _, r.rep k.toNat, IsTup.new _ _⟩
  exact ⟨.ref s.heap.objs.size, _, I.laid (t' := s.toks) (fun b ob e => Heap.get?_push_of_some _ e) (Nat.le_refl _) hnew, rfl, q _ (I.hok.fresh (Nat.le_refl _))⟩
/-! tuple * 1 -/
theorem tuple_mul1 (l : Addr) (items : Array Value) (n : Nat) (dd : Option Addr) (sl : Array (Option Value)) (x : Int) (u : Tok) (hx : x = 1) :
    Meets (Builtin.«tuple.__mul__» ⟨[.ref l, .int x u], []⟩) (fun _ R s => s.heap.get? l = some { cls := .type "tuple", dict := dd, data := .seq items n, slots := sl } ∧ R (.ok (.ret (Value.ref l))) s) :=
  .of_wp fun prog w A R s h => by
    obtain ⟨hp, g, d, tk, os⟩ := s
    obtain ⟨hl, h⟩ := h
    have f1 := AutoSeq1.idx_int
    have c0 : (decide (x < -(2 ^ 63)) || decide (x ≥ 2 ^ 63)) = false := by subst hx; rfl
    have c1 : (items.isEmpty || x == 1) = true := by subst hx; simp
    wp_walk using wpAny_loadPart' hl
    repeat (first
      | (refine wpAny_ite_false (decide_eq_false (by rw [c0]; exact Bool.false_ne_true)) ?_; wp_walk using wpAny_loadPart' hl)
      | (refine wpAny_ite_true (decide_eq_true c1) ?_; wp_walk using wpAny_loadPart' hl))
    exact ⟨_, rfl, h⟩
noncomputable def rRep1 (K : PySem.W.Frag) : R2 := fun x y H Q => ∃ l xs, x = .ref l ∧ y = .int 1 ∧ SqT K H l xs ∧ xs ≠ [] ∧ Q (.ref l) H
theorem op_rep1 {X : Cx} : OpR X (binaryOp .Mult) (rRep1 X.K) := by
  intro pins s σ H x y v u Q I rx ry ⟨l, xs, ex, ey, hT, hne, q⟩
  subst ex; subst ey
  cases rx
  obtain ⟨t, et⟩ := ry
  subst et
  obtain ⟨its, r, ⟨⟨oc, dd, od, sl⟩, ho, hc, n, hd⟩, hs⟩ := I.tuple hT
  have hc : oc = _ := hc
  have hd : od = _ := hd
  subst hc; subst hd
  have mw := tuple_mul1 l its.toArray n dd sl 1 t rfl
  have mr := int_rmul_tuple 1 t l its.toArray n dd sl
  refine wpAny_binaryOp_repeat_ref (T := "tuple") (U := "int") (by decide) ⟨_, ho, rfl⟩ (fun s' => typeIs_int s' 1 t) noFill_tuple_mul F.fills_int_mul F.slot_int_rmul repeat_tuple
    F.slot_int_index.lookup ?_
  refine call_meets F.slot_int_rmul (typeIs_int s 1 t) F.entry_int_rmul (F.args_int_rmul_2 _ _) mr ⟨ho, rfl, ⟨_, ho, rfl⟩, ?_⟩
  refine call_meets F.slot_tuple_mul ⟨_, ho, rfl⟩ F.entry_tuple_mul (F.args_tuple_mul_2 _ _) mw ⟨ho, ?_⟩
  exact ⟨.ref l, _, I, rfl, q⟩
end MI
/-! MI1: how data lie in the abstract heap; what stays. -/
namespace MI
open PySem PySem.Spec PyProof.Rows L2
/-- what is asked of a class whose objects are data -/
structure ObCls (K : PySem.W.Frag) (C : Addr) : Prop where
  cls : Cls K C
  ha : PySem.W.findIn K (.ref C) "__class__" = some (some (.builtin "object.__class__"))
  hn : PySem.W.specialIn K (.builtin "object.__class__") "__get__" = some (some (.builtin "getset_descriptor.__get__"))
  htk : PySem.W.takesIn K (.builtin "object.__class__") = some true
  hm : PySem.W.mroIn K C (.type "object") = some true
  is : ∀ n ∈ ["int", "bool", "tuple", "str", "list"], PySem.W.kitOne K (.ref C) (.type n) = some false
theorem ObCls.ty {K : PySem.W.Frag} {C a dx : Addr} {H : Hp} {fs : List (Str × V)} (o : ObCls K C) (e : H a = some (.ins C dx fs)) : TyOf K H (.ref a) (.ref C) := .ins e o.cls o.ha o.hn o.htk o.hm
/-- the written part that is meant -/
class EK where
  k : PySem.W.Frag
  /-- the tables of code objects, each with its lambdas' name -/
  t : List (Addr × Str)
  /-- the exception that is handled, what it stands for, its dict -/
  x : Option (Addr × PyData × Option Addr) := none
  /-- the classes whose objects are data, by number -/
  c : List Addr := []
  ok : ∀ C ∈ c, ObCls k C := by exact fun _ h => absurd h List.not_mem_nil
/-- whether a def may run where a repr is under way -/
class GR where
  r : Bool
noncomputable def GOk [GR] (A : Around) : Prop := GR.r = true ∨ A.guards = some []
/-- as a rule it may not -/
instance (priority := low) gr0 : GR := ⟨false⟩
abbrev gr1 : GR := ⟨true⟩
theorem GOk.gs {A : Around} (h : @GOk gr0 A) : A.guards = some [] := h.elim (fun z => Bool.noConfusion z) id
variable [EK]
/-- attributes as a dict's entries -/
noncomputable def kvF (fs : List (Str × V)) : List (Key × V) := fs.map fun p => (Sum.inr p.1, p.2)
/-- a list that nobody may change: the script -/
noncomputable def ScrAt (H : Hp) (a : Addr) (xs : List V) : Prop :=
  (∃ o, H a = some (.frz o (.lst xs))) ∨
    ∃ (o : Obj) (its : Array Value) (n : Nat), EK.k.lookup a = some o ∧ o.cls = .type "list" ∧ o.dict = none ∧ o.data = .seq its n ∧ its.size ≤ sizeLine ∧ Vals xs its.toList
theorem ScrAt.sq {K : PySem.W.Frag} {H : Hp} {a : Addr} {xs : List V} (hK : K = EK.k) (h : ScrAt H a xs) : SqL K H a xs := by
  subst hK
  rcases h with h | h
  · exact .inl (.inr h)
  · exact .inr h
/-- a tuple: tracked, or one of which it is known that it has no dict of its own -/
noncomputable def TupAt (H : Hp) (a : Addr) (xs : List V) : Prop := H a = some (.tup xs) ∨ ∃ o : Obj, (o.dict = none ∧ fzB = true) ∧ H a = some (.frz o (.tup xs))
theorem TupAt.sq {K : PySem.W.Frag} {H : Hp} {a : Addr} {xs : List V} (h : TupAt H a xs) : SqT K H a xs := by
  rcases h with h | ⟨o, _, h⟩
  · exact SqT.of h
  · exact .inl (.inr ⟨o, h⟩)
theorem TupAt.tr {H : Hp} {a : Addr} {xs : List V} (h : TupAt H a xs) (n : fzB = false) : H a = some (.tup xs) := by
  rcases h with h | ⟨o, ⟨_, y⟩, _⟩
  · exact h
  · rw [n] at y; cases y
theorem TupAt.live {H : Hp} {a : Addr} {xs : List V} (h : TupAt H a xs) : ∃ o, H a = some o := by
  rcases h with h | ⟨o, _, h⟩
  · exact ⟨_, h⟩
  · exact ⟨_, h⟩
abbrev AS := Addr → Prop
noncomputable def orA (A : AS) (p : Addr) : AS := fun a => A a ∨ a = p
noncomputable def butA (A : AS) (p : Addr) : AS := fun a => A a ∧ a ≠ p
noncomputable def keyD : Key → PyData
  | .inl i => .int i
  | .inr x => .str x
mutual
/-- the value v is the datum d; its lists and dicts do not lie in A -/
inductive Rel (A : AS) (H : Hp) : V → PyData → Prop
  | non : Rel A H .non .none
  | bl (b : Bool) : Rel A H (.bl b) (.bool b)
  | int (i : Int) : Rel A H (.int i) (.int i)
  | str (x : Str) : Rel A H (.str x) (.str x)
  | lst {a : Addr} {xs : List V} {ds : List PyData} : H a = some (.lst xs) → ¬ A a → RelAll A H xs ds → Rel A H (.ref a) (.list ds)
  | tup {a : Addr} {xs : List V} {ds : List PyData} : TupAt H a xs → RelAll A H xs ds → Rel A H (.ref a) (.tuple ds)
  | dic {a : Addr} {kvs : List (Key × V)} {es : List (PyData × PyData)} : H a = some (.dK kvs) → ¬ A a → RelKv A H kvs es → Rel A H (.ref a) (.dict es)
  | dit {a : Addr} {kvs : List (List Key × V)} {es : List (PyData × PyData)} : H a = some (.dT kvs) → ¬ A a → RelKt A H kvs es → Rel A H (.ref a) (.dict (tMark :: es))
  | scr {a : Addr} {xs : List V} {ds : List PyData} : ScrAt H a xs → RelAll A H xs ds → Rel A H (.ref a) (.dict [(.none, .list ds)])
  | obj {a C dx : Addr} {fs : List (Str × V)} {kvs : List (Key × V)} {es : List (PyData × PyData)} {c : Nat} : H a = some (.ins C dx fs) → ¬ A a → EK.c[c]? = some C → kvs = kvF fs → RelKv A H kvs es → Rel A H (.ref a) (.dict (oMark c :: es))
inductive RelAll (A : AS) (H : Hp) : List V → List PyData → Prop
  | nil : RelAll A H [] []
  | cons {v : V} {vs : List V} {d : PyData} {ds : List PyData} : Rel A H v d → RelAll A H vs ds → RelAll A H (v :: vs) (d :: ds)
inductive RelKv (A : AS) (H : Hp) : List (Key × V) → List (PyData × PyData) → Prop
  | nil : RelKv A H [] []
  | cons {k : Key} {v : V} {kvs : List (Key × V)} {d : PyData} {es : List (PyData × PyData)} : Rel A H v d → RelKv A H kvs es → RelKv A H ((k, v) :: kvs) ((keyD k, d) :: es)
inductive RelKt (A : AS) (H : Hp) : List (List Key × V) → List (PyData × PyData) → Prop
  | nil : fzB = false → RelKt A H [] []
  | cons {k : List Int} {v : V} {kvs : List (List Key × V)} {d : PyData} {es : List (PyData × PyData)} : Rel A H v d → RelKt A H kvs es → RelKt A H ((k.map Sum.inl, v) :: kvs) ((.tuple (k.map .int), d) :: es)
end
noncomputable def Mu : HO → Prop
  | .lst _ => True
  | .dK _ => True
  | .dT _ => True
  | .ins _ _ _ => True
  | _ => False
/-- no table of code objects -/
noncomputable def Nb (o : HO) : Prop := ∀ ps, o ≠ .tbl ps
theorem nb_l {xs : List V} : Nb (.lst xs) := fun _ z => by cases z
theorem nb_k {kvs : List (Key × V)} : Nb (.dK kvs) := fun _ z => by cases z
theorem nb_d {kvs : List (List Key × V)} : Nb (.dT kvs) := fun _ z => by cases z
theorem nb_i {C dx : Addr} {fs : List (Str × V)} : Nb (.ins C dx fs) := fun _ z => by cases z
theorem nb_t {xs : List V} : Nb (.tup xs) := fun _ z => by cases z
theorem nb_f {o : Obj} {u : HO} : Nb (.frz o u) := fun _ z => by cases z
/-- what may change lies in M and is a list or a dict, or is a table of code objects -/
structure Kp (M : AS) (H H' : Hp) : Prop where
  same : ∀ a o, H a = some o → (M a → ¬ Mu o) → (nb : Nb o := by intro ps z; cases z) → H' a = some o
  live : ∀ a o, H a = some o → ∃ o', H' a = some o'
  tab : LamX.Tabs EK.t H → LamX.Tabs EK.t H'
abbrev No : AS := fun _ => False
theorem TupAt.keep {M : AS} {H H' : Hp} {a : Addr} {xs : List V} (k : Kp M H H') (h : TupAt H a xs) : TupAt H' a xs := h.imp (fun e => k.same _ _ e fun _ z => z) fun ⟨o, d, e⟩ => ⟨o, d, k.same _ _ e fun _ z => z⟩
section
variable {A A' M M' : AS} {H H' H1 H2 : Hp} {v : V} {d : PyData} {xs ys : List V} {ds es : List PyData} {p : Addr}
theorem Kp.refl (M : AS) (H : Hp) : Kp M H H := ⟨fun _ _ h _ _ => h, fun _ o h => ⟨o, h⟩, fun t => t⟩
theorem Kp.mono (hm : ∀ a, M a → M' a) (k : Kp M H H') : Kp M' H H' := ⟨fun a o h n nb => k.same a o h (fun z => n (hm a z)) nb, k.live, k.tab⟩
theorem Kp.of (k : Kp No H H') : Kp M H H' := k.mono fun _ z => z.elim
theorem Kp.trans (a : Kp M H H1) (b : Kp M H1 H2) : Kp M H H2 :=
  ⟨fun x o h n nb => b.same x o (a.same x o h n nb) n nb, fun x o h => let ⟨o1, h1⟩ := a.live x o h; b.live x o1 h1, fun t => b.tab (a.tab t)⟩
theorem Kp.new {o : HO} (h : H p = none) : Kp M H (upd H p o) :=
  ⟨fun a u e _ _ => by rw [upd_ne (ne_of_none e h)]; exact e, fun a u e => ⟨u, by rw [upd_ne (ne_of_none e h)]; exact e⟩, fun t => t.ext fun b u e => by rw [upd_ne (ne_of_none e h)]; exact e⟩
/-- a list of one's own is written -/
theorem Kp.wr {o o' : HO} (hm : M p) (h : H p = some o) (mu : Mu o) : Kp M H (upd H p o') := by
  refine ⟨fun a u e n _ => ?_, fun a u e => ?_, fun t q hq => ?_⟩
  · by_cases ha : a = p
    · subst ha; rw [h] at e; cases e; exact absurd mu (n hm)
    · rw [upd_ne ha]; exact e
  · by_cases ha : a = p
    · subst ha; exact ⟨o', upd_same⟩
    · exact ⟨u, by rw [upd_ne ha]; exact e⟩
  · obtain ⟨ps, h1, h2, h3⟩ := t q hq
    refine ⟨ps, by rw [upd_ne fun z => by rw [z, h] at h1; cases h1; exact mu]; exact h1, h2, fun pos cv hc => ?_⟩
    obtain ⟨c, e1, e2⟩ := h3 pos cv hc
    exact ⟨c, e1, by rw [upd_ne fun z => by rw [z, h] at e2; cases e2; exact mu]; exact e2⟩
mutual
theorem Rel.map (f : ∀ a o, Nb o → H a = some o → (A a → ¬ Mu o) → H' a = some o) (g : ∀ a o, H a = some o → A' a → ¬ A a → Mu o → False) : ∀ {v : V} {d : PyData}, Rel A H v d → Rel A' H' v d
  | _, _, .non => .non
  | _, _, .bl b => .bl b
  | _, _, .int i => .int i
  | _, _, .str x => .str x
  | _, _, .lst h n r => .lst (f _ _ nb_l h fun z => absurd z n) (fun z => g _ _ h z n trivial) (RelAll.map f g r)
  | _, _, .tup h r => .tup (h.imp (fun e => f _ _ nb_t e fun _ z => z) fun ⟨o, c, e⟩ => ⟨o, c, f _ _ nb_f e fun _ z => z⟩) (RelAll.map f g r)
  | _, _, .dit h n r => .dit (f _ _ nb_d h fun z => absurd z n) (fun z => g _ _ h z n trivial) (RelKt.map f g r)
  | _, _, .dic h n r => .dic (f _ _ nb_k h fun z => absurd z n) (fun z => g _ _ h z n trivial) (RelKv.map f g r)
  | _, _, .scr h r => .scr (h.imp (fun ⟨o, e⟩ => ⟨o, f _ _ nb_f e fun _ z => z⟩) fun z => z) (RelAll.map f g r)
  | _, _, .obj h n hc hk r => .obj (f _ _ nb_i h fun z => absurd z n) (fun z => g _ _ h z n trivial) hc hk (RelKv.map f g r)
theorem RelAll.map (f : ∀ a o, Nb o → H a = some o → (A a → ¬ Mu o) → H' a = some o) (g : ∀ a o, H a = some o → A' a → ¬ A a → Mu o → False) : ∀ {vs : List V} {ds : List PyData}, RelAll A H vs ds → RelAll A' H' vs ds
  | _, _, .nil => .nil
  | _, _, .cons a r => .cons (Rel.map f g a) (RelAll.map f g r)
theorem RelKv.map (f : ∀ a o, Nb o → H a = some o → (A a → ¬ Mu o) → H' a = some o) (g : ∀ a o, H a = some o → A' a → ¬ A a → Mu o → False) : ∀ {vs : List (Key × V)} {ds : List (PyData × PyData)}, RelKv A H vs ds → RelKv A' H' vs ds
  | _, _, .nil => .nil
  | _, _, .cons a r => .cons (Rel.map f g a) (RelKv.map f g r)
theorem RelKt.map (f : ∀ a o, Nb o → H a = some o → (A a → ¬ Mu o) → H' a = some o) (g : ∀ a o, H a = some o → A' a → ¬ A a → Mu o → False) : ∀ {vs : List (List Key × V)} {ds : List (PyData × PyData)}, RelKt A H vs ds → RelKt A' H' vs ds
  | _, _, .nil h => .nil h
  | _, _, .cons a r => .cons (Rel.map f g a) (RelKt.map f g r)
end
theorem RelKt.fz : ∀ {kvs : List (List Key × V)} {es : List (PyData × PyData)}, RelKt A H kvs es → fzB = false
  | _, _, .nil h => h
  | _, _, .cons _ r => RelKt.fz r
theorem kp_f (hs : ∀ a, M a → A a) (k : Kp M H H') : ∀ a o, Nb o → H a = some o → (A a → ¬ Mu o) → H' a = some o := fun a o nb h n => k.same a o h (fun z => n (hs a z)) nb
theorem anti_g (hs : ∀ a, A' a → A a) : ∀ a o, H a = some o → A' a → ¬ A a → Mu o → False := fun a _ _ z n _ => n (hs a z)
theorem Rel.keep (hs : ∀ a, M a → A a) (k : Kp M H H') (r : Rel A H v d) : Rel A H' v d := r.map (kp_f hs k) (anti_g fun _ z => z)
theorem RelAll.keep (hs : ∀ a, M a → A a) (k : Kp M H H') (r : RelAll A H xs ds) : RelAll A H' xs ds := r.map (kp_f hs k) (anti_g fun _ z => z)
theorem RelKv.keep {kvs : List (Key × V)} {es : List (PyData × PyData)} (hs : ∀ a, M a → A a) (k : Kp M H H') (r : RelKv A H kvs es) : RelKv A H' kvs es := r.map (kp_f hs k) (anti_g fun _ z => z)
theorem RelKt.keep {kvs : List (List Key × V)} {es : List (PyData × PyData)} (hs : ∀ a, M a → A a) (k : Kp M H H') (r : RelKt A H kvs es) : RelKt A H' kvs es := r.map (kp_f hs k) (anti_g fun _ z => z)
theorem Rel.anti (hs : ∀ a, A' a → A a) (r : Rel A H v d) : Rel A' H v d := r.map (fun _ _ _ h _ => h) (anti_g hs)
theorem RelAll.anti (hs : ∀ a, A' a → A a) (r : RelAll A H xs ds) : RelAll A' H xs ds := r.map (fun _ _ _ h _ => h) (anti_g hs)
theorem RelKv.anti {kvs : List (Key × V)} {es : List (PyData × PyData)} (hs : ∀ a, A' a → A a) (r : RelKv A H kvs es) : RelKv A' H kvs es := r.map (fun _ _ _ h _ => h) (anti_g hs)
theorem or_g (hp : H p = none) : ∀ a o, H a = some o → orA A p a → ¬ A a → Mu o → False := fun a o h z n _ => by
  rcases z with z | z
  · exact n z
  · subst z; rw [hp] at h; cases h
theorem Rel.fresh (hp : H p = none) (r : Rel A H v d) : Rel (orA A p) H v d := r.map (fun _ _ _ h _ => h) (or_g hp)
theorem RelAll.fresh (hp : H p = none) (r : RelAll A H xs ds) : RelAll (orA A p) H xs ds := r.map (fun _ _ _ h _ => h) (or_g hp)
theorem RelKv.fresh {kvs : List (Key × V)} {es : List (PyData × PyData)} (hp : H p = none) (r : RelKv A H kvs es) : RelKv (orA A p) H kvs es := r.map (fun _ _ _ h _ => h) (or_g hp)
theorem RelAll.length : ∀ {vs : List V} {ds : List PyData}, RelAll A H vs ds → vs.length = ds.length
  | _, _, .nil => rfl
  | _, _, .cons _ r => congrArg (· + 1) (RelAll.length r)
theorem RelAll.get : ∀ {vs : List V} {ds : List PyData} {i : Nat} {d : PyData}, RelAll A H vs ds → ds[i]? = some d → ∃ v, vs[i]? = some v ∧ Rel A H v d
  | _, _, _, _, .nil, h => by simp at h
  | _, _, 0, _, .cons a _, h => by
    have e := Option.some.inj h
    subst e
    exact ⟨_, rfl, a⟩
  | _, _, i + 1, _, .cons _ r, h => RelAll.get (i := i) r h
theorem RelAll.get' : ∀ {vs : List V} {ds : List PyData} {i : Nat} {v : V}, RelAll A H vs ds → vs[i]? = some v → ∃ d, ds[i]? = some d ∧ Rel A H v d
  | _, _, _, _, .nil, h => by simp at h
  | _, _, 0, _, .cons a _, h => by
    have e := Option.some.inj h
    subst e
    exact ⟨_, rfl, a⟩
  | _, _, i + 1, _, .cons _ r, h => RelAll.get' (i := i) r h
theorem RelAll.append : ∀ {vs ws : List V} {ds es : List PyData}, RelAll A H vs ds → RelAll A H ws es → RelAll A H (vs ++ ws) (ds ++ es)
  | _, _, _, _, .nil, h => h
  | _, _, _, _, .cons a r, h => .cons a (RelAll.append r h)
theorem RelAll.drop : ∀ {vs : List V} {ds : List PyData} (n : Nat), RelAll A H vs ds → RelAll A H (vs.drop n) (ds.drop n)
  | _, _, 0, h => h
  | _, _, _ + 1, .nil => .nil
  | _, _, n + 1, .cons _ r => RelAll.drop n r
theorem RelAll.take : ∀ {vs : List V} {ds : List PyData} (n : Nat), RelAll A H vs ds → RelAll A H (vs.take n) (ds.take n)
  | _, _, 0, _ => .nil
  | _, _, _ + 1, .nil => .nil
  | _, _, n + 1, .cons a r => .cons a (RelAll.take n r)
theorem RelAll.set (hv : Rel A H v d) : ∀ {vs : List V} {ds : List PyData} (n : Nat), RelAll A H vs ds → RelAll A H (vs.set n v) (ds.set n d)
  | _, _, _, .nil => .nil
  | _, _, 0, .cons _ r => .cons hv r
  | _, _, n + 1, .cons a r => .cons a (RelAll.set hv n r)
theorem RelAll.flatten (r : RelAll A H xs ds) : ∀ n : Nat, RelAll A H (List.replicate n xs).flatten (List.replicate n ds).flatten
  | 0 => .nil
  | n + 1 => by
    rw [List.replicate_succ, List.replicate_succ, List.flatten_cons, List.flatten_cons]
    exact r.append (RelAll.flatten r n)
end
/-- the object at a is the datum d, of one's own -/
noncomputable def Own (A : AS) (H : Hp) (a : Addr) (d : PyData) : Prop :=
  (∃ xs ds, d = .list ds ∧ H a = some (.lst xs) ∧ RelAll A H xs ds) ∨ (∃ kvs es, d = .dict es ∧ H a = some (.dK kvs) ∧ RelKv A H kvs es) ∨
    (∃ xs ds o, d = .tuple ds ∧ (o.dict = none ∧ fzB = true) ∧ H a = some (.frz o (.tup xs)) ∧ RelAll A H xs ds) ∨ (∃ kvs es, d = .dict (tMark :: es) ∧ H a = some (.dT kvs) ∧ RelKt A H kvs es) ∨
    ∃ C dx fs es c, d = .dict (oMark c :: es) ∧ H a = some (.ins C dx fs) ∧ EK.c[c]? = some C ∧ RelKv A H (kvF fs) es
noncomputable def NT (d : PyData) : Prop := ∀ ds, d = PyData.tuple ds → True
/-- it may change -/
noncomputable def NM (d : PyData) : Prop := ∀ ds, d ≠ .tuple ds
section
variable {A A' M M' : AS} {H H' H1 H2 : Hp} {v : V} {d : PyData} {xs ys : List V} {ds es : List PyData} {p a : Addr}
theorem Own.rel (nt : NT d) (h : Own A H a d) (n : ¬ A a) : Rel A H (.ref a) d := by
  rcases h with ⟨xs, ds, rfl, h, r⟩ | ⟨kvs, es, rfl, h, r⟩ | ⟨xs, ds, o, rfl, hd, h, r⟩ | ⟨kvs, es, rfl, h, r⟩ | ⟨C, dx, fs, es, c, rfl, h, hc, r⟩
  · exact .lst h n r
  · exact .dic h n r
  · exact .tup (.inr ⟨o, hd, h⟩) r
  · exact .dit h n r
  · exact .obj h n hc rfl r
theorem Own.relT {ds : List PyData} (h : Own A H a (.tuple ds)) : Rel A H (.ref a) (.tuple ds) := by
  rcases h with ⟨xs, ds', e, h, r⟩ | ⟨kvs, es, e, h, r⟩ | ⟨xs, ds', o, e, hd, h, r⟩ | ⟨kvs, es, e, h, r⟩ | ⟨C, dx, fs, es, c, e, h, hc, r⟩
  · cases e
  · cases e
  · cases e; exact .tup (.inr ⟨o, hd, h⟩) r
  · cases e
  · cases e
theorem Own.map (f : ∀ a o, Nb o → H a = some o → (A a → ¬ Mu o) → H' a = some o) (g : ∀ a o, H a = some o → A' a → ¬ A a → Mu o → False) (ha : H' a = H a) (h : Own A H a d) : Own A' H' a d := by
  rcases h with ⟨xs, ds, rfl, h, r⟩ | ⟨kvs, es, rfl, h, r⟩ | ⟨xs, ds, o, rfl, hd, h, r⟩ | ⟨kvs, es, rfl, h, r⟩ | ⟨C, dx, fs, es, c, rfl, h, hc, r⟩
  · exact .inl ⟨xs, ds, rfl, ha.trans h, r.map f g⟩
  · exact .inr (.inl ⟨kvs, es, rfl, ha.trans h, r.map f g⟩)
  · exact .inr (.inr (.inl ⟨xs, ds, o, rfl, hd, ha.trans h, r.map f g⟩))
  · exact .inr (.inr (.inr (.inl ⟨kvs, es, rfl, ha.trans h, r.map f g⟩)))
  · exact .inr (.inr (.inr (.inr ⟨C, dx, fs, es, c, rfl, ha.trans h, hc, r.map f g⟩)))
theorem Own.keep (hs : ∀ a, M a → A a) (k : Kp M H H') (nm : ¬ M a) (h : Own A H a d) : Own A H' a d := by
  rcases h with ⟨xs, ds, rfl, h, r⟩ | ⟨kvs, es, rfl, h, r⟩ | ⟨xs, ds, o, rfl, hd, h, r⟩ | ⟨kvs, es, rfl, h, r⟩ | ⟨C, dx, fs, es, c, rfl, h, hc, r⟩
  · exact .inl ⟨xs, ds, rfl, k.same _ _ h fun z => absurd z nm, r.keep hs k⟩
  · exact .inr (.inl ⟨kvs, es, rfl, k.same _ _ h fun z => absurd z nm, r.keep hs k⟩)
  · exact .inr (.inr (.inl ⟨xs, ds, o, rfl, hd, k.same _ _ h fun z => absurd z nm, r.keep hs k⟩))
  · exact .inr (.inr (.inr (.inl ⟨kvs, es, rfl, k.same _ _ h fun z => absurd z nm, r.keep hs k⟩)))
  · exact .inr (.inr (.inr (.inr ⟨C, dx, fs, es, c, rfl, k.same _ _ h fun z => absurd z nm, hc, r.keep hs k⟩)))
theorem Own.anti (hs : ∀ a, A' a → A a) (h : Own A H a d) : Own A' H a d := h.map (fun _ _ _ h _ => h) (anti_g hs) rfl
theorem Own.fresh (hp : H p = none) (h : Own A H a d) : Own (orA A p) H a d := h.map (fun _ _ _ h _ => h) (or_g hp) rfl
theorem Own.nb {o : HO} (h : Own A H a d) (e : H a = some o) : Nb o := by
  rcases h with ⟨xs, ds, rfl, h, r⟩ | ⟨kvs, es, rfl, h, r⟩ | ⟨xs, ds, o, rfl, hd, h, r⟩ | ⟨kvs, es, rfl, h, r⟩ | ⟨C, dx, fs, es, c, rfl, h, hc, r⟩
  · rw [e] at h; cases h; exact nb_l
  · rw [e] at h; cases h; exact nb_k
  · rw [e] at h; cases h; exact nb_f
  · rw [e] at h; cases h; exact nb_d
  · rw [e] at h; cases h; exact nb_i
theorem Own.live (h : Own A H a d) : ∃ o, H a = some o ∧ (NM d → Mu o) := by
  rcases h with ⟨xs, ds, rfl, h, r⟩ | ⟨kvs, es, rfl, h, r⟩ | ⟨xs, ds, o, rfl, hd, h, r⟩ | ⟨kvs, es, rfl, h, r⟩ | ⟨C, dx, fs, es, c, rfl, h, hc, r⟩
  · exact ⟨_, h, fun _ => trivial⟩
  · exact ⟨_, h, fun _ => trivial⟩
  · exact ⟨_, h, fun z => absurd rfl (z ds)⟩
  · exact ⟨_, h, fun _ => trivial⟩
  · exact ⟨_, h, fun _ => trivial⟩
end
/-- the dict of the exception that stands for such a value -/
inductive XdAt (H : Hp) : PyData → Option Addr → Prop
  | one {c : Nat} : XdAt H (.int (c : Int)) none
  | two {c : Nat} {a b : Int} {p : Addr} {x1 x2 : Str} : xfN c = some (x1, x2) → H p = some (.xd [(x2, .int b), (x1, .int a)]) → XdAt H (.tuple [.int (c : Int), .int a, .int b]) (some p)
theorem XdAt.keep {M : AS} {H H' : Hp} {d : PyData} {dd : Option Addr} (k : Kp M H H') (h : XdAt H d dd) : XdAt H' d dd := by
  cases h with
  | one => exact .one
  | two e h => exact .two e (k.same _ _ h fun _ z => z)
noncomputable def XOf (a : Addr) (d : PyData) : Prop := ∃ dd, EK.x = some (a, d, dd)
/-- the tables of code objects, the exception's fields -/
noncomputable def TabX (H : Hp) : Prop := LamX.Tabs EK.t H ∧ ∀ a d dd, EK.x = some (a, d, dd) → XdAt H d dd
theorem Kp.tabX {M : AS} {H H' : Hp} (k : Kp M H H') (t : TabX H) : TabX H' := ⟨k.tab t.1, fun a d dd e => (t.2 a d dd e).keep k⟩
/-- the variables as they lie: A is what no standing datum touches, M what this frame may change -/
structure RE (A M : AS) (H : Hp) (ρ : Rho) (σ : L2.St) : Prop where
  len : ρ.length = σ.length
  sub : ∀ a, M a → A a
  live : ∀ a, A a → ∃ o, H a = some o
  dat : ∀ (i : Nat) (d : PyData), ρ[i]? = some (Slot.dat d) → ∃ v, σ[i]? = some (some v) ∧ Rel A H v d
  own : ∀ (i : Nat) (d : PyData), ρ[i]? = some (Slot.own d) → ∃ a, σ[i]? = some (some (V.ref a)) ∧ M a ∧ Own A H a d
  inj : ∀ (i j : Nat) (d e : PyData) (a : Addr), ρ[i]? = some (Slot.own d) → ρ[j]? = some (Slot.own e) → σ[i]? = some (some (V.ref a)) → σ[j]? = some (some (V.ref a)) → i = j
  tab : TabX H
  exc : ∀ (i : Nat) (c : PyData), ρ[i]? = some (Slot.exc c) → ∃ a, σ[i]? = some (some (V.ref a)) ∧ XOf a c
theorem exc_set {ρ : Rho} {i j : Nat} {c : PyData} {s : Slot} (hs : s ≠ .exc c) (h : (ρ.set i s)[j]? = some (Slot.exc c)) : j ≠ i ∧ ρ[j]? = some (Slot.exc c) := by
  by_cases hj : j = i
  · subst hj
    have hl : j < (ρ.set j s).length := (List.getElem?_eq_some_iff.mp h).1
    rw [List.length_set] at hl
    rw [List.getElem?_set_self hl] at h
    exact absurd (Option.some.inj h) hs
  · rw [List.getElem?_set_ne (Ne.symm hj)] at h
    exact ⟨hj, h⟩
theorem RE.excS {A M : AS} {H : Hp} {ρ : Rho} {σ : L2.St} {i : Nat} {s : Slot} (r : RE A M H ρ σ) (hs : ∀ c, s ≠ .exc c) : ∀ (j : Nat) (c : PyData), (ρ.set i s)[j]? = some (Slot.exc c) → ∃ a, σ[j]? = some (some (V.ref a)) ∧ XOf a c := fun j c h => r.exc j c (exc_set (hs c) h).2
theorem RE.excB {A M : AS} {H : Hp} {ρ : Rho} {σ : L2.St} {i : Nat} {s : Slot} {v : Option V} (r : RE A M H ρ σ) (hs : ∀ c, s ≠ .exc c) : ∀ (j : Nat) (c : PyData), (ρ.set i s)[j]? = some (Slot.exc c) → ∃ a, (σ.set i v)[j]? = some (some (V.ref a)) ∧ XOf a c := fun j c h => by
  obtain ⟨n, q⟩ := exc_set (hs c) h
  rw [List.getElem?_set_ne (Ne.symm n)]
  exact r.exc j c q
structure Shr (A M A' M' : AS) : Prop where
  a : ∀ x, A' x → A x
  m : ∀ x, M' x → M x
  d : ∀ x, A x → ¬ A' x → M x
theorem Shr.refl (A M : AS) : Shr A M A M := ⟨fun _ h => h, fun _ h => h, fun _ h n => absurd h n⟩
theorem Shr.trans {A M A1 M1 A2 M2 : AS} (s : Shr A M A1 M1) (t : Shr A1 M1 A2 M2) : Shr A M A2 M2 :=
  ⟨fun x h => s.a x (t.a x h), fun x h => s.m x (t.m x h), fun x h n => by
    by_cases h1 : A1 x
    · exact s.m x (t.d x h1 n)
    · exact s.d x h h1⟩
section
variable {A A' M M' : AS} {H H' H1 H2 : Hp} {v : V} {d : PyData} {ρ ρ' : Rho} {σ : L2.St} {p a : Addr} {i : Nat}
/-- nothing of one's own changed -/
theorem RE.keepM (hs : ∀ a, M' a → A a) (nm : ∀ a, M a → ¬ M' a) (k : Kp M' H H') (r : RE A M H ρ σ) : RE A M H' ρ σ :=
  ⟨r.len, r.sub, fun a h => let ⟨o, e⟩ := r.live a h; k.live a o e, fun i d h => let ⟨v, e, q⟩ := r.dat i d h; ⟨v, e, q.keep hs k⟩,
    fun i d h => let ⟨a, e, m, q⟩ := r.own i d h; ⟨a, e, m, q.keep hs k (nm a m)⟩, r.inj, k.tabX r.tab, r.exc⟩
theorem RE.keep (k : Kp No H H') (r : RE A M H ρ σ) : RE A M H' ρ σ := r.keepM (fun _ z => z.elim) (fun _ _ z => z) k
theorem RE.fresh (hp : H p = none) (hp' : ∃ o, H' p = some o) (k : Kp No H H') (r : RE A M H ρ σ) : RE (orA A p) M H' ρ σ :=
  ⟨r.len, fun a h => .inl (r.sub a h), fun a h => by
      rcases h with h | h
      · obtain ⟨o, e⟩ := r.live a h; exact k.live a o e
      · subst h; exact hp',
    fun i d h => let ⟨v, e, q⟩ := r.dat i d h; ⟨v, e, (q.fresh hp).keep (M := No) (fun _ z => z.elim) k⟩,
    fun i d h => let ⟨a, e, m, q⟩ := r.own i d h; ⟨a, e, m, (q.fresh hp).keep (M := No) (fun _ z => z.elim) k (fun z => z)⟩, r.inj, k.tabX r.tab, r.exc⟩
theorem RE.not_fresh (hp : H p = none) (r : RE A M H ρ σ) : ¬ A p := fun z => by
  obtain ⟨o, e⟩ := r.live p z
  rw [hp] at e; cases e
end
/-- what a value that was reckoned is, behind it; where it is new it may be a tuple of one's own -/
noncomputable def Pst0 (A M : AS) (H : Hp) (ρ' : Rho) (σ : L2.St) (d : PyData) (fr : Bool) (v : V) (H' : Hp) : Prop :=
  ∃ A' M', Shr A M A' M' ∧ Kp M H H' ∧ RE A' M' H' ρ' σ ∧ (fr = false → Rel A' H' v d) ∧ (fr = true → ∃ a, v = .ref a ∧ H a = none ∧ RE (orA A' a) M' H' ρ' σ ∧ Own (orA A' a) H' a d)
/-- .. of expressions: it is none -/
noncomputable def Pst (A M : AS) (H : Hp) (ρ' : Rho) (σ : L2.St) (d : PyData) (fr : Bool) (v : V) (H' : Hp) : Prop := Pst0 A M H ρ' σ d fr v H' ∧ (fr = true → NT d)
/-- .. of operations, that change nothing -/
noncomputable def NewV (A : AS) (H : Hp) (z : PyData) (fr : Bool) (v : V) (H' : Hp) : Prop :=
  Kp No H H' ∧ (fr = false → Rel A H' v z) ∧ (fr = true → ∃ a, v = .ref a ∧ H a = none ∧ Own (orA A a) H' a z) ∧ (fr = true → NT z)
section
variable {A A' M M' : AS} {H H' H1 H2 : Hp} {v : V} {d z : PyData} {fr : Bool} {ρ ρ' : Rho} {σ : L2.St} {p a : Addr} {i : Nat}
theorem NewV.pst (h : NewV A H z fr v H') (r : RE A M H ρ σ) : Pst A M H ρ σ z fr v H' := by
  obtain ⟨k, h1, h2, h3⟩ := h
  refine ⟨⟨A, M, Shr.refl A M, k.of, r.keep k, h1, fun e => ?_⟩, h3⟩
  obtain ⟨a, rfl, ha, ho⟩ := h2 e
  obtain ⟨o, e2, _⟩ := ho.live
  exact ⟨a, rfl, ha, r.fresh ha ⟨o, e2⟩ k, ho⟩
theorem NewV.val (r : Rel A H v z) : NewV A H z false v H := ⟨Kp.refl _ _, fun _ => r, (fun e => nomatch e), fun e => nomatch e⟩
theorem Pst0.val (h : Pst0 A M H ρ' σ d false v H') : Pst A M H ρ' σ d false v H' := ⟨h, fun e => nomatch e⟩
/-- whatever it is, it stands -/
theorem Pst.std (h : Pst A M H ρ' σ d fr v H') (rA : ∀ a, A a → ∃ o, H a = some o) : ∃ A' M', Shr A M A' M' ∧ Kp M H H' ∧ RE A' M' H' ρ' σ ∧ Rel A' H' v d := by
  obtain ⟨⟨A', M', s, k, r, h1, h2⟩, h3⟩ := h
  refine ⟨A', M', s, k, r, ?_⟩
  cases fr with
  | false => exact h1 rfl
  | true =>
    obtain ⟨a, rfl, ha, _, ho⟩ := h2 rfl
    refine (ho.anti (A' := A') fun _ z => .inl z).rel (h3 rfl) fun z => ?_
    obtain ⟨o, e⟩ := rA a (s.a a z)
    rw [ha] at e; cases e
/-- a step ahead -/
theorem Pst0.after (s0 : Shr A M A' M') (k0 : Kp M H H1) (h : Pst0 A' M' H1 ρ' σ d fr v H') : Pst0 A M H ρ' σ d fr v H' := by
  obtain ⟨A2, M2, s, k, r, h1, h2⟩ := h
  refine ⟨A2, M2, s0.trans s, k0.trans (k.mono s0.m), r, h1, fun e => ?_⟩
  obtain ⟨a, rfl, ha, q⟩ := h2 e
  refine ⟨a, rfl, ?_, q⟩
  cases e : H a with
  | none => rfl
  | some o =>
    obtain ⟨o', e'⟩ := k0.live a o e
    rw [ha] at e'; cases e'
theorem Pst.after (s0 : Shr A M A' M') (k0 : Kp M H H1) (h : Pst A' M' H1 ρ' σ d fr v H') : Pst A M H ρ' σ d fr v H' := ⟨h.1.after s0 k0, h.2⟩
end
/-- an operand -/
noncomputable def BR (A : AS) (H : Hp) (σ : L2.St) (v : V) : Bor → Prop
  | .v d => Rel A H v d
  | .r i => σ[i]? = some (some v)
/-- an operand when it is looked at -/
noncomputable def Top (A : AS) (H : Hp) (v : V) (d : PyData) : Prop := Rel A H v d ∨ ∃ a, v = .ref a ∧ Own A H a d ∧ NT d
section
variable {A A' M M' : AS} {H H' H1 H2 : Hp} {v : V} {d z : PyData} {fr : Bool} {ρ ρ' : Rho} {σ : L2.St} {p a : Addr} {i : Nat} {b : Bor}
theorem BR.keep (hs : ∀ a, M a → A a) (s : Shr A M A' M') (k : Kp M H H') (h : BR A H σ v b) : BR A' H' σ v b := by
  cases b with
  | v d => exact (Rel.keep hs k h).anti s.a
  | r i => exact h
theorem BR.top (r : RE A M H ρ σ) (h : BR A H σ v b) (g : b.get ρ = some d) : Top A H v d := by
  cases b with
  | v e => cases g; exact .inl h
  | r i =>
    have h : σ[i]? = some (some v) := h
    have g : getR ρ i = some d := g
    unfold getR at g
    cases e : ρ[i]? with
    | none => rw [e] at g; cases g
    | some s =>
      rw [e] at g
      cases s with
      | no => cases g
      | exc x => cases g
      | dat x =>
        cases g
        obtain ⟨v', e1, q⟩ := r.dat i _ e
        rw [h] at e1; cases e1
        exact .inl q
      | own x =>
        obtain ⟨a, e1, _, q⟩ := r.own i _ e
        rw [h] at e1; cases e1
        cases x with
        | tuple ds => cases g; exact .inl q.relT
        | _ => cases g; exact .inr ⟨a, rfl, q, fun _ => nofun⟩
theorem Top.lst {ds : List PyData} (h : Top A H v (.list ds)) : ∃ a xs, v = .ref a ∧ H a = some (.lst xs) ∧ RelAll A H xs ds := by
  rcases h with h | ⟨a, rfl, ⟨xs, ds', e, h, r⟩ | ⟨_, _, e, _⟩ | ⟨_, _, _, e, _⟩ | ⟨_, _, e, _⟩ | ⟨_, _, _, _, _, e, _⟩, _⟩
  · cases h with | lst h n r => exact ⟨_, _, rfl, h, r⟩
  · cases e; exact ⟨a, xs, rfl, h, r⟩
  · cases e
  · cases e
  · cases e
  · cases e
theorem Top.rel (h : Top A H v d) (hl : ∀ ds, d ≠ .list ds) (hd : ∀ es, d ≠ .dict es) : Rel A H v d := by
  rcases h with h | ⟨a, rfl, ⟨xs, ds', e, h, r⟩ | ⟨_, _, e, _⟩ | ⟨xs, ds', o, e, hd', hh, rr⟩ | ⟨_, _, e, _⟩ | ⟨_, _, _, _, _, e, _⟩, nt⟩
  · exact h
  · exact absurd e (hl _)
  · exact absurd e (hd _)
  · subst e; exact .tup (.inr ⟨o, hd', hh⟩) rr
  · exact absurd e (hd _)
  · exact absurd e (hd _)
theorem Top.tup {ds : List PyData} (h : Top A H v (.tuple ds)) : ∃ a xs, v = .ref a ∧ TupAt H a xs ∧ RelAll A H xs ds := by
  have h' := h.rel (fun _ => nofun) fun _ => nofun
  cases h' with | tup h2 r => exact ⟨_, _, rfl, h2, r⟩
theorem Top.int {i : Int} (h : Top A H v (.int i)) : v = .int i := by
  have h := h.rel (fun _ => nofun) fun _ => nofun
  cases h; rfl
theorem Top.bl {i : Bool} (h : Top A H v (.bool i)) : v = .bl i := by
  have h := h.rel (fun _ => nofun) fun _ => nofun
  cases h; rfl
theorem Top.str {i : Str} (h : Top A H v (.str i)) : v = .str i := by
  have h := h.rel (fun _ => nofun) fun _ => nofun
  cases h; rfl
theorem Top.non (h : Top A H v .none) : v = .non := by
  have h := h.rel (fun _ => nofun) fun _ => nofun
  cases h; rfl
theorem Top.scr {ds : List PyData} (h : Top A H v (.dict [(.none, .list ds)])) : ∃ a xs, v = .ref a ∧ ScrAt H a xs ∧ RelAll A H xs ds := by
  have nk : ∀ {kvs : List (Key × V)}, ¬ RelKv A H kvs [(.none, .list ds)] := fun {kvs} q => by
    have gen : ∀ {kvs : List (Key × V)} {es : List (PyData × PyData)}, RelKv A H kvs es → es = [(.none, .list ds)] → False := by
      intro kvs es q
      cases q with
      | nil => intro e; cases e
      | @cons k v kvs d es a r =>
        intro e
        cases k with
        | inl i => injection e with e1 _; injection e1 with e2 _; cases e2
        | inr i => injection e with e1 _; injection e1 with e2 _; cases e2
    exact gen q rfl
  rcases h with h | ⟨a, rfl, ⟨xs, ds', e, h, r⟩ | ⟨_, _, e, _, r⟩ | ⟨_, _, _, e, _⟩ | ⟨_, _, e, _⟩ | ⟨_, _, _, _, _, e, _⟩, _⟩
  · cases h with
    | dic _ _ r => exact absurd r nk
    | scr h r => exact ⟨_, _, rfl, h, r⟩
  · cases e
  · cases e; exact absurd r nk
  · cases e
  · cases e
  · cases e
theorem Top.obj {c : Nat} {es : List (PyData × PyData)} (h : Top A H v (.dict (oMark c :: es))) : ∃ a C dx fs, v = .ref a ∧ H a = some (.ins C dx fs) ∧ EK.c[c]? = some C ∧ RelKv A H (kvF fs) es := by
  have nk : ∀ {kvs : List (Key × V)}, ¬ RelKv A H kvs (oMark c :: es) := fun {kvs} q => by
    have gen : ∀ {kvs : List (Key × V)} {fs : List (PyData × PyData)}, RelKv A H kvs fs → fs = oMark c :: es → False := by
      intro kvs fs q
      cases q with
      | nil => intro e; cases e
      | @cons k v kvs d es a r =>
        intro e
        cases k with
        | inl i => injection e with e1 _; injection e1 with e2 _; cases e2
        | inr i => injection e with e1 _; injection e1 with e2 _; cases e2
    exact gen q rfl
  rcases h with h | ⟨a, rfl, ⟨xs, ds', e, h, r⟩ | ⟨_, _, e, _, r⟩ | ⟨_, _, _, e, _⟩ | ⟨_, _, e, _⟩ | ⟨C, dx, fs, es', c', e, h, hc, r⟩, _⟩
  · cases h with
    | dic _ _ r => exact absurd r nk
    | obj h n hc hk r => subst hk; exact ⟨_, _, _, _, rfl, h, hc, r⟩
  · cases e
  · cases e; exact absurd r nk
  · cases e
  · cases e
  · cases e; exact ⟨a, C, dx, fs, rfl, h, hc, r⟩
end
end MI
/-! MI2: operations on values. -/
namespace MI
open PySem PySem.Spec PyProof.Rows L2
variable [EK]
/-- sum of a tuple of ints -/
noncomputable def rSumT (K : PySem.W.Frag) : List V → Hp → VK → Prop := fun vs H Q => ∃ (a : Addr) (ns : List Int), vs = [V.ref a] ∧ SqT K H a (ns.map V.int) ∧ Q (.int ns.sum) H
theorem cr_sumT {X : Cx} (hc : X.calm = true) : CallR X (.builtin "sum") (rSumT X.K) := by
  intro pins s σ H vs us Q I r h
  obtain ⟨a, ns, rfl, hs, q⟩ := h
  obtain ⟨its, rv, hl, _⟩ := I.tuple hs
  rw [Vals.ref1 r]
  obtain ⟨xs, e⟩ := rv.ints.allInts.items
  have hn : numsOf (intItems xs).toList = ns := by rw [← e]; exact rv.ints.numsOf
  rw [nums_intItems] at hn
  rw [e] at hl
  refine PySem.W.ktm_sumG (I.ok.hd hc) hl fun h' tk t' hk => ?_
  rw [preSum_eq, List.take_of_length_le (by simp), hn]
  exact ⟨.int _, H, I.kept hk, ⟨_, rfl⟩, q⟩
noncomputable def Lv (A : AS) (H : Hp) : Prop := ∀ a, A a → ∃ o, H a = some o
section
variable {A : AS} {H : Hp} {xs : List V} {ds : List PyData} {p : Addr}
theorem new_lst (hp : H p = none) (r : RelAll A H xs ds) : NewV A H (.list ds) true (.ref p) (upd H p (.lst xs)) :=
  ⟨Kp.new hp, (fun e => nomatch e), (fun _ => ⟨p, rfl, hp, .inl ⟨xs, ds, rfl, upd_same, (r.fresh hp).keep (M := No) (fun _ z => z.elim) (Kp.new hp)⟩⟩), fun _ _ => nofun⟩
theorem new_tup (hp : H p = none) (r : RelAll A H xs ds) : NewV A H (.tuple ds) false (.ref p) (upd H p (.tup xs)) :=
  ⟨Kp.new hp, (fun _ => .tup (.inl upd_same) (r.keep (M := No) (fun _ z => z.elim) (Kp.new hp))), (fun e => nomatch e), fun e => nomatch e⟩
theorem new_tupO {o : Obj} (hd : o.dict = none) (hf : fzB = true) (hp : H p = none) (r : RelAll A H xs ds) : Own (orA A p) (upd H p (.frz o (.tup xs))) p (.tuple ds) :=
  .inr (.inr (.inl ⟨xs, ds, o, rfl, ⟨hd, hf⟩, upd_same, (r.fresh hp).keep (M := No) (fun _ z => z.elim) (Kp.new hp)⟩))
end
mutual
theorem Rel.dp {A : AS} {H : Hp} {K : PySem.W.Frag} : ∀ {v : V} {d : PyData}, Rel A H v d → d.hasDict = false → Dp K H v d
  | _, _, .non, _ => .non
  | _, _, .bl b, _ => .bl b
  | _, _, .int i, _ => .int i
  | _, _, .str x, _ => .str x
  | _, _, .lst h n r, c => .lst (SqL.of h) (RelAll.dp r (by simpa [PyData.hasDict] using c))
  | _, _, .tup h r, c => .tup h.sq (RelAll.dp r (by simpa [PyData.hasDict] using c))
  | _, _, .dic h n r, c => by simp [PyData.hasDict] at c
  | _, _, .dit h n r, c => by simp [PyData.hasDict] at c
  | _, _, .scr h r, c => by simp [PyData.hasDict] at c
theorem RelAll.dp {A : AS} {H : Hp} {K : PySem.W.Frag} : ∀ {vs : List V} {ds : List PyData}, RelAll A H vs ds → PyData.hasDictAll ds = false → DpAll K H vs ds
  | _, _, .nil, _ => .nil
  | _, _, .cons a r, c => by
    simp only [PyData.hasDictAll, Bool.or_eq_false_iff] at c
    exact .cons (Rel.dp a c.1) (RelAll.dp r c.2)
end
theorem Top.dp {A : AS} {H : Hp} {K : PySem.W.Frag} {v : V} {d : PyData} (h : Top A H v d) (c : d.hasDict = false) : Dp K H v d := by
  cases d with
  | list ds =>
    obtain ⟨a, xs, rfl, h, r⟩ := h.lst
    exact .lst (SqL.of h) (r.dp (by simpa [PyData.hasDict] using c))
  | dict es => simp [PyData.hasDict] at c
  | none => exact (h.rel (fun _ => nofun) fun _ => nofun).dp c
  | bool b => exact (h.rel (fun _ => nofun) fun _ => nofun).dp c
  | int b => exact (h.rel (fun _ => nofun) fun _ => nofun).dp c
  | str b => exact (h.rel (fun _ => nofun) fun _ => nofun).dp c
  | tuple b => exact (h.rel (fun _ => nofun) fun _ => nofun).dp c
mutual
theorem lay0_nd : ∀ {d : PyData}, d.canLay0 = true → d.hasDict = false
  | .none, _ => rfl
  | .bool _, _ => rfl
  | .int _, _ => rfl
  | .str _, _ => rfl
  | .list xs, h => by
    simp only [PyData.canLay0] at h
    simpa [PyData.hasDict] using layAll0_nd h
  | .tuple xs, h => by
    simp only [PyData.canLay0] at h
    simpa [PyData.hasDict] using layAll0_nd h
  | .dict _, h => by simp [PyData.canLay0] at h
theorem layAll0_nd : ∀ {ds : List PyData}, PyData.canLayAll0 ds = true → PyData.hasDictAll ds = false
  | [], _ => rfl
  | x :: xs, h => by
    simp only [PyData.canLayAll0, Bool.and_eq_true] at h
    simp only [PyData.hasDictAll, Bool.or_eq_false_iff]
    exact ⟨lay0_nd h.1, layAll0_nd h.2⟩
end
theorem lay_dp {d : PyData} (h : lay d = true) : d.hasDict = false := by
  unfold lay SeqAt.shaped at h
  rw [Bool.and_eq_true] at h
  exact lay0_nd h.1
/-! ### two operands -/
noncomputable def opOf : Bop → Operator
  | .add => .Add | .sub => .Sub | .mul => .Mult | .fdiv => .FloorDiv | .mod => .Mod | .pow => .Pow | .shr => .RShift | .band => .BitAnd
noncomputable def rBin (op : Bop) : R2 := fun x y H Q => ∃ A d e z fr, Lv A H ∧ Top A H x d ∧ Top A H y e ∧ binD op d e = some (z, fr) ∧ ∀ v H', NewV A H z fr v H' → Q v H'
theorem small_iff {i : Int} (h : small i = true) : -(2 ^ 64) < i ∧ i < 2 ^ 64 := by
  unfold small at h
  rw [Bool.and_eq_true, decide_eq_true_iff, decide_eq_true_iff] at h
  exact h
theorem rep_size {a : Array Nat} : ∀ {n : Nat} {acc : Array Nat}, (List.foldl (· ++ ·) acc (List.replicate n a)).size = acc.size + n * a.size
  | 0, acc => by simp
  | n + 1, acc => by
    rw [List.replicate_succ, List.foldl_cons, rep_size, Array.size_append, Nat.succ_mul]
    omega
theorem bin_ok {X : Cx} (op : Bop) : OpR X (binaryOp (opOf op)) (rBin op) := by
  intro pins s σ H x y v u Q I rx ry ⟨A, d, e, z, fr, lv, hx, hy, hz, q⟩
  cases op with
  | add =>
    simp only [binD] at hz
    split at hz
    · cases hz
      exact op_add pins s σ H x y v u Q I rx ry ⟨_, _, hx.int, hy.int, q _ _ (.val (.int _))⟩
    · split at hz
      · cases hz
        rename_i hs
        obtain ⟨a, xs, rfl, h1, r1⟩ := hx.lst
        obtain ⟨b, ys, rfl, h2, r2⟩ := hy.lst
        exact op_cat pins s σ H _ _ v u Q I rx ry ⟨a, b, xs, ys, rfl, rfl, h1, h2, by rw [r1.length, r2.length]; exact hs, fun p hp => q _ _ (new_lst hp (r1.append r2))⟩
      · cases hz
    · split at hz
      · cases hz
        rename_i hs
        obtain ⟨a, xs, rfl, h1, r1⟩ := hx.tup
        obtain ⟨b, ys, rfl, h2, r2⟩ := hy.tup
        refine op_catA pins s σ H _ _ v u Q I rx ry ⟨a, b, xs, ys, rfl, rfl, h1.sq, h2.sq, by rw [r1.length, r2.length]; exact hs, fun e => ?_, fun _ e => ?_, fun _ _ p hp => q _ _ (new_tup hp (r1.append r2))⟩
        · subst e
          cases r1
          exact q _ _ (.val (.tup h2 r2))
        · subst e
          cases r2
          exact q _ _ (.val (by rw [List.append_nil]; exact .tup h1 r1))
      · cases hz
    · split at hz
      · cases hz
        rename_i hs
        exact op_add_str pins s σ H x y v u Q I rx ry ⟨_, _, hx.str, hy.str, hs, q _ _ (.val (.str _))⟩
      · cases hz
    · cases hz
  | sub =>
    simp only [binD] at hz
    split at hz
    · cases hz
      exact op_sub pins s σ H x y v u Q I rx ry ⟨_, _, hx.int, hy.int, q _ _ (.val (.int _))⟩
    · cases hz
  | mul =>
    simp only [binD] at hz
    split at hz
    · split at hz
      · cases hz
        rename_i hs
        refine op_mul pins s σ H x y v u Q I rx ry ⟨_, _, hx.int, hy.int, ?_, q _ _ (.val (.int _))⟩
        rw [Bool.or_eq_true] at hs
        rcases hs with hs | hs
        · exact .inl (small_iff hs)
        · exact .inr (small_iff hs)
      · cases hz
    · split at hz
      · cases hz
        rename_i hs
        obtain ⟨a, xs, rfl, h1, r1⟩ := hx.lst
        exact op_rep pins s σ H _ _ v u Q I rx ry ⟨a, _, xs, rfl, hy.int, h1, hs.1, hs.2.1, by rw [r1.length]; exact hs.2.2, fun p hp => q _ _ (new_lst hp (r1.flatten _))⟩
      · cases hz
    · split at hz
      · cases hz
        rename_i hs
        obtain ⟨a, xs, rfl, h1, r1⟩ := hx.tup
        rename_i k
        have hne : xs ≠ [] := fun e => by
          subst e
          cases r1
          exact hs.1 rfl
        by_cases hk : k = 1
        · subst hk
          exact op_rep1 pins s σ H _ _ v u Q I rx ry ⟨a, xs, rfl, hy.int, h1.sq, hne, q _ _ (.val (by rw [show ∀ l : List PyData, (List.replicate (1 : Int).toNat l).flatten = l from fun l => by simp]; exact .tup h1 r1))⟩
        · exact op_repW pins s σ H _ _ v u Q I rx ry ⟨a, _, xs, rfl, hy.int, h1.sq, hne, by omega, hs.2.2.1, by rw [r1.length]; exact hs.2.2.2, fun p hp => q _ _ (new_tup hp (r1.flatten _))⟩
      · cases hz
    · split at hz
      · rename_i k hs
        cases hz
        cases hx.str
        cases hy.int
        obtain ⟨tx, rfl⟩ := rx
        obtain ⟨ty, rfl⟩ := ry
        obtain ⟨h0, h1, h2, h3⟩ := hs
        have hz : 4000000 ≤ sizeLine := by decide
        have hk : k.toNat ≤ 4000 := by omega
        have hp : _ * k.toNat ≤ 1000 * 4000 := Nat.mul_le_mul h3 hk
        refine PySem.P.mul_str (by rw [decide_eq_false (by omega), decide_eq_false (by omega)]; rfl) (fun _ _ => ?_) (fun _ _ => ?_) ?_
        · have : (1000 : Int) ≤ (2 ^ 63 - 1) / k := (Int.le_ediv_iff_mul_le (by omega)).2 (by omega)
          omega
        · exact decide_eq_false (by omega)
        · rw [if_neg (by omega), if_neg (by simp; omega)]
          exact ⟨by
            show (List.foldl (· ++ ·) #[] (List.replicate k.toNat _)).size ≤ sizeLine
            rw [rep_size]
            refine Nat.le_trans (Nat.le_of_eq (Nat.zero_add _)) (Nat.le_trans ?_ (Nat.le_trans (show 1000 * 4000 ≤ 4000000 by decide) hz))
            rw [Nat.mul_comm]
            exact hp, .str _, H, I.tok _, ⟨_, rfl⟩, q _ _ (.val (.str _))⟩
      · cases hz
    · cases hz
  | fdiv =>
    simp only [binD] at hz
    split at hz
    · split at hz
      · cases hz
        rename_i hs
        exact op_fdiv pins s σ H x y v u Q I rx ry ⟨_, _, hx.int, hy.int, hs, q _ _ (.val (.int _))⟩
      · cases hz
    · cases hz
  | mod =>
    simp only [binD] at hz
    split at hz
    · split at hz
      · cases hz
        rename_i hs
        exact op_mod pins s σ H x y v u Q I rx ry ⟨_, _, hx.int, hy.int, hs, q _ _ (.val (.int _))⟩
      · cases hz
    · cases hz
  | pow =>
    simp only [binD] at hz
    split at hz
    · split at hz
      · cases hz
        rename_i hs
        exact op_pow pins s σ H x y v u Q I rx ry ⟨_, _, hx.int, hy.int, hs, q _ _ (.val (.int _))⟩
      · cases hz
    · cases hz
  | shr =>
    simp only [binD] at hz
    split at hz
    · split at hz
      · cases hz
        rename_i hs
        exact op_shr pins s σ H x y v u Q I rx ry ⟨_, _, hx.int, hy.int, hs, q _ _ (.val (.int _))⟩
      · cases hz
    · cases hz
  | band =>
    simp only [binD] at hz
    split at hz
    · cases hz
      exact op_and pins s σ H x y v u Q I rx ry ⟨_, _, hx.int, hy.int, q _ _ (.val (.int _))⟩
    · cases hz
/-! ### comparisons -/
noncomputable def copOf : Cop → CmpOp
  | .eq => .Eq | .ne => .NotEq | .lt => .Lt | .le => .LtE | .gt => .Gt | .ge => .GtE | .isin => .In | .notin => .NotIn
noncomputable def rCmp (op : Cop) : R2 := fun x y H Q => ∃ A d e z, Top A H x d ∧ Top A H y e ∧ cmpD op d e = some z ∧ Q (.bl z) H
theorem flat_rel {A : AS} {H : Hp} {v : V} {d : PyData} (r : Rel A H v d) (h : flat d = true) : flatV v = true := by
  cases r <;> first | rfl | (simp [flat] at h)
theorem flat_all {A : AS} {H : Hp} : ∀ {vs : List V} {ds : List PyData}, RelAll A H vs ds → ds.all flat = true → vs.all flatV = true
  | _, _, .nil, _ => rfl
  | _, _, .cons a r, h => by
    rw [List.all_cons, Bool.and_eq_true] at h ⊢
    exact ⟨flat_rel a h.1, flat_all r h.2⟩
theorem eqF_rel {A : AS} {H : Hp} {x y : V} {d e : PyData} (r : Rel A H x d) (q : Rel A H y e) (h : flat d = true) (h2 : flat e = true) : eqV x y = eqF d e := by
  cases r <;> cases q <;> first | rfl | (simp [flat] at h) | (simp [flat] at h2)
theorem inF_rel {A : AS} {H : Hp} {x : V} {d : PyData} (r : Rel A H x d) (h : flat d = true) : ∀ {vs : List V} {ds : List PyData}, RelAll A H vs ds → ds.all flat = true → inV x vs = ds.any fun y => eqF y d
  | _, _, .nil, _ => rfl
  | _, _, .cons a q, h2 => by
    rw [List.all_cons, Bool.and_eq_true] at h2
    unfold inV
    rw [List.any_cons, List.any_cons, eqF_rel a r h2.1 h]
    exact congrArg _ (inF_rel r h q h2.2)
/-- dicts -/
theorem Top.dic {A : AS} {H : Hp} {v : V} {es : List (PyData × PyData)} (h : Top A H v (.dict es)) (n : isScr es = false) : ∃ a kvs, v = .ref a ∧ H a = some (.dK kvs) ∧ RelKv A H kvs es := by
  rcases h with h | ⟨a, rfl, ⟨_, _, e, _⟩ | ⟨kvs, _, e, h, r⟩ | ⟨_, _, _, e, _⟩ | ⟨_, _, e, _⟩ | ⟨_, _, _, _, _, e, _⟩, _⟩
  · cases h with
    | dic h _ r => exact ⟨_, _, rfl, h, r⟩
    | dit h _ r => simp [isScr, tMark] at n
    | scr h r => simp [isScr] at n
    | obj _ _ _ _ _ => simp [isScr, oMark] at n
  · cases e
  · cases e; exact ⟨a, kvs, rfl, h, r⟩
  · cases e
  · cases e; simp [isScr, tMark] at n
  · cases e; simp [isScr, oMark] at n
/-- dicts with tuples for keys -/
theorem Top.dit {A : AS} {H : Hp} {v : V} {es : List (PyData × PyData)} (h : Top A H v (.dict ((.list [], .none) :: es))) : ∃ a kvs, v = .ref a ∧ H a = some (.dT kvs) ∧ RelKt A H kvs es := by
  have nk : ∀ {kvs : List (Key × V)}, ¬ RelKv A H kvs ((.list [], .none) :: es) := fun {kvs} q => by
    have gen : ∀ {kvs : List (Key × V)} {fs : List (PyData × PyData)}, RelKv A H kvs fs → fs = ((.list [], .none) :: es) → False := by
      intro kvs fs q
      cases q with
      | nil => intro e; cases e
      | @cons k v kvs d fs a r =>
        intro e
        cases k with
        | inl i => injection e with e1 _; injection e1 with e2 _; cases e2
        | inr i => injection e with e1 _; injection e1 with e2 _; cases e2
    exact gen q rfl
  have gen : ∀ {d : PyData}, Top A H v d → d = .dict ((.list [], .none) :: es) → ∃ a kvs, v = .ref a ∧ H a = some (.dT kvs) ∧ RelKt A H kvs es := fun {d} h e => by
    rcases h with h | ⟨a, rfl, ⟨_, _, e', _⟩ | ⟨kvs, _, e', h, r⟩ | ⟨_, _, _, e', _⟩ | ⟨kvs, es', e', h, r⟩ | ⟨_, _, _, _, _, e', _⟩, _⟩
    · cases h with
      | dic h _ r => cases e; exact absurd r nk
      | dit h2 _ r => cases e; exact ⟨_, _, rfl, h2, r⟩
      | scr h2 r => cases e
      | _ => cases e
    · rw [e'] at e; cases e
    · rw [e'] at e; cases e; exact absurd r nk
    · rw [e'] at e; cases e
    · rw [e'] at e; cases e; exact ⟨a, kvs, rfl, h, r⟩
    · rw [e'] at e; cases e
  exact gen h rfl
theorem tupI_rel {A : AS} {H : Hp} {v : V} {d : PyData} {k : List Int} (r : Rel A H v d) (h : tupI d = some k) : ∃ b, v = .ref b ∧ TupAt H b ((k.map Sum.inl : List Key).map kV) ∧ d = .tuple (k.map .int) := by
  cases r with
  | @tup a xs ds hh rr =>
    have e : ∀ {xs : List V} {ds : List PyData} {k : List Int}, RelAll A H xs ds → intsOf ds = some k → xs = ((k.map Sum.inl : List Key).map kV) ∧ ds = k.map .int := by
      intro xs ds k rr
      induction rr using RelAll.rec (motive_1 := fun _ _ _ => True) (motive_3 := fun _ _ _ => True) (motive_4 := fun _ _ _ => True) generalizing k with
      | nil => intro h; cases h; exact ⟨rfl, rfl⟩
      | cons a r _ ih =>
        intro h
        cases a with
        | int i =>
          simp only [intsOf, Option.map_eq_some_iff] at h
          obtain ⟨k', h1, rfl⟩ := h
          obtain ⟨e1, e2⟩ := ih h1
          rw [e1, e2]
          exact ⟨rfl, rfl⟩
        | _ => simp [intsOf] at h
      | _ => trivial
    obtain ⟨e1, e2⟩ := e rr h
    exact ⟨a, rfl, by rw [← e1]; exact hh, by rw [e2]⟩
  | _ => simp [tupI] at h
theorem map_inl_inj {a b : List Int} : (a.map Sum.inl : List Key) = b.map Sum.inl ↔ a = b := by
  constructor
  · intro h
    induction a generalizing b with
    | nil => cases b with
      | nil => rfl
      | cons _ _ => cases h
    | cons x r ih => cases b with
      | nil => cases h
      | cons y t =>
        injection h with h1 h2
        cases h1
        rw [ih h2]
  · intro h; rw [h]
theorem intsOf_ints (k : List Int) : intsOf (k.map .int) = some k := by
  induction k with
  | nil => rfl
  | cons a r ih => simp [intsOf, ih]
theorem tget_rel {A : AS} {H : Hp} {k : List Int} : ∀ {kvs : List (List Key × V)} {es : List (PyData × PyData)}, RelKt A H kvs es → (valV kvs (k.map Sum.inl) = none ∧ tGet es k = none) ∨ ∃ v d, valV kvs (k.map Sum.inl) = some v ∧ tGet es k = some d ∧ Rel A H v d
  | _, _, .nil _ => .inl ⟨rfl, rfl⟩
  | _, _, .cons (k := q) a r => by
    unfold valV tGet
    rw [List.find?_cons, List.find?_cons]
    simp only [tupI, intsOf_ints, Option.some.injEq]
    by_cases e : q = k
    · simp only [e, decide_true]
      exact .inr ⟨_, _, rfl, rfl, a⟩
    · have e' : ¬ ((q.map Sum.inl : List Key) = k.map Sum.inl) := fun z => e (map_inl_inj.mp z)
      simp only [e, e', decide_false]
      exact tget_rel r
theorem key_rel {A : AS} {H : Hp} {v : V} {d : PyData} (r : Rel A H v d) (h : isKey d = true) : ∃ k : Key, v = kV k ∧ d = keyD k := by
  cases r <;> first | exact ⟨.inl _, rfl, rfl⟩ | exact ⟨.inr _, rfl, rfl⟩ | (simp [isKey] at h)
theorem eqK_key (a b : Key) : eqK (keyD a) (keyD b) = decide (a = b) := by
  cases a <;> cases b
  · exact decide_eq_decide.mpr ⟨congrArg _, Sum.inl.inj⟩
  · rfl
  · rfl
  · exact decide_eq_decide.mpr ⟨congrArg _, Sum.inr.inj⟩
theorem get_rel {A : AS} {H : Hp} {k : Key} : ∀ {kvs : List (Key × V)} {es : List (PyData × PyData)}, RelKv A H kvs es → (valV kvs k = none ∧ dGet es (keyD k) = none) ∨ ∃ v d, valV kvs k = some v ∧ dGet es (keyD k) = some d ∧ Rel A H v d
  | _, _, .nil => .inl ⟨rfl, rfl⟩
  | _, _, .cons (k := q) a r => by
    unfold valV dGet
    rw [List.find?_cons, List.find?_cons, eqK_key]
    by_cases e : q = k
    · simp only [e, decide_true]
      exact .inr ⟨_, _, rfl, rfl, a⟩
    · simp only [e, decide_false]
      exact get_rel r
theorem any_rel {A : AS} {H : Hp} {k : Key} : ∀ {kvs : List (Key × V)} {es : List (PyData × PyData)}, RelKv A H kvs es → (kvs.any fun kv => decide (kv.1 = k)) = (es.any fun p => eqK p.1 (keyD k))
  | _, _, .nil => rfl
  | _, _, .cons (k := q) a r => by
    rw [List.any_cons, List.any_cons, eqK_key]
    exact congrArg _ (any_rel r)
theorem RelKv.append {A : AS} {H : Hp} : ∀ {kvs kvs' : List (Key × V)} {es es' : List (PyData × PyData)}, RelKv A H kvs es → RelKv A H kvs' es' → RelKv A H (kvs ++ kvs') (es ++ es')
  | _, _, _, _, .nil, h => h
  | _, _, _, _, .cons a r, h => .cons a (RelKv.append r h)
theorem RelKv.length {A : AS} {H : Hp} : ∀ {kvs : List (Key × V)} {es : List (PyData × PyData)}, RelKv A H kvs es → kvs.length = es.length
  | _, _, .nil => rfl
  | _, _, .cons _ r => congrArg (· + 1) (RelKv.length r)
theorem map_rel {A : AS} {H : Hp} {k : Key} {v : V} {d : PyData} (hv : Rel A H v d) : ∀ {kvs : List (Key × V)} {es : List (PyData × PyData)}, RelKv A H kvs es → RelKv A H (kvs.map fun kv => if kv.1 = k then (kv.1, v) else kv) (es.map fun p => if eqK p.1 (keyD k) then (p.1, d) else p)
  | _, _, .nil => .nil
  | _, _, .cons (k := q) a r => by
    rw [List.map_cons, List.map_cons, eqK_key]
    by_cases e : q = k
    · simp only [e, decide_true, if_true]
      exact .cons hv (map_rel hv r)
    · simp only [e, decide_false, if_false]
      exact .cons a (map_rel hv r)
theorem put_rel {A : AS} {H : Hp} {k : Key} {v : V} {d : PyData} {kvs : List (Key × V)} {es : List (PyData × PyData)} (hv : Rel A H v d) (r : RelKv A H kvs es) : RelKv A H (putK kvs k v) (dPut es (keyD k) d) := by
  unfold putK dPut
  rw [any_rel r]
  split
  · exact map_rel hv r
  · exact r.append (.cons hv .nil)
theorem RelKt.length {A : AS} {H : Hp} : ∀ {kvs : List (List Key × V)} {es : List (PyData × PyData)}, RelKt A H kvs es → kvs.length = es.length
  | _, _, .nil _ => rfl
  | _, _, .cons _ r => congrArg (· + 1) (RelKt.length r)
theorem RelKt.append {A : AS} {H : Hp} : ∀ {kvs kvs' : List (List Key × V)} {es es' : List (PyData × PyData)}, RelKt A H kvs es → RelKt A H kvs' es' → RelKt A H (kvs ++ kvs') (es ++ es')
  | _, _, _, _, .nil _, h => h
  | _, _, _, _, .cons a r, h => .cons a (RelKt.append r h)
theorem tany_rel {A : AS} {H : Hp} {k : List Int} : ∀ {kvs : List (List Key × V)} {es : List (PyData × PyData)}, RelKt A H kvs es → (kvs.any fun kv => decide (kv.1 = k.map Sum.inl)) = (es.any fun p => decide (tupI p.1 = some k))
  | _, _, .nil _ => rfl
  | _, _, .cons (k := q) a r => by
    rw [List.any_cons, List.any_cons, tany_rel r]
    have e : decide ((q.map Sum.inl : List Key) = k.map Sum.inl) = decide (tupI (.tuple (q.map .int)) = some k) := decide_eq_decide.mpr (by rw [map_inl_inj]; simp only [tupI, intsOf_ints, Option.some.injEq])
    rw [e]
theorem tmap_rel {A : AS} {H : Hp} {k : List Int} {v : V} {d : PyData} (hv : Rel A H v d) : ∀ {kvs : List (List Key × V)} {es : List (PyData × PyData)}, RelKt A H kvs es → RelKt A H (kvs.map fun kv => if kv.1 = k.map Sum.inl then (kv.1, v) else kv) (es.map fun p => if tupI p.1 = some k then (p.1, d) else p)
  | _, _, .nil h => .nil h
  | _, _, .cons (k := q) a r => by
    rw [List.map_cons, List.map_cons]
    simp only [tupI, intsOf_ints, Option.some.injEq]
    by_cases e : q = k
    · subst e
      simp only [if_true]
      exact .cons hv (tmap_rel hv r)
    · have e' : ¬ ((q.map Sum.inl : List Key) = k.map Sum.inl) := fun z => e (map_inl_inj.mp z)
      simp only [e, e', if_false]
      exact .cons a (tmap_rel hv r)
theorem tput_rel {A : AS} {H : Hp} {k : List Int} {v : V} {d : PyData} {kvs : List (List Key × V)} {es : List (PyData × PyData)} (hv : Rel A H v d) (r : RelKt A H kvs es) : RelKt A H (putK kvs (k.map Sum.inl) v) (tPut es k d) := by
  unfold putK tPut
  rw [tany_rel r]
  split
  · exact tmap_rel hv r
  · exact r.append (.cons hv (.nil r.fz))
mutual
theorem plain_of : ∀ {d : PyData}, d.hasDict = false → d.plain = true
  | .none, _ => by simp only [PyData.plain]
  | .bool _, _ => by simp only [PyData.plain]
  | .int _, _ => by simp only [PyData.plain]
  | .str _, _ => by simp only [PyData.plain]
  | .list xs, h => by
    simp only [PyData.hasDict] at h
    simp only [PyData.plain]
    exact plainAll_of h
  | .tuple xs, h => by
    simp only [PyData.hasDict] at h
    simp only [PyData.plain]
    exact plainAll_of h
  | .dict _, h => by simp [PyData.hasDict] at h
theorem plainAll_of : ∀ {ds : List PyData}, PyData.hasDictAll ds = false → PyData.plainAll ds = true
  | [], _ => by simp only [PyData.plainAll]
  | x :: xs, h => by
    simp only [PyData.hasDictAll, Bool.or_eq_false_iff] at h
    simp only [PyData.plainAll, plain_of h.1, plainAll_of h.2, Bool.and_self]
end
theorem in_two {d : PyData} {ds : List PyData} {z : Bool} (hz : inD d ds = some z) : (flat d = true ∧ ds.all flat = true) ∨ (¬ (flat d && ds.all flat) = true ∧ d.hasDict = false ∧ PyData.hasDictAll ds = false ∧ d.depth ≤ 32 ∧ z = ds.any fun y => PyData.eqv y d) := by
  unfold inD at hz
  split at hz
  · rename_i hs; rw [Bool.and_eq_true] at hs; exact .inl hs
  · rename_i hs
    split at hz
    · rename_i h2
      simp only [Bool.and_eq_true, Bool.not_eq_true', decide_eq_true_eq] at h2
      exact .inr ⟨hs, h2.1.1, h2.1.2, h2.2, (Option.some.inj hz).symm⟩
    · cases hz
theorem in_deep {X : Cx} {pins : List (Addr × Obj)} {s : Shared} {σ : L2.St} {H : Hp} {A : AS} {x y : V} {v u : Value} {d : PyData} {ds : List PyData} {Q : VK} (hu : X.A.units + 64 < cLine) (I : Inv X pins σ H s) (rx : RelV x v) (ry : RelV y u) (hx : Top A H x d)
    (lst : Bool) (hy : Top A H y (if lst then .list ds else .tuple ds)) (h1 : d.hasDict = false) (h2 : PyData.hasDictAll ds = false) (h3 : d.depth ≤ 32) (neg : Bool) (q : Q (.bl (if neg then !(ds.any fun y => PyData.eqv y d) else ds.any fun y => PyData.eqv y d)) H) :
    wpAny (model X.prog X.w) X.A (compareOp (if neg then .NotIn else .In) v u) (EP X pins σ Q) X.xe s := by
  obtain ⟨as, ra⟩ := Dp.reads I d x _ (hx.dp h1) rx
  have hroom : X.A.units + 1 + min (PyData.depthAll ds) d.depth < cLine := by omega
  cases lst with
  | true =>
    obtain ⟨bs, rb⟩ := Dp.reads I (.list ds) y _ (hy.dp (by simpa [PyData.hasDict] using h2)) ry
    cases neg with
    | true => exact PySem.SeqAt.notIn_list_data rb ra (plainAll_of h2) (plain_of h1) hroom ⟨.bl _, H, I, rfl, by simpa using q⟩
    | false => exact PySem.SeqAt.in_list_data rb ra (plainAll_of h2) (plain_of h1) hroom ⟨.bl _, H, I, rfl, by simpa using q⟩
  | false =>
    obtain ⟨bs, rb⟩ := Dp.reads I (.tuple ds) y _ (hy.dp (by simpa [PyData.hasDict] using h2)) ry
    cases neg with
    | true => exact PySem.SeqAt.notIn_tuple_data rb ra (plainAll_of h2) (plain_of h1) hroom ⟨.bl _, H, I, rfl, by simpa using q⟩
    | false => exact PySem.SeqAt.in_tuple_data rb ra (plainAll_of h2) (plain_of h1) hroom ⟨.bl _, H, I, rfl, by simpa using q⟩
theorem in_ok {X : Cx} {A : AS} {H : Hp} {x y : V} {d : PyData} {ds : List PyData} {z : Bool} (hx : Top A H x d) (hy : (∃ a xs, y = .ref a ∧ (SqL X.K H a xs ∨ SqT X.K H a xs) ∧ RelAll A H xs ds)) (hz : inD d ds = some z) (hf : flat d = true ∧ ds.all flat = true) :
    ∃ p xs, y = .ref p ∧ (SqL X.K H p xs ∨ SqT X.K H p xs) ∧ flatV x = true ∧ xs.all flatV = true ∧ inV x xs = z := by
  unfold inD at hz
  split at hz
  · rename_i hs
    rw [Bool.and_eq_true] at hs
    obtain ⟨a, xs, rfl, h, r⟩ := hy
    have hx' : Rel A H x d := hx.rel (fun _ e => by rw [e] at hs; exact absurd hs.1 (by simp [flat])) fun _ e => by rw [e] at hs; exact absurd hs.1 (by simp [flat])
    refine ⟨a, xs, rfl, h, flat_rel hx' hs.1, flat_all r hs.2, ?_⟩
    rw [inF_rel hx' hs.1 r hs.2]
    exact Option.some.inj hz
  · rename_i hs; exact absurd (by rw [hf.1, hf.2]; rfl) hs
theorem ord2_iff {a b : PyData} (h : ord2 a b = true) : PySem.W.alike a b = true ∧ a ≠ .none ∧ a.depth ≤ 32 ∧ a.hasDict = false ∧ b.hasDict = false := by
  unfold ord2 at h
  simp only [Bool.and_eq_true, Bool.not_eq_true', decide_eq_true_eq] at h
  exact ⟨h.1.1.1.1, fun e => by rw [e] at h; simp [isNone] at h, h.1.1.2, h.1.2, h.2⟩
theorem ord_op {X : Cx} {op : CmpOp} {f : PyData → PyData → Bool} {pins : List (Addr × Obj)} {s : Shared} {σ : L2.St} {H : Hp} {A : AS} {x y : V} {v u : Value} {d e : PyData} {Q : VK}
    (law : ∀ {a b : Value} {da db : PyData} {as bs : List Addr} {Q : Value → Shared → Prop}, Reads s.heap a da as → Reads s.heap b db bs → PySem.W.alike da db = true → da ≠ .none → X.A.units + min da.depth db.depth < cLine → Q (.bool (f da db)) s → wpAny (model X.prog X.w) X.A (compareOp op a b) Q X.xe s)
    (hu : X.A.units + 64 < cLine) (I : Inv X pins σ H s) (rx : RelV x v) (ry : RelV y u) (hx : Top A H x d) (hy : Top A H y e) (hs : ord2 d e = true) (q : Q (.bl (f d e)) H) : wpAny (model X.prog X.w) X.A (compareOp op v u) (EP X pins σ Q) X.xe s := by
  obtain ⟨h1, h2, h3, h4, h5⟩ := ord2_iff hs
  obtain ⟨as, ra⟩ := Dp.reads I d x _ (hx.dp h4) rx
  obtain ⟨bs, rb⟩ := Dp.reads I e y _ (hy.dp h5) ry
  exact law ra rb h1 h2 (by omega) ⟨.bl _, H, I, rfl, q⟩
theorem cmp_ok {X : Cx} (hu : X.A.units + 64 < cLine) (op : Cop) : OpR X (compareOp (copOf op)) (rCmp op) := by
  intro pins s σ H x y v u Q I rx ry ⟨A, d, e, z, hx, hy, hz, q⟩
  cases op with
  | eq =>
    simp only [cmpD] at hz
    split at hz
    · cases hz
      cases hx.int; cases hy.int
      exact op_eq pins s σ H _ _ v u Q I rx ry ⟨rfl, by rw [show decide (V.int _ = V.int _) = decide (_ = _) from decide_eq_decide.mpr ⟨V.int.inj, congrArg _⟩]; exact q⟩
    · cases hz
      cases hx.str; cases hy.str
      exact op_eq pins s σ H _ _ v u Q I rx ry ⟨rfl, by rw [show decide (V.str _ = V.str _) = decide (_ = _) from decide_eq_decide.mpr ⟨V.str.inj, congrArg _⟩]; exact q⟩
    · split at hz
      · cases hz
        rename_i hs
        rw [Bool.and_eq_true] at hs
        exact op_eqD hu pins s σ H x y v u Q I rx ry ⟨_, _, hx.dp (lay_dp hs.1), hy.dp (lay_dp hs.2), hs.1, hs.2, q⟩
      · cases hz
  | ne =>
    simp only [cmpD] at hz
    split at hz
    · cases hz
      cases hx.int; cases hy.int
      exact op_ne pins s σ H _ _ v u Q I rx ry ⟨rfl, by rw [show decide (V.int _ = V.int _) = decide (_ = _) from decide_eq_decide.mpr ⟨V.int.inj, congrArg _⟩]; exact q⟩
    · cases hz
      cases hx.str; cases hy.str
      exact op_ne pins s σ H _ _ v u Q I rx ry ⟨rfl, by rw [show decide (V.str _ = V.str _) = decide (_ = _) from decide_eq_decide.mpr ⟨V.str.inj, congrArg _⟩]; exact q⟩
    · split at hz
      · cases hz
        rename_i hs
        rw [Bool.and_eq_true] at hs
        exact op_neD hu pins s σ H x y v u Q I rx ry ⟨_, _, hx.dp (lay_dp hs.1), hy.dp (lay_dp hs.2), hs.1, hs.2, q⟩
      · cases hz
  | lt =>
    simp only [cmpD] at hz
    split at hz
    · cases hz
      exact op_lt pins s σ H x y v u Q I rx ry ⟨_, _, hx.int, hy.int, q⟩
    · split at hz
      · cases hz
        rename_i hs
        exact ord_op (fun ra rb h1 h2 h3 g => PySem.W.lt_data ra rb h1 h2 h3 g) hu I rx ry hx hy hs q
      · cases hz
  | le =>
    simp only [cmpD] at hz
    split at hz
    · cases hz
      exact op_le pins s σ H x y v u Q I rx ry ⟨_, _, hx.int, hy.int, q⟩
    · split at hz
      · cases hz
        rename_i hs
        exact ord_op (f := fun a b => !PySem.W.dataLt b a) (fun ra rb h1 h2 h3 g => PySem.W.le_data ra rb h1 h2 h3 g) hu I rx ry hx hy hs q
      · cases hz
  | gt =>
    simp only [cmpD] at hz
    split at hz
    · cases hz
      exact op_gt pins s σ H x y v u Q I rx ry ⟨_, _, hx.int, hy.int, q⟩
    · split at hz
      · cases hz
        rename_i hs
        exact ord_op (f := fun a b => PySem.W.dataLt b a) (fun ra rb h1 h2 h3 g => PySem.W.gt_data ra rb h1 h2 h3 g) hu I rx ry hx hy hs q
      · cases hz
  | ge =>
    simp only [cmpD] at hz
    split at hz
    · cases hz
      exact op_ge pins s σ H x y v u Q I rx ry ⟨_, _, hx.int, hy.int, q⟩
    · split at hz
      · cases hz
        rename_i hs
        exact ord_op (f := fun a b => !PySem.W.dataLt a b) (fun ra rb h1 h2 h3 g => PySem.W.ge_data ra rb h1 h2 h3 g) hu I rx ry hx hy hs q
      · cases hz
  | isin =>
    simp only [cmpD] at hz
    split at hz
    · cases hz
      cases hx.str; cases hy.str
      exact op_in_str pins s σ H _ _ v u Q I rx ry ⟨_, _, rfl, rfl, q⟩
    · rcases in_two hz with hf | ⟨_, g1, g2, g3, rfl⟩
      rotate_left
      · exact in_deep hu I rx ry hx true hy g1 g2 g3 false (by simpa using q)
      obtain ⟨a, xs, rfl, h1, r1⟩ := hy.lst
      obtain ⟨p, ys, e1, h2, f1, f2, e2⟩ := in_ok (X := X) hx ⟨a, xs, rfl, .inl (SqL.of h1), r1⟩ hz hf
      exact op_in_seq pins s σ H _ _ v u Q I rx ry ⟨p, ys, e1, h2, f1, f2, by rw [if_neg Bool.false_ne_true, e2]; exact q⟩
    · rcases in_two hz with hf | ⟨_, g1, g2, g3, rfl⟩
      rotate_left
      · exact in_deep hu I rx ry hx false hy g1 g2 g3 false (by simpa using q)
      obtain ⟨a, xs, rfl, h1, r1⟩ := hy.tup
      obtain ⟨p, ys, e1, h2, f1, f2, e2⟩ := in_ok (X := X) hx ⟨a, xs, rfl, .inr h1.sq, r1⟩ hz hf
      exact op_in_seq pins s σ H _ _ v u Q I rx ry ⟨p, ys, e1, h2, f1, f2, by rw [if_neg Bool.false_ne_true, e2]; exact q⟩
    · simp only [Option.map_eq_some_iff] at hz
      obtain ⟨k, hk, rfl⟩ := hz
      obtain ⟨a, kvs, rfl, h1, r1⟩ := hy.dit
      have hx' : Rel A H x d := hx.rel (fun _ e => by rw [e] at hk; simp [tupI] at hk) fun _ e => by rw [e] at hk; simp [tupI] at hk
      obtain ⟨b, rfl, hb, _⟩ := tupI_rel hx' hk
      cases ry
      have e : (valV kvs (k.map Sum.inl)).isSome = (tGet ‹List (PyData × PyData)› k).isSome := by
        rcases tget_rel (k := k) r1 with ⟨e1, e2⟩ | ⟨v, d, e1, e2, _⟩ <;> rw [e1, e2] <;> rfl
      rw [← e] at q
      exact d_in (by omega) I (DGet.t h1 (hb.tr r1.fz)) rx fun s' I' => ⟨.bl _, H, I', rfl, q⟩
    · split at hz
      · rename_i hs
        rw [Bool.and_eq_true, Bool.not_eq_true'] at hs
        obtain ⟨a, kvs, rfl, h1, r1⟩ := hy.dic hs.2
        have hx' : Rel A H x d := hx.rel (fun _ e => by rw [e] at hs; exact absurd hs.1 (by simp [isKey])) fun _ e => by rw [e] at hs; exact absurd hs.1 (by simp [isKey])
        obtain ⟨k, rfl, rfl⟩ := key_rel hx' hs.1
        cases ry
        cases hz
        have e : (valV kvs k).isSome = (dGet ‹List (PyData × PyData)› (keyD k)).isSome := by
          rcases get_rel (k := k) r1 with ⟨e1, e2⟩ | ⟨v, d, e1, e2, _⟩ <;> rw [e1, e2] <;> rfl
        rw [← e] at q
        exact d_in (by omega) I (DGet.k h1) rx fun s' I' => ⟨.bl _, H, I', rfl, q⟩
      · cases hz
    · cases hz
  | notin =>
    simp only [cmpD] at hz
    split at hz
    · cases hz
      cases hx.str; cases hy.str
      exact op_notIn_str pins s σ H _ _ v u Q I rx ry ⟨_, _, rfl, rfl, q⟩
    · simp only [Option.map_eq_some_iff] at hz
      obtain ⟨k, hk, rfl⟩ := hz
      obtain ⟨a, kvs, rfl, h1, r1⟩ := hy.dit
      have hx' : Rel A H x d := hx.rel (fun _ e => by rw [e] at hk; simp [tupI] at hk) fun _ e => by rw [e] at hk; simp [tupI] at hk
      obtain ⟨b, rfl, hb, _⟩ := tupI_rel hx' hk
      cases ry
      have e : (valV kvs (k.map Sum.inl)).isSome = (tGet ‹List (PyData × PyData)› k).isSome := by
        rcases tget_rel (k := k) r1 with ⟨e1, e2⟩ | ⟨v, d, e1, e2, _⟩ <;> rw [e1, e2] <;> rfl
      rw [← e] at q
      exact d_notIn (by omega) I (DGet.t h1 (hb.tr r1.fz)) rx fun s' I' => ⟨.bl _, H, I', rfl, q⟩
    · split at hz
      · rename_i hs
        rw [Bool.and_eq_true, Bool.not_eq_true'] at hs
        obtain ⟨a, kvs, rfl, h1, r1⟩ := hy.dic hs.2
        have hx' : Rel A H x d := hx.rel (fun _ e => by rw [e] at hs; exact absurd hs.1 (by simp [isKey])) fun _ e => by rw [e] at hs; exact absurd hs.1 (by simp [isKey])
        obtain ⟨k, rfl, rfl⟩ := key_rel hx' hs.1
        cases ry
        cases hz
        have e : (valV kvs k).isSome = (dGet ‹List (PyData × PyData)› (keyD k)).isSome := by
          rcases get_rel (k := k) r1 with ⟨e1, e2⟩ | ⟨v, d, e1, e2, _⟩ <;> rw [e1, e2] <;> rfl
        rw [← e] at q
        exact d_notIn (by omega) I (DGet.k h1) rx fun s' I' => ⟨.bl _, H, I', rfl, q⟩
      · cases hz
    · cases hi : inD d ‹List PyData› with
      | none => rw [hi] at hz; cases hz
      | some b =>
        rw [hi] at hz; cases hz
        rcases in_two hi with hf | ⟨_, g1, g2, g3, rfl⟩
        rotate_left
        · exact in_deep hu I rx ry hx true hy g1 g2 g3 true (by simpa using q)
        obtain ⟨a, xs, rfl, h1, r1⟩ := hy.lst
        obtain ⟨p, ys, e1, h2, f1, f2, e2⟩ := in_ok (X := X) hx ⟨a, xs, rfl, .inl (SqL.of h1), r1⟩ hi hf
        exact op_notIn_seq pins s σ H _ _ v u Q I rx ry ⟨p, ys, e1, h2, f1, f2, by rw [if_pos rfl, e2]; exact q⟩
    · cases hi : inD d ‹List PyData› with
      | none => rw [hi] at hz; cases hz
      | some b =>
        rw [hi] at hz; cases hz
        rcases in_two hi with hf | ⟨_, g1, g2, g3, rfl⟩
        rotate_left
        · exact in_deep hu I rx ry hx false hy g1 g2 g3 true (by simpa using q)
        obtain ⟨a, xs, rfl, h1, r1⟩ := hy.tup
        obtain ⟨p, ys, e1, h2, f1, f2, e2⟩ := in_ok (X := X) hx ⟨a, xs, rfl, .inr h1.sq, r1⟩ hi hf
        exact op_notIn_seq pins s σ H _ _ v u Q I rx ry ⟨p, ys, e1, h2, f1, f2, by rw [if_pos rfl, e2]; exact q⟩
    · cases hz
/-! ### places and slices -/
noncomputable def rIx : R2 := fun x y H Q => ∃ A d k z, Top A H x d ∧ Rel A H y k ∧ idxD d k = some z ∧ ∀ v, Rel A H v z → Q v H
theorem at_rel {A : AS} {H : Hp} {vs : List V} {ds : List PyData} {i : Int} {z : PyData} (r : RelAll A H vs ds) (h : (ixOf ds.length i).bind (ds[·]?) = some z) : ∃ v, atI vs i = some v ∧ Rel A H v z := by
  unfold atI
  rw [r.length]
  show ∃ v, (ixOf ds.length i).bind (fun j => vs[j]?) = some v ∧ _
  cases e : ixOf ds.length i with
  | none => rw [e] at h; cases h
  | some j =>
    rw [e] at h
    exact r.get h
theorem ix_ok {X : Cx} (hK : X.K = EK.k) : IxR X rIx := by
  intro value slice pins s σ H x y v u Q I rx ry ⟨A, d, k, z, hx, hy, hz, q⟩ hs
  unfold idxD at hz
  split at hz
  · obtain ⟨a, xs, rfl, h, r⟩ := hx.lst
    cases hy
    obtain ⟨w, e, rw'⟩ := at_rel r hz
    exact ix_list value slice pins s σ H _ _ v u Q I rx ry ⟨a, xs, _, w, rfl, rfl, SqL.of h, e, q w rw'⟩ hs
  · obtain ⟨a, xs, rfl, h, r⟩ := hx.tup
    cases hy
    obtain ⟨w, e, rw'⟩ := at_rel r hz
    exact ix_tup value slice pins s σ H _ _ v u Q I rx ry ⟨a, xs, _, w, rfl, rfl, h.sq, e, q w rw'⟩ hs
  · obtain ⟨a, xs, rfl, h, r⟩ := hx.scr
    cases hy
    obtain ⟨w, e, rw'⟩ := at_rel r hz
    exact ix_list value slice pins s σ H _ _ v u Q I rx ry ⟨a, xs, _, w, rfl, rfl, h.sq hK, e, q w rw'⟩ hs
  · split at hz
    · rename_i hl
      cases hx.str
      cases hy
      rename_i zz i
      cases e : (ixOf zz.cps.toList.length i).bind (zz.cps.toList[·]?) with
      | none => rw [e] at hz; cases hz
      | some c =>
        rw [e] at hz
        cases hz
        exact ix_str value slice pins s σ H _ _ v u Q I rx ry ⟨zz, i, c, rfl, rfl, hl, e, q _ (.str _)⟩ hs
    · cases hz
  · cases hz
noncomputable def rSl : V → Option Int → Option Int → Hp → VK → Prop := fun x lo hi H Q => ∃ A d z fr, Top A H x d ∧ slD d lo hi = some (z, fr) ∧ ∀ v H', NewV A H z fr v H' → Q v H'
theorem cut_rel {A : AS} {H : Hp} {vs : List V} {ds : List PyData} (r : RelAll A H vs ds) (lo hi : Option Int) : RelAll A H (cutV vs lo hi) (cut ds lo hi) := by
  have e : cutV vs lo hi = (vs.drop (cutIx ds.length 0 lo)).take (cutIx ds.length ds.length hi - cutIx ds.length 0 lo) := by
    unfold cutV
    rw [r.length]
    rfl
  rw [e]
  exact (r.drop _).take _
theorem sl_ok {X : Cx} (hK : X.K = EK.k) : SlR X rSl := by
  intro pins s σ H x v vl vu lo hi sl Q I rx hs pl pu ⟨A, d, z, fr, hx, hz, q⟩
  unfold slD at hz
  split at hz
  · cases hz
    obtain ⟨a, xs, rfl, h, r⟩ := hx.lst
    exact sl_list pins s σ H _ v vl vu _ _ sl Q I rx hs pl pu ⟨a, xs, rfl, SqL.of h, fun p hp => q _ _ (new_lst hp (cut_rel r _ _))⟩
  · cases hz
    obtain ⟨a, xs, rfl, h, r⟩ := hx.scr
    exact sl_list pins s σ H _ v vl vu _ _ sl Q I rx hs pl pu ⟨a, xs, rfl, h.sq hK, fun p hp => q _ _ (new_lst hp (cut_rel r _ _))⟩
  · cases hz
    obtain ⟨a, xs, rfl, h, r⟩ := hx.tup
    refine sl_tupA pins s σ H _ v vl vu _ _ sl Q I rx hs pl pu ⟨a, xs, rfl, h.sq, fun e => ?_, fun _ p hp => q _ _ (new_tup hp (cut_rel r _ _))⟩
    have c := cut_rel r lo hi
    have e2 : cutV xs lo hi = xs := by
      unfold cutV
      rw [e.1, e.2, List.drop_zero, Nat.sub_zero, List.take_length]
    rw [e2] at c
    exact q _ _ (.val (.tup h c))
  · split at hz
    · cases hz
      rename_i hl
      cases hx.str
      exact sl_str pins s σ H _ v vl vu _ _ sl Q I rx hs pl pu ⟨_, rfl, hl, q _ _ (.val (by
        have e : ∀ z : Str, z.length = z.cps.toList.length := fun z => by rw [Array.length_toList]; rfl
        have e3 : cutS ‹Str› lo hi = ⟨(cut (‹Str›).cps.toList lo hi).toArray⟩ := by
          unfold cutS
          rw [e]
          rfl
        rw [e3]
        exact .str _))⟩
    · cases hz
  · cases hz
/-! ### built-ins -/
inductive TopAll (A : AS) (H : Hp) : List V → List PyData → Prop
  | nil : TopAll A H [] []
  | cons {v : V} {vs : List V} {d : PyData} {ds : List PyData} : Top A H v d → TopAll A H vs ds → TopAll A H (v :: vs) (d :: ds)
theorem bools_rel {A : AS} {H : Hp} : ∀ {vs : List V} {ds : List PyData} {bs : List Bool}, RelAll A H vs ds → boolsOf ds = some bs → vs = bs.map V.bl
  | _, _, _, .nil, h => by cases h; rfl
  | _, _, _, .cons a r, h => by
    cases a with
    | bl b =>
      simp only [boolsOf] at h
      cases e : boolsOf ‹List PyData› with
      | none => rw [e] at h; cases h
      | some q => rw [e] at h; cases h; rw [bools_rel r e]; rfl
    | _ => simp [boolsOf] at h
theorem ints_rel {A : AS} {H : Hp} : ∀ {vs : List V} {ds : List PyData} {bs : List Int}, RelAll A H vs ds → intsOf ds = some bs → vs = bs.map V.int
  | _, _, _, .nil, h => by cases h; rfl
  | _, _, _, .cons a r, h => by
    cases a with
    | int b =>
      simp only [intsOf] at h
      cases e : intsOf ‹List PyData› with
      | none => rw [e] at h; cases h
      | some q => rw [e] at h; cases h; rw [ints_rel r e]; rfl
    | _ => simp [intsOf] at h
theorem ints_all {A : AS} {H : Hp} : ∀ ns : List Int, RelAll A H (ns.map V.int) (ns.map PyData.int)
  | [] => .nil
  | _ :: r => .cons (.int _) (ints_all r)
theorem insI_perm (x : Int) : ∀ r : List Int, (insI x r).Perm (x :: r)
  | [] => List.Perm.refl _
  | y :: r => by
    unfold insI
    split
    · exact List.Perm.refl _
    · exact (List.Perm.cons y (insI_perm x r)).trans (List.Perm.swap x y r)
theorem sortI_perm : ∀ r : List Int, (sortI r).Perm r
  | [] => List.Perm.refl _
  | x :: r => (insI_perm x (sortI r)).trans (List.Perm.cons x (sortI_perm r))
theorem insI_sorted (x : Int) : ∀ r : List Int, r.Pairwise (· ≤ ·) → (insI x r).Pairwise (· ≤ ·)
  | [], _ => List.pairwise_singleton _ _
  | y :: r, h => by
    unfold insI
    rw [List.pairwise_cons] at h
    split
    · rename_i hx
      refine List.pairwise_cons.mpr ⟨fun z hz => ?_, List.pairwise_cons.mpr h⟩
      rcases List.mem_cons.mp hz with rfl | hz
      · exact hx
      · exact Int.le_trans hx (h.1 z hz)
    · rename_i hx
      refine List.pairwise_cons.mpr ⟨fun z hz => ?_, insI_sorted x r h.2⟩
      rcases List.mem_cons.mp ((insI_perm x r).mem_iff.mp hz) with rfl | hz
      · omega
      · exact h.1 z hz
theorem sortI_sorted : ∀ r : List Int, (sortI r).Pairwise (· ≤ ·)
  | [] => List.Pairwise.nil
  | x :: r => insI_sorted x _ (sortI_sorted r)
theorem sorted_one : ∀ {xs ys : List Int}, xs.Perm ys → xs.Pairwise (· ≤ ·) → ys.Pairwise (· ≤ ·) → xs = ys
  | [], ys, p, _, _ => by rw [List.nil_perm.mp p]
  | x :: xs, [], p, _, _ => by have := p.length_eq; simp at this
  | x :: xs, y :: ys, p, h1, h2 => by
    rw [List.pairwise_cons] at h1 h2
    have e : x = y := by
      have a : x ∈ y :: ys := p.mem_iff.mp List.mem_cons_self
      have b : y ∈ x :: xs := p.mem_iff.mpr List.mem_cons_self
      rcases List.mem_cons.mp a with a | a
      · exact a
      · rcases List.mem_cons.mp b with b | b
        · exact b.symm
        · have := h1.1 y b
          have := h2.1 x a
          omega
    subst e
    rw [sorted_one (List.Perm.cons_inv p) h1.2 h2.2]
noncomputable def fnBi : Bi → Value
  | .len => .builtin "len" | .all => .builtin "all" | .any => .builtin "any" | .tuple => .type "tuple" | .list => .type "list"
  | .sorted => .builtin "sorted" | .sum => .builtin "sum" | .max1 => .builtin "max" | .min1 => .builtin "min" | .max2 => .builtin "max" | .min2 => .builtin "min"
  | .repr => .builtin "repr" | .str => .type "str" | .int => .type "int"
  | _ => .none
noncomputable def rBi (b : Bi) : List V → Hp → VK → Prop := fun xs H Q => ∃ A ds z fr, TopAll A H xs ds ∧ biD b ds = some (z, fr) ∧ ∀ v H', NewV A H z fr v H' → Q v H'
theorem TopAll.one {A : AS} {H : Hp} {xs : List V} {d : PyData} (h : TopAll A H xs [d]) : ∃ v, xs = [v] ∧ Top A H v d := by
  cases h with | cons a r => cases r with | nil => exact ⟨_, rfl, a⟩
theorem TopAll.two {A : AS} {H : Hp} {xs : List V} {d e : PyData} (h : TopAll A H xs [d, e]) : ∃ v w, xs = [v, w] ∧ Top A H v d ∧ Top A H w e := by
  cases h with | cons a r => obtain ⟨w, rfl, q⟩ := r.one; exact ⟨_, w, rfl, a, q⟩
theorem Top.relN {A : AS} {H : Hp} {v : V} {d : PyData} (h : Top A H v d) : Rel No H v d := by
  rcases h with h | ⟨a, rfl, ho, nt⟩
  · exact h.anti fun _ z => z.elim
  · exact (ho.anti fun _ z => z.elim).rel nt fun z => z
section
variable {X : Cx} {pins : List (Addr × Obj)} {s : Shared} {σ : L2.St} {H : Hp} {A : AS}
theorem key_reads {k : Key} {u : Value} (h : keyIs k u = true) : Reads s.heap u (keyD k) [] := by
  rcases keyIs_shape h with ⟨i, t, rfl, rfl⟩ | ⟨x, t, rfl, rfl⟩
  · exact .int i t
  · exact .str x t
mutual
/-- data with dicts, without lists, are read in the heap -/
theorem Rel.reads (I : Inv X pins σ H s) : ∀ {v : V} {d : PyData}, Rel A H v d → ∀ {u : Value}, RelV v u → dOk d = true → ∃ as, Reads s.heap u d as ∧ sysModules ∉ as
  | _, _, .non, u, rv, _ => by cases rv; exact ⟨[], .none, by simp⟩
  | _, _, .bl b, u, rv, _ => by cases rv; exact ⟨[], .bool b, by simp⟩
  | _, _, .int i, u, rv, _ => by obtain ⟨t, rfl⟩ := rv; exact ⟨[], .int i t, by simp⟩
  | _, _, .str x, u, rv, _ => by obtain ⟨t, rfl⟩ := rv; exact ⟨[], .str x t, by simp⟩
  | _, _, .lst h n r, u, rv, c => by simp [dOk] at c
  | _, _, .tup h r, u, rv, c => by
    cases rv
    rcases h with h | ⟨ob, _, h⟩
    · obtain ⟨z, its, vv, o, ho, hc, n, hd⟩ := I.hok _ _ h
      obtain ⟨as, ra, na⟩ := RelAll.reads I r vv (by simpa [dOk] using c)
      exact ⟨as, .tuple ho hc hd (by simpa using ra), na⟩
    · obtain ⟨_, z, its, vv, o, ho, hc, n, hd⟩ := (show ObjOk X.prog X.w H s.heap _ (.frz ob (.tup _)) from I.hok _ _ h)
      obtain ⟨as, ra, na⟩ := RelAll.reads I r vv (by simpa [dOk] using c)
      exact ⟨as, .tuple ho hc hd (by simpa using ra), na⟩
  | _, _, .dic h n r, u, rv, c => by
    cases rv
    obtain ⟨z, hne, vs, kv, o, es, ep, ho, ex, hd, _, pr, _⟩ := I.hok _ _ h
    obtain ⟨as, bs, ra, rb, na, nb⟩ := RelKv.reads I r kv pr (by simpa [dOk] using c)
    refine ⟨_, .dict ho ex.1 hd ra rb, fun hm => ?_⟩
    rcases List.mem_append.1 hm with hm | hm
    · rcases List.mem_cons.1 hm with hm | hm
      · rw [← hm] at hne; simp at hne
      · exact na hm
    · exact nb hm
  | _, _, .dit h n r, u, rv, c => by simp [dOk, dOkKv, tMark, isKey] at c
  | _, _, .scr h r, u, rv, c => by simp [dOk, dOkKv, isKey] at c
theorem RelAll.reads (I : Inv X pins σ H s) : ∀ {vs : List V} {ds : List PyData}, RelAll A H vs ds → ∀ {us : List Value}, Vals vs us → dOkAll ds = true → ∃ as, ReadsAll s.heap us ds as ∧ sysModules ∉ as
  | _, _, .nil, us, rv, _ => by cases rv; exact ⟨[], .nil, by simp⟩
  | _, _, .cons a r, us, rv, c => by
    cases rv with
    | cons rv1 rv2 =>
      simp only [dOkAll, Bool.and_eq_true] at c
      obtain ⟨as, h1, n1⟩ := Rel.reads I a rv1 c.1
      obtain ⟨bs, h2, n2⟩ := RelAll.reads I r rv2 c.2
      exact ⟨as ++ bs, .cons h1 h2, fun hm => (List.mem_append.1 hm).elim n1 n2⟩
theorem RelKv.reads (I : Inv X pins σ H s) : ∀ {kvs : List (Key × V)} {es : List (PyData × PyData)}, RelKv A H kvs es → ∀ {vs : List (Key × Value)} {ens : List DictEntry}, KV kvs vs → Pairs (mixKind X.prog X.w) ens vs → dOkKv es = true →
    ∃ as bs, ReadsAll s.heap (ens.map (·.key)) (es.map (·.1)) as ∧ ReadsAll s.heap (ens.map (·.val)) (es.map (·.2)) bs ∧ sysModules ∉ as ∧ sysModules ∉ bs
  | _, _, .nil, vs, ens, kv, pr, _ => by
    cases kv
    cases pr
    exact ⟨[], [], .nil, .nil, by simp, by simp⟩
  | _, _, .cons a r, vs, ens, kv, pr, c => by
    cases kv with
    | cons kv1 kv2 =>
      cases pr with
      | cons p1 p2 p3 =>
        simp only [dOkKv, Bool.and_eq_true] at c
        obtain ⟨e1, e2⟩ := kv1
        obtain ⟨as, bs, h1, h2, n1, n2⟩ := RelKv.reads I r kv2 p3 c.2
        rw [← p2] at e2
        obtain ⟨cs, h3, n3⟩ := Rel.reads I a e2 c.1.2
        rw [← e1] at p1
        exact ⟨[] ++ as, cs ++ bs, .cons (key_reads p1) h1, .cons h3 h2, by simpa using n1, fun hm => (List.mem_append.1 hm).elim n3 n2⟩
end
end
/-- repr of data -/
theorem repr_ok {X : Cx} (hg : X.A.guards = some []) (hu : X.A.units + 100 < cLine) : CallR X (.builtin "repr") (fun xs H Q => ∃ A d, ∃ v, xs = [v] ∧ Top A H v d ∧ shows d = true ∧ Q (.str d.shown) H) := by
  intro pins s σ H xs us Q I r ⟨A, d, v, e, ht, hs, q⟩
  subst e
  cases r with
  | cons rv rn =>
    cases rn
    unfold shows at hs
    simp only [Bool.and_eq_true, decide_eq_true_iff, Bool.or_eq_true, Bool.not_eq_true'] at hs
    obtain ⟨⟨⟨h1, h2⟩, h3⟩, h4⟩ := hs
    have ref : ∀ a, v = .ref a → ∀ (as : List Addr), Reads s.heap (.ref a) d as → (d.hasDict = true → sysModules ∉ as) → wpAny (model X.prog X.w) X.A (call (.builtin "repr") [.ref a]) (EP X pins σ Q) X.xe s := fun a e as rd hsm =>
      repr_of_reads' rd h1 hsm hg (by omega) (fun _ _ e => e) (fun h' u tk k => ⟨.str d.shown, H, I.kept (t' := tk) k, ⟨_, rfl⟩, q⟩) h4
    obtain ⟨as, rd, hsm⟩ : ∃ as, Reads s.heap _ d as ∧ (d.hasDict = true → sysModules ∉ as) := by
      rcases h2 with h2 | h2
      · obtain ⟨as, rd⟩ := Dp.reads I d v _ (ht.dp h2) rv
        exact ⟨as, rd, PyData.noDict_hsm h2⟩
      · obtain ⟨as, rd, n⟩ := Rel.reads I ht.relN rv h2
        exact ⟨as, rd, fun _ => n⟩
    cases d with
    | none => cases ht.non; cases rv; exact PySem.P.repr_of_none ⟨.str _, H, I.tok _, ⟨_, rfl⟩, q⟩
    | bool b => cases ht.bl; cases rv; exact PySem.P.repr_of_bool ⟨.str _, H, I.tok _, ⟨_, by cases b <;> rfl⟩, q⟩
    | int i => cases ht.int; obtain ⟨t, rfl⟩ := rv; exact PySem.P.repr_of_int (by simpa [PyData.showable] using h1) ⟨.str _, H, I.tok _, ⟨_, rfl⟩, q⟩
    | str z => cases ht.str; obtain ⟨t, rfl⟩ := rv; exact PySem.P.repr_of_str ⟨.str _, H, I.tok _, ⟨_, rfl⟩, q⟩ h4
    | list ds =>
      obtain ⟨a, xs, rfl, hh, rr⟩ := ht.lst
      cases rv
      exact ref a rfl as rd hsm
    | tuple ds =>
      obtain ⟨a, xs, rfl, hh, rr⟩ := ht.tup
      cases rv
      exact ref a rfl as rd hsm
    | dict es =>
      have hx : ∃ a, v = .ref a := by
        have := ht.relN
        cases this <;> exact ⟨_, rfl⟩
      obtain ⟨a, rfl⟩ := hx
      cases rv
      exact ref a rfl as rd hsm
/-- str of a tuple -/
theorem strT_ok {X : Cx} (hg : X.A.guards = some []) (hu : X.A.units + 100 < cLine) : CallR X (.type "str") (fun xs H Q => ∃ A ds, ∃ v, xs = [v] ∧ Top A H v (.tuple ds) ∧ shows (.tuple ds) = true ∧ Q (.str (PyData.tuple ds).shown) H) := by
  intro pins s σ H xs us Q I r ⟨A, ds, v, e, ht, hs, q⟩
  subst e
  cases r with
  | cons rv rn =>
    cases rn
    unfold shows at hs
    simp only [Bool.and_eq_true, decide_eq_true_iff, Bool.or_eq_true, Bool.not_eq_true'] at hs
    obtain ⟨⟨⟨h1, h2⟩, h3⟩, h4⟩ := hs
    obtain ⟨as, rd, hsm⟩ : ∃ as, Reads s.heap _ (.tuple ds) as ∧ ((PyData.tuple ds).hasDict = true → sysModules ∉ as) := by
      rcases h2 with h2 | h2
      · obtain ⟨as, rd⟩ := Dp.reads I _ v _ (ht.dp h2) rv
        exact ⟨as, rd, PyData.noDict_hsm h2⟩
      · obtain ⟨as, rd, n⟩ := Rel.reads I ht.relN rv h2
        exact ⟨as, rd, fun _ => n⟩
    obtain ⟨a, xs, rfl, hh, rr⟩ := ht.tup
    cases rv
    exact str_of_reads rd h1 hsm hg (by omega) (fun _ _ e => e) (fun h' u tk k => ⟨.str _, H, I.kept (t' := tk) k, ⟨_, rfl⟩, q⟩) h4
/-- str of a list -/
theorem strL_ok {X : Cx} (hg : X.A.guards = some []) (hu : X.A.units + 100 < cLine) : CallR X (.type "str") (fun xs H Q => ∃ A ds, ∃ v, xs = [v] ∧ Top A H v (.list ds) ∧ shows (.list ds) = true ∧ Q (.str (PyData.list ds).shown) H) := by
  intro pins s σ H xs us Q I r ⟨A, ds, v, e, ht, hs, q⟩
  subst e
  cases r with
  | cons rv rn =>
    cases rn
    unfold shows at hs
    simp only [Bool.and_eq_true, decide_eq_true_iff, Bool.or_eq_true, Bool.not_eq_true'] at hs
    obtain ⟨⟨⟨h1, h2⟩, h3⟩, h4⟩ := hs
    obtain ⟨as, rd, hsm⟩ : ∃ as, Reads s.heap _ (.list ds) as ∧ ((PyData.list ds).hasDict = true → sysModules ∉ as) := by
      rcases h2 with h2 | h2
      · obtain ⟨as, rd⟩ := Dp.reads I _ v _ (ht.dp h2) rv
        exact ⟨as, rd, PyData.noDict_hsm h2⟩
      · obtain ⟨as, rd, n⟩ := Rel.reads I ht.relN rv h2
        exact ⟨as, rd, fun _ => n⟩
    obtain ⟨a, xs, rfl, hh, rr⟩ := ht.lst
    cases rv
    exact str_of_reads rd h1 hsm hg (by omega) (fun _ _ e => e) (fun h' u tk k => ⟨.str _, H, I.kept (t' := tk) k, ⟨_, rfl⟩, q⟩) h4
/-- str of None, of a truth value, of a text -/
theorem strN_ok {X : Cx} : CallR X (.type "str") (fun xs H Q => xs = [.non] ∧ Q (.str PyData.none.shown) H) := by
  intro pins s σ H xs us Q I r ⟨e, q⟩
  subst e
  cases r with
  | cons rv rn =>
    cases rn
    cases rv
    exact PySem.P.str_of_none ⟨.str _, H, I.tok _, ⟨_, rfl⟩, q⟩
theorem strB_ok {X : Cx} : CallR X (.type "str") (fun xs H Q => ∃ b, xs = [.bl b] ∧ Q (.str (PyData.bool b).shown) H) := by
  intro pins s σ H xs us Q I r ⟨b, e, q⟩
  subst e
  cases r with
  | cons rv rn =>
    cases rn
    cases rv
    exact PySem.P.str_of_bool ⟨.str _, H, I.tok _, ⟨_, by cases b <;> rfl⟩, q⟩
theorem strS_ok {X : Cx} : CallR X (.type "str") (fun xs H Q => ∃ a, xs = [.str a] ∧ Q (.str a) H) := by
  intro pins s σ H xs us Q I r ⟨a, e, q⟩
  subst e
  cases r with
  | cons rv rn =>
    cases rn
    obtain ⟨t, rfl⟩ := rv
    exact PySem.P.str_of_str ⟨.str a, H, I, ⟨t, rfl⟩, q⟩
theorem ordOk_iff {x : PyData} {xs : List PyData} (h : ordOk (x :: xs) = true) : PySem.W.AlikeAll (x :: xs) ∧ PyData.depthAll (x :: xs) ≤ 32 ∧ PyData.hasDictAll (x :: xs) = false := by
  unfold ordOk at h
  rw [Bool.and_eq_true, Bool.and_eq_true, decide_eq_true_eq, Bool.not_eq_true', List.all_eq_true] at h
  refine ⟨⟨fun a ha b hb => ?_, fun a ha e => ?_⟩, h.1.2, h.2⟩
  · have := h.1.1 a ha
    rw [Bool.and_eq_true, List.all_eq_true] at this
    exact this.2 b hb
  · have := h.1.1 a ha
    rw [Bool.and_eq_true, e] at this
    exact absurd this.1 (by simp [isNone])
theorem vals_back : ∀ {xs : List V} {us : List Value} {i : Nat} {u : Value}, Vals xs us → us[i]? = some u → ∃ v, xs[i]? = some v ∧ RelV v u
  | _, _, _, _, .nil, h => by simp at h
  | _, _, 0, _, .cons a _, h => by
    have e := Option.some.inj h
    subst e
    exact ⟨_, rfl, a⟩
  | _, _, i + 1, _, .cons _ r, h => vals_back (i := i) r h
/-- an item that reads as a datum is that datum -/
theorem item_is {X : Cx} {pins : List (Addr × Obj)} {s : Shared} {σ : L2.St} {H : Hp} {A : AS} {xs : List V} {ds : List PyData} {us : List Value} {i : Nat} {u : Value} {d : PyData} {bs : List Addr} {h' : Heap}
    (I : Inv X pins σ H s) (r : RelAll A H xs ds) (rv : Vals xs us) (nd : PyData.hasDictAll ds = false) (hu : us[i]? = some u) (k : ∀ b o, s.heap.get? b = some o → h'.get? b = some o) (rd : Reads h' u d bs) (pd : d.plain = true) :
    ∃ v, RelV v u ∧ Rel A H v d := by
  obtain ⟨v, hv, rvu⟩ := vals_back rv hu
  obtain ⟨e, he, rel⟩ := r.get' hv
  have nde : e.hasDict = false := by
    have : ∀ {ds : List PyData}, PyData.hasDictAll ds = false → ∀ e ∈ ds, e.hasDict = false := by
      intro ds
      induction ds with
      | nil => intro _ e h; cases h
      | cons a t ih =>
        intro h e he
        simp only [PyData.hasDictAll, Bool.or_eq_false_iff] at h
        rcases List.mem_cons.mp he with rfl | he
        · exact h.1
        · exact ih h.2 e he
    exact this nd e (List.mem_of_getElem? he)
  obtain ⟨as, r2⟩ := Dp.reads I e v u (rel.dp nde) rvu
  have r3 := PyProof.Rows.Reads.keeps k r2
  have e1 := PySem.SeqAt.readsAll_map_plain [e] [u] _ (by simp only [PyData.plainAll, plain_of nde, Bool.and_self]) (.cons r3 .nil)
  have e2 := PySem.SeqAt.readsAll_map_plain [d] [u] _ (by simp only [PyData.plainAll, pd, Bool.and_self]) (.cons rd .nil)
  rw [e1] at e2
  cases e2
  exact ⟨v, rvu, rel⟩
theorem fold_mem {f : PyData → PyData → Bool} : ∀ {xs : List PyData} {x : PyData}, xs.foldl (fun a y => if f y a then y else a) x ∈ x :: xs
  | [], x => List.mem_cons_self
  | y :: xs, x => by
    rw [List.foldl_cons]
    have h := fold_mem (f := f) (xs := xs) (x := if f y x then y else x)
    rcases List.mem_cons.mp h with e | h
    · rw [e]
      split
      · exact List.mem_cons_of_mem _ List.mem_cons_self
      · exact List.mem_cons_self
    · exact List.mem_cons_of_mem _ (List.mem_cons_of_mem _ h)
theorem best_plain {ds : List PyData} {d : PyData} (nd : PyData.hasDictAll ds = false) (h : d ∈ ds) : d.plain = true := by
  induction ds with
  | nil => cases h
  | cons a t ih =>
    simp only [PyData.hasDictAll, Bool.or_eq_false_iff] at nd
    rcases List.mem_cons.mp h with rfl | h
    · exact plain_of nd.1
    · exact ih nd.2 h
theorem tup_strong {X : Cx} {pins : List (Addr × Obj)} {s : Shared} {σ : L2.St} {H : Hp} {us : List Value} {Q : VK} {a : Addr} {ys : List V} (I : Inv X pins σ H s) (r : Vals [V.ref a] us) (h1 : H a = some (.lst ys))
    (q : ∀ l (o : Obj), o.dict = none → H l = none → Q (.ref l) (upd H l (.frz o (.tup ys)))) : wpAny (model X.prog X.w) X.A (call (.type "tuple") us) (EP X pins σ Q) X.xe s := by
  rw [Vals.ref1 r]
  obtain ⟨its, rv, pl, hz⟩ := I.list (SqL.of h1)
  refine call_tuple_list pl.isList (fun h' hk => ?_) (by rw [List.size_toArray, ← rv.length]; exact hz)
  have J : Inv X pins σ H { s with heap := h' } := I.kept (t' := s.toks) hk
  have hn := J.hok.fresh (Nat.le_refl _)
  have e := Heap.get?_push_size h' (o := { cls := .type "tuple", data := .seq its.toArray }) rfl
  refine ⟨.ref h'.objs.size, upd H h'.objs.size (.frz { cls := .type "tuple", data := .seq its.toArray } (.tup ys)), ?_, rfl, q _ _ rfl hn⟩
  exact J.laid (t' := s.toks) (fun b o z => Heap.get?_push_of_some _ z) (Nat.le_refl _) ⟨e, hz, its, rv, IsTup.new _ _⟩
theorem max_list {X : Cx} {pins : List (Addr × Obj)} {s : Shared} {σ : L2.St} {H : Hp} {A : AS} {us : List Value} {Q : VK} {a : Addr} {ys : List V} {x : PyData} {xs : List PyData} (hc : X.calm = true) (hu : X.A.units + 100 < cLine) (I : Inv X pins σ H s) (r : Vals [V.ref a] us) (h1 : H a = some (.lst ys))
    (r1 : RelAll A H ys (x :: xs)) (ok : ordOk (x :: xs) = true) (q : ∀ v H', NewV A H (PySem.W.maxD x xs) false v H' → Q v H') : wpAny (model X.prog X.w) X.A (call (.builtin "max") us) (EP X pins σ Q) X.xe s := by
  rw [Vals.ref1 r]
  obtain ⟨its, rv, pl, hz⟩ := I.list (SqL.of h1)
  obtain ⟨o1, o2, o3⟩ := ordOk_iff ok
  obtain ⟨as, rd⟩ := Dp.readsAll I (x :: xs) ys its (r1.dp o3) rv
  refine PySem.W.max_list_data (vs := its.toArray) (I.ok.hd hc) pl.isList (by simpa using rd) o1 (by omega) fun i v h' tk bs hv rm k => ?_
  obtain ⟨y, ry, rel⟩ := item_is I r1 rv o3 (i := i) (by simpa using hv) k rm (best_plain o3 (fold_mem (f := fun a b => PySem.W.dataLt b a)))
  exact ⟨y, H, I.kept (t' := tk) k, ry, q _ _ (.val rel)⟩
theorem max_tuple {X : Cx} {pins : List (Addr × Obj)} {s : Shared} {σ : L2.St} {H : Hp} {A : AS} {us : List Value} {Q : VK} {a : Addr} {ys : List V} {x : PyData} {xs : List PyData} (hc : X.calm = true) (hu : X.A.units + 100 < cLine) (I : Inv X pins σ H s) (r : Vals [V.ref a] us) (h1 : TupAt H a ys)
    (r1 : RelAll A H ys (x :: xs)) (ok : ordOk (x :: xs) = true) (q : ∀ v H', NewV A H (PySem.W.maxD x xs) false v H' → Q v H') : wpAny (model X.prog X.w) X.A (call (.builtin "max") us) (EP X pins σ Q) X.xe s := by
  rw [Vals.ref1 r]
  obtain ⟨its, rv, pl, hz⟩ := I.tuple h1.sq
  obtain ⟨o1, o2, o3⟩ := ordOk_iff ok
  obtain ⟨as, rd⟩ := Dp.readsAll I (x :: xs) ys its (r1.dp o3) rv
  refine PySem.W.max_tuple_data (vs := its.toArray) (I.ok.hd hc) pl (by simpa using rd) o1 (by omega) fun i v h' tk bs hv rm k => ?_
  obtain ⟨y, ry, rel⟩ := item_is I r1 rv o3 (i := i) (by simpa using hv) k rm (best_plain o3 (fold_mem (f := fun a b => PySem.W.dataLt b a)))
  exact ⟨y, H, I.kept (t' := tk) k, ry, q _ _ (.val rel)⟩
theorem min_list {X : Cx} {pins : List (Addr × Obj)} {s : Shared} {σ : L2.St} {H : Hp} {A : AS} {us : List Value} {Q : VK} {a : Addr} {ys : List V} {x : PyData} {xs : List PyData} (hc : X.calm = true) (hu : X.A.units + 100 < cLine) (I : Inv X pins σ H s) (r : Vals [V.ref a] us) (h1 : H a = some (.lst ys))
    (r1 : RelAll A H ys (x :: xs)) (ok : ordOk (x :: xs) = true) (q : ∀ v H', NewV A H (PySem.W.minD x xs) false v H' → Q v H') : wpAny (model X.prog X.w) X.A (call (.builtin "min") us) (EP X pins σ Q) X.xe s := by
  rw [Vals.ref1 r]
  obtain ⟨its, rv, pl, hz⟩ := I.list (SqL.of h1)
  obtain ⟨o1, o2, o3⟩ := ordOk_iff ok
  obtain ⟨as, rd⟩ := Dp.readsAll I (x :: xs) ys its (r1.dp o3) rv
  refine PySem.W.min_list_data (vs := its.toArray) (I.ok.hd hc) pl.isList (by simpa using rd) o1 (by omega) fun i v h' tk bs hv rm k => ?_
  obtain ⟨y, ry, rel⟩ := item_is I r1 rv o3 (i := i) (by simpa using hv) k rm (best_plain o3 (fold_mem (f := PySem.W.dataLt)))
  exact ⟨y, H, I.kept (t' := tk) k, ry, q _ _ (.val rel)⟩
theorem min_tuple {X : Cx} {pins : List (Addr × Obj)} {s : Shared} {σ : L2.St} {H : Hp} {A : AS} {us : List Value} {Q : VK} {a : Addr} {ys : List V} {x : PyData} {xs : List PyData} (hc : X.calm = true) (hu : X.A.units + 100 < cLine) (I : Inv X pins σ H s) (r : Vals [V.ref a] us) (h1 : TupAt H a ys)
    (r1 : RelAll A H ys (x :: xs)) (ok : ordOk (x :: xs) = true) (q : ∀ v H', NewV A H (PySem.W.minD x xs) false v H' → Q v H') : wpAny (model X.prog X.w) X.A (call (.builtin "min") us) (EP X pins σ Q) X.xe s := by
  rw [Vals.ref1 r]
  obtain ⟨its, rv, pl, hz⟩ := I.tuple h1.sq
  obtain ⟨o1, o2, o3⟩ := ordOk_iff ok
  obtain ⟨as, rd⟩ := Dp.readsAll I (x :: xs) ys its (r1.dp o3) rv
  refine PySem.W.min_tuple_data (vs := its.toArray) (I.ok.hd hc) pl (by simpa using rd) o1 (by omega) fun i v h' tk bs hv rm k => ?_
  obtain ⟨y, ry, rel⟩ := item_is I r1 rv o3 (i := i) (by simpa using hv) k rm (best_plain o3 (fold_mem (f := PySem.W.dataLt)))
  exact ⟨y, H, I.kept (t' := tk) k, ry, q _ _ (.val rel)⟩
theorem each_items {X : Cx} {pins : List (Addr × Obj)} {s : Shared} {σ : L2.St} {H : Hp} {A : AS} (I : Inv X pins σ H s) : ∀ {xs : List V} {ds : List PyData} {us : List Value}, RelAll A H xs ds → Vals xs us → PyData.hasDictAll ds = false →
    PySem.W.EachIs (fun (u : Value) (d : PyData) => ∃ v, RelV v u ∧ Rel A H v d) us ds ∧ PySem.W.EachIs (fun (u : Value) (d : PyData) => ∃ as, Reads s.heap u (id d) as) us ds
  | _, _, _, .nil, .nil, _ => ⟨.nil, .nil⟩
  | _, _, _, .cons a r, .cons b v, h => by
    simp only [PyData.hasDictAll, Bool.or_eq_false_iff] at h
    obtain ⟨e1, e2⟩ := each_items I r v h.2
    exact ⟨.cons ⟨_, b, a⟩ e1, .cons (Dp.reads I _ _ _ (a.dp h.1) b) e2⟩
theorem items_each {A : AS} {H : Hp} : ∀ {us : List Value} {ds : List PyData}, PySem.W.EachIs (fun (u : Value) (d : PyData) => ∃ v, RelV v u ∧ Rel A H v d) us ds → ∃ xs, RelAll A H xs ds ∧ Vals xs us
  | _, _, .nil => ⟨[], .nil, .nil⟩
  | _, _, .cons ⟨v, b, a⟩ e => let ⟨xs, r, w⟩ := items_each e; ⟨v :: xs, .cons a r, .cons b w⟩
theorem rowsB_iff {xs : List PyData} (h : rowsB xs = true) : PySem.W.AllAlike (xs.map id) ∧ PySem.W.Sortable (xs.map id) ∧ PyData.depthAll xs ≤ 32 ∧ PyData.hasDictAll xs = false := by
  cases xs with
  | nil => cases h
  | cons x r =>
    unfold rowsB at h
    rw [Bool.and_eq_true, List.all_eq_true] at h
    obtain ⟨o1, o2, o3⟩ := ordOk_iff h.1
    rw [List.map_id]
    refine ⟨fun d hd d' hd' => o1.1 d hd d' hd', .inl fun d hd => ?_, o2, o3⟩
    have := h.2 d hd
    cases d with
    | tuple ys => cases ys with
      | nil => cases this
      | cons y ys => exact ⟨y, ys, rfl⟩
    | _ => cases this
theorem depth_mem {ds : List PyData} {n : Nat} (h : PyData.depthAll ds ≤ n) : ∀ d ∈ ds, d.depth ≤ n := by
  induction ds with
  | nil => intro d hd; cases hd
  | cons a r ih =>
    intro d hd
    simp only [PyData.depthAll] at h
    rcases List.mem_cons.mp hd with rfl | hd
    · omega
    · exact ih (by omega) d hd
/-- sorted of a list of tuples -/
theorem sort_rows {X : Cx} {pins : List (Addr × Obj)} {s : Shared} {σ : L2.St} {H : Hp} {A : AS} {us : List Value} {Q : VK} {a : Addr} {ys : List V} {xs : List PyData} (hu : X.A.units + 100 < cLine) (I : Inv X pins σ H s) (r : Vals [V.ref a] us) (h1 : H a = some (.lst ys))
    (r1 : RelAll A H ys xs) (ok : rowsB xs = true) (q : ∀ p vs, H p = none → RelAll A H vs (xs.mergeSort (PySem.W.dataLe false id)) → Q (.ref p) (upd H p (.lst vs))) : wpAny (model X.prog X.w) X.A (call (.builtin "sorted") us) (EP X pins σ Q) X.xe s := by
  rw [Vals.ref1 r]
  obtain ⟨its, rv, pl, hz⟩ := I.list (SqL.of h1)
  obtain ⟨o1, o2, o3, o4⟩ := rowsB_iff ok
  obtain ⟨e1, e2⟩ := each_items I r1 rv o4
  refine PySem.W.sorted_data (vs := its) (bs := xs) (enc := id) pl.isList e1 e2 o1 o2 (by rw [← r1.length]; exact hz) (fun b hb => by have := depth_mem o3 b hb; simp only [id]; omega) fun out hl ho => ?_
  obtain ⟨vs, rel, vv⟩ := items_each ho
  obtain ⟨ep, hat⟩ := sortedAll_at s.heap its out.toArray
  have hlen : vs.length ≤ sizeLine := by
    rw [rel.length, List.length_mergeSort, ← r1.length]; exact hz
  exact ⟨.ref _, upd H (s.heap.objs.size + 1) (.lst vs), I.laid (t' := s.toks) (fun _ _ => sortedAll_old) (Nat.le_succ _) ⟨hlen, out, ep, vv, hat⟩, rfl, q _ _ (I.hok.fresh (Nat.le_succ _)) rel⟩
theorem chars_rel {A : AS} {H : Hp} : ∀ l : List Nat, RelAll A H (l.map fun c => V.str ⟨#[c]⟩) (l.map fun c => PyData.str ⟨#[c]⟩)
  | [] => .nil
  | _ :: r => .cons (.str _) (chars_rel r)
theorem sign_vals : ∀ {xs : List V} {us : List Value}, xs.length = us.length → (∀ (j : Nat) (x : V) (u : Value), xs[j]? = some x → us[j]? = some u → RelV x u) → Vals xs us
  | [], [], _, _ => .nil
  | [], _ :: _, h, _ => by cases h
  | _ :: _, [], h, _ => by cases h
  | x :: xs, u :: us, h, g => .cons (g 0 x u rfl rfl) (sign_vals (Nat.succ.inj h) fun j a b => g (j + 1) a b)
theorem keys_rel {A : AS} {H : Hp} : ∀ {kvs : List (List Key × V)} {es : List (PyData × PyData)} {bs : List Addr}, RelKt A H kvs es → IsKeys H kvs bs → RelAll A H (bs.map V.ref) (es.map (·.1))
  | _, _, _, .nil _, h => by cases h; exact .nil
  | _, _, _, .cons (k := k) a r, h => by
    cases h with
    | cons e h =>
      refine .cons (.tup (.inl e) ?_) (keys_rel r h)
      have : ∀ k : List Int, RelAll A H ((k.map Sum.inl : List Key).map kV) (k.map .int) := fun k => by
        induction k with
        | nil => exact .nil
        | cons x t ih => exact .cons (.int x) ih
      exact this k
theorem bi_ok {X : Cx} (hK : X.K = EK.k) (hc : X.calm = true) (hu : X.A.units + 100 < cLine) (b : Bi) (hb : tyOf b = none) (hg : b = .repr ∨ b = .str → X.A.guards = some []) : CallR X (fnBi b) (rBi b) := by
  intro pins s σ H xs us Q I r ⟨A, ds, z, fr, ht, hz, q⟩
  cases b with
  | len =>
    simp only [biD] at hz
    split at hz
    · cases hz
      obtain ⟨v, rfl, h⟩ := ht.one
      obtain ⟨a, ys, rfl, h1, r1⟩ := h.lst
      exact call_len_seq pins s σ H _ us Q I r ⟨a, ys, rfl, .inl (SqL.of h1), by rw [r1.length]; exact q _ _ (.val (.int _))⟩
    · cases hz
      obtain ⟨v, rfl, h⟩ := ht.one
      obtain ⟨a, ys, rfl, h1, r1⟩ := h.tup
      exact call_len_seq pins s σ H _ us Q I r ⟨a, ys, rfl, .inr h1.sq, by rw [r1.length]; exact q _ _ (.val (.int _))⟩
    · cases hz
      obtain ⟨v, rfl, h⟩ := ht.one
      obtain ⟨a, ys, rfl, h1, r1⟩ := h.scr
      exact call_len_seq pins s σ H _ us Q I r ⟨a, ys, rfl, .inl (h1.sq hK), by rw [r1.length]; exact q _ _ (.val (.int _))⟩
    · split at hz
      · rename_i hl
        cases hz
        obtain ⟨v, rfl, h⟩ := ht.one
        cases h.str
        exact call_len_str pins s σ H _ us Q I r ⟨_, rfl, hl, q _ _ (.val (.int _))⟩
      · cases hz
    · cases hz
  | all =>
    simp only [biD] at hz
    split at hz
    · obtain ⟨v, rfl, h⟩ := ht.one
      obtain ⟨a, ys, rfl, h1, r1⟩ := h.lst
      cases e : boolsOf ‹List PyData› with
      | none => rw [e] at hz; cases hz
      | some bs =>
        rw [e] at hz; cases hz
        have e2 := bools_rel r1 e
        subst e2
        exact cr_all hc pins s σ H _ us Q I r ⟨a, bs, rfl, SqL.of h1, q _ _ (.val (.bl _))⟩
    · cases hz
  | any =>
    simp only [biD] at hz
    split at hz
    · obtain ⟨v, rfl, h⟩ := ht.one
      obtain ⟨a, ys, rfl, h1, r1⟩ := h.lst
      cases e : boolsOf ‹List PyData› with
      | none => rw [e] at hz; cases hz
      | some bs =>
        rw [e] at hz; cases hz
        have e2 := bools_rel r1 e
        subst e2
        exact cr_any hc pins s σ H _ us Q I r ⟨a, bs, rfl, SqL.of h1, q _ _ (.val (.bl _))⟩
    · cases hz
  | tuple =>
    simp only [biD] at hz
    split at hz
    · cases hz
      obtain ⟨v, rfl, h⟩ := ht.one
      obtain ⟨a, ys, rfl, h1, r1⟩ := h.lst
      exact call_tuple_of pins s σ H _ us Q I r ⟨a, ys, rfl, .inl ⟨SqL.of h1, fun l hl => q _ _ (new_tup hl r1)⟩⟩
    · cases hz
      obtain ⟨v, rfl, h⟩ := ht.one
      obtain ⟨a, ys, rfl, h1, r1⟩ := h.tup
      exact call_tuple_of pins s σ H _ us Q I r ⟨a, ys, rfl, .inr ⟨h1.sq, q _ _ (.val (.tup h1 r1))⟩⟩
    · cases hz
  | list =>
    simp only [biD] at hz
    split at hz
    · cases hz
      obtain ⟨v, rfl, h⟩ := ht.one
      obtain ⟨a, ys, rfl, h1, r1⟩ := h.lst
      exact call_list_of pins s σ H _ us Q I r ⟨a, ys, rfl, .inl (SqL.of h1), fun l hl => q _ _ (new_lst hl r1)⟩
    · cases hz
      obtain ⟨v, rfl, h⟩ := ht.one
      obtain ⟨a, ys, rfl, h1, r1⟩ := h.tup
      exact call_list_of pins s σ H _ us Q I r ⟨a, ys, rfl, .inr h1.sq, fun l hl => q _ _ (new_lst hl r1)⟩
    · split at hz
      · rename_i zt hle
        cases hz
        obtain ⟨v, rfl, h⟩ := ht.one
        cases h.str
        obtain ⟨u, rfl, rx⟩ := vals1 r
        obtain ⟨t, rfl⟩ := rx
        refine call_list_str (I.ok.hd hc) zt t (fun h' tk acc' c' kp e items => ?_) hle
        have vals : Vals (zt.cps.toList.map fun c => V.str ⟨#[c]⟩) acc'.toList := by
          refine sign_vals (by have := items.1; simp [this]) fun j x u hj hu => ?_
          rw [Array.getElem?_toList] at hu
          obtain ⟨c, w, e1, e2⟩ := items.2 j u hu
          rw [List.getElem?_map, Array.getElem?_toList, e1] at hj
          cases hj
          exact ⟨w, e2⟩
        have hsz : (zt.cps.toList.map fun c => V.str ⟨#[c]⟩).length ≤ sizeLine := by rw [List.length_map, Array.length_toList]; exact hle
        refine ⟨.ref s.heap.objs.size, _, I.laid (t' := tk) kp (Nat.le_refl _) (show ObjOk X.prog X.w _ h' _ (.lst (zt.cps.toList.map fun c => V.str ⟨#[c]⟩)) from ⟨hsz, acc'.toList, c', vals, by simpa using e⟩), rfl, q _ _ (new_lst (I.hok.fresh (Nat.le_refl _)) ?_)⟩
        exact chars_rel _
      · cases hz
    · cases hz
      obtain ⟨v, rfl, h⟩ := ht.one
      obtain ⟨a, kvs, rfl, h1, r1⟩ := h.dit
      refine call_list_dT hc pins s σ H _ us Q I r ⟨a, kvs, rfl, .inl h1, fun p bs hp ks => q _ _ (new_lst hp (keys_rel r1 ks))⟩
    · cases hz
  | sorted =>
    simp only [biD] at hz
    split at hz
    · obtain ⟨v, rfl, h⟩ := ht.one
      obtain ⟨a, ys, rfl, h1, r1⟩ := h.lst
      split at hz
      · rename_i hrw
        cases hz
        exact sort_rows hu I r h1 r1 hrw fun p vs hp rel => q _ _ (new_lst hp rel)
      cases e : intsOf ‹List PyData› with
      | none => rw [e] at hz; cases hz
      | some bs =>
        rw [e] at hz; cases hz
        have e2 := ints_rel r1 e
        subst e2
        refine cr_sortedI pins s σ H _ us Q I r ⟨a, bs, rfl, SqL.of h1, fun ns' p hp hs hn => ?_⟩
        rw [sorted_one (hp.trans (sortI_perm bs).symm) hs (sortI_sorted bs)]
        exact q _ _ (new_lst hn (ints_all _))
    · obtain ⟨v, rfl, h⟩ := ht.one
      obtain ⟨a, ys, rfl, h1, r1⟩ := h.tup
      cases e : intsOf ‹List PyData› with
      | none => rw [e] at hz; cases hz
      | some bs =>
        rw [e] at hz; cases hz
        have e2 := ints_rel r1 e
        subst e2
        refine cr_sortTI pins s σ H _ us Q I r ⟨a, bs, rfl, h1.sq, fun ns' p hp hs hn => ?_⟩
        rw [sorted_one (hp.trans (sortI_perm bs).symm) hs (sortI_sorted bs)]
        exact q _ _ (new_lst hn (ints_all _))
    · cases hz
  | sum =>
    simp only [biD] at hz
    split at hz
    · obtain ⟨v, rfl, h⟩ := ht.one
      obtain ⟨a, ys, rfl, h1, r1⟩ := h.lst
      cases e : intsOf ‹List PyData› with
      | none => rw [e] at hz; cases hz
      | some bs =>
        rw [e] at hz; cases hz
        have e2 := ints_rel r1 e
        subst e2
        exact cr_sum hc pins s σ H _ us Q I r ⟨a, bs, rfl, SqL.of h1, q _ _ (.val (.int _))⟩
    · obtain ⟨v, rfl, h⟩ := ht.one
      obtain ⟨a, ys, rfl, h1, r1⟩ := h.tup
      cases e : intsOf ‹List PyData› with
      | none => rw [e] at hz; cases hz
      | some bs =>
        rw [e] at hz; cases hz
        have e2 := ints_rel r1 e
        subst e2
        exact cr_sumT hc pins s σ H _ us Q I r ⟨a, bs, rfl, h1.sq, q _ _ (.val (.int _))⟩
    · cases hz
  | max1 =>
    simp only [biD] at hz
    split at hz
    · split at hz
      · rename_i hs
        cases hz
        obtain ⟨v, rfl, h⟩ := ht.one
        obtain ⟨a, ys, rfl, h1, r1⟩ := h.lst
        exact max_list hc hu I r h1 r1 hs q
      · cases hz
    · split at hz
      · rename_i hs
        cases hz
        obtain ⟨v, rfl, h⟩ := ht.one
        obtain ⟨a, ys, rfl, h1, r1⟩ := h.tup
        exact max_tuple hc hu I r h1 r1 hs q
      · cases hz
    · cases hz
  | min1 =>
    simp only [biD] at hz
    split at hz
    · split at hz
      · rename_i hs
        cases hz
        obtain ⟨v, rfl, h⟩ := ht.one
        obtain ⟨a, ys, rfl, h1, r1⟩ := h.lst
        exact min_list hc hu I r h1 r1 hs q
      · cases hz
    · split at hz
      · rename_i hs
        cases hz
        obtain ⟨v, rfl, h⟩ := ht.one
        obtain ⟨a, ys, rfl, h1, r1⟩ := h.tup
        exact min_tuple hc hu I r h1 r1 hs q
      · cases hz
    · cases hz
  | max2 =>
    simp only [biD] at hz
    split at hz
    · cases hz
      obtain ⟨v, w, rfl, h, h'⟩ := ht.two
      cases h.int; cases h'.int
      exact call_max2 hc pins s σ H _ us Q I r ⟨_, _, rfl, q _ _ (.val (.int _))⟩
    · cases hz
  | min2 =>
    simp only [biD] at hz
    split at hz
    · cases hz
      obtain ⟨v, w, rfl, h, h'⟩ := ht.two
      cases h.int; cases h'.int
      exact call_min2 hc pins s σ H _ us Q I r ⟨_, _, rfl, q _ _ (.val (.int _))⟩
    · cases hz
  | repr =>
    simp only [biD] at hz
    split at hz
    · split at hz
      · rename_i hl
        cases hz
        obtain ⟨v, rfl, h⟩ := ht.one
        exact repr_ok (hg (.inl rfl)) hu pins s σ H _ us Q I r ⟨A, _, v, rfl, h, hl, q _ _ (.val (.str _))⟩
      · cases hz
    · cases hz
  | str =>
    simp only [biD] at hz
    split at hz
    · split at hz
      · rename_i hl
        cases hz
        obtain ⟨v, rfl, h⟩ := ht.one
        cases h.int
        exact call_str_int pins s σ H _ us Q I r ⟨_, rfl, hl, q _ _ (.val (.str _))⟩
      · cases hz
    · split at hz
      · rename_i hl
        cases hz
        obtain ⟨v, rfl, h⟩ := ht.one
        exact strT_ok (hg (.inr rfl)) hu pins s σ H _ us Q I r ⟨A, _, v, rfl, h, hl, q _ _ (.val (.str _))⟩
      · cases hz
    · split at hz
      · rename_i hl
        cases hz
        obtain ⟨v, rfl, h⟩ := ht.one
        exact strL_ok (hg (.inr rfl)) hu pins s σ H _ us Q I r ⟨A, _, v, rfl, h, hl, q _ _ (.val (.str _))⟩
      · cases hz
    · cases hz
      obtain ⟨v, rfl, h⟩ := ht.one
      cases h.non
      exact strN_ok pins s σ H _ us Q I r ⟨rfl, q _ _ (.val (.str _))⟩
    · cases hz
      obtain ⟨v, rfl, h⟩ := ht.one
      cases h.bl
      exact strB_ok pins s σ H _ us Q I r ⟨_, rfl, q _ _ (.val (.str _))⟩
    · cases hz
      obtain ⟨v, rfl, h⟩ := ht.one
      cases h.str
      exact strS_ok pins s σ H _ us Q I r ⟨_, rfl, q _ _ (.val (.str _))⟩
    · cases hz
  | int =>
    simp only [biD] at hz
    split at hz
    · cases hz
      obtain ⟨v, rfl, h⟩ := ht.one
      cases h.int
      exact call_int1 pins s σ H _ us Q I r (.inl ⟨_, rfl, q _ _ (.val (.int _))⟩)
    · cases hz
      obtain ⟨v, rfl, h⟩ := ht.one
      cases h.bl
      exact call_int1 pins s σ H _ us Q I r (.inr ⟨_, rfl, q _ _ (.val (.int _))⟩)
    · split at hz
      · rename_i hl
        simp only [Option.map_eq_some_iff] at hz
        obtain ⟨i, h1, h2⟩ := hz
        cases h2
        obtain ⟨v, rfl, h⟩ := ht.one
        cases h.str
        exact call_int_str pins s σ H _ us Q I r ⟨_, _, rfl, h1, hl, q _ _ (.val (.int _))⟩
      · cases hz
    · cases hz
  | isInt =>
    simp only [biD] at hz
    split at hz
    · cases hb
    · cases hz
  | isBool =>
    simp only [biD] at hz
    split at hz
    · cases hb
    · cases hz
  | isTuple =>
    simp only [biD] at hz
    split at hz
    · cases hb
    · cases hz
  | isStr =>
    simp only [biD] at hz
    split at hz
    · cases hb
    · cases hz
  | isList =>
    simp only [biD] at hz
    split at hz
    · cases hb
    · cases hz
/-- isinstance(x, T) -/
noncomputable def rIs (b : Bi) : List V → Hp → VK → Prop := fun xs H Q => ∃ A d v n z, xs = [v, .ty n] ∧ tyOf b = some n ∧ Top A H v d ∧ isaD b d = some z ∧ Q (.bl z) H
theorem ty_five {b : Bi} {n : String} (h : tyOf b = some n) : (b = .isInt ∧ n = "int") ∨ (b = .isBool ∧ n = "bool") ∨ (b = .isTuple ∧ n = "tuple") ∨ (b = .isStr ∧ n = "str") ∨ (b = .isList ∧ n = "list") := by
  cases b <;> simp only [tyOf, Option.some.injEq, reduceCtorEq] at h <;> subst h <;> simp
noncomputable def fiveB (T : String) (f : Bi → Option Bool) : Bool := [Bi.isInt, .isBool, .isTuple, .isStr, .isList].all fun b => (tyOf b).all fun n => kitB T n == f b
theorem five_of {T : String} {f : Bi → Option Bool} {b : Bi} {n : String} {z : Bool} (h : fiveB T f = true) (hn : tyOf b = some n) (hz : f b = some z) : kitB T n = some z := by
  have hb : b ∈ [Bi.isInt, .isBool, .isTuple, .isStr, .isList] := by rcases ty_five hn with q | q | q | q | q <;> simp [q.1]
  have := List.all_eq_true.1 h b hb
  rw [hn] at this
  exact (beq_iff_eq.mp this).trans hz
theorem is_ok {X : Cx} (hK : X.K = EK.k) (b : Bi) : CallR X (.builtin "isinstance") (rIs b) := by
  intro pins s σ H xs us Q I r ⟨A, d, v, n, z, e, hn, ht, hz, q⟩
  have fin : ∀ t : String, TyX X.K H v (.type t) → kitB t n = some z → wpAny (model X.prog X.w) X.A (call (.builtin "isinstance") us) (EP X pins σ Q) X.xe s := fun t ty k =>
    call_isi pins s σ H xs us Q I r ⟨v, .ty n, .type t, .type n, z, e, .ty n, ty, kit_ty k, q⟩
  cases d with
  | none =>
    cases ht.non
    exact fin _ (.base .non) (five_of (f := fun b => isaD b .none) (by kernel_rfl) hn hz)
  | bool i =>
    cases ht.bl
    exact fin _ (.base (.bl i)) (five_of (f := fun b => isaD b (.bool i)) (by kernel_rfl) hn hz)
  | int i =>
    cases ht.int
    exact fin _ (.base (.int i)) (five_of (f := fun b => isaD b (.int i)) (by kernel_rfl) hn hz)
  | str i =>
    cases ht.str
    exact fin _ (.base (.str i)) (five_of (f := fun b => isaD b (.str i)) (by kernel_rfl) hn hz)
  | list ds =>
    obtain ⟨a, xs, rfl, h, _⟩ := ht.lst
    exact fin _ (.base (.lst h)) (five_of (f := fun b => isaD b (.list ds)) (by kernel_rfl) hn hz)
  | tuple ds =>
    obtain ⟨a, xs, rfl, h, _⟩ := ht.tup
    rcases h with h | ⟨ob, _, h⟩
    · exact fin _ (.base (.tup h)) (five_of (f := fun b => isaD b (.tuple ds)) (by kernel_rfl) hn hz)
    · exact fin _ (.fTuple h) (five_of (f := fun b => isaD b (.tuple ds)) (by kernel_rfl) hn hz)
  | dict es =>
    have hd : (∃ a kvs, v = .ref a ∧ H a = some (.dK kvs)) ∨ ∃ a C dx fs, v = .ref a ∧ H a = some (.ins C dx fs) ∧ C ∈ EK.c := by
      rcases ht with ht | ⟨a, rfl, ⟨_, _, e, _⟩ | ⟨kvs, _, _, h, _⟩ | ⟨_, _, _, e, _⟩ | ⟨_, _, e, _⟩ | ⟨_, _, _, _, _, _, h, hc, _⟩, _⟩
      · cases ht with
        | dic h _ _ => exact .inl ⟨_, _, rfl, h⟩
        | dit h _ _ => cases b <;> cases hz
        | scr h _ => cases b <;> cases hz
        | obj h _ hc _ _ => exact .inr ⟨_, _, _, _, rfl, h, List.mem_of_getElem? hc⟩
      · cases e
      · exact .inl ⟨a, kvs, rfl, h⟩
      · cases e
      · cases e; cases b <;> cases hz
      · exact .inr ⟨a, _, _, _, rfl, h, List.mem_of_getElem? hc⟩
    have hz' : z = false := by
      unfold isaD at hz
      split at hz <;> cases hz <;> first | rfl | (rename_i hq; cases hq)
    subst hz'
    rcases hd with ⟨a, kvs, rfl, h⟩ | ⟨a, C, dx, fs, rfl, h, hc⟩
    · refine fin _ (.base (.dK h)) ?_
      rcases ty_five hn with q | q | q | q | q <;> (rw [q.2]; decide +kernel)
    · have o := EK.ok C hc
      rw [← hK] at o
      refine call_isi pins s σ H xs us Q I r ⟨.ref a, .ty n, .ref C, .type n, false, e, .ty n, .base (o.ty h), o.is n ?_, q⟩
      rcases ty_five hn with q | q | q | q | q <;> (rw [q.2]; simp)
end MI
/-! MI3: expressions: the interpreter's step is a reading. -/
namespace MI
open PySem PySem.Spec PyProof.Rows L2
variable [EK]
noncomputable def tE (F : Fns) (m : ME) : TE := fun σ H Q => ∃ A M ρ d fr ρ', RE A M H ρ σ ∧ evE F m ρ = some (d, fr, ρ') ∧ ∀ v H', Pst A M H ρ' σ d fr v H' → Q v H'
noncomputable def tB (F : Fns) (m : ME) : TE := fun σ H Q => ∃ A M ρ b ρ', RE A M H ρ σ ∧ bor (evE F m) m ρ = some (b, ρ') ∧ ∀ v H' A' M', Shr A M A' M' → Kp M H H' → RE A' M' H' ρ' σ → BR A' H' σ v b → Q v H'
noncomputable def tT (F : Fns) (m : ME) : TT := fun σ H Q => ∃ A M ρ b ρ', RE A M H ρ σ ∧ evT F m ρ = some (b, ρ') ∧ ∀ H' A' M', Shr A M A' M' → Kp M H H' → RE A' M' H' ρ' σ → Q b H'
theorem _root_.L2.PE.imp {X : Cx} {e : Expr} {t t' : TE} (h : PE X e t) (f : ∀ σ H Q, t' σ H Q → t σ H Q) : PE X e t' := ⟨fun pins s σ H Q I q => h.run pins s σ H Q I (f σ H Q q)⟩
theorem _root_.L2.PT.imp {X : Cx} {e : Expr} {t t' : TT} (h : PT X e t) (f : ∀ σ H Q, t' σ H Q → t σ H Q) : PT X e t' := ⟨fun pins s σ H Q I q => h.run pins s σ H Q I (f σ H Q q)⟩
theorem _root_.L2.PW.imp {X : Cx} {e : Expr} {t t' : TT} (h : PW X e t) (f : ∀ σ H Q, t' σ H Q → t σ H Q) : PW X e t' := ⟨fun wh pins s σ H Q I q => h.run wh pins s σ H Q I (f σ H Q q)⟩
/-- an expression and its step: as a value, as something looked at -/
structure Eb (X : Cx) (F : Fns) (e : Expr) (m : ME) : Prop where
  ev : PE X e (tE F m)
  bo : PE X e (tB F m)
section
variable {A A' M M' : AS} {H H' H1 H2 : Hp} {v : V} {d z : PyData} {fr : Bool} {ρ ρ' : Rho} {σ : L2.St} {p a : Addr} {i : Nat}
theorem Kp.comp {M1 : AS} (k : Kp M H H1) (s : Shr A M A' M1) (k1 : Kp M1 H1 H2) : Kp M H H2 := k.trans (k1.mono s.m)
/-- a variable's own list stands still from here on -/
theorem RE.freeze (nt : NT d) (r : RE A M H ρ σ) (e : ρ[i]? = some (Slot.own d)) : ∃ A' M' a, Shr A M A' M' ∧ σ[i]? = some (some (.ref a)) ∧ RE A' M' H (ρ.set i (.dat d)) σ ∧ Rel A' H (.ref a) d := by
  obtain ⟨a, e1, hm, ho⟩ := r.own i d e
  have hi : i < ρ.length := (List.getElem?_eq_some_iff.mp e).1
  have aa : ∀ x, butA A a x → A x := fun x h => h.1
  have rel : Rel (butA A a) H (.ref a) d := (ho.anti aa).rel nt fun z => z.2 rfl
  refine ⟨butA A a, butA M a, a, ⟨aa, fun x h => h.1, fun x h n => ?_⟩, e1, ⟨by rw [List.length_set]; exact r.len, fun x h => ⟨r.sub x h.1, h.2⟩, fun x h => r.live x h.1, fun j x h => ?_, fun j x h => ?_, fun j k x y b h1 h2 h3 h4 => ?_, r.tab, r.excS fun _ => nofun⟩, rel⟩
  · by_cases hx : x = a
    · rw [hx]; exact hm
    · exact absurd ⟨h, hx⟩ n
  · by_cases hj : j = i
    · subst hj
      rw [List.getElem?_set_self hi] at h
      cases h
      exact ⟨_, e1, rel⟩
    · rw [List.getElem?_set_ne (Ne.symm hj)] at h
      obtain ⟨v, q1, q2⟩ := r.dat j x h
      exact ⟨v, q1, q2.anti aa⟩
  · by_cases hj : j = i
    · subst hj
      rw [List.getElem?_set_self hi] at h
      cases h
    · rw [List.getElem?_set_ne (Ne.symm hj)] at h
      obtain ⟨b, q1, q2, q3⟩ := r.own j x h
      refine ⟨b, q1, ⟨q2, fun z => ?_⟩, q3.anti aa⟩
      subst z
      exact hj (r.inj j i x d _ h e q1 e1)
  · have hj : j ≠ i := fun z => by subst z; rw [List.getElem?_set_self hi] at h1; cases h1
    have hk : k ≠ i := fun z => by subst z; rw [List.getElem?_set_self hi] at h2; cases h2
    rw [List.getElem?_set_ne (Ne.symm hj)] at h1
    rw [List.getElem?_set_ne (Ne.symm hk)] at h2
    exact r.inj j k x y b h1 h2 h3 h4
end
section
variable {X : Cx} {F : Fns} {e a b c : Expr} {m ma mb mc : ME} {pos : Pos}
/-- what is reckoned may be looked at -/
theorem Eb.of (h : PE X e (tE F m)) (hm : ∀ i, m ≠ .var i) : Eb X F e m := by
  refine ⟨h, h.imp fun σ H Q ⟨A, M, ρ, b, ρ', r, ev, q⟩ => ?_⟩
  have ev' : (evE F m ρ).map (fun (d, _, ρ') => (Bor.v d, ρ')) = some (b, ρ') := by
    cases m with
    | var i => exact absurd rfl (hm i)
    | _ => exact ev
  cases hz : evE F m ρ with
  | none => rw [hz] at ev'; cases ev'
  | some z =>
    obtain ⟨d, fr, ρ2⟩ := z
    rw [hz] at ev'
    cases ev'
    refine ⟨A, M, ρ, d, fr, _, r, hz, fun v H' p => ?_⟩
    obtain ⟨A', M', s, k, r', rel⟩ := p.std r.live
    exact q v H' A' M' s k r' rel
theorem e_const {t : V} {d : PyData} (h : PE X e (tC t)) (hr : ∀ A H, Rel A H t d) : Eb X F e (.lit d) :=
  Eb.of (h.imp fun σ H Q ⟨A, M, ρ, d', fr, ρ', r, ev, q⟩ => by
    cases ev
    exact q _ _ ((NewV.val (hr A H)).pst r)) (fun _ => nofun)
theorem e_var {i : Nat} (h : PE X e (tVar i)) : Eb X F e (.var i) := by
  refine ⟨h.imp fun σ H Q ⟨A, M, ρ, d, fr, ρ', r, ev, q⟩ => ?_, h.imp fun σ H Q ⟨A, M, ρ, b, ρ', r, ev, q⟩ => ?_⟩
  · have ev' : rdVar ρ i = some (d, fr, ρ') := ev
    unfold rdVar at ev'
    split at ev'
    · rename_i x hx
      cases ev'
      obtain ⟨v, e1, rel⟩ := r.dat i _ hx
      exact ⟨v, e1, q v H ((NewV.val rel).pst r)⟩
    · rename_i x hx
      cases ev'
      obtain ⟨a, e1, _, ho⟩ := r.own i _ hx
      exact ⟨_, e1, q _ H ((NewV.val ho.relT).pst r)⟩
    · rename_i x hnt hx
      cases ev'
      obtain ⟨A', M', a, s, e1, r', rel⟩ := r.freeze (fun _ _ => trivial) hx
      exact ⟨_, e1, q _ H (Pst0.val ⟨A', M', s, Kp.refl _ _, r', fun _ => rel, fun z => nomatch z⟩)⟩
    · cases ev'
  · have ev' : (match ρ[i]? with | some (.own (.tuple xs)) => some (Bor.v (.tuple xs), ρ) | some (.own _) => some (Bor.r i, ρ) | some (.dat d) => some (.v d, ρ) | _ => none) = some (b, ρ') := ev
    split at ev'
    · rename_i x hx
      cases ev'
      obtain ⟨a, e1, _, ho⟩ := r.own i _ hx
      exact ⟨_, e1, q _ H A M (Shr.refl _ _) (Kp.refl _ _) r ho.relT⟩
    · rename_i x hnt hx
      cases ev'
      obtain ⟨a, e1, _, _⟩ := r.own i _ hx
      exact ⟨_, e1, q _ H A M (Shr.refl _ _) (Kp.refl _ _) r e1⟩
    · rename_i x hx
      cases ev'
      obtain ⟨v, e1, rel⟩ := r.dat i _ hx
      exact ⟨v, e1, q v H A M (Shr.refl _ _) (Kp.refl _ _) r rel⟩
    · cases ev'
theorem e_bin {op : Bop} (ha : Eb X F a ma) (hb : Eb X F b mb) : Eb X F (.BinOp a (opOf op) b pos) (.bin op ma mb) := by
  refine Eb.of ((pe_op (bin_ok op) ha.bo hb.bo).imp fun σ H Q ⟨A, M, ρ, d, fr, ρ', r, ev, q⟩ => ?_) fun _ => nofun
  simp only [evE, Option.bind_eq_some_iff, Option.map_eq_some_iff] at ev
  obtain ⟨⟨x, ρ1⟩, h1, ⟨y, ρ2⟩, h2, dx, h3, dy, h4, ⟨z, fr'⟩, h5, h6⟩ := ev
  cases h6
  exact ⟨A, M, ρ, x, ρ1, r, h1, fun v H1 A1 M1 s1 k1 r1 b1 => ⟨A1, M1, ρ1, y, ρ2, r1, h2, fun w H2 A2 M2 s2 k2 r2 b2 =>
    ⟨A2, dx, dy, z, fr', r2.live, (b1.keep r1.sub s2 k2).top r2 h3, b2.top r2 h4, h5, fun v H' nv => q v H' (((nv.pst r2).after s2 k2).after s1 k1)⟩⟩⟩
theorem Pst.bool {A M : AS} {H : Hp} {ρ : Rho} {σ : L2.St} {k : Bool} (r : RE A M H ρ σ) : Pst A M H ρ σ (.bool k) false (.bl k) H := (NewV.val (.bl k)).pst r
theorem e_cmp {op : Cop} (hu : X.A.units + 64 < cLine) (ha : Eb X F a ma) (hb : Eb X F b mb) (hm : behindInMarks (copOf op) b = false) : Eb X F (.Compare a [copOf op] [b] pos) (.cmp op ma mb) := by
  refine Eb.of ((pe_cmpR (cmp_ok hu op) ha.bo hb.bo hm).imp fun σ H Q ⟨A, M, ρ, d, fr, ρ', r, ev, q⟩ => ?_) fun _ => nofun
  simp only [evE, Option.bind_eq_some_iff, Option.map_eq_some_iff] at ev
  obtain ⟨⟨x, ρ1⟩, h1, ⟨y, ρ2⟩, h2, dx, h3, dy, h4, z, h5, h6⟩ := ev
  cases h6
  exact ⟨A, M, ρ, x, ρ1, r, h1, fun v H1 A1 M1 s1 k1 r1 b1 => ⟨A1, M1, ρ1, y, ρ2, r1, h2, fun w H2 A2 M2 s2 k2 r2 b2 =>
    ⟨A2, dx, dy, z, (b1.keep r1.sub s2 k2).top r2 h3, b2.top r2 h4, h5, q _ _ (((Pst.bool r2).after s2 k2).after s1 k1)⟩⟩⟩
theorem t_cmp {op : Cop} (hu : X.A.units + 64 < cLine) (ha : Eb X F a ma) (hb : Eb X F b mb) (hm : behindInMarks (copOf op) b = false) : PT X (.Compare a [copOf op] [b] pos) (tT F (.tst (.cmp op ma mb))) := by
  refine (pt_cmpR (cmp_ok hu op) ha.bo hb.bo hm).imp fun σ H Q ⟨A, M, ρ, d, ρ', r, ev, q⟩ => ?_
  simp only [evT, bor, evE, Option.bind_eq_some_iff, Option.map_eq_some_iff] at ev
  obtain ⟨⟨xx, ρ0⟩, ⟨⟨z0, f0, ρ00⟩, ⟨⟨x, ρ1⟩, h1, ⟨y, ρ2⟩, h2, dx, h3, dy, h4, z, h5, h6⟩, h7⟩, dd, h8, tt, h9, h10⟩ := ev
  cases h6
  cases h7
  cases h8
  cases h9
  cases h10
  exact ⟨A, M, ρ, x, ρ1, r, h1, fun v H1 A1 M1 s1 k1 r1 b1 => ⟨A1, M1, ρ1, y, ρ2, r1, h2, fun w H2 A2 M2 s2 k2 r2 b2 =>
    ⟨A2, dx, dy, _, (b1.keep r1.sub s2 k2).top r2 h3, b2.top r2 h4, h5, _, rfl, q _ _ _ (s1.trans s2) (k1.comp s1 k2) r2⟩⟩⟩
end
section
variable {A A2 M M' N : AS} {H H' : Hp} {ρ : Rho} {σ : L2.St}
theorem RE.gen (r : RE A M H ρ σ) (k : Kp N H H') (hN : ∀ a, N a → A a) (dis : ∀ a, M a → ¬ N a) (h2 : ∀ a, A2 a → A a ∨ H a = none) (hs : ∀ a, M a → A2 a) (l : ∀ a, A2 a → ∃ o, H' a = some o) : RE A2 M H' ρ σ := by
  have f : ∀ a o, Nb o → H a = some o → (A a → ¬ Mu o) → H' a = some o := kp_f hN k
  have g : ∀ a o, H a = some o → A2 a → ¬ A a → Mu o → False := fun a o h z n _ => by
    rcases h2 a z with q | q
    · exact n q
    · rw [q] at h; cases h
  refine ⟨r.len, hs, l, fun j x e => ?_, fun j x e => ?_, r.inj, k.tabX r.tab, r.exc⟩
  · obtain ⟨w, e1, e2⟩ := r.dat j x e
    exact ⟨w, e1, e2.map f g⟩
  · obtain ⟨b, e1, e2, e3⟩ := r.own j x e
    have eb : H' b = H b := by
      obtain ⟨o, ho, mu⟩ := e3.live
      rw [ho]
      exact k.same b o ho (fun z => absurd z (dis b e2)) (e3.nb ho)
    exact ⟨b, e1, e2, e3.map f g eb⟩
end
end MI
/-! MIT: iterators: enumerate of a tuple, zip of three tuples. -/
namespace MI
open PySem PySem.Spec PyProof.Rows L2
/-- enumerate(v) is made -/
theorem enum1_meets {v : Value} {o : Obj} {G : Heap → Prop} (B : Begins v o G) :
    Meets (Builtin.«enumerate.__new__» ⟨[.type "enumerate", v], []⟩) (fun _ R z => G z.heap ∧
      R (.ok (.ret (.ref (z.heap.push o).objs.size))) { z with heap := (z.heap.push o).push { cls := .type "enumerate", data := .fields #[.none, .bool false, .ref z.heap.objs.size, rawInt 0, .none, .none] } }) :=
  .of_wp fun P w A R z hz => by
    obtain ⟨hp, g, d, tk, os⟩ := z; obtain ⟨h1, h⟩ := hz
    have hsub := sub_enumerate
    have it : ∀ {A' : Around} {E : Value → Shared → Prop} {Q : Value → Shared → Prop}, Q (.ref hp.objs.size) ⟨hp.push o, g, d, tk, os⟩ → wpAny (model P w) A' (pyIter v) Q E ⟨hp, g, d, tk, os⟩ := fun q => B.iter P w _ _ ⟨hp, g, d, tk, os⟩ _ h1 q
    wp_walk using it
    refine wpAny_stack_any fun st => wpAny_pure ?_
    split
    · rename_i c _ _ _ _ _
      cases (c == Value.type "enumerate")
      · wp_walk using it
        exact ⟨_, rfl, h⟩
      · wp_walk using it
        exact ⟨_, rfl, h⟩
    · wp_walk using it
      exact ⟨_, rfl, h⟩
theorem enum1 {P : Program} {w : World} {A : Around} {E : Value → Shared → Prop} {s : Shared} {v : Value} {o : Obj} {G : Heap → Prop} {Q : Value → Shared → Prop} (B : Begins v o G) (h1 : G s.heap)
    (q : ∀ h', IsEnum h' (s.heap.objs.size + 1) s.heap.objs.size 0 .none → h'.get? s.heap.objs.size = some o → h'.objs.size = s.heap.objs.size + 2 → (∀ b u, s.heap.get? b = some u → h'.get? b = some u) → Q (.ref (s.heap.objs.size + 1)) { s with heap := h' }) :
    wpAny (model P w) A (call (.type "enumerate") [v]) Q E s := by
  refine callType_new F.called_enumerate (by decide) (F.typeCall_enumerate_1 _) (F.newCall_enumerate_1 _) (fun obj => F.args_object_init_2 obj _) F.entry_enumerate_new (enum1_meets B) ⟨h1, ?_⟩
  have hz : (s.heap.push o).objs.size = s.heap.objs.size + 1 := Heap.size_push ..
  show _ ∧ _
  rw [hz]
  have e := Heap.get?_push_size (s.heap.push o) (o := { cls := .type "enumerate", data := .fields #[.none, .bool false, .ref s.heap.objs.size, rawInt 0, .none, .none] }) rfl
  rw [hz] at e
  exact ⟨⟨_, e, rfl⟩, q _ e (Heap.get?_push_of_some _ (Heap.get?_push_size _ B.free)) (by rw [Heap.size_push, hz]) fun b u z => Heap.get?_push_of_some _ (Heap.get?_push_of_some _ z)⟩
/-- a walk over tuples, one turn: a new tuple of these values -/
theorem turn_item {X : Cx} {it : Addr} {fpW wr fp : List Addr} {n : Nat} {Pt : Nat → Array Value → Prop} {St : Nat → Heap → Prop} {Mid : Nat → Addr → Heap → Prop} (W : WalksT X.prog X.w X.A it fpW wr n Pt St Mid) {elts : List Expr} {kk : Nat} {tpos : Pos} {i : Nat} {pins : List (Addr × Obj)} {s : Shared} {σ : L2.St} {H : Hp} {E : Value → Shared → Prop}
    {ys : List V} (hw : ∀ b ∈ wr, b ∈ fp) (hl : ∀ b ∈ fp, b < s.heap.objs.size) (I : Inv X pins σ H s) (hf : ∀ b ∈ fp, FpOk X pins H b) (hi : i < n) (st : St i s.heap) (hy : ∀ vals, Pt i vals → Vals ys vals.toList) (hys : ys.length ≤ sizeLine) :
    wpAny (model X.prog X.w) X.A (pyNext (.ref it)) (fun r s1 => ∃ u, r = some u ∧ wpAny (model X.prog X.w) X.A (letOwnedTupleGo (.Tuple elts kk tpos) (.ref it) u)
      (fun _ s2 => ∃ x H', Inv X pins σ H' s2 ∧ RelV x u ∧ (∃ T, x = .ref T ∧ H T = none ∧ H' = upd H T (.tup ys)) ∧ St (i + 1) s2.heap ∧ ∀ b ∈ fp, H' b = none) E s1) E s := by
  refine W.item i s _ E hi st fun T vals h1 tk pt hT isT mid k1 => ⟨.ref T, rfl, ?_⟩
  refine W.go elts kk tpos i T _ _ E mid fun h2 st2 k2 => ?_
  have ap := W.apart i T _ mid
  have hn : H T = none := I.hok.fresh hT
  obtain ⟨o, ho, hc, m, hd⟩ := isT
  have new : ObjOk X.prog X.w (upd H T (.tup ys)) h2 T (.tup ys) := ⟨hys, vals.toList, hy vals pt, ⟨o, k2 T o ap ho, hc, m, by simpa using hd⟩⟩
  refine ⟨.ref T, upd H T (.tup ys), I.turnedNew (ch := fp) (t' := tk) (fun b u hb z => k2 b u (fun q => hb (hw b q)) (k1 b u (fun q => hb (hw b q)) z)) hf hT new, rfl, ⟨T, rfl, hn, rfl⟩, st2, fun b hb => ?_⟩
  have : b ≠ T := fun z => absurd (hl b hb) (by rw [z]; exact Nat.not_lt_of_le hT)
  rw [upd_ne this]
  exact (hf b hb).1
theorem turn_done {X : Cx} {it : Addr} {fpW wr fp : List Addr} {n : Nat} {Pt : Nat → Array Value → Prop} {St : Nat → Heap → Prop} {Mid : Nat → Addr → Heap → Prop} (W : WalksT X.prog X.w X.A it fpW wr n Pt St Mid) {pins : List (Addr × Obj)} {s : Shared} {σ : L2.St} {H : Hp} {E : Value → Shared → Prop}
    (hw : ∀ b ∈ wr, b ∈ fp) (I : Inv X pins σ H s) (hf : ∀ b ∈ fp, FpOk X pins H b) (st : St n s.heap) : wpAny (model X.prog X.w) X.A (pyNext (.ref it)) (fun r s1 => r = none ∧ Inv X pins σ H s1) E s :=
  W.done s _ E st fun h1 tk k1 => ⟨rfl, I.turnedL (ch := fp) (t' := tk) (fun b u hb z => k1 b u (fun q => hb (hw b q)) z) hf⟩
/-- the tuple at a, each item in a new pair with its place -/
noncomputable def IteT (K : PySem.W.Frag) (a : Addr) : It :=
  ⟨fun i H => ∃ (xs : List V) (x : V), SqT K H a xs ∧ xs[i]? = some x, fun i H v H' => ∃ x : V, (∀ xs, SqT K H a xs → xs[i]? = some x) ∧ ∃ T, v = .ref T ∧ H T = none ∧ H' = upd H T (.tup [.int (i : Nat), x]), fun i H => ∃ xs : List V, SqT K H a xs ∧ xs.length = i⟩
theorem vals2 {x y : V} {u v : Value} (h : RelV x u) (h' : RelV y v) : Vals [x, y] [u, v] := .cons h (.cons h' .nil)
theorem turn_enumT {P : Program} {w : World} {K : PySem.W.Frag} {elts : List Expr} {kk : Nat} {tpos : Pos} (a e it : Addr) :
    Turn P w K (.Tuple elts kk tpos) (IteT K a) [e, it] e (fun i h => (∃ old, IsEnum h e it ((i : Nat) : Int) old) ∧ h.IsTupleIter it a i ∧ e ≠ it ∧ a ≠ it ∧ e ≠ a) where
  mem := List.mem_cons_self
  obj := fun i h st b hb => by
    obtain ⟨⟨old, he⟩, ⟨o, ho, hc, hd⟩, _⟩ := st
    rcases List.mem_cons.mp hb with rfl | hb
    · exact ⟨_, he, fun v q => nomatch q⟩
    · cases List.mem_singleton.mp hb
      exact ⟨o, ho, fun v q => by rw [hd] at q; cases q⟩
  keep := fun i h h' st k => let ⟨⟨old, he⟩, hi, hne⟩ := st; ⟨⟨old, k e List.mem_cons_self _ he⟩, hi.at fun o q => k it (List.mem_cons_of_mem _ List.mem_cons_self) o q, hne⟩
  item := by
    intro X hP hw hK hc i pins s σ H E I hf st hg
    subst hP hw hK
    obtain ⟨⟨old, he⟩, hit, hne, hai, hea⟩ := st
    obtain ⟨xs, x, hq, hx⟩ := hg
    obtain ⟨its, rv, p, hz⟩ := I.tuple hq
    obtain ⟨u, hu, ru⟩ := rv.get hx
    have hii : i < its.toArray.size := by rw [List.size_toArray]; exact (List.getElem?_eq_some_iff.mp hu).1
    have D := Draws.tuple (prog := X.prog) (w := X.w) (A := X.A.in1) (I.ok.hd hc) it a hai its.toArray
    have W := WalksT.enumFrom 0 D e hne (by simp [hne, hea]) List.mem_cons_self
    refine wpAny_mono (turn_item W (fp := [e, it]) (elts := elts) (kk := kk) (tpos := tpos) (i := i) (ys := [.int (i : Nat), x]) (fun b hb => hb) (fun b hb => ?_) I hf hii ⟨⟨old, by rw [Int.zero_add]; exact he⟩, hit, p⟩ (fun vals hv => ?_) (show 2 ≤ sizeLine by decide)) (fun r s1 hr => ?_) fun _ _ z => z
    · rcases List.mem_cons.mp hb with rfl | hb
      · exact Heap.lt_size he
      · cases List.mem_singleton.mp hb
        obtain ⟨o, ho, _⟩ := hit
        exact Heap.lt_size ho
    · obtain ⟨t, y, hy, rfl⟩ := hv
      have e1 : y = u := by
        have : its[i]? = some y := by simpa using hy
        rw [hu] at this; cases this; rfl
      subst e1
      exact vals2 ⟨t, by rw [Int.zero_add]⟩ ru
    · obtain ⟨u', rfl, hr⟩ := hr
      refine ⟨u', rfl, wpAny_mono hr (fun _ s2 h2 => ?_) fun _ _ z => z⟩
      obtain ⟨v, H', I', rr, ht, ⟨⟨old', he'⟩, hit', _⟩, hn⟩ := h2
      refine ⟨v, H', I', rr, ⟨x, fun ys hy => by rw [I.tuple_inj hy hq]; exact hx, ht⟩, ⟨⟨old', ?_⟩, hit', hne, hai, hea⟩, hn⟩
      rw [Int.zero_add] at he'; exact he'
  done := by
    intro X hP hw hK hc i pins s σ H E I hf st hg
    subst hP hw hK
    obtain ⟨⟨old, he⟩, hit, hne, hai, hea⟩ := st
    obtain ⟨xs, hq, hx⟩ := hg
    obtain ⟨its, rv, p, hz⟩ := I.tuple hq
    have D := Draws.tuple (prog := X.prog) (w := X.w) (A := X.A.in1) (I.ok.hd hc) it a hai its.toArray
    have W := WalksT.enumFrom 0 D e hne (by simp [hne, hea]) List.mem_cons_self
    have hn : its.toArray.size = i := by rw [List.size_toArray, ← rv.length, hx]
    exact turn_done W (fp := [e, it]) (fun b hb => hb) I hf ⟨⟨old, by rw [hn, Int.zero_add]; exact he⟩, by rw [hn]; exact hit, p⟩
  self := fun A i s Q E st h => let ⟨⟨_, he⟩, _⟩ := st; wpAny_pyIter_enum he h
noncomputable def iEnumT (K : PySem.W.Frag) (ta : TA) : TI := fun σ H R => ta σ H fun vs H1 => ∃ a xs, vs = [.ref a] ∧ SqT K H1 a xs ∧ R (IteT K a) H1
theorem pi_enumT {X : Cx} {e : Expr} {ta : TA} {p pos tpos : Pos} {elts : List Expr} {kk : Nat} (hg : Gl X "enumerate") (hm : X.mg "enumerate" = none) (ha : PA X [e] ta) (hs : starEach [e] X.env = [(false, eval e X.env)]) :
    PI X (.Tuple elts kk tpos) (.Call (.Name "enumerate" p) [e] [] pos) (iEnumT X.K ta) := by
  refine ⟨fun pins s σ H R I h => Call_ (ld_blt I hg hm boot_enumerate (PyProof.Rows.callWith_type1 (thn (ha.run pos pins s σ H _ I h) fun us s1 ⟨vs, H1, I1, r1, q1⟩ => ?_) hs rfl))⟩
  obtain ⟨a, xs, ex, hq, q⟩ := q1
  subst ex
  rw [Vals.ref1 r1]
  obtain ⟨its, rv, pt, hz⟩ := I1.tuple hq
  have la : a < s1.heap.objs.size := by obtain ⟨o, ho, _⟩ := pt; exact Heap.lt_size ho
  refine enum1 (begins_tuple a its.toArray) pt fun h' he hit hsz hk => wpAny_pyIter_enum he ?_
  have I2 : Inv X pins σ H1 { s1 with heap := h' } := I1.kept (t' := s1.toks) hk
  refine ⟨s1.heap.objs.size + 1, [s1.heap.objs.size + 1, s1.heap.objs.size], _, _, H1, rfl, I2, turn_enumT a (s1.heap.objs.size + 1) s1.heap.objs.size, ⟨⟨.none, he⟩, ⟨_, hit, rfl, rfl⟩, Nat.succ_ne_self _, Nat.ne_of_lt la, Nat.ne_of_gt (Nat.lt_succ_of_lt la)⟩, fun b hb => ?_, q⟩
  have hle : s1.heap.objs.size ≤ b := by
    rcases List.mem_cons.mp hb with rfl | hb
    · omega
    · cases List.mem_singleton.mp hb; exact Nat.le_refl _
  exact I1.fpOk hle (I1.hok.fresh hle)
theorem walk_enumT {K : PySem.W.Frag} {a : Addr} {xs : List V} : Walk (IteT K a) xs.length (fun H => SqT K H a xs) (YPair (fun i => some (.int (i : Nat))) (fun i => xs[i]?)) := by
  refine ⟨fun i H hi h => ⟨xs, xs[i], h, List.getElem?_eq_getElem hi⟩, fun H h => ⟨xs, h, rfl⟩, fun i H v H' hi h ⟨x, hx, T, e1, e2, e3⟩ => ⟨T, _, x, e1, e2, e3, rfl, hx xs h⟩⟩
/-- a tuple and a list side by side, the items in new pairs -/
noncomputable def ItzM (K : PySem.W.Frag) (a b : Addr) : It :=
  ⟨fun i H => ∃ (xs ys : List V) (x y : V), SqT K H a xs ∧ SqL K H b ys ∧ xs[i]? = some x ∧ ys[i]? = some y,
   fun i H v H' => ∃ x y : V, (∀ xs, SqT K H a xs → xs[i]? = some x) ∧ (∀ ys, SqL K H b ys → ys[i]? = some y) ∧ ∃ T, v = .ref T ∧ H T = none ∧ H' = upd H T (.tup [x, y]),
   fun i H => ∃ xs ys : List V, SqT K H a xs ∧ SqL K H b ys ∧ min xs.length ys.length = i⟩
structure Sep2 (a b z ti to i1 i2 : Addr) : Prop where
  s : ZipSep2 z ti to i1 i2 [i1, a] [i2, b]
  a1 : a ≠ i1
  b2 : b ≠ i2
theorem sep2 {n a b : Nat} (ha : a < n) (hb : b < n) : Sep2 a b (n + 4) (n + 2) (n + 3) n (n + 1) := by
  refine ⟨⟨?_, ?_, ?_, ?_, ?_, ?_, ?_, ?_, ?_, ?_, ?_, ?_, ?_⟩, ?_, ?_⟩ <;> simp only [List.mem_cons, List.not_mem_nil, or_false, not_or, ne_eq, true_or] <;> (try (refine ⟨fun h => ?_, fun h => ?_⟩)) <;> (try intro h) <;> (try (exact absurd (show @Eq Nat _ _ from h) (by omega)))
theorem turn_zipM {P : Program} {w : World} {K : PySem.W.Frag} {elts : List Expr} {kk : Nat} {tpos : Pos} {a b z ti to i1 i2 : Addr} (S : Sep2 a b z ti to i1 i2) :
    Turn P w K (.Tuple elts kk tpos) (ItzM K a b) [z, ti, to, i1, i2] z (fun i h => IsZip h z ti to .none ∧ IsTupOf2 h ti (.ref i1) (.ref i2) ∧ (∃ a1 a2, IsTupOf2 h to a1 a2) ∧ h.IsTupleIter i1 a i ∧ h.IsListIter i2 b i) where
  mem := List.mem_cons_self
  obj := fun i h st q hq => by
    obtain ⟨h1, h2, ⟨a1, a2, h3⟩, ⟨o1, e1, _, d1⟩, ⟨o2, e2, _, d2⟩⟩ := st
    simp only [List.mem_cons, List.not_mem_nil, or_false] at hq
    rcases hq with rfl | rfl | rfl | rfl | rfl
    · exact ⟨_, h1, fun v q => nomatch q⟩
    · exact ⟨_, h2, fun v q => nomatch q⟩
    · exact ⟨_, h3, fun v q => nomatch q⟩
    · exact ⟨o1, e1, fun v q => by rw [d1] at q; cases q⟩
    · exact ⟨o2, e2, fun v q => by rw [d2] at q; cases q⟩
  keep := fun i h h' st k => by
    obtain ⟨h1, h2, ⟨a1, a2, h3⟩, h4, h5⟩ := st
    exact ⟨k z (by simp) _ h1, k ti (by simp) _ h2, ⟨a1, a2, k to (by simp) _ h3⟩, h4.at fun o q => k i1 (by simp) o q, h5.at fun o q => k i2 (by simp) o q⟩
  item := by
    intro X hP hw hK hc i pins s σ H E I hf st hg
    subst hP hw hK
    obtain ⟨h1, h2, h3, h4, h5⟩ := st
    obtain ⟨xs, ys, x, y, q1, q2, g1, g2⟩ := hg
    obtain ⟨its1, rv1, p1, _⟩ := I.tuple q1
    obtain ⟨its2, rv2, p2, _⟩ := I.list q2
    obtain ⟨u1, w1, r1⟩ := rv1.get g1
    obtain ⟨u2, w2, r2⟩ := rv2.get g2
    have hii : i < min its1.toArray.size its2.toArray.size := by
      rw [List.size_toArray, List.size_toArray]
      have := (List.getElem?_eq_some_iff.mp w1).1; have := (List.getElem?_eq_some_iff.mp w2).1
      omega
    have W := WalksT.zipD2 S.s (Draws.tuple (prog := X.prog) (w := X.w) (A := X.A.in1) (I.ok.hd hc) i1 a S.a1 its1.toArray) (Draws.list (prog := X.prog) (w := X.w) (A := X.A.in1) (I.ok.hd hc) i2 b S.b2 its2.toArray)
    refine wpAny_mono (turn_item W (fp := [z, ti, to, i1, i2]) (elts := elts) (kk := kk) (tpos := tpos) (i := i) (ys := [x, y]) (fun q hq => ?_) (fun q hq => ?_) I hf hii ⟨h1, h2, h3, ⟨h4, p1⟩, ⟨h5, p2.isList⟩⟩ (fun vals hv => ?_) (show 2 ≤ sizeLine by decide)) (fun r s1 hr => ?_) fun _ _ z => z
    · simp only [List.mem_cons, List.not_mem_nil, or_false] at hq ⊢
      rcases hq with rfl | rfl | rfl | rfl <;> simp
    · obtain ⟨a1, a2, h3⟩ := h3
      obtain ⟨o1, e1, _⟩ := h4
      obtain ⟨o2, e2, _⟩ := h5
      simp only [List.mem_cons, List.not_mem_nil, or_false] at hq
      rcases hq with rfl | rfl | rfl | rfl | rfl
      · exact Heap.lt_size h1
      · exact Heap.lt_size h2
      · exact Heap.lt_size h3
      · exact Heap.lt_size e1
      · exact Heap.lt_size e2
    · obtain ⟨y1, y2, n1, n2, rfl⟩ := hv
      have e1 : its1[i]? = some y1 := by simpa using n1
      have e2 : its2[i]? = some y2 := by simpa using n2
      rw [w1] at e1; rw [w2] at e2
      cases e1; cases e2
      exact .cons r1 (.cons r2 .nil)
    · obtain ⟨u', rfl, hr⟩ := hr
      refine ⟨u', rfl, wpAny_mono hr (fun _ s2 h2 => ?_) fun _ _ z => z⟩
      obtain ⟨v', H', I', rr, ht, ⟨k1, k2, k3, k4, k5⟩, hn⟩ := h2
      exact ⟨v', H', I', rr, ⟨x, y, fun l hl => by rw [I.tuple_inj hl q1]; exact g1, fun l hl => by rw [I.list_inj hl q2]; exact g2, ht⟩, ⟨k1, k2, k3, k4.1, k5.1⟩, hn⟩
  done := by
    intro X hP hw hK hc i pins s σ H E I hf st hg
    subst hP hw hK
    obtain ⟨h1, h2, h3, h4, h5⟩ := st
    obtain ⟨xs, ys, q1, q2, hx⟩ := hg
    obtain ⟨its1, rv1, p1, _⟩ := I.tuple q1
    obtain ⟨its2, rv2, p2, _⟩ := I.list q2
    have W := WalksT.zipD2 S.s (Draws.tuple (prog := X.prog) (w := X.w) (A := X.A.in1) (I.ok.hd hc) i1 a S.a1 its1.toArray) (Draws.list (prog := X.prog) (w := X.w) (A := X.A.in1) (I.ok.hd hc) i2 b S.b2 its2.toArray)
    have hn : min its1.toArray.size its2.toArray.size = i := by
      rw [List.size_toArray, List.size_toArray, ← rv1.length, ← rv2.length]; exact hx
    refine turn_done W (fp := [z, ti, to, i1, i2]) (fun q hq => ?_) I hf (by rw [hn]; exact ⟨h1, h2, h3, ⟨h4, p1⟩, ⟨h5, p2.isList⟩⟩)
    simp only [List.mem_cons, List.not_mem_nil, or_false] at hq ⊢
    rcases hq with rfl | rfl | rfl | rfl <;> simp
  self := fun A i s Q E st h => wpAny_pyIter_zip st.1 h
noncomputable def iZipM (K : PySem.W.Frag) (ta : TA) : TI := fun σ H R => ta σ H fun vs H1 => ∃ a b xs ys, vs = [.ref a, .ref b] ∧ SqT K H1 a xs ∧ SqL K H1 b ys ∧ R (ItzM K a b) H1
theorem pi_zipM {X : Cx} {e e2 : Expr} {ta : TA} {p pos tpos : Pos} {elts : List Expr} {kk : Nat} (hg : Gl X "zip") (hm : X.mg "zip" = none) (ha : PA X [e, e2] ta) (hs : starEach [e, e2] X.env = (false, eval e X.env) :: starEach [e2] X.env) (hp : (backTo pos (starEach [e2] X.env)).any (·.1) = false) :
    PI X (.Tuple elts kk tpos) (.Call (.Name "zip" p) [e, e2] [] pos) (iZipM X.K ta) := by
  refine ⟨fun pins s σ H R I h => Call_ (ld_blt I hg hm boot_zip (PyProof.Rows.callWith_type1 (thn (ha.run pos pins s σ H _ I h) fun us s1 ⟨vs, H1, I1, r1, q1⟩ => ?_) hs hp))⟩
  obtain ⟨a, b, xs, ys, ex, hq1, hq2, q⟩ := q1
  subst ex
  cases r1 with
  | cons r rr =>
    cases r
    cases rr with
    | cons r rr =>
      cases r
      cases rr
      obtain ⟨its1, rv1, p1, _⟩ := I1.tuple hq1
      obtain ⟨its2, rv2, p2, _⟩ := I1.list hq2
      have la : a < s1.heap.objs.size := by obtain ⟨o, ho, _⟩ := p1; exact Heap.lt_size ho
      have lb : b < s1.heap.objs.size := p2.lt
      refine zip_begins2 (begins_tuple a its1.toArray) (begins_list b its2.toArray) p1 p2.isList fun h' hz ht ho k1 k2 hsz hk => wpAny_pyIter_zip hz ?_
      have I2 : Inv X pins σ H1 { s1 with heap := h' } := I1.kept (t' := s1.toks) hk
      refine ⟨_, [s1.heap.objs.size + 4, s1.heap.objs.size + 2, s1.heap.objs.size + 3, s1.heap.objs.size, s1.heap.objs.size + 1], _, _, H1, rfl, I2, turn_zipM (sep2 la lb), ⟨hz, ht, ⟨_, _, ho⟩, ⟨_, k1, rfl, rfl⟩, ⟨_, k2, rfl, rfl⟩⟩, fun q hq' => ?_, q⟩
      have hle : s1.heap.objs.size ≤ q := by
        simp only [List.mem_cons, List.not_mem_nil, or_false] at hq'
        rcases hq' with rfl | rfl | rfl | rfl | rfl <;> first | exact Nat.le_refl _ | exact Nat.le_add_right _ _
      exact I1.fpOk hle (I1.hok.fresh hle)
end MI
/-! MIR: a tuple backwards. -/
namespace MI
open PySem PySem.Spec PyProof.Rows L2 HT
end MI
/-! MIS: the set of a list of ints, sorted. -/
namespace MI
open PySem PySem.Spec PyProof.Rows L2
end MI
/-! MI4: expressions, further: lists of operands, displays, built-ins, calls, tests. -/
namespace MI
open PySem PySem.Spec PyProof.Rows L2
variable [EK]
/-! ### lists of operands -/
noncomputable def BRs (A : AS) (H : Hp) (σ : L2.St) : List V → List Bor → Prop
  | [], [] => True
  | v :: vs, b :: bs => BR A H σ v b ∧ BRs A H σ vs bs
  | _, _ => False
theorem BRs.keep {A M A' M' : AS} {H H' : Hp} {σ : L2.St} (hs : ∀ a, M a → A a) (s : Shr A M A' M') (k : Kp M H H') : ∀ {vs : List V} {bs : List Bor}, BRs A H σ vs bs → BRs A' H' σ vs bs
  | [], [], _ => trivial
  | _ :: _, _ :: _, h => ⟨h.1.keep hs s k, BRs.keep hs s k h.2⟩
  | [], _ :: _, h => h.elim
  | _ :: _, [], h => h.elim
theorem BRs.top {A M : AS} {H : Hp} {ρ : Rho} {σ : L2.St} (r : RE A M H ρ σ) : ∀ {vs : List V} {bs : List Bor} {ds : List PyData}, BRs A H σ vs bs → getAll ρ bs = some ds → TopAll A H vs ds
  | [], [], _, _, g => by cases g; exact .nil
  | v :: vs, b :: bs, ds, h, g => by
    simp only [getAll, Option.bind_eq_some_iff, Option.map_eq_some_iff] at g
    obtain ⟨d, g1, ds', g2, rfl⟩ := g
    exact .cons (h.1.top r g1) (BRs.top r h.2 g2)
  | [], _ :: _, _, h, _ => h.elim
  | _ :: _, [], _, h, _ => h.elim
noncomputable def tL (F : Fns) (m : ME) : TA := fun σ H Q => ∃ A M ρ bs ρ', RE A M H ρ σ ∧ evL F m ρ = some (bs, ρ') ∧ ∀ vs H' A' M', Shr A M A' M' → Kp M H H' → RE A' M' H' ρ' σ → BRs A' H' σ vs bs → Q vs H'
noncomputable def tA (F : Fns) (m : ME) : TA := fun σ H Q => ∃ A M ρ ds ρ', RE A M H ρ σ ∧ evA F m ρ = some (ds, ρ') ∧ ∀ vs H' A' M', Shr A M A' M' → Kp M H H' → RE A' M' H' ρ' σ → RelAll A' H' vs ds → Q vs H'
theorem _root_.L2.PA.imp {X : Cx} {es : List Expr} {t t' : TA} (h : PA X es t) (f : ∀ σ H Q, t' σ H Q → t σ H Q) : PA X es t' := ⟨fun pos pins s σ H Q I q => h.run pos pins s σ H Q I (f σ H Q q)⟩
noncomputable def noStar : Expr → Bool
  | .Starred .. => false
  | _ => true
theorem star_no {e : Expr} {es : List Expr} {env : Env} (h : noStar e = true) : starEach (e :: es) env = (false, eval e env) :: starEach es env := by
  cases e <;> first | rfl | cases h
theorem star_any {env : Env} {pos : Pos} : ∀ {es : List Expr}, es.all noStar = true → (backTo pos (starEach es env)).any (·.1) = false
  | [], _ => rfl
  | e :: es, h => by
    rw [List.all_cons, Bool.and_eq_true] at h
    rw [star_no h.1]
    exact star_any (es := es) h.2
section
variable {X : Cx} {F : Fns} {e a b c : Expr} {es : List Expr} {m ma mb mc r : ME} {pos : Pos}
theorem l_nil : PA X [] (tL F .nil) := pa_nil.imp fun σ H Q ⟨A, M, ρ, bs, ρ', r, ev, q⟩ => by
  cases ev
  exact q [] H A M (Shr.refl _ _) (Kp.refl _ _) r trivial
theorem l_cons (he : Eb X F e m) (hr : PA X es (tL F r)) (ns : noStar e = true) : PA X (e :: es) (tL F (.cons m r)) := by
  refine (pa_cons he.bo hr (star_no ns)).imp fun σ H Q ⟨A, M, ρ, bs, ρ', r, ev, q⟩ => ?_
  simp only [evL, Option.bind_eq_some_iff, Option.map_eq_some_iff] at ev
  obtain ⟨⟨x, ρ1⟩, h1, ⟨xs, ρ2⟩, h2, h3⟩ := ev
  cases h3
  exact ⟨A, M, ρ, x, ρ1, r, h1, fun v H1 A1 M1 s1 k1 r1 b1 => ⟨A1, M1, ρ1, xs, _, r1, h2, fun vs H2 A2 M2 s2 k2 r2 b2 =>
    q (v :: vs) H2 A2 M2 (s1.trans s2) (k1.comp s1 k2) r2 ⟨b1.keep r1.sub s2 k2, b2⟩⟩⟩
theorem a_nil : PA X [] (tA F .nil) := pa_nil.imp fun σ H Q ⟨A, M, ρ, bs, ρ', r, ev, q⟩ => by
  cases ev
  exact q [] H A M (Shr.refl _ _) (Kp.refl _ _) r .nil
theorem a_cons (he : Eb X F e m) (hr : PA X es (tA F r)) (ns : noStar e = true) : PA X (e :: es) (tA F (.cons m r)) := by
  refine (pa_cons he.ev hr (star_no ns)).imp fun σ H Q ⟨A, M, ρ, bs, ρ', r, ev, q⟩ => ?_
  simp only [evA, Option.bind_eq_some_iff, Option.map_eq_some_iff] at ev
  obtain ⟨⟨x, fr, ρ1⟩, h1, ⟨xs, ρ2⟩, h2, h3⟩ := ev
  cases h3
  refine ⟨A, M, ρ, x, fr, ρ1, r, h1, fun v H1 p => ?_⟩
  obtain ⟨A1, M1, s1, k1, r1, b1⟩ := p.std r.live
  exact ⟨A1, M1, ρ1, xs, _, r1, h2, fun vs H2 A2 M2 s2 k2 r2 b2 => q (v :: vs) H2 A2 M2 (s1.trans s2) (k1.comp s1 k2) r2 (.cons ((b1.keep r1.sub k2).anti s2.a) b2)⟩
theorem a_star {p : Pos} (he : Eb X F e m) (hr : PA X es (tA F r)) : PA X (.Starred e p :: es) (tA F (.star m r)) := by
  refine (StX.pa_star he.ev hr).imp fun σ H Q ⟨A, M, ρ, bs, ρ', r, ev, q⟩ => ?_
  simp only [evA, Option.bind_eq_some_iff, Option.map_eq_some_iff] at ev
  obtain ⟨⟨x, fr, ρ1⟩, h1, xs0, h0, ⟨xs, ρ2⟩, h2, h3⟩ := ev
  cases h3
  refine ⟨A, M, ρ, x, fr, ρ1, r, h1, fun v H1 p => ?_⟩
  obtain ⟨A1, M1, s1, k1, r1, b1⟩ := p.std r.live
  have fin : ∀ vs0, RelAll A1 H1 vs0 xs0 → tA F ‹ME› σ H1 fun ys H2 => Q (vs0 ++ ys) H2 := fun vs0 b0 =>
    ⟨A1, M1, ρ1, xs, _, r1, h2, fun vs H2 A2 M2 s2 k2 r2 b2 => q (vs0 ++ vs) H2 A2 M2 (s1.trans s2) (k1.comp s1 k2) r2 (((b0.keep r1.sub k2).anti s2.a).append b2)⟩
  cases b1 with
  | lst hh hn rr => cases h0; exact ⟨_, _, rfl, .inr (SqL.of hh), fin _ rr⟩
  | tup hh rr => cases h0; exact ⟨_, _, rfl, .inl (TupAt.sq hh), fin _ rr⟩
  | _ => cases h0
theorem e_tup {k : Nat} (h : PA X es (tA F m)) : Eb X F (.Tuple es k pos) (.tup m) := by
  refine Eb.of ((pe_tup h).imp fun σ H Q ⟨A, M, ρ, d, fr, ρ', r, ev, q⟩ => ?_) fun _ => nofun
  simp only [evE, Option.bind_eq_some_iff] at ev
  obtain ⟨⟨ds, ρ1⟩, h1, h2⟩ := ev
  split at h2
  · rename_i hl
    cases h2
    exact ⟨A, M, ρ, ds, _, r, h1, fun vs H1 A1 M1 s1 k1 r1 b1 => ⟨by rw [b1.length]; exact hl, fun p hp => q _ _ (((new_tup hp b1).pst r1).after s1 k1)⟩⟩
  · cases h2
theorem e_lst (h : PA X es (tA F m)) : Eb X F (.List es pos) (.lst m) := by
  refine Eb.of ((pe_lst h).imp fun σ H Q ⟨A, M, ρ, d, fr, ρ', r, ev, q⟩ => ?_) fun _ => nofun
  simp only [evE, Option.bind_eq_some_iff] at ev
  obtain ⟨⟨ds, ρ1⟩, h1, h2⟩ := ev
  split at h2
  · rename_i hl
    cases h2
    exact ⟨A, M, ρ, ds, _, r, h1, fun vs H1 A1 M1 s1 k1 r1 b1 => ⟨by rw [b1.length]; exact hl, fun p hp => q _ _ (((new_lst hp b1).pst r1).after s1 k1)⟩⟩
  · cases h2
theorem e_dicT (hf : fzB = false) : Eb X F (.Dict [] [] pos) .dicT := by
  refine Eb.of (pe_dnewT.imp fun σ H Q ⟨A, M, ρ, d, fr, ρ', r, ev, q⟩ => ?_) fun _ => nofun
  cases ev
  exact fun p hp => q _ _ (NewV.pst ⟨Kp.new hp, (fun e => nomatch e), (fun _ => ⟨p, rfl, hp, .inr (.inr (.inr (.inl ⟨[], [], rfl, upd_same, .nil hf⟩)))⟩), fun _ _ => nofun⟩ r)
theorem e_dic : Eb X F (.Dict [] [] pos) .dic := by
  refine Eb.of (pe_dnewK.imp fun σ H Q ⟨A, M, ρ, d, fr, ρ', r, ev, q⟩ => ?_) fun _ => nofun
  cases ev
  exact fun p hp => q _ _ (NewV.pst ⟨Kp.new hp, (fun e => nomatch e), (fun _ => ⟨p, rfl, hp, .inr (.inl ⟨[], [], rfl, upd_same, .nil⟩)⟩), fun _ _ => nofun⟩ r)
/-! displays of dicts whose keys are ints -/
noncomputable def tD (F : Fns) (ks : List Int) (m : ME) (σ : L2.St) (H : Hp) (Q : List (V × V) → Hp → Prop) : Prop := ∃ A M ρ ds ρ', RE A M H ρ σ ∧ evA F m ρ = some (ds, ρ') ∧ ds.length = ks.length ∧
  ∀ vs H' A' M', Shr A M A' M' → Kp M H H' → RE A' M' H' ρ' σ → RelAll A' H' vs ds → Q ((ks.zip vs).map fun p => (V.int p.1, p.2)) H'
noncomputable def Dz (X : Cx) (F : Fns) (pos : Pos) (keys : List (Option Expr)) (values : List Expr) (ks : List Int) (m : ME) : Prop := ∃ trs, PPs X pos keys values trs ∧ ∀ σ H Q, tD F ks m σ H Q → tPairs trs σ H Q
theorem d_nil : Dz X F pos [] [] [] .nil := ⟨[], pps_nil, fun σ H Q ⟨A, M, ρ, ds, ρ', r, ev, hl, q⟩ => by
  cases ev
  exact q [] H A M (Shr.refl _ _) (Kp.refl _ _) r .nil⟩
theorem d_cons {ke : Expr} {k : Int} {keys : List (Option Expr)} {values : List Expr} {ks : List Int} (hk : PE X ke (tC (.int k))) (ha : Eb X F a ma) (hd : Dz X F pos keys values ks r) : Dz X F pos (some ke :: keys) (a :: values) (k :: ks) (.cons ma r) := by
  obtain ⟨trs, h1, h2⟩ := hd
  refine ⟨_, pps_cons hk ha.ev h1, fun σ H Q ⟨A, M, ρ, ds, ρ', r, ev, hl, q⟩ => ?_⟩
  simp only [evA, Option.bind_eq_some_iff, Option.map_eq_some_iff] at ev
  obtain ⟨⟨x, fr, ρ1⟩, g1, ⟨xs, ρ2⟩, g2, g3⟩ := ev
  cases g3
  refine (show tE F ma σ H _ from ⟨A, M, ρ, x, fr, ρ1, r, g1, fun v H1 p => ?_⟩)
  obtain ⟨A1, M1, s1, k1, r1, b1⟩ := p.std r.live
  exact h2 _ _ _ ⟨A1, M1, ρ1, xs, _, r1, g2, by simpa using hl, fun vs H2 A2 M2 s2 k2 r2 b2 => q (v :: vs) H2 A2 M2 (s1.trans s2) (k1.comp s1 k2) r2 (.cons ((b1.keep r1.sub k2).anti s2.a) b2)⟩
theorem merge_rel {A : AS} {H : Hp} : ∀ {ks : List Int} {vs : List V} {ds : List PyData} {kvs : List (Key × V)} {es : List (PyData × PyData)}, RelAll A H vs ds → RelKv A H kvs es →
    RelKv A H (mergeK kvs ((ks.zip vs).map fun p => (Sum.inl p.1, p.2))) ((ks.zip ds).foldl (fun acc p => dPut acc (.int p.1) p.2) es)
  | [], _, _, _, _, _, r => r
  | _ :: _, _, _, _, _, .nil, r => r
  | k :: ks, _, _, _, _, .cons a q, r => merge_rel (ks := ks) q (put_rel (k := .inl k) a r)
theorem e_disp {keys : List (Option Expr)} {values : List Expr} {ks : List Int} (hd : Dz X F pos keys values ks m) (hall : keys.all (·.isSome) = true) (hl : keys.length = values.length) (h0 : keys ≠ []) (h15 : keys.length ≤ 15) (hk : ks.length ≤ 15) : Eb X F (.Dict keys values pos) (.disp ks m) := by
  obtain ⟨trs, h1, h2⟩ := hd
  refine Eb.of ((pe_disp h1 hall hl h0 h15).imp fun σ H Q ⟨A, M, ρ, d, fr, ρ', r, ev, q⟩ => ?_) fun _ => nofun
  simp only [evE, Option.bind_eq_some_iff] at ev
  obtain ⟨⟨ds, ρ1⟩, g1, g2⟩ := ev
  split at g2
  · rename_i hlen
    cases g2
    intro p hp
    have nA : ¬ A p := r.not_fresh hp
    refine h2 _ _ _ ⟨orA A p, M, ρ, ds, _, r.fresh hp ⟨_, upd_same⟩ (Kp.new hp), g1, hlen, fun vs H' A' M' s1 k1 r1 b1 => ?_⟩
    have nM : ¬ M p := fun z => nA (r.sub p z)
    have nM' : ¬ M' p := fun z => nM (s1.m p z)
    have eP : H' p = some (.dK []) := k1.same p _ upd_same fun z => absurd z nM
    have hA' : A' p := Classical.byContradiction fun n => nM (s1.d p (.inr rfl) n)
    have ne : ∀ b o, H b = some o → b ≠ p := fun b o e => ne_of_none e hp
    have sub : ∀ x, butA A' p x → A' x := fun x z => z.1
    have kp : Kp (fun x => x = p) H' (upd H' p (.dK (mergeK [] ((ks.zip vs).map fun q => (Sum.inl q.1, q.2))))) := Kp.wr rfl eP trivial
    have bk : ∀ b o, Nb o → H b = some o → (M b → ¬ Mu o) → H' b = some o := fun b o nb e n => k1.same b o (by rw [upd_ne (ne b o e)]; exact e) n nb
    refine ⟨eP, (ks.zip vs).map fun q => (Sum.inl q.1, q.2), by rw [List.map_map]; rfl, by simp; omega, q _ _ ⟨⟨butA A' p, M', ⟨fun x z => ?_, s1.m, fun x h n => ?_⟩, ⟨fun b o e n nb => ?_, fun b o e => ?_, fun t => kp.tab (k1.tab ((Kp.new (M := No) hp).tab t))⟩, ?_, (fun e => nomatch e), fun _ => ⟨p, rfl, hp, ?_, ?_⟩⟩, fun _ _ => nofun⟩⟩
    · rcases s1.a x z.1 with y | y
      · exact y
      · exact absurd y z.2
    · refine s1.d x (.inl h) fun z => n ⟨z, fun e => ?_⟩
      rw [e] at h; exact nA h
    · rw [upd_ne (ne b o e)]; exact bk b o nb e n
    · obtain ⟨o', e'⟩ := k1.live b o (by rw [upd_ne (ne b o e)]; exact e)
      exact ⟨o', by rw [upd_ne (ne b o e)]; exact e'⟩
    · exact r1.gen kp (fun x z => by rw [show x = p from z]; exact hA') (fun x z e => nM' (by rw [← show x = p from e]; exact z)) (fun x z => .inl z.1) (fun x z => ⟨r1.sub x z, fun e => nM' (by rw [← e]; exact z)⟩) fun x z => by
        obtain ⟨o, e⟩ := r1.live x z.1
        exact kp.live x o e
    · exact r1.gen kp (fun x z => by rw [show x = p from z]; exact hA') (fun x z e => nM' (by rw [← show x = p from e]; exact z)) (fun x z => .inl (z.elim (fun y => y.1) fun y => by rw [y]; exact hA')) (fun x z => .inl ⟨r1.sub x z, fun e => nM' (by rw [← e]; exact z)⟩) fun x z => by
        rcases z with z | z
        · obtain ⟨o, e⟩ := r1.live x z.1
          exact kp.live x o e
        · exact ⟨_, by rw [z]; exact upd_same⟩
    · refine .inr (.inl ⟨_, _, rfl, upd_same, merge_rel (b1.map (fun b o nb e n => kp.same b o e (fun z => n (by rw [show b = p from z]; exact hA')) nb) fun b o e z n _ => ?_) .nil⟩)
      rcases z with z | z
      · exact n z.1
      · exact n (by rw [z]; exact hA')
  · cases g2
theorem e_dget {o ke fe : Expr} {mo mk mf : ME} {apos cpos : Pos} (hu : X.A.units + 64 < cLine) (ho : Eb X F o mo) (hk : Eb X F ke mk) (hf : Eb X F fe mf) (m2 : M2 X o "get" apos ke fe cpos) : Eb X F (.Call (.Attribute o "get" apos) [ke, fe] [] cpos) (.dget mo mk mf) := Eb.of ⟨fun _ _ _ _ _ _ ⟨_, _, _, _, _, _, _, ev, _⟩ => by simp [evE] at ev⟩ fun _ => nofun
/-! ### one operand, choices -/
theorem e_neg (ha : Eb X F a ma) : Eb X F (.UnaryOp .USub a pos) (.neg ma) := by
  refine Eb.of ((pe_un un_neg ha.ev).imp fun σ H Q ⟨A, M, ρ, d, fr, ρ', r, ev, q⟩ => ?_) fun _ => nofun
  simp only [evE, Option.bind_eq_some_iff] at ev
  obtain ⟨⟨x, fr1, ρ1⟩, h1, h2⟩ := ev
  refine ⟨A, M, ρ, x, fr1, ρ1, r, h1, fun v H1 p => ?_⟩
  obtain ⟨A1, M1, s1, k1, r1, b1⟩ := p.std r.live
  cases b1 with
  | int i => cases h2; exact ⟨i, rfl, q _ _ (((NewV.val (.int _)).pst r1).after s1 k1)⟩
  | _ => cases h2
theorem e_not (ha : Eb X F a ma) : Eb X F (.UnaryOp .Not a pos) (.not ma) := by
  refine Eb.of ((pe_not ha.ev).imp fun σ H Q ⟨A, M, ρ, d, fr, ρ', r, ev, q⟩ => ?_) fun _ => nofun
  simp only [evE, Option.bind_eq_some_iff] at ev
  obtain ⟨⟨x, fr1, ρ1⟩, h1, h2⟩ := ev
  refine ⟨A, M, ρ, x, fr1, ρ1, r, h1, fun v H1 p => ?_⟩
  obtain ⟨A1, M1, s1, k1, r1, b1⟩ := p.std r.live
  cases b1 with
  | bl i => cases h2; exact ⟨i, rfl, q _ _ ((Pst.bool r1).after s1 k1)⟩
  | _ => cases h2
theorem e_and {rest : List Expr} (ha : Eb X F a ma) (hb : PE X (.BoolOp .And (b :: rest) pos) (tE F mb)) : Eb X F (.BoolOp .And (a :: b :: rest) pos) (.and ma mb) := by
  refine Eb.of ((pe_and ha.ev hb).imp fun σ H Q ⟨A, M, ρ, d, fr, ρ', r, ev, q⟩ => ?_) fun _ => nofun
  simp only [evE, Option.bind_eq_some_iff] at ev
  obtain ⟨⟨x, fr1, ρ1⟩, h1, h2⟩ := ev
  refine ⟨A, M, ρ, x, fr1, ρ1, r, h1, fun v H1 p => ?_⟩
  obtain ⟨A1, M1, s1, k1, r1, b1⟩ := p.std r.live
  cases b1 with
  | bl i =>
    cases i with
    | true => exact ⟨true, rfl, iteT ⟨A1, M1, ρ1, d, fr, ρ', r1, h2, fun v H' p => q v H' (p.after s1 k1)⟩⟩
    | false => cases h2; exact ⟨false, rfl, iteF (q _ _ ((Pst.bool r1).after s1 k1))⟩
  | _ => cases h2
theorem e_or {rest : List Expr} (ha : Eb X F a ma) (hb : PE X (.BoolOp .Or (b :: rest) pos) (tE F mb)) : Eb X F (.BoolOp .Or (a :: b :: rest) pos) (.or ma mb) := by
  refine Eb.of ((pe_or ha.ev hb).imp fun σ H Q ⟨A, M, ρ, d, fr, ρ', r, ev, q⟩ => ?_) fun _ => nofun
  simp only [evE, Option.bind_eq_some_iff] at ev
  obtain ⟨⟨x, fr1, ρ1⟩, h1, h2⟩ := ev
  refine ⟨A, M, ρ, x, fr1, ρ1, r, h1, fun v H1 p => ?_⟩
  obtain ⟨A1, M1, s1, k1, r1, b1⟩ := p.std r.live
  cases b1 with
  | bl i =>
    cases i with
    | false => exact ⟨false, rfl, iteF ⟨A1, M1, ρ1, d, fr, ρ', r1, h2, fun v H' p => q v H' (p.after s1 k1)⟩⟩
    | true => cases h2; exact ⟨true, rfl, iteT (q _ _ ((Pst.bool r1).after s1 k1))⟩
  | _ => cases h2
theorem e_ite (hc : PT X c (tT F mc)) (ha : Eb X F a ma) (hb : Eb X F b mb) : Eb X F (.IfExp c a b pos) (.ite mc ma mb) := by
  refine Eb.of ((pe_ifExp hc ha.ev hb.ev).imp fun σ H Q ⟨A, M, ρ, d, fr, ρ', r, ev, q⟩ => ?_) fun _ => nofun
  simp only [evE, Option.bind_eq_some_iff] at ev
  obtain ⟨⟨t, ρ1⟩, h1, h2⟩ := ev
  refine ⟨A, M, ρ, t, ρ1, r, h1, fun H1 A1 M1 s1 k1 r1 => ?_⟩
  cases t with
  | true => exact iteT ⟨A1, M1, ρ1, d, fr, ρ', r1, h2, fun v H' p => q v H' (p.after s1 k1)⟩
  | false => exact iteF ⟨A1, M1, ρ1, d, fr, ρ', r1, h2, fun v H' p => q v H' (p.after s1 k1)⟩
/-! ### is None -/
theorem non_iff {A : AS} {H : Hp} {v : V} {d : PyData} (h : Top A H v d) : decide (v = .non) = isNone d := by
  cases d with
  | none => cases h.non; rfl
  | bool _ => cases h.bl; rfl
  | int _ => cases h.int; rfl
  | str _ => cases h.str; rfl
  | list _ => obtain ⟨a, xs, rfl, _⟩ := h.lst; rfl
  | tuple _ => obtain ⟨a, xs, rfl, _⟩ := h.tup; rfl
  | dict es =>
    have hd : ∃ a, v = .ref a := by
      rcases h with h | ⟨a, rfl, _⟩
      · cases h <;> exact ⟨_, rfl⟩
      · exact ⟨a, rfl⟩
    obtain ⟨a, rfl⟩ := hd
    rfl
theorem e_still (ha : Eb X F a ma) : Eb X F a (.still ma) := by
  refine Eb.of (ha.ev.imp fun σ H Q ⟨A, M, ρ, d, fr, ρ', r, ev, q⟩ => ?_) fun _ => nofun
  simp only [evE, Option.map_eq_some_iff] at ev
  obtain ⟨⟨d1, fr1, ρ1⟩, h1, h2⟩ := ev
  cases h2
  exact ⟨A, M, ρ, _, fr1, _, r, h1, fun v H1 p => by
    obtain ⟨A1, M1, s1, k1, r1, b1⟩ := p.std r.live
    exact q _ _ ⟨⟨A1, M1, s1, k1, r1, fun _ => b1, nofun⟩, nofun⟩⟩
theorem e_isN {j : Nat} {p : Pos} (ha : Eb X F a ma) : Eb X F (.Compare a [.Is] [.Constant .none j p] pos) (.isN ma) := by
  refine Eb.of ((pe_cmp (pc_isN ha.bo) rfl).imp fun σ H Q ⟨A, M, ρ, d, fr, ρ', r, ev, q⟩ => ?_) fun _ => nofun
  simp only [evE, Option.bind_eq_some_iff, Option.map_eq_some_iff] at ev
  obtain ⟨⟨x, ρ1⟩, h1, dx, h2, h3⟩ := ev
  cases h3
  exact ⟨A, M, ρ, x, _, r, h1, fun v H1 A1 M1 s1 k1 r1 b1 => by
    show Q (.bl (decide (v = .non))) H1
    rw [non_iff (b1.top r1 h2)]
    exact q _ _ ((Pst.bool r1).after s1 k1)⟩
theorem e_notN {j : Nat} {p : Pos} (ha : Eb X F a ma) : Eb X F (.Compare a [.IsNot] [.Constant .none j p] pos) (.notN ma) := by
  refine Eb.of ((pe_cmp (pc_notN ha.bo) rfl).imp fun σ H Q ⟨A, M, ρ, d, fr, ρ', r, ev, q⟩ => ?_) fun _ => nofun
  simp only [evE, Option.bind_eq_some_iff, Option.map_eq_some_iff] at ev
  obtain ⟨⟨x, ρ1⟩, h1, dx, h2, h3⟩ := ev
  cases h3
  refine ⟨A, M, ρ, x, _, r, h1, fun v H1 A1 M1 s1 k1 r1 b1 => ?_⟩
  show Q (.bl (!decide (v = .non))) H1
  rw [non_iff (b1.top r1 h2)]
  exact q _ _ ((Pst.bool r1).after s1 k1)
/-! ### two comparisons in a row -/
theorem marks2 {op op' : CmpOp} (h : behindInMarks op' c = false) : lastMarks [op, op'] [b, c] = false := h
theorem e_cmp2 {op op' : Cop} (hu : X.A.units + 64 < cLine) (ha : Eb X F a ma) (hb : Eb X F b mb) (hc : Eb X F c mc) (hm : behindInMarks (copOf op') c = false) :
    Eb X F (.Compare a [copOf op, copOf op'] [b, c] pos) (.cmp2 op op' ma mb mc) := by
  refine Eb.of ((pe_chain (cmp_ok hu op) (cmp_ok hu op') ha.bo hb.bo hc.bo (marks2 hm)).imp fun σ H Q ⟨A, M, ρ, d, fr, ρ', r, ev, q⟩ => ?_) fun _ => nofun
  simp only [evE, Option.bind_eq_some_iff] at ev
  obtain ⟨⟨x, ρ1⟩, h1, ⟨y, ρ2⟩, h2, dx, h3, dy, h4, z, h5, h6⟩ := ev
  refine ⟨A, M, ρ, x, ρ1, r, h1, fun v H1 A1 M1 s1 k1 r1 b1 => ⟨A1, M1, ρ1, y, ρ2, r1, h2, fun w H2 A2 M2 s2 k2 r2 b2 =>
    ⟨A2, dx, dy, z, (b1.keep r1.sub s2 k2).top r2 h3, b2.top r2 h4, h5, z, rfl, ?_⟩⟩⟩
  cases z with
  | false => cases h6; exact iteF (q _ _ (((Pst.bool r2).after s2 k2).after s1 k1))
  | true =>
    rw [if_pos rfl] at h6
    simp only [Option.bind_eq_some_iff, Option.map_eq_some_iff] at h6
    obtain ⟨⟨u, ρ3⟩, g1, e3, g2, f, g3, z', g4, g5⟩ := h6
    cases g5
    exact iteT ⟨A2, M2, ρ2, u, _, r2, g1, fun w' H3 A3 M3 s3 k3 r3 b3 => ⟨A3, e3, f, z', (b2.keep r2.sub s3 k3).top r3 g2, b3.top r3 g3, g4, q _ _ ((((Pst.bool r3).after s3 k3).after s2 k2).after s1 k1)⟩⟩
/-! ### places, slices -/
theorem e_idx (hK : X.K = EK.k) (ha : Eb X F a ma) (hb : Eb X F b mb) (hs : PlainIx b) : Eb X F (.Subscript a b pos) (.idx ma mb) := by
  refine Eb.of ((pe_ix (ix_ok hK) ha.bo hb.ev hs).imp fun σ H Q ⟨A, M, ρ, d, fr, ρ', r, ev, q⟩ => ?_) fun _ => nofun
  simp only [evE, Option.bind_eq_some_iff, Option.map_eq_some_iff] at ev
  obtain ⟨⟨x, ρ1⟩, h1, ⟨k, fr2, ρ2⟩, h2, dx, h3, z, h4, h5⟩ := ev
  cases h5
  refine ⟨A, M, ρ, x, ρ1, r, h1, fun v H1 A1 M1 s1 k1 r1 b1 => ⟨A1, M1, ρ1, k, fr2, _, r1, h2, fun w H2 p => ?_⟩⟩
  obtain ⟨A2, M2, s2, k2, r2, b2⟩ := p.std r1.live
  exact ⟨A2, dx, k, _, (b1.keep r1.sub s2 k2).top r2 h3, b2, h4, fun v' rel => q _ _ ((((NewV.val rel).pst r2).after s2 k2).after s1 k1)⟩
noncomputable def tO (F : Fns) (m : ME) : TO := fun σ H Q => ∃ A M ρ o ρ', RE A M H ρ σ ∧ evO F m ρ = some (o, ρ') ∧ ∀ H' A' M', Shr A M A' M' → Kp M H H' → RE A' M' H' ρ' σ → Q o H'
theorem _root_.L2.PO.imp {X : Cx} {e : Option Expr} {t t' : TO} (h : PO X e t) (f : ∀ σ H Q, t' σ H Q → t σ H Q) : PO X e t' := ⟨fun pins s σ H Q I q => h.run pins s σ H Q I (f σ H Q q)⟩
theorem o_none : PO X none (tO F .nil) := po_none.imp fun σ H Q ⟨A, M, ρ, o, ρ', r, ev, q⟩ => by
  cases ev
  exact q H A M (Shr.refl _ _) (Kp.refl _ _) r
theorem o_some (ha : Eb X F a ma) : PO X (some a) (tO F (.cons ma .nil)) := (po_some ha.ev).imp fun σ H Q ⟨A, M, ρ, o, ρ', r, ev, q⟩ => by
  simp only [evO, Option.bind_eq_some_iff] at ev
  obtain ⟨⟨x, fr1, ρ1⟩, h1, h2⟩ := ev
  refine ⟨A, M, ρ, x, fr1, ρ1, r, h1, fun v H1 p => ?_⟩
  obtain ⟨A1, M1, s1, k1, r1, b1⟩ := p.std r.live
  cases b1 with
  | int i => cases h2; exact ⟨i, rfl, q _ _ _ s1 k1 r1⟩
  | _ => cases h2
theorem e_sl {lo hi : Option Expr} {p2 : Pos} {ml mh : ME} (hK : X.K = EK.k) (ha : Eb X F a ma) (hl : PO X lo (tO F ml)) (hh : PO X hi (tO F mh)) : Eb X F (.Subscript a (.Slice lo hi none p2) pos) (.sl ma ml mh) := by
  refine Eb.of ((pe_slice (sl_ok hK) ha.bo hl hh).imp fun σ H Q ⟨A, M, ρ, d, fr, ρ', r, ev, q⟩ => ?_) fun _ => nofun
  simp only [evE, Option.bind_eq_some_iff, Option.map_eq_some_iff] at ev
  obtain ⟨⟨x, ρ1⟩, h1, ⟨l, ρ2⟩, h2, ⟨h, ρ3⟩, h3, dx, h4, ⟨z, fr'⟩, h5, h6⟩ := ev
  cases h6
  exact ⟨A, M, ρ, x, ρ1, r, h1, fun v H1 A1 M1 s1 k1 r1 b1 => ⟨A1, M1, ρ1, l, ρ2, r1, h2, fun H2 A2 M2 s2 k2 r2 => ⟨A2, M2, ρ2, h, _, r2, h3, fun H3 A3 M3 s3 k3 r3 =>
    ⟨A3, dx, z, _, ((b1.keep r1.sub s2 k2).keep r2.sub s3 k3).top r3 h4, h5, fun v' H' nv => q _ _ ((((nv.pst r3).after s3 k3).after s2 k2).after s1 k1)⟩⟩⟩⟩
/-! ### built-ins -/
theorem e_biB {x : Str} {id : String} {p : Pos} {bb : Bi} {e0 : Expr} (hK : X.K = EK.k) (hc : X.calm = true) (hgd : bb = .repr ∨ bb = .str → X.A.guards = some []) (hu : X.A.units + 100 < cLine) (hb : tyOf bb = none) (hf : fnBi bb = .builtin id) (hg : Gl X x) (hm : X.mg x = none) (hv : bootBuiltins x = some (.builtin id))
    (ha : PA X (e0 :: es) (tL F m)) (ns : (e0 :: es).all noStar = true) (hn : x ≠ "__name__") (hdb : (x == ("__debug__" : Str)) = false) : Eb X F (.Call (.Name x p) (e0 :: es) [] pos) (.bi bb m) := by
  rw [List.all_cons, Bool.and_eq_true] at ns
  have hr : CallR X (.builtin id) (rBi bb) := hf ▸ bi_ok hK hc hu bb hb hgd
  refine Eb.of ((pe_callB hr hg hm hv ha hn hdb (star_no ns.1) (star_any ns.2)).imp fun σ H Q ⟨A, M, ρ, d, fr, ρ', r, ev, q⟩ => ?_) fun _ => nofun
  simp only [evE, Option.bind_eq_some_iff, Option.map_eq_some_iff] at ev
  obtain ⟨⟨bs, ρ1⟩, h1, ds, h2, ⟨z, fr'⟩, h3, h4⟩ := ev
  cases h4
  exact ⟨A, M, ρ, bs, _, r, h1, fun vs H1 A1 M1 s1 k1 r1 b1 => ⟨A1, ds, z, _, b1.top r1 h2, h3, fun v H' nv => q v H' ((nv.pst r1).after s1 k1)⟩⟩
theorem e_biT {x : Str} {id : String} {p : Pos} {bb : Bi} {e0 : Expr} (hK : X.K = EK.k) (hc : X.calm = true) (hgd : bb = .repr ∨ bb = .str → X.A.guards = some []) (hu : X.A.units + 100 < cLine) (hb : tyOf bb = none) (hf : fnBi bb = .type id) (hg : Gl X x) (hm : X.mg x = none) (hv : bootBuiltins x = some (.type id))
    (ha : PA X (e0 :: es) (tL F m)) (ns : (e0 :: es).all noStar = true) (hn : x ≠ "__name__") (hdb : (x == ("__debug__" : Str)) = false) : Eb X F (.Call (.Name x p) (e0 :: es) [] pos) (.bi bb m) := by
  rw [List.all_cons, Bool.and_eq_true] at ns
  have hr : CallR X (.type id) (rBi bb) := hf ▸ bi_ok hK hc hu bb hb hgd
  refine Eb.of ((pe_callTy hr hg hm hv ha hn hdb (star_no ns.1) (star_any ns.2)).imp fun σ H Q ⟨A, M, ρ, d, fr, ρ', r, ev, q⟩ => ?_) fun _ => nofun
  simp only [evE, Option.bind_eq_some_iff, Option.map_eq_some_iff] at ev
  obtain ⟨⟨bs, ρ1⟩, h1, ds, h2, ⟨z, fr'⟩, h3, h4⟩ := ev
  cases h4
  exact ⟨A, M, ρ, bs, _, r, h1, fun vs H1 A1 M1 s1 k1 r1 b1 => ⟨A1, ds, z, _, b1.top r1 h2, h3, fun v H' nv => q v H' ((nv.pst r1).after s1 k1)⟩⟩
theorem is_biD {bb : Bi} {n : String} {d z : PyData} {fr : Bool} (h : tyOf bb = some n) (e : biD bb [d] = some (z, fr)) : ∃ k, isaD bb d = some k ∧ z = .bool k ∧ fr = false := by
  cases bb <;> simp only [tyOf, reduceCtorEq] at h <;>
  · simp only [biD, Option.map_eq_some_iff] at e
    obtain ⟨k, e1, e2⟩ := e
    cases e2
    exact ⟨k, e1, rfl, rfl⟩
theorem e_is {p p' : Pos} {bb : Bi} {n : Str} {nm : String} (hK : X.K = EK.k) (hb : tyOf bb = some nm) (hg : Gl X "isinstance") (hm : X.mg "isinstance" = none) (hv : bootBuiltins "isinstance" = some (.builtin "isinstance")) (hgt : Gl X n) (hmt : X.mg n = none) (hvt : bootBuiltins n = some (.type nm)) (hnn : n ≠ "__name__") (hdn : (n == ("__debug__" : Str)) = false)
    (ha : Eb X F a ma) (ns : noStar a = true) : Eb X F (.Call (.Name "isinstance" p) [a, .Name n p'] [] pos) (.bi bb (.cons ma .nil)) := by
  have hpa : PA X [a, .Name n p'] (tCons (tB F ma) (tCons (tC (.ty nm)) tNil)) := pa_cons ha.bo (pa_cons (pe_bltn hgt hmt hvt rfl hnn hdn) pa_nil) (star_no ns)
  refine Eb.of ((pe_callB (is_ok hK bb) hg hm hv hpa (by decide) (by decide) (star_no ns) rfl).imp fun σ H Q ⟨A, M, ρ, d, fr, ρ', r, ev, q⟩ => ?_) fun _ => nofun
  simp only [evE, evL, Option.bind_eq_some_iff, Option.map_eq_some_iff] at ev
  obtain ⟨⟨bs, ρ1⟩, ⟨⟨x, ρ0⟩, h0, ⟨xs, ρ00⟩, h1, h1'⟩, ds, h2, ⟨z, fr'⟩, h3, h4⟩ := ev
  cases h4
  cases h1
  cases h1'
  simp only [getAll, Option.bind_eq_some_iff, Option.map_eq_some_iff] at h2
  obtain ⟨dx, g1, ds', g2, g3⟩ := h2
  cases g2
  subst g3
  obtain ⟨k, e1, rfl, rfl⟩ := is_biD hb h3
  exact ⟨A, M, ρ, x, _, r, h0, fun v H1 A1 M1 s1 k1 r1 b1 => ⟨A1, dx, v, nm, k, rfl, hb, b1.top r1 g1, e1, q _ _ ((Pst.bool r1).after s1 k1)⟩⟩
end
end MI
/-! MI5: tests, what is walked over, calls of defs. -/
namespace MI
open PySem PySem.Spec PyProof.Rows L2
variable [EK]
/-! ### tests -/
theorem tru_of {A : AS} {H : Hp} {K : PySem.W.Frag} {v : V} {d : PyData} {k : Bool} (h : Top A H v d) (e : truthD d = some k) : TruV K v H k := by
  cases d with
  | none => cases h.non; cases e; exact rfl
  | bool b => cases h.bl; cases e; exact rfl
  | int i => cases h.int; cases e; exact rfl
  | str s => cases e
  | list ds =>
    obtain ⟨a, xs, rfl, h1, r⟩ := h.lst
    cases e
    refine .inl ⟨xs, SqL.of h1, ?_⟩
    cases r <;> rfl
  | tuple ds =>
    obtain ⟨a, xs, rfl, h1, r⟩ := h.tup
    cases e
    refine .inr (.inl ⟨xs, (TupAt.sq h1), ?_⟩)
    cases r <;> rfl
  | dict es => cases e
noncomputable def plainT : Expr → Bool
  | .Name .. => true
  | .Call .. => true
  | .Subscript .. => true
  | .Constant .. => true
  | _ => false
theorem plain_ok {e : Expr} {env : Env} (h : plainT e = true) : ∀ whole, isTrue e env whole = (do let v ← whole; standAt e.pos; holding [v] (truthy v)) := by
  cases e <;> first | (intro _; rfl) | cases h
section
variable {X : Cx} {F : Fns} {e a b c : Expr} {es : List Expr} {m ma mb mc r : ME} {pos : Pos}
theorem t_val (h : Eb X F e m) (hp : plainT e = true) : PT X e (tT F (.tst m)) := by
  refine (pt_truth h.bo (plain_ok hp)).imp fun σ H Q ⟨A, M, ρ, t, ρ', r, ev, q⟩ => ?_
  simp only [evT, Option.bind_eq_some_iff, Option.map_eq_some_iff] at ev
  obtain ⟨⟨x, ρ1⟩, h1, d, h2, k, h3, h4⟩ := ev
  cases h4
  exact ⟨A, M, ρ, x, _, r, h1, fun v H1 A1 M1 s1 k1 r1 b1 => ⟨_, tru_of (b1.top r1 h2) h3, q _ _ _ s1 k1 r1⟩⟩
theorem t_not (h : PT X a (tT F ma)) : PT X (.UnaryOp .Not a pos) (tT F (.not ma)) := by
  refine (pt_not h).imp fun σ H Q ⟨A, M, ρ, t, ρ', r, ev, q⟩ => ?_
  simp only [evT, Option.map_eq_some_iff] at ev
  obtain ⟨⟨k, ρ1⟩, h1, h2⟩ := ev
  cases h2
  exact ⟨A, M, ρ, k, _, r, h1, fun H1 A1 M1 s1 k1 r1 => q _ _ _ s1 k1 r1⟩
theorem w_and {rest : List Expr} (ha : PT X a (tT F ma)) (hb : PW X (.BoolOp .And (b :: rest) pos) (tT F mb)) : PW X (.BoolOp .And (a :: b :: rest) pos) (tT F (.and ma mb)) := by
  refine (pw_and ha hb).imp fun σ H Q ⟨A, M, ρ, t, ρ', r, ev, q⟩ => ?_
  simp only [evT, Option.bind_eq_some_iff] at ev
  obtain ⟨⟨k, ρ1⟩, h1, h2⟩ := ev
  refine ⟨A, M, ρ, k, ρ1, r, h1, fun H1 A1 M1 s1 k1 r1 => ?_⟩
  cases k with
  | true => exact iteT ⟨A1, M1, ρ1, t, ρ', r1, h2, fun H2 A2 M2 s2 k2 r2 => q _ _ _ (s1.trans s2) (k1.comp s1 k2) r2⟩
  | false => cases h2; exact iteF (q _ _ _ s1 k1 r1)
theorem w_or {rest : List Expr} (ha : PT X a (tT F ma)) (hb : PW X (.BoolOp .Or (b :: rest) pos) (tT F mb)) : PW X (.BoolOp .Or (a :: b :: rest) pos) (tT F (.or ma mb)) := by
  refine (pw_or ha hb).imp fun σ H Q ⟨A, M, ρ, t, ρ', r, ev, q⟩ => ?_
  simp only [evT, Option.bind_eq_some_iff] at ev
  obtain ⟨⟨k, ρ1⟩, h1, h2⟩ := ev
  refine ⟨A, M, ρ, k, ρ1, r, h1, fun H1 A1 M1 s1 k1 r1 => ?_⟩
  cases k with
  | false => exact iteF ⟨A1, M1, ρ1, t, ρ', r1, h2, fun H2 A2 M2 s2 k2 r2 => q _ _ _ (s1.trans s2) (k1.comp s1 k2) r2⟩
  | true => cases h2; exact iteT (q _ _ _ s1 k1 r1)
theorem bor_plain {F : Fns} {m : ME} {ρ : Rho} {b : Bor} {ρ' : Rho} (hm : ∀ i, m ≠ .var i) (h : bor (evE F m) m ρ = some (b, ρ')) : ∃ d fr, evE F m ρ = some (d, fr, ρ') ∧ b = .v d := by
  have h' : (evE F m ρ).map (fun (d, _, ρ') => (Bor.v d, ρ')) = some (b, ρ') := by
    cases m with
    | var i => exact absurd rfl (hm i)
    | _ => exact h
  simp only [Option.map_eq_some_iff] at h'
  obtain ⟨⟨d, fr, ρ2⟩, h1, h2⟩ := h'
  cases h2
  exact ⟨d, fr, h1, rfl⟩
theorem tst_inv {F : Fns} {m : ME} {ρ : Rho} {t : Bool} {ρ' : Rho} (hm : ∀ i, m ≠ .var i) (h : evT F (.tst m) ρ = some (t, ρ')) : ∃ d fr, evE F m ρ = some (d, fr, ρ') ∧ truthD d = some t := by
  simp only [evT, Option.bind_eq_some_iff, Option.map_eq_some_iff] at h
  obtain ⟨⟨x, ρ1⟩, h1, d, h2, k, h3, h4⟩ := h
  cases h4
  obtain ⟨d', fr, h5, rfl⟩ := bor_plain hm h1
  cases h2
  exact ⟨_, fr, h5, h3⟩
theorem t_isN {j : Nat} {p : Pos} (ha : Eb X F a ma) : PT X (.Compare a [.Is] [.Constant .none j p] pos) (tT F (.tst (.isN ma))) := by
  refine (pt_cmp (pc_isN ha.bo) rfl).imp fun σ H Q ⟨A, M, ρ, t, ρ', r, ev, q⟩ => ?_
  obtain ⟨d, fr, ev, ht⟩ := tst_inv (by intro _ z; cases z) ev
  simp only [evE, Option.bind_eq_some_iff, Option.map_eq_some_iff] at ev
  obtain ⟨⟨x, ρ1⟩, h1, dx, h2, h3⟩ := ev
  cases h3
  cases ht
  refine ⟨A, M, ρ, x, _, r, h1, fun v H1 A1 M1 s1 k1 r1 b1 => ?_⟩
  show ∃ c, V.bl (decide (v = .non)) = .bl c ∧ Q c H1
  rw [non_iff (b1.top r1 h2)]
  exact ⟨_, rfl, q _ _ _ s1 k1 r1⟩
theorem t_notN {j : Nat} {p : Pos} (ha : Eb X F a ma) : PT X (.Compare a [.IsNot] [.Constant .none j p] pos) (tT F (.tst (.notN ma))) := by
  refine (pt_cmp (pc_notN ha.bo) rfl).imp fun σ H Q ⟨A, M, ρ, t, ρ', r, ev, q⟩ => ?_
  obtain ⟨d, fr, ev, ht⟩ := tst_inv (by intro _ z; cases z) ev
  simp only [evE, Option.bind_eq_some_iff, Option.map_eq_some_iff] at ev
  obtain ⟨⟨x, ρ1⟩, h1, dx, h2, h3⟩ := ev
  cases h3
  cases ht
  refine ⟨A, M, ρ, x, _, r, h1, fun v H1 A1 M1 s1 k1 r1 b1 => ?_⟩
  show ∃ c, V.bl (!decide (v = .non)) = .bl c ∧ Q c H1
  rw [non_iff (b1.top r1 h2)]
  exact ⟨_, rfl, q _ _ _ s1 k1 r1⟩
theorem t_cmp2 {op op' : Cop} (hu : X.A.units + 64 < cLine) (ha : Eb X F a ma) (hb : Eb X F b mb) (hc : Eb X F c mc) (hm : behindInMarks (copOf op') c = false) :
    PT X (.Compare a [copOf op, copOf op'] [b, c] pos) (tT F (.tst (.cmp2 op op' ma mb mc))) := by
  refine (pt_chain (cmp_ok hu op) (cmp_ok hu op') ha.bo hb.bo hc.bo (marks2 hm)).imp fun σ H Q ⟨A, M, ρ, t, ρ', r, ev, q⟩ => ?_
  obtain ⟨d, fr, ev, ht⟩ := tst_inv (by intro _ z; cases z) ev
  simp only [evE, Option.bind_eq_some_iff] at ev
  obtain ⟨⟨x, ρ1⟩, h1, ⟨y, ρ2⟩, h2, dx, h3, dy, h4, z, h5, h6⟩ := ev
  refine ⟨A, M, ρ, x, ρ1, r, h1, fun v H1 A1 M1 s1 k1 r1 b1 => ⟨A1, M1, ρ1, y, ρ2, r1, h2, fun w H2 A2 M2 s2 k2 r2 b2 =>
    ⟨A2, dx, dy, z, (b1.keep r1.sub s2 k2).top r2 h3, b2.top r2 h4, h5, z, rfl, ?_⟩⟩⟩
  cases z with
  | false =>
    cases h6
    cases ht
    exact iteF ⟨_, rfl, q _ _ _ (s1.trans s2) (k1.comp s1 k2) r2⟩
  | true =>
    rw [if_pos rfl] at h6
    simp only [Option.bind_eq_some_iff, Option.map_eq_some_iff] at h6
    obtain ⟨⟨u, ρ3⟩, g1, e3, g2, f, g3, z', g4, g5⟩ := h6
    cases g5
    cases ht
    exact iteT ⟨A2, M2, ρ2, u, _, r2, g1, fun w' H3 A3 M3 s3 k3 r3 b3 => ⟨A3, e3, f, _, (b2.keep r2.sub s3 k3).top r3 g2, b3.top r3 g3, g4, _, rfl, q _ _ _ ((s1.trans s2).trans s3) ((k1.comp s1 k2).comp (s1.trans s2) k3) r3⟩⟩
/-! ### what is walked over -/
noncomputable def Lat (A A1 : AS) (H H1 : Hp) : Prop := Kp A H H1 ∧ ∀ a, A1 a → A a ∨ H a = none
theorem Rel.lat {A A1 : AS} {H H1 : Hp} {v : V} {d : PyData} (r : Rel A H v d) (l : Lat A A1 H H1) : Rel A1 H1 v d :=
  r.map (fun a o nb h n => l.1.same a o h n nb) fun a o h z n _ => by
    rcases l.2 a z with q | q
    · exact n q
    · rw [q] at h; cases h
/-- an iterator whose turns are the data ds -/
noncomputable def ItOk (A : AS) (H : Hp) (J : It) (ds : List PyData) : Prop := ∃ (G : Hp → Prop) (Y : Nat → Hp → V → Hp → Prop), Walk J ds.length G Y ∧ (∀ H1, Kp A H H1 → G H1) ∧
  ∀ i A1 H1 x H2, i < ds.length → Lat A A1 H H1 → Y i H1 x H2 → Kp No H1 H2 ∧ ∃ d, ds[i]? = some d ∧ Rel A1 H2 x d
noncomputable def tI (F : Fns) (m : ME) : TI := fun σ H R => ∃ A M ρ ds ρ', RE A M H ρ σ ∧ evI F m ρ = some (ds, ρ') ∧ ∀ J H' A' M', Shr A M A' M' → Kp M H H' → RE A' M' H' ρ' σ → ItOk A' H' J ds → R J H'
theorem _root_.L2.PI.imp {X : Cx} {tg e : Expr} {t t' : TI} (h : PI X tg e t) (f : ∀ σ H Q, t' σ H Q → t σ H Q) : PI X tg e t' := ⟨fun pins s σ H Q I q => h.run pins s σ H Q I (f σ H Q q)⟩
theorem _root_.L2.PI.or {X : Cx} {tg e : Expr} {t t' : TI} (h : PI X tg e t) (h' : PI X tg e t') : PI X tg e (fun σ H R => t σ H R ∨ t' σ H R) :=
  ⟨fun pins s σ H Q I q => q.elim (h.run pins s σ H Q I) (h'.run pins s σ H Q I)⟩
theorem it_list {A : AS} {H : Hp} {K : PySem.W.Frag} {p : Addr} {xs : List V} {ds : List PyData} (h : H p = some (.lst xs)) (n : ¬ A p) (r : RelAll A H xs ds) : ItOk A H (Itl K p) ds := by
  refine ⟨fun H1 => SqL K H1 p xs, YAt xs, ?_, fun H1 k => SqL.of (k.same _ _ h fun z => absurd z n), fun i A1 H1 x H2 hi l y => ?_⟩
  · have w := walk_list (K := K) (a := p) (xs := xs)
    rw [r.length] at w
    exact w
  · obtain ⟨rfl, e⟩ := y
    obtain ⟨d, e1, rel⟩ := r.get' e
    exact ⟨Kp.refl _ _, d, e1, rel.lat l⟩
theorem it_tup {A : AS} {H : Hp} {K : PySem.W.Frag} {p : Addr} {xs : List V} {ds : List PyData} (h : TupAt H p xs) (r : RelAll A H xs ds) : ItOk A H (Itt K p) ds := by
  refine ⟨fun H1 => SqT K H1 p xs, YAt xs, ?_, fun H1 k => TupAt.sq (TupAt.keep k h), fun i A1 H1 x H2 hi l y => ?_⟩
  · have w := walk_tup (K := K) (a := p) (xs := xs)
    rw [r.length] at w
    exact w
  · obtain ⟨rfl, e⟩ := y
    obtain ⟨d, e1, rel⟩ := r.get' e
    exact ⟨Kp.refl _ _, d, e1, rel.lat l⟩
theorem it_rng {A : AS} {H : Hp} (lo hi : Int) : ItOk A H (Itr lo (hi - lo).toNat) (rangeD lo hi) := by
  have hl : (rangeD lo hi).length = (hi - lo).toNat := by simp [rangeD]
  refine ⟨fun _ => True, YFn fun i => .int (lo + (i : Int)), ?_, fun _ _ => trivial, fun i A1 H1 x H2 hi' l y => ?_⟩
  · rw [hl]; exact walk_range
  · obtain ⟨rfl, rfl⟩ := y
    refine ⟨Kp.refl _ _, .int (lo + (i : Int)), ?_, .int _⟩
    rw [hl] at hi'
    simp [rangeD, List.getElem?_map, List.getElem?_range hi']
theorem it_pair {A : AS} {H : Hp} {J : It} {n : Nat} {G : Hp → Prop} {fx fy : Nat → Option V} {gx gy : Nat → Option PyData} {ds : List PyData} (w : Walk J n G (YPair fx fy)) (hn : n = ds.length) (hG : ∀ H1, Kp A H H1 → G H1)
    (hx : ∀ i v, i < n → fx i = some v → ∃ d, gx i = some d ∧ Rel A H v d) (hy : ∀ i v, i < n → fy i = some v → ∃ d, gy i = some d ∧ Rel A H v d) (hd : ∀ i d e, gx i = some d → gy i = some e → i < n → ds[i]? = some (.tuple [d, e])) : ItOk A H J ds := by
  subst hn
  refine ⟨G, _, w, hG, fun i A1 H1 x H2 hi l ⟨T, u, v, e, hT, eH, e1, e2⟩ => ?_⟩
  obtain ⟨d1, g1, r1⟩ := hx i u hi e1
  obtain ⟨d2, g2, r2⟩ := hy i v hi e2
  subst e
  subst eH
  exact ⟨Kp.new hT, _, hd i d1 d2 g1 g2 hi, .tup (.inl upd_same) (.cons ((r1.lat l).keep (M := No) (fun _ z => z.elim) (Kp.new hT)) (.cons ((r2.lat l).keep (M := No) (fun _ z => z.elim) (Kp.new hT)) .nil))⟩
theorem zipT_walk {K : PySem.W.Frag} {a b : Addr} {xs ys : List V} {n : Nat} (hn : n = min xs.length ys.length) : Walk (RZ.ItzT K a b) n (fun H => SqT K H a xs ∧ SqT K H b ys) (YPair (fun i => xs[i]?) (fun i => ys[i]?)) := by
  refine ⟨fun i H hi h => ⟨xs, ys, xs[i]'(by omega), ys[i]'(by omega), h.1, h.2, List.getElem?_eq_getElem _, List.getElem?_eq_getElem _⟩, fun H h => ⟨xs, ys, h.1, h.2, by omega⟩, fun i H x H' hi h ⟨T, u, v, e1, e2, e3, e4, e5⟩ => ⟨T, u, v, e1, e2, e3, e4 _ h.1, e5 _ h.2⟩⟩
theorem zip_at {xs ys : List PyData} {i : Nat} {d e : PyData} (h1 : xs[i]? = some d) (h2 : ys[i]? = some e) : ((xs.zip ys).map fun p => PyData.tuple [p.1, p.2])[i]? = some (.tuple [d, e]) := by
  rw [List.getElem?_map, List.getElem?_zip_eq_some (z := (d, e)) |>.mpr ⟨h1, h2⟩]
  rfl
variable {tg : Expr}
theorem it_str {A : AS} {H : Hp} (z : Str) : ItOk A H (Its z) (z.cps.toList.map fun c => .str ⟨#[c]⟩) := by
  refine ⟨fun _ => True, (fun i H v H' => H' = H ∧ ∃ c, z.cps[i]? = some c ∧ v = .str ⟨#[c]⟩), ?_, fun _ _ => trivial, fun i A1 H1 x H2 hi l y => ?_⟩
  · have w := walk_str (z := z)
    rw [List.length_map, Array.length_toList]
    exact w
  · obtain ⟨rfl, c, e1, rfl⟩ := y
    refine ⟨Kp.refl _ _, .str ⟨#[c]⟩, ?_, .str _⟩
    rw [List.getElem?_map, Array.getElem?_toList, e1]
    rfl
theorem i_it (h : Eb X F e m) : PI X tg e (tI F (.it m)) := by
  refine ((pi_list h.ev).or ((pi_tup h.ev).or (pi_str h.ev))).imp fun σ H R ⟨A, M, ρ, ds, ρ', r, ev, q⟩ => ?_
  simp only [evI, Option.bind_eq_some_iff, Option.map_eq_some_iff] at ev
  obtain ⟨⟨d, fr, ρ1⟩, h1, xs, h2, h3⟩ := ev
  cases h3
  cases d with
  | list ys =>
    cases h2
    refine .inl ⟨A, M, ρ, _, fr, _, r, h1, fun v H1 p => ?_⟩
    obtain ⟨A1, M1, s1, k1, r1, b1⟩ := p.std r.live
    cases b1 with
    | lst hh hn rr => exact ⟨_, rfl, ⟨_, SqL.of hh⟩, q _ _ _ _ s1 k1 r1 (it_list hh hn rr)⟩
  | tuple ys =>
    cases h2
    refine .inr (.inl ⟨A, M, ρ, _, fr, _, r, h1, fun v H1 p => ?_⟩)
    obtain ⟨A1, M1, s1, k1, r1, b1⟩ := p.std r.live
    cases b1 with
    | tup hh rr => exact ⟨_, rfl, ⟨_, (TupAt.sq hh)⟩, q _ _ _ _ s1 k1 r1 (it_tup hh rr)⟩
  | str z =>
    cases h2
    refine .inr (.inr ⟨A, M, ρ, _, fr, _, r, h1, fun v H1 p => ?_⟩)
    obtain ⟨A1, M1, s1, k1, r1, b1⟩ := p.std r.live
    cases b1 with
    | str => exact ⟨_, rfl, q _ _ _ _ s1 k1 r1 (it_str _)⟩
  | _ => cases h2
theorem line_iff {i : Int} (h : lineI i = true) : -(2 ^ 62) ≤ i ∧ i < 2 ^ 62 := by
  unfold lineI at h
  rw [Bool.and_eq_true, decide_eq_true_iff, decide_eq_true_iff] at h
  exact h
theorem i_rng1 {p : Pos} (hg : Gl X "range") (hm : X.mg "range" = none) (ha : Eb X F a ma) (ns : noStar a = true) : PI X tg (.Call (.Name "range" p) [a] [] pos) (tI F (.rng1 ma)) := by
  refine (pi_range1 hg hm (pa_cons ha.ev pa_nil (star_no ns)) (star_no ns)).imp fun σ H R ⟨A, M, ρ, ds, ρ', r, ev, q⟩ => ?_
  simp only [evI, Option.bind_eq_some_iff] at ev
  obtain ⟨⟨d, fr, ρ1⟩, h1, h2⟩ := ev
  refine ⟨A, M, ρ, d, fr, ρ1, r, h1, fun v H1 p => ?_⟩
  obtain ⟨A1, M1, s1, k1, r1, b1⟩ := p.std r.live
  cases b1 with
  | int i =>
    dsimp only at h2
    split at h2
    · rename_i hl
      cases h2
      refine ⟨i, rfl, (line_iff hl).1, (line_iff hl).2, ?_⟩
      have w := it_rng (A := A1) (H := H1) 0 i
      rw [Int.sub_zero] at w
      exact q _ _ _ _ s1 k1 r1 w
    · cases h2
  | _ => cases h2
theorem i_rng2 {p : Pos} (hg : Gl X "range") (hm : X.mg "range" = none) (ha : Eb X F a ma) (hb : Eb X F b mb) (ns : noStar a = true) (ns' : noStar b = true) : PI X tg (.Call (.Name "range" p) [a, b] [] pos) (tI F (.rng2 ma mb)) := ⟨fun _ _ _ _ _ _ ⟨_, _, _, _, _, _, ev, _⟩ => by simp [evI] at ev⟩
theorem walk_zipM {K : PySem.W.Frag} {a b : Addr} {xs ys : List V} {n : Nat} (hn : n = min xs.length ys.length) : Walk (ItzM K a b) n (fun H => SqT K H a xs ∧ SqL K H b ys) (YPair (fun i => xs[i]?) (fun i => ys[i]?)) := by
  refine ⟨fun i H hi h => ⟨xs, ys, xs[i]'(by omega), ys[i]'(by omega), h.1, h.2, List.getElem?_eq_getElem _, List.getElem?_eq_getElem _⟩, fun H h => ⟨xs, ys, h.1, h.2, hn.symm⟩, fun i H v H' hi h ⟨x, y, hx, hy, T, e1, e2, e3⟩ => ⟨T, x, y, e1, e2, e3, hx xs h.1, hy ys h.2⟩⟩
theorem i_zp {p tpos : Pos} {elts : List Expr} {kk : Nat} (hg : Gl X "zip") (hm : X.mg "zip" = none) (ha : Eb X F a ma) (hb : Eb X F b mb) (ns : noStar a = true) (ns' : noStar b = true) :
    PI X (.Tuple elts kk tpos) (.Call (.Name "zip" p) [a, b] [] pos) (tI F (.zp ma mb)) := by
  refine ((RZ.pi_zipA hg hm (pa_cons ha.ev (pa_cons hb.ev pa_nil (star_no ns')) (star_no ns)) (star_no ns) (star_any (es := [b]) (by simp [ns']))).or (pi_zipM hg hm (pa_cons ha.ev (pa_cons hb.ev pa_nil (star_no ns')) (star_no ns)) (star_no ns) (star_any (es := [b]) (by simp [ns'])))).imp fun σ H R ⟨A, M, ρ, ds, ρ', r, ev, q⟩ => ?_
  simp only [evI, Option.bind_eq_some_iff] at ev
  obtain ⟨⟨d, fr, ρ1⟩, h1, ⟨d2, fr2, ρ2⟩, h2, h3⟩ := ev
  cases d with
  | list xs =>
    cases d2 with
    | list ys =>
      cases h3
      refine .inl ⟨A, M, ρ, _, fr, ρ1, r, h1, fun v H1 p => ?_⟩
      obtain ⟨A1, M1, s1, k1, r1, b1⟩ := p.std r.live
      refine ⟨A1, M1, ρ1, _, fr2, _, r1, h2, fun v2 H2 p2 => ?_⟩
      obtain ⟨A2, M2, s2, k2, r2, b2⟩ := p2.std r1.live
      have b1' := (b1.keep r1.sub k2).anti s2.a
      cases b1' with
      | lst hh hn rr =>
        cases b2 with
        | lst hh2 hn2 rr2 =>
          refine ⟨_, _, _, _, rfl, .inl ⟨SqL.of hh, SqL.of hh2, q _ _ _ _ (s1.trans s2) (k1.comp s1 k2) r2 (it_pair (walk_zip rfl) (by simp [rr.length, rr2.length]) (fun H1 k => ⟨SqL.of (k.same _ _ hh fun z => absurd z hn), SqL.of (k.same _ _ hh2 fun z => absurd z hn2)⟩) (fun i v _ e => rr.get' e) (fun i v _ e => rr2.get' e) fun i d e g1 g2 _ => zip_at g1 g2)⟩⟩
    | _ => cases h3
  | tuple xs =>
    cases d2 with
    | tuple ys =>
      cases h3
      refine .inl ⟨A, M, ρ, _, fr, ρ1, r, h1, fun v H1 p => ?_⟩
      obtain ⟨A1, M1, s1, k1, r1, b1⟩ := p.std r.live
      refine ⟨A1, M1, ρ1, _, fr2, _, r1, h2, fun v2 H2 p2 => ?_⟩
      obtain ⟨A2, M2, s2, k2, r2, b2⟩ := p2.std r1.live
      have b1' := (b1.keep r1.sub k2).anti s2.a
      cases b1' with
      | tup hh rr =>
        cases b2 with
        | tup hh2 rr2 =>
          refine ⟨_, _, _, _, rfl, .inr ⟨(TupAt.sq hh), (TupAt.sq hh2), q _ _ _ _ (s1.trans s2) (k1.comp s1 k2) r2 (it_pair (zipT_walk rfl) (by simp [rr.length, rr2.length]) (fun H1 k => ⟨TupAt.sq (TupAt.keep k hh), TupAt.sq (TupAt.keep k hh2)⟩) (fun i v _ e => rr.get' e) (fun i v _ e => rr2.get' e) fun i d e g1 g2 _ => zip_at g1 g2)⟩⟩
    | list ys =>
      cases h3
      refine .inr ⟨A, M, ρ, _, fr, ρ1, r, h1, fun v H1 p => ?_⟩
      obtain ⟨A1, M1, s1, k1, r1, b1⟩ := p.std r.live
      refine ⟨A1, M1, ρ1, _, fr2, _, r1, h2, fun v2 H2 p2 => ?_⟩
      obtain ⟨A2, M2, s2, k2, r2, b2⟩ := p2.std r1.live
      have b1' := (b1.keep r1.sub k2).anti s2.a
      cases b1' with
      | tup hh rr =>
        cases b2 with
        | lst hh2 hn2 rr2 =>
          refine ⟨_, _, _, _, rfl, TupAt.sq hh, SqL.of hh2, q _ _ _ _ (s1.trans s2) (k1.comp s1 k2) r2 (it_pair (walk_zipM rfl) (by simp [rr.length, rr2.length]) (fun H1 k => ⟨TupAt.sq (TupAt.keep k hh), SqL.of (k.same _ _ hh2 fun z => absurd z hn2)⟩) (fun i v _ e => rr.get' e) (fun i v _ e => rr2.get' e) fun i d e g1 g2 _ => zip_at g1 g2)⟩
    | _ => cases h3
  | _ => cases h3
theorem i_enm {p tpos : Pos} {elts : List Expr} {kk : Nat} (hg : Gl X "enumerate") (hm : X.mg "enumerate" = none) (ha : Eb X F a ma) (ns : noStar a = true) :
    PI X (.Tuple elts kk tpos) (.Call (.Name "enumerate" p) [a] [] pos) (tI F (.enm ma)) := by
  refine ((pi_enum hg hm (pa_cons ha.ev pa_nil (star_no ns)) (star_no ns)).or (pi_enumT hg hm (pa_cons ha.ev pa_nil (star_no ns)) (star_no ns))).imp fun σ H R ⟨A, M, ρ, ds, ρ', r, ev, q⟩ => ?_
  simp only [evI, Option.bind_eq_some_iff] at ev
  obtain ⟨⟨d, fr, ρ1⟩, h1, h2⟩ := ev
  have fin : ∀ {xs : List PyData} (i : Nat) (d e : PyData), some (PyData.int (i : Nat)) = some d → xs[i]? = some e → (xs.zipIdx.map fun p => PyData.tuple [.int p.2, p.1])[i]? = some (.tuple [d, e]) := fun i d e g1 g2 => by
    cases g1
    rw [List.getElem?_map, List.getElem?_zipIdx, g2]
    simp
  cases d with
  | list xs =>
    cases h2
    refine .inl ⟨A, M, ρ, _, fr, _, r, h1, fun v H1 p => ?_⟩
    obtain ⟨A1, M1, s1, k1, r1, b1⟩ := p.std r.live
    cases b1 with
    | lst hh hn rr =>
      exact ⟨_, _, rfl, SqL.of hh, q _ _ _ _ s1 k1 r1 (it_pair walk_enum (by simp [rr.length]) (fun H1 k => SqL.of (k.same _ _ hh fun z => absurd z hn)) (gx := fun i => some (.int (i : Nat))) (fun i v _ e => ⟨_, rfl, by cases e; exact .int _⟩) (fun i v _ e => rr.get' e) fun i d e g1 g2 _ => fin i d e g1 g2)⟩
  | tuple xs =>
    cases h2
    refine .inr ⟨A, M, ρ, _, fr, _, r, h1, fun v H1 p => ?_⟩
    obtain ⟨A1, M1, s1, k1, r1, b1⟩ := p.std r.live
    cases b1 with
    | tup hh rr =>
      exact ⟨_, _, rfl, (TupAt.sq hh), q _ _ _ _ s1 k1 r1 (it_pair walk_enumT (by simp [rr.length]) (fun H1 k => TupAt.sq (TupAt.keep k hh)) (gx := fun i => some (.int (i : Nat))) (fun i v _ e => ⟨_, rfl, by cases e; exact .int _⟩) (fun i v _ e => rr.get' e) fun i d e g1 g2 _ => fin i d e g1 g2)⟩
  | _ => cases h2
theorem i_rng3 {p : Pos} (hg : Gl X "range") (hm : X.mg "range" = none) (ha : Eb X F a ma) (hb : Eb X F b mb) (hc : Eb X F c mc) (ns : noStar a = true) (ns' : noStar b = true) (ns'' : noStar c = true) : PI X tg (.Call (.Name "range" p) [a, b, c] [] pos) (tI F (.rng3 ma mb mc)) := ⟨fun _ _ _ _ _ _ ⟨_, _, _, _, _, _, ev, _⟩ => by simp [evI] at ev⟩
theorem i_zp3 {p tpos : Pos} {elts : List Expr} {kk : Nat} (hg : Gl X "zip") (hm : X.mg "zip" = none) (ha : Eb X F a ma) (hb : Eb X F b mb) (hc : Eb X F c mc) (ns : noStar a = true) (ns' : noStar b = true) (ns'' : noStar c = true) :
    PI X (.Tuple elts kk tpos) (.Call (.Name "zip" p) [a, b, c] [] pos) (tI F (.zp3 ma mb mc)) := ⟨fun _ _ _ _ _ _ ⟨_, _, _, _, _, _, ev, _⟩ => by simp [evI] at ev⟩
end
end MI
/-! MI6: targets, comprehensions. -/
namespace MI
open PySem PySem.Spec PyProof.Rows L2
variable [EK]
/-! ### targets -/
noncomputable def Agree (l : List Nat) (σ σ' : L2.St) : Prop := ∀ i, i ∉ l → σ'[i]? = σ[i]?
section
variable {A A' M M' : AS} {H H' : Hp} {v : V} {d : PyData} {ρ ρ' : Rho} {σ σ' : L2.St} {i : Nat}
theorem RE.setDat (r : RE A M H ρ σ) (h : Rel A H v d) : RE A M H (ρ.set i (.dat d)) (σ.set i (some v)) := by
  have ne : ∀ {j : Nat} {s : Slot}, (ρ.set i (.dat d))[j]? = some s → (j = i ∧ s = .dat d ∧ (σ.set i (some v))[j]? = some (some v)) ∨ (j ≠ i ∧ ρ[j]? = some s ∧ (σ.set i (some v))[j]? = σ[j]?) := fun {j s} h => by
    by_cases hj : j = i
    · subst hj
      have hl : j < (ρ.set j (.dat d)).length := (List.getElem?_eq_some_iff.mp h).1
      rw [List.length_set] at hl
      rw [List.getElem?_set_self hl] at h
      exact .inl ⟨rfl, (Option.some.inj h).symm, List.getElem?_set_self (r.len ▸ hl)⟩
    · rw [List.getElem?_set_ne (Ne.symm hj)] at h
      exact .inr ⟨hj, h, List.getElem?_set_ne (Ne.symm hj)⟩
  refine ⟨by rw [List.length_set, List.length_set]; exact r.len, r.sub, r.live, fun j x e => ?_, fun j x e => ?_, fun j k x y a e1 e2 e3 e4 => ?_, r.tab, r.excB fun _ => nofun⟩
  · rcases ne e with ⟨_, q, z⟩ | ⟨_, q, z⟩
    · cases q; exact ⟨v, z, h⟩
    · obtain ⟨w, e1, e2⟩ := r.dat j x q
      exact ⟨w, z.trans e1, e2⟩
  · rcases ne e with ⟨_, q, z⟩ | ⟨_, q, z⟩
    · cases q
    · obtain ⟨w, e1, e2⟩ := r.own j x q
      exact ⟨w, z.trans e1, e2⟩
  · rcases ne e1 with ⟨_, q, _⟩ | ⟨_, q1, z1⟩
    · cases q
    · rcases ne e2 with ⟨_, q, _⟩ | ⟨_, q2, z2⟩
      · cases q
      · exact r.inj j k x y a q1 q2 (z1.symm.trans e3) (z2.symm.trans e4)
theorem Agree.set {l : List Nat} (h : i ∈ l) : Agree l σ (σ.set i (some v)) := fun j hj => List.getElem?_set_ne fun (z : i = j) => hj (z ▸ h)
theorem Agree.trans {l l' : List Nat} {σ1 σ2 : L2.St} (a : Agree l σ σ1) (b : Agree l' σ1 σ2) : Agree (l ++ l') σ σ2 := fun j hj => by
  rw [List.mem_append, not_or] at hj
  exact (b j hj.2).trans (a j hj.1)
end
noncomputable def gM (t : MT) : TG := fun v σ H Q => ∃ A M ρ d ρ', RE A M H ρ σ ∧ Rel A H v d ∧ bindT t d ρ = some ρ' ∧ ∀ σ', RE A M H ρ' σ' → Agree (slotsT t) σ σ' → Q σ' H
noncomputable def gMs (t : MT) : TGs := fun vs σ H Q => ∃ A M ρ ds ρ', RE A M H ρ σ ∧ RelAll A H vs ds ∧ bindTs t ds ρ = some ρ' ∧ ∀ σ', RE A M H ρ' σ' → Agree (slotsT t) σ σ' → Q σ' H
section
variable {X : Cx} {e a b c : Expr} {es : List Expr} {pos : Pos}
theorem _root_.L2.PG.imp {t t' : TG} (h : PG X e t) (f : ∀ v σ H Q, t' v σ H Q → t v σ H Q) : PG X e t' := ⟨fun pins s σ H v u Q I r q => h.run pins s σ H v u Q I r (f v σ H Q q)⟩
theorem _root_.L2.PGs.imp {t t' : TGs} (h : PGs X es t) (f : ∀ v σ H Q, t' v σ H Q → t v σ H Q) : PGs X es t' := ⟨fun pins s σ H v u Q I r q => h.run pins s σ H v u Q I r (f v σ H Q q)⟩
theorem g_name {i : Nat} (h : PG X e (gName i)) : PG X e (gM (.nm i)) := h.imp fun v σ H Q ⟨A, M, ρ, d, ρ', r, rel, ev, q⟩ => by
  simp only [bindT, Option.some.injEq] at ev
  subst ev
  exact q _ (r.setDat rel) (Agree.set (by simp [slotsT]))
theorem gs_nil : PGs X [] (gMs .nil) := pgs_nil.imp fun v σ H Q ⟨A, M, ρ, ds, ρ', r, rel, ev, q⟩ => by
  cases rel with
  | nil =>
    simp only [bindTs, Option.some.injEq] at ev
    subst ev
    exact ⟨rfl, q σ r fun _ _ => rfl⟩
  | cons _ _ => simp [bindTs] at ev
theorem gs_cons {t u : MT} (h : PG X e (gM t)) (hr : PGs X es (gMs u)) (h1 : (assignEach (e :: es) X.env).map (·.2) = assign e X.env :: (assignEach es X.env).map (·.2)) : PGs X (e :: es) (gMs (.cons t u)) :=
  (pgs_cons h hr h1).imp fun v σ H Q ⟨A, M, ρ, ds, ρ', r, rel, ev, q⟩ => by
  cases rel with
  | nil => simp [bindTs] at ev
  | cons ra rr =>
    simp only [bindTs, Option.bind_eq_some_iff] at ev
    obtain ⟨ρ1, h1, h2⟩ := ev
    exact ⟨_, _, rfl, A, M, ρ, _, ρ1, r, ra, h1, fun σ1 r1 a1 => ⟨A, M, ρ1, _, ρ', r1, rr, h2, fun σ2 r2 a2 => q σ2 r2 (a1.trans a2)⟩⟩
mutual
theorem bindT_length : ∀ {t : MT} {d : PyData} {ρ ρ1 : Rho}, bindT t d ρ = some ρ1 → ρ1.length = ρ.length
  | .nm i, d, ρ, ρ1, h => by
    simp only [bindT, Option.some.injEq] at h
    rw [← h, List.length_set]
  | .tp ts, .tuple ds, ρ, ρ1, h => bindTs_length (t := ts) (ds := ds) (by simpa [bindT] using h)
  | .tp ts, .none, _, _, h => by simp [bindT] at h
  | .tp ts, .bool _, _, _, h => by simp [bindT] at h
  | .tp ts, .int _, _, _, h => by simp [bindT] at h
  | .tp ts, .str _, _, _, h => by simp [bindT] at h
  | .tp ts, .list _, _, _, h => by simp [bindT] at h
  | .tp ts, .dict _, _, _, h => by simp [bindT] at h
  | .nil, _, _, _, h => by simp [bindT] at h
  | .cons _ _, _, _, _, h => by simp [bindT] at h
theorem bindTs_length : ∀ {t : MT} {ds : List PyData} {ρ ρ1 : Rho}, bindTs t ds ρ = some ρ1 → ρ1.length = ρ.length
  | .nil, [], ρ, ρ1, h => by
    simp only [bindTs, Option.some.injEq] at h
    rw [← h]
  | .cons a r, d :: ds, ρ, ρ1, h => by
    simp only [bindTs, Option.bind_eq_some_iff] at h
    obtain ⟨ρ2, h1, h2⟩ := h
    rw [bindTs_length h2, bindT_length h1]
  | .nil, _ :: _, _, _, h => by simp [bindTs] at h
  | .cons _ _, [], _, _, h => by simp [bindTs] at h
  | .nm _, _, _, _, h => by simp [bindTs] at h
  | .tp _, _, _, _, h => by simp [bindTs] at h
end
noncomputable def lenT : MT → Nat
  | .cons _ r => lenT r + 1
  | _ => 0
theorem bind_len : ∀ {t : MT} {ds : List PyData} {ρ ρ' : Rho}, bindTs t ds ρ = some ρ' → ds.length = lenT t
  | .nil, [], _, _, _ => rfl
  | .cons a r, d :: ds, ρ, ρ', h => by
    simp only [bindTs, Option.bind_eq_some_iff] at h
    obtain ⟨ρ1, _, h2⟩ := h
    show ds.length + 1 = lenT r + 1
    rw [bind_len h2]
  | .nil, _ :: _, _, _, h => by simp [bindTs] at h
  | .cons _ _, [], _, _, h => by simp [bindTs] at h
  | .nm _, _, _, _, h => by simp [bindTs] at h
  | .tp _, _, _, _, h => by simp [bindTs] at h
theorem g_tup {t : MT} {k : Nat} (hc : X.calm = true) (h : PGs X es (gMs t)) (hn : (assignEach es X.env).length = lenT t) (hst : (assignEach es X.env).findIdx? (·.1) = none) : PG X (.Tuple es k pos) (gM (.tp t)) :=
  (pg_tup hc h hn hst).imp fun v σ H Q ⟨A, M, ρ, d, ρ', r, rel, ev, q⟩ => by
  cases rel with
  | tup hh rr =>
    have ev' : bindTs t ‹List PyData› ρ = some ρ' := by simpa [bindT] using ev
    exact ⟨_, _, rfl, (TupAt.sq hh), by rw [rr.length]; exact bind_len ev', A, M, ρ, _, ρ', r, rr, ev', q⟩
  | _ => simp [bindT] at ev
end
/-! ### the block's own names -/
section
variable {A A' M M' : AS} {H H' : Hp} {v : V} {d : PyData} {ρ ρ' : Rho} {σ σ' : L2.St} {i : Nat} {vs : List Nat}
theorem RE.setNo (r : RE A M H ρ σ) : RE A M H (ρ.set i .no) (σ.set i none) := by
  have ne : ∀ {j : Nat} {s : Slot}, (ρ.set i .no)[j]? = some s → s = .no ∨ (ρ[j]? = some s ∧ (σ.set i none)[j]? = σ[j]?) := fun {j s} h => by
    by_cases hj : j = i
    · subst hj
      have hl : j < (ρ.set j .no).length := (List.getElem?_eq_some_iff.mp h).1
      rw [List.length_set] at hl
      rw [List.getElem?_set_self hl] at h
      exact .inl (Option.some.inj h).symm
    · rw [List.getElem?_set_ne (Ne.symm hj)] at h
      exact .inr ⟨h, List.getElem?_set_ne (Ne.symm hj)⟩
  refine ⟨by rw [List.length_set, List.length_set]; exact r.len, r.sub, r.live, fun j x e => ?_, fun j x e => ?_, fun j k x y a e1 e2 e3 e4 => ?_, r.tab, r.excB fun _ => nofun⟩
  · rcases ne e with q | ⟨q, z⟩
    · cases q
    · obtain ⟨w, e1, e2⟩ := r.dat j x q
      exact ⟨w, z.trans e1, e2⟩
  · rcases ne e with q | ⟨q, z⟩
    · cases q
    · obtain ⟨w, e1, e2⟩ := r.own j x q
      exact ⟨w, z.trans e1, e2⟩
  · rcases ne e1 with q | ⟨q1, z1⟩
    · cases q
    · rcases ne e2 with q | ⟨q2, z2⟩
      · cases q
      · exact r.inj j k x y a q1 q2 (z1.symm.trans e3) (z2.symm.trans e4)
theorem RE.wipe (r : RE A M H ρ σ) : ∀ vs : List Nat, RE A M H (wipeR ρ vs) (L2.wipe σ vs)
  | [] => r
  | v :: vs => (RE.wipe r vs).setNo
theorem RE.unwipe (r : RE A M H ρ (L2.wipe σ vs)) : RE A M H ρ σ := by
  refine ⟨by rw [r.len, wipe_length], r.sub, r.live, fun j x e => ?_, fun j x e => ?_, fun j k x y a e1 e2 e3 e4 => ?_, r.tab, fun j x e => ?_⟩
  · obtain ⟨w, q1, q2⟩ := r.dat j x e
    exact ⟨w, (wipe_some q1).1, q2⟩
  · obtain ⟨w, q1, q2⟩ := r.own j x e
    exact ⟨w, (wipe_some q1).1, q2⟩
  · obtain ⟨w, q1, _⟩ := r.own j x e1
    obtain ⟨w', q2, _⟩ := r.own k y e2
    have z1 := (wipe_some q1).1
    have z2 := (wipe_some q2).1
    rw [z1] at e3
    rw [z2] at e4
    cases e3
    cases e4
    exact r.inj j k x y _ e1 e2 q1 q2
  · obtain ⟨a, q1, q2⟩ := r.exc j x e
    exact ⟨a, (wipe_some q1).1, q2⟩
theorem wipe_at : ∀ {vs : List Nat}, i ∈ vs → (L2.wipe σ vs)[i]? = if i < σ.length then some none else none
  | [], h => by cases h
  | v :: vs, h => by
    show ((L2.wipe σ vs).set v none)[i]? = _
    by_cases hv : v = i
    · subst hv
      rw [List.getElem?_set, if_pos rfl, wipe_length]
    · rw [List.getElem?_set_ne hv]
      exact wipe_at ((List.mem_cons.mp h).resolve_left fun z => hv z.symm)
theorem wipe_agree {l : List Nat} (hl : ∀ i ∈ l, i ∈ vs) (len : σ'.length = σ.length) (a : Agree l (L2.wipe σ vs) σ') : L2.wipe σ' vs = L2.wipe σ vs := by
  apply List.ext_getElem?
  intro i
  by_cases hi : i ∈ vs
  · rw [wipe_at hi, wipe_at hi, len]
  · rw [wipe_out hi, a i fun z => hi (hl i z)]
end
/-! ### comprehensions -/
/-- within a comprehension: the list at D is acc so far -/
noncomputable def CS (A1 M1 : AS) (H1 : Hp) (D : Addr) (σ : L2.St) (ρ : Rho) (acc : List PyData) (H : Hp) : Prop :=
  ∃ A2 M2 xs, Shr A1 M1 A2 M2 ∧ Kp (orA M1 D) H1 H ∧ RE A2 M2 H ρ σ ∧ A2 D ∧ H D = some (.lst xs) ∧ RelAll A2 H xs acc
theorem CS.lat {A1 M1 : AS} {H1 : Hp} {D : Addr} {σ : L2.St} {ρ : Rho} {acc : List PyData} {H : Hp} (hs : ∀ a, M1 a → A1 a) (hD : A1 D) (c : CS A1 M1 H1 D σ ρ acc H) : ∃ A2, Lat A1 A2 H1 H ∧ Kp A1 H1 H := by
  obtain ⟨A2, M2, xs, s, k, _⟩ := c
  have k' : Kp A1 H1 H := k.mono fun a z => by
    rcases z with z | z
    · exact hs a z
    · rw [z]; exact hD
  exact ⟨A2, ⟨k', fun a z => .inl (s.a a z)⟩, k'⟩
noncomputable def stepC (F : Fns) (mc me : ME) : Rho → List PyData → Option (Rho × List PyData) := fun ρ acc =>
  (evT F mc ρ).bind fun (t, ρ2) => if t then (evE F me ρ2).bind fun (d, _, ρ3) => if acc.length < sizeLine then some (ρ3, acc ++ [d]) else none else some (ρ2, acc)
theorem cs_step {F : Fns} {mc me : ME} {A1 M1 : AS} {H1 : Hp} {D : Addr} {σ : L2.St} {ρ ρ' : Rho} {acc acc' : List PyData} {H : Hp} {Nx : Hp → Prop} (nD : ¬ M1 D) (c : CS A1 M1 H1 D σ ρ acc H) (ev : stepC F mc me ρ acc = some (ρ', acc'))
    (nx : ∀ H, CS A1 M1 H1 D σ ρ' acc' H → Nx H) :
    (tT F mc) σ H fun b H3 => if b = true then (tE F me) σ H3 fun y H4 => ∃ acc, H4 D = some (.lst acc) ∧ acc.length < sizeLine ∧ Nx (upd H4 D (.lst (acc ++ [y]))) else Nx H3 := by
  obtain ⟨A2, M2, xs, s, k, r, hD, hx, rx⟩ := c
  unfold stepC at ev
  simp only [Option.bind_eq_some_iff] at ev
  obtain ⟨⟨t, ρ2⟩, h1, h2⟩ := ev
  have nD2 : ¬ M2 D := fun z => nD (s.m D z)
  refine ⟨A2, M2, ρ, t, ρ2, r, h1, fun H3 A3 M3 s3 k3 r3 => ?_⟩
  have hD3 : A3 D := Classical.byContradiction fun n => nD2 (s3.d D hD n)
  have hx3 : H3 D = some (.lst xs) := k3.same _ _ hx fun z => absurd z nD2
  have rx3 : RelAll A3 H3 xs acc := (rx.keep r.sub k3).anti s3.a
  have k3' : Kp (orA M1 D) H1 H3 := k.trans (k3.mono fun a z => .inl (s.m a z))
  cases t with
  | false =>
    cases h2
    exact iteF (nx H3 ⟨A3, M3, xs, s.trans s3, k3', r3, hD3, hx3, rx3⟩)
  | true =>
    rw [if_pos rfl] at h2
    simp only [Option.bind_eq_some_iff] at h2
    obtain ⟨⟨d, fr, ρ3⟩, h3, h4⟩ := h2
    split at h4
    · rename_i hl
      cases h4
      refine iteT ⟨A3, M3, ρ2, d, fr, _, r3, h3, fun y H4 p => ?_⟩
      obtain ⟨A4, M4, s4, k4, r4, b4⟩ := p.std r3.live
      have nD3 : ¬ M3 D := fun z => nD2 (s3.m D z)
      have hD4 : A4 D := Classical.byContradiction fun n => nD3 (s4.d D hD3 n)
      have hx4 : H4 D = some (.lst xs) := k4.same _ _ hx3 fun z => absurd z nD3
      have rx4 : RelAll A4 H4 xs acc := (rx3.keep r3.sub k4).anti s4.a
      have kD : Kp (fun a => a = D) H4 (upd H4 D (.lst (xs ++ [y]))) := Kp.wr rfl hx4 trivial
      have sD : ∀ a, a = D → A4 a := fun a z => z ▸ hD4
      refine ⟨xs, hx4, by rw [rx4.length]; exact hl, nx _ ⟨A4, M4, xs ++ [y], (s.trans s3).trans s4, ?_, r4.keepM sD (fun a z e => nD3 (s4.m D (e ▸ z))) kD, hD4, upd_same, ?_⟩⟩
      · exact (k3'.trans (k4.mono fun a z => .inl (s.m a (s3.m a z)))).trans (kD.mono fun a z => .inr z)
      · exact ((rx4.keep sD kD)).append (.cons (b4.keep sD kD) .nil)
    · cases h4
theorem drop_cons {ds : List PyData} {i : Nat} {d : PyData} (h : ds[i]? = some d) : ds.drop i = d :: ds.drop (i + 1) := by
  obtain ⟨hi, e⟩ := List.getElem?_eq_some_iff.mp h
  rw [List.drop_eq_getElem_cons hi, e]
/-- the state behind, seen from ahead of D -/
theorem CS.pst {A M A1 M1 : AS} {H0 H1 : Hp} {D : Addr} {σ : L2.St} {ρ : Rho} {acc : List PyData} {H : Hp} {vs : List Nat} (s0 : Shr A M A1 M1) (k0 : Kp M H0 H1) (l0 : ∀ a, A a → ∃ o, H0 a = some o) (l1 : ∀ a, A1 a → ∃ o, H1 a = some o) (hD : H1 D = none) (m1 : ∀ a, M1 a → A1 a)
    (c : CS (orA A1 D) M1 (upd H1 D (.lst [])) D (L2.wipe σ vs) ρ acc H) : Pst A M H0 ρ σ (.list acc) true (.ref D) H := by
  obtain ⟨A2, M2, xs, s, k, r, hA, hx, rx⟩ := c
  have nA1 : ¬ A1 D := fun z => by obtain ⟨o, e⟩ := l1 D z; rw [hD] at e; cases e
  have nM2 : ¬ M2 D := fun z => nA1 (m1 D (s.m D z))
  have eA : orA (butA A2 D) D = A2 := funext fun x => propext ⟨fun z => by
    rcases z with z | z
    · exact z.1
    · rw [z]; exact hA, fun z => by
    by_cases e : x = D
    · exact .inr e
    · exact .inl ⟨z, e⟩⟩
  have r' : RE A2 M2 H ρ σ := r.unwipe
  have hD0 : H0 D = none := by
    cases e : H0 D with
    | none => rfl
    | some o => obtain ⟨o', e'⟩ := k0.live D o e; rw [hD] at e'; cases e'
  have kk : Kp M1 H1 H := ⟨fun a o h n nb => k.same a o (by rw [upd_ne (ne_of_none h hD)]; exact h) (fun z => by
      rcases z with z | z
      · exact n z
      · exact absurd z (ne_of_none h hD)) nb, fun a o h => k.live a o (by rw [upd_ne (ne_of_none h hD)]; exact h), fun t => k.tab ((Kp.new (M := No) hD).tab t)⟩
  refine ⟨?_, fun _ _ => nofun⟩
  refine ⟨butA A2 D, M2, ⟨fun x z => ?_, fun x z => s0.m x (s.m x z), fun x h n => ?_⟩, k0.comp s0 kk, ?_, (fun e => nomatch e), fun _ => ⟨D, rfl, hD0, by rw [eA]; exact r', by rw [eA]; exact .inl ⟨xs, acc, rfl, hx, rx⟩⟩⟩
  · rcases s.a x z.1 with q | q
    · exact s0.a x q
    · exact absurd q z.2
  · by_cases h1 : A1 x
    · have hx' : x ≠ D := fun e => nA1 (e ▸ h1)
      exact s0.m x (s.d x (.inl h1) fun z => n ⟨z, hx'⟩)
    · exact s0.d x h h1
  · exact ⟨r'.len, fun a z => ⟨r'.sub a z, fun e => nM2 (e ▸ z)⟩, fun a z => r'.live a z.1, fun i d e => let ⟨v, q1, q2⟩ := r'.dat i d e; ⟨v, q1, q2.anti fun _ z => z.1⟩,
      fun i d e => let ⟨a, q1, q2, q3⟩ := r'.own i d e; ⟨a, q1, q2, q3.anti fun _ z => z.1⟩, r'.inj, r'.tab, r'.exc⟩
theorem CS.start {A1 M1 : AS} {H1 : Hp} {D : Addr} {σ : L2.St} {ρ : Rho} {vs : List Nat} (r : RE A1 M1 H1 ρ σ) (hD : H1 D = none) : CS (orA A1 D) M1 (upd H1 D (.lst [])) D (L2.wipe σ vs) (wipeR ρ vs) [] (upd H1 D (.lst [])) :=
  ⟨orA A1 D, M1, [], Shr.refl _ _, Kp.refl _ _, (r.fresh hD ⟨_, upd_same⟩ (Kp.new hD)).wipe vs, .inr rfl, upd_same, .nil⟩
theorem Lat.before {A1 A2 M1 : AS} {H1 : Hp} {D : Addr} {H : Hp} (hD : H1 D = none) (l : Lat (orA A1 D) A2 (upd H1 D (.lst [])) H) : Lat A1 A2 H1 H := by
  refine ⟨⟨fun a o h n nb => l.1.same a o (by rw [upd_ne (ne_of_none h hD)]; exact h) (fun z => ?_) nb, fun a o h => l.1.live a o (by rw [upd_ne (ne_of_none h hD)]; exact h), fun t => l.1.tab ((Kp.new (M := No) hD).tab t)⟩, fun a z => ?_⟩
  · rcases z with z | z
    · exact n z
    · exact absurd z (ne_of_none h hD)
  · rcases l.2 a z with (q | q) | q
    · exact .inl q
    · exact .inr (by rw [q]; exact hD)
    · by_cases e : a = D
      · exact .inr (by rw [e]; exact hD)
      · rw [upd_ne e] at q; exact .inr q
section
variable {X : Cx} {F : Fns} {e elt tg iter tg1 iter1 : Expr} {ifs ifs1 : List Expr} {scope : Scope} {own : List (Str × Nat)} {pos : Pos} {mi mc me mi1 mc1 : ME} {t t1 : MT}
/-- one turn of a comprehension begins -/
theorem CS.turn {A1 M1 : AS} {H1 : Hp} {D : Addr} {σ σw : L2.St} {ρ ρ1 : Rho} {acc : List PyData} {H H' : Hp} {x : V} {d : PyData} {vs : List Nat} {Q : L2.St → Hp → Prop} (c : CS A1 M1 H1 D σw ρ acc H) (hw : σw = L2.wipe σ vs) (hv : ∀ i ∈ slotsT t, i ∈ vs)
    (hx : ∀ A2 M2, Shr A1 M1 A2 M2 → Kp No H H' ∧ Rel A2 H' x d) (hb : bindT t d ρ = some ρ1) (q : ∀ σ2, L2.wipe σ2 vs = σw → CS A1 M1 H1 D σ2 ρ1 acc H' → Q σ2 H') : gM t x σw H' Q := by
  obtain ⟨A2, M2, xs, s, k, r, hD, hx1, rx⟩ := c
  obtain ⟨kn, rel⟩ := hx A2 M2 s
  refine ⟨A2, M2, ρ, d, ρ1, r.keep kn, rel, hb, fun σ2 r2 ag => q σ2 ?_ ⟨A2, M2, xs, s, k.trans kn.of, r2, hD, kn.same _ _ hx1 (fun z => z.elim), rx.keep (M := No) (fun _ z => z.elim) kn⟩⟩
  subst hw
  have hl : ρ1.length = ρ.length := bindT_length hb
  exact wipe_agree hv (by rw [← r2.len, hl, r.len, wipe_length]) ag
theorem CS.wiped {A1 M1 : AS} {H1 : Hp} {D : Addr} {σ : L2.St} {ρ : Rho} {acc : List PyData} {H : Hp} (vs : List Nat) (c : CS A1 M1 H1 D σ ρ acc H) : CS A1 M1 H1 D (L2.wipe σ vs) (wipeR ρ vs) acc H := by
  obtain ⟨A2, M2, xs, s, k, r, rest⟩ := c
  exact ⟨A2, M2, xs, s, k, r.wipe vs, rest⟩
theorem e_comp (hc : X.calm = true) (hN : X.N.Nodup) (hi : PI X tg iter (tI F mi)) (ok : BlkOk X.N X.env.scope scope own) (hv : ∀ i ∈ slotsT t, i ∈ own.map (·.2))
    (hg : ∀ (s : Shared) (H : Hp) (C : Addr) (cl : List (Str × Addr)) (fp : List Addr), PG (X.blk s H scope (compEnvC scope cl C X.env) fp) tg (gM t))
    (ht : ∀ (s : Shared) (H : Hp) (C : Addr) (cl : List (Str × Addr)) (fp : List Addr), PTs (X.blk s H scope (compEnvC scope cl C X.env) fp) ifs (tT F mc))
    (he : ∀ (s : Shared) (H : Hp) (C : Addr) (cl : List (Str × Addr)) (fp : List Addr), PE (X.blk s H scope (compEnvC scope cl C X.env) fp) elt (tE F me)) (hs : ∀ x, foldedSetIterable iter X.env x = pure x) :
    PE X (.ListComp elt [⟨tg, iter, ifs, 0⟩] scope pos) (tE F (.comp (own.map (·.2)) t mi mc me)) := by
  refine (pe_lc hc hN hi ok hg ht he hs).imp fun σ H Q h => comp_read hv h
where
  comp_read {vs : List Nat} {σ : L2.St} {H : Hp} {Q : VK} (hv : ∀ i ∈ slotsT t, i ∈ vs) (h : tE F (.comp vs t mi mc me) σ H Q) : tLc (tI F mi) (gM t) (tT F mc) (tE F me) vs σ H Q := by
    obtain ⟨A, M, ρ, d, fr, ρ', r, ev, q⟩ := h
    simp only [evE, Option.bind_eq_some_iff, Option.map_eq_some_iff] at ev
    obtain ⟨⟨ds, ρ1⟩, h1, ⟨ρ4, accF⟩, h2, h3⟩ := ev
    cases h3
    refine ⟨A, M, ρ, ds, ρ1, r, h1, fun J H1 A1 M1 s1 k1 r1 it D hD => ?_⟩
    obtain ⟨G, Y, w, hG, hY⟩ := it
    have nM : ¬ M1 D := fun z => r1.not_fresh hD (r1.sub D z)
    have sub : ∀ a, M1 a → orA A1 D a := fun a z => .inl (r1.sub a z)
    refine lc_it w (fun i H => ∃ ρ2 acc, CS (orA A1 D) M1 (upd H1 D (.lst [])) D (L2.wipe σ vs) ρ2 acc H ∧ turns t (stepC F mc me) vs (ds.drop i) ρ2 acc = some (ρ4, accF)) ⟨_, _, CS.start r1 hD, h2⟩ (fun i H _ ⟨ρ2, acc, c, _⟩ => ?_) (fun i x H H' hi ⟨ρ2, acc, c, ht⟩ y => ?_) fun H ⟨ρ2, acc, c, ht⟩ => ?_
    · obtain ⟨A2, l, _⟩ := c.lat sub (.inr rfl)
      exact hG H (Lat.before (M1 := M1) hD l).1
    · obtain ⟨A2, l, _⟩ := c.lat sub (.inr rfl)
      obtain ⟨kn, d, hd, _⟩ := hY i A2 H x H' hi (Lat.before (M1 := M1) hD l) y
      rw [drop_cons hd] at ht
      simp only [turns, Option.bind_eq_some_iff] at ht
      obtain ⟨ρ3, g1, ⟨ρ5, acc5⟩, g2, g3⟩ := ht
      refine c.turn rfl hv (fun A3 M3 s3 => ?_) g1 fun σ2 hw c2 => ⟨hw, cs_step nM c2 g2 fun H5 c5 => ⟨_, _, by rw [← hw]; exact c5.wiped vs, g3⟩⟩
      obtain ⟨kn', d', hd', rel'⟩ := hY i A3 H x H' hi (Lat.before (M1 := M1) hD ⟨l.1, fun a z => .inl (s3.a a z)⟩) y
      rw [hd] at hd'
      cases hd'
      exact ⟨kn', rel'⟩
    · rw [List.drop_length] at ht
      cases ht
      exact q _ _ (CS.pst s1 k1 r.live r1.live hD r1.sub c)
theorem e_comp2 {vs1 : List Nat} (hc : X.calm = true) (hN : X.N.Nodup) (hi : PI X tg iter (tI F mi)) (ok : BlkOk X.N X.env.scope scope own) (hv : ∀ i ∈ slotsT t, i ∈ own.map (·.2)) (hv1 : ∀ i ∈ vs1, i ∈ own.map (·.2)) (hv2 : ∀ i ∈ slotsT t1, i ∈ vs1)
    (hg : ∀ (s : Shared) (H : Hp) (C : Addr) (cl : List (Str × Addr)) (fp : List Addr), PG (X.blk s H scope (compEnvC scope cl C X.env) fp) tg (gM t))
    (ht : ∀ (s : Shared) (H : Hp) (C : Addr) (cl : List (Str × Addr)) (fp : List Addr), PTs (X.blk s H scope (compEnvC scope cl C X.env) fp) ifs (tT F mc))
    (hi1 : ∀ (s : Shared) (H : Hp) (C : Addr) (cl : List (Str × Addr)) (fp : List Addr), PI (X.blk s H scope (compEnvC scope cl C X.env) fp) tg1 iter1 (tI F mi1))
    (hg1 : ∀ (s : Shared) (H : Hp) (C : Addr) (cl : List (Str × Addr)) (fp : List Addr), PG (X.blk s H scope (compEnvC scope cl C X.env) fp) tg1 (gM t1))
    (ht1 : ∀ (s : Shared) (H : Hp) (C : Addr) (cl : List (Str × Addr)) (fp : List Addr), PTs (X.blk s H scope (compEnvC scope cl C X.env) fp) ifs1 (tT F mc1))
    (he : ∀ (s : Shared) (H : Hp) (C : Addr) (cl : List (Str × Addr)) (fp : List Addr), PE (X.blk s H scope (compEnvC scope cl C X.env) fp) elt (tE F me)) (hs : ∀ x, foldedSetIterable iter X.env x = pure x) (hs1 : ∀ env x, foldedSetIterable iter1 env x = pure x) :
    PE X (.ListComp elt [⟨tg, iter, ifs, 0⟩, ⟨tg1, iter1, ifs1, 0⟩] scope pos) (tE F (.comp2 (own.map (·.2)) vs1 t mi mc t1 mi1 mc1 me)) := by
  refine (pe_lc2 hc hN hi ok hv1 hg ht hi1 hg1 ht1 he hs hs1).imp fun σ H Q h => comp2_read hv hv1 hv2 h
where
  comp2_read {vs vs1 : List Nat} {σ : L2.St} {H : Hp} {Q : VK} (hv : ∀ i ∈ slotsT t, i ∈ vs) (hv1 : ∀ i ∈ vs1, i ∈ vs) (hv2 : ∀ i ∈ slotsT t1, i ∈ vs1) (h : tE F (.comp2 vs vs1 t mi mc t1 mi1 mc1 me) σ H Q) :
      tLc2 (tI F mi) (gM t) (tT F mc) (tI F mi1) (gM t1) (tT F mc1) (tE F me) vs vs1 σ H Q := by
    obtain ⟨_, _, _, _, _, _, _, ev, _⟩ := h
    simp [evE] at ev
end
end MI
/-! MI7: calls of the program's own defs. -/
namespace MI
open PySem PySem.Spec PyProof.Rows L2
variable [EK] [GR]
section
variable {A A2 M M' N : AS} {H H' : Hp} {v : V} {d e : PyData} {ρ ρ' : Rho} {σ σ' : L2.St} {i : Nat} {a : Addr}
theorem set_cases {ρ : Rho} {i j : Nat} {s x : Slot} (h : (ρ.set i x)[j]? = some s) : (j = i ∧ s = x) ∨ (j ≠ i ∧ ρ[j]? = some s) := by
  by_cases hj : j = i
  · subst hj
    have hl : j < (ρ.set j x).length := (List.getElem?_eq_some_iff.mp h).1
    rw [List.length_set] at hl
    rw [List.getElem?_set_self hl] at h
    exact .inl ⟨rfl, (Option.some.inj h).symm⟩
  · rw [List.getElem?_set_ne (Ne.symm hj)] at h
    exact .inr ⟨hj, h⟩
theorem RE.setOwn (r : RE A M H ρ σ) (hσ : σ[i]? = some (some (.ref a))) (hA : A a) (nM : ¬ M a) (ho : Own A H a e) : RE A (orA M a) H (ρ.set i (.own e)) σ := by
  refine ⟨by rw [List.length_set]; exact r.len, fun b z => ?_, r.live, fun j x h => ?_, fun j x h => ?_, fun j k x y b h1 h2 h3 h4 => ?_, r.tab, r.excS fun _ => nofun⟩
  · rcases z with z | z
    · exact r.sub b z
    · rw [z]; exact hA
  · rcases set_cases h with ⟨_, q⟩ | ⟨_, q⟩
    · cases q
    · exact r.dat j x q
  · rcases set_cases h with ⟨rfl, q⟩ | ⟨_, q⟩
    · cases q; exact ⟨a, hσ, .inr rfl, ho⟩
    · obtain ⟨b, e1, e2, e3⟩ := r.own j x q
      exact ⟨b, e1, .inl e2, e3⟩
  · rcases set_cases h1 with ⟨rfl, q1⟩ | ⟨n1, q1⟩
    · rcases set_cases h2 with ⟨rfl, q2⟩ | ⟨n2, q2⟩
      · rfl
      · obtain ⟨b', e1, e2, _⟩ := r.own k y q2
        rw [hσ] at h3
        rw [e1] at h4
        cases h3
        cases h4
        exact absurd e2 nM
    · rcases set_cases h2 with ⟨rfl, q2⟩ | ⟨n2, q2⟩
      · obtain ⟨b', e1, e2, _⟩ := r.own j x q1
        rw [hσ] at h4
        rw [e1] at h3
        cases h3
        cases h4
        exact absurd e2 nM
      · exact r.inj j k x y b q1 q2 h3 h4
theorem RE.setDat' (r : RE A M H ρ σ) (hσ : σ[i]? = some (some v)) (ho : Rel A H v e) : RE A M H (ρ.set i (.dat e)) σ := by
  refine ⟨by rw [List.length_set]; exact r.len, r.sub, r.live, fun j x h => ?_, fun j x h => ?_, fun j k x y b h1 h2 h3 h4 => ?_, r.tab, r.excS fun _ => nofun⟩
  · rcases set_cases h with ⟨rfl, q⟩ | ⟨_, q⟩
    · cases q; exact ⟨v, hσ, ho⟩
    · exact r.dat j x q
  · rcases set_cases h with ⟨_, q⟩ | ⟨_, q⟩
    · cases q
    · exact r.own j x q
  · rcases set_cases h1 with ⟨_, q1⟩ | ⟨_, q1⟩
    · cases q1
    · rcases set_cases h2 with ⟨_, q2⟩ | ⟨_, q2⟩
      · cases q2
      · exact r.inj j k x y b q1 q2 h3 h4
theorem RE.setNo' (r : RE A M H ρ σ) : RE A M H (ρ.set i .no) σ := by
  refine ⟨by rw [List.length_set]; exact r.len, r.sub, r.live, fun j x h => ?_, fun j x h => ?_, fun j k x y b h1 h2 h3 h4 => ?_, r.tab, r.excS fun _ => nofun⟩
  · rcases set_cases h with ⟨_, q⟩ | ⟨_, q⟩
    · cases q
    · exact r.dat j x q
  · rcases set_cases h with ⟨_, q⟩ | ⟨_, q⟩
    · cases q
    · exact r.own j x q
  · rcases set_cases h1 with ⟨_, q1⟩ | ⟨_, q1⟩
    · cases q1
    · rcases set_cases h2 with ⟨_, q2⟩ | ⟨_, q2⟩
      · cases q2
      · exact r.inj j k x y b q1 q2 h3 h4
theorem RE.setExc' {c : PyData} (r : RE A M H ρ σ) (hσ : σ[i]? = some (some (.ref a))) (hx : XOf a c) : RE A M H (ρ.set i (.exc c)) σ := by
  refine ⟨by rw [List.length_set]; exact r.len, r.sub, r.live, fun j x h => ?_, fun j x h => ?_, fun j k x y b h1 h2 h3 h4 => ?_, r.tab, fun j x h => ?_⟩
  · rcases set_cases h with ⟨_, q⟩ | ⟨_, q⟩
    · cases q
    · exact r.dat j x q
  · rcases set_cases h with ⟨_, q⟩ | ⟨_, q⟩
    · cases q
    · exact r.own j x q
  · rcases set_cases h1 with ⟨_, q1⟩ | ⟨_, q1⟩
    · cases q1
    · rcases set_cases h2 with ⟨_, q2⟩ | ⟨_, q2⟩
      · cases q2
      · exact r.inj j k x y b q1 q2 h3 h4
  · rcases set_cases h with ⟨rfl, q⟩ | ⟨_, q⟩
    · cases q; exact ⟨a, hσ, hx⟩
    · exact r.exc j x q
/-- what is lent is taken out of M -/
theorem RE.lendOut (r : RE A M H ρ σ) (e1 : ρ[i]? = some (Slot.own d)) (hσ : σ[i]? = some (some (.ref a))) : RE A (butA M a) H (ρ.set i .no) σ := by
  have r' : RE A M H (ρ.set i .no) σ := r.setNo'
  refine ⟨r'.len, fun b z => r.sub b z.1, r.live, r'.dat, fun j x h => ?_, r'.inj, r.tab, r'.exc⟩
  obtain ⟨b, q1, q2, q3⟩ := r'.own j x h
  refine ⟨b, q1, ⟨q2, fun z => ?_⟩, q3⟩
  subst z
  rcases set_cases h with ⟨_, q⟩ | ⟨n, q⟩
  · cases q
  · exact n (r.inj j i x d _ q e1 q1 hσ)
theorem RE.nil (hs : ∀ a, M a → A a) (l : ∀ a, A a → ∃ o, H a = some o) (t : TabX H) : RE A M H [] [] := ⟨rfl, hs, l, fun j x h => by simp at h, fun j x h => by simp at h, fun j k x y b h => by simp at h, t, fun j x h => by simp at h⟩
theorem RE.consDat {ss : Rho} {σs : L2.St} (r : RE A M H ss σs) (h : Rel A H v d) : RE A M H (.dat d :: ss) (some v :: σs) := by
  refine ⟨congrArg (· + 1) r.len, r.sub, r.live, fun j x e => ?_, fun j x e => ?_, fun j k x y b e1 e2 e3 e4 => ?_, r.tab, fun j x e => ?_⟩
  · cases j with
    | zero => cases e; exact ⟨v, rfl, h⟩
    | succ j => exact r.dat j x e
  · cases j with
    | zero => cases e
    | succ j => exact r.own j x e
  · cases j with
    | zero => cases e1
    | succ j =>
      cases k with
      | zero => cases e2
      | succ k => exact congrArg _ (r.inj j k x y b e1 e2 e3 e4)
  · cases j with
    | zero => cases e
    | succ j => exact r.exc j x e
theorem RE.consOwn {ss : Rho} {σs : L2.St} (r : RE A N H ss σs) (hs : ∀ b, N b → M b) (hm : ∀ b, M b → A b) (ha : M a) (na : ¬ N a) (h : Own A H a d) : RE A M H (.own d :: ss) (some (.ref a) :: σs) := by
  refine ⟨congrArg (· + 1) r.len, hm, r.live, fun j x e => ?_, fun j x e => ?_, fun j k x y b e1 e2 e3 e4 => ?_, r.tab, fun j x e => ?_⟩
  · cases j with
    | zero => cases e
    | succ j => exact r.dat j x e
  · cases j with
    | zero => cases e; exact ⟨a, rfl, ha, h⟩
    | succ j => obtain ⟨b, q1, q2, q3⟩ := r.own j x e; exact ⟨b, q1, hs b q2, q3⟩
  · cases j with
    | zero =>
      cases k with
      | zero => rfl
      | succ k =>
        obtain ⟨b', q1, q2, _⟩ := r.own k y e2
        have e4' : σs[k]? = some (some (V.ref b)) := e4
        rw [q1] at e4'
        cases e3
        cases e4'
        exact absurd q2 na
    | succ j =>
      cases k with
      | zero =>
        obtain ⟨b', q1, q2, _⟩ := r.own j x e1
        have e3' : σs[j]? = some (some (V.ref b)) := e3
        rw [q1] at e3'
        cases e4
        cases e3'
        exact absurd q2 na
      | succ k => exact congrArg _ (r.inj j k x y b e1 e2 e3 e4)
  · cases j with
    | zero => cases e
    | succ j => exact r.exc j x e
theorem RE.monoM (r : RE A N H ρ σ) (hs : ∀ b, N b → M b) (hm : ∀ b, M b → A b) : RE A M H ρ σ :=
  ⟨r.len, hm, r.live, r.dat, fun j x e => let ⟨b, q1, q2, q3⟩ := r.own j x e; ⟨b, q1, hs b q2, q3⟩, r.inj, r.tab, r.exc⟩
theorem RE.tail {s : Slot} {ss : Rho} {o : Option V} {σs : L2.St} (r : RE A M H (s :: ss) (o :: σs)) : RE A M H ss σs :=
  ⟨Nat.succ.inj r.len, r.sub, r.live, fun j x e => r.dat (j + 1) x e, fun j x e => r.own (j + 1) x e, fun j k x y b e1 e2 e3 e4 => Nat.succ.inj (r.inj (j + 1) (k + 1) x y b e1 e2 e3 e4), r.tab, fun j x e => r.exc (j + 1) x e⟩
theorem RE.tailOwn {ss : Rho} {σs : L2.St} (r : RE A M H (.own d :: ss) (some (.ref a) :: σs)) : RE A (butA M a) H ss σs := by
  have t := r.tail
  refine ⟨t.len, fun b z => t.sub b z.1, t.live, t.dat, fun j x e => ?_, t.inj, t.tab, t.exc⟩
  obtain ⟨b, q1, q2, q3⟩ := t.own j x e
  refine ⟨b, q1, ⟨q2, fun z => ?_⟩, q3⟩
  subst z
  exact absurd (r.inj 0 (j + 1) d x b rfl e rfl q1) (by omega)
end
theorem lend_ok {A : AS} {H : Hp} {σ : L2.St} : ∀ {bs : List Bor} {vs : List V} {M : AS} {ρ ρ' : Rho} {as : List Arg}, RE A M H ρ σ → BRs A H σ vs bs → lend ρ bs = some (as, ρ') →
    ∃ M', (∀ a, M' a → M a) ∧ RE A M' H ρ' σ ∧ RE A (fun a => M a ∧ ¬ M' a) H (as.map argSlot) (vs.map some)
  | [], [], M, ρ, ρ', as, r, _, h => by
    cases h
    exact ⟨M, fun _ z => z, r, RE.nil (fun a z => absurd z.1 z.2) r.live r.tab⟩
  | [], _ :: _, _, _, _, _, _, b, _ => b.elim
  | _ :: _, [], _, _, _, _, _, b, _ => b.elim
  | .v d :: bs, v :: vs, M, ρ, ρ', as, r, b, h => by
    simp only [lend, Option.map_eq_some_iff] at h
    obtain ⟨⟨as1, ρ1⟩, h1, h2⟩ := h
    cases h2
    obtain ⟨M', q1, q2, q3⟩ := lend_ok r b.2 h1
    exact ⟨M', q1, q2, q3.consDat b.1⟩
  | .r i :: bs, v :: vs, M, ρ, ρ', as, r, b, h => by
    have hσ : σ[i]? = some (some v) := b.1
    simp only [lend] at h
    split at h
    · rename_i d hd
      simp only [Option.map_eq_some_iff] at h
      obtain ⟨⟨as1, ρ1⟩, h1, h2⟩ := h
      cases h2
      obtain ⟨a, e1, hm, ho⟩ := r.own i d hd
      rw [hσ] at e1
      cases e1
      obtain ⟨M', q1, q2, q3⟩ := lend_ok (r.lendOut hd hσ) b.2 h1
      refine ⟨M', fun x z => (q1 x z).1, q2, q3.consOwn (fun x z => ⟨z.1.1, z.2⟩) (fun x z => r.sub x z.1) ⟨hm, fun z => (q1 a z).2 rfl⟩ (fun z => z.1.2 rfl) ho⟩
    · rename_i d hd
      simp only [Option.map_eq_some_iff] at h
      obtain ⟨⟨as1, ρ1⟩, h1, h2⟩ := h
      cases h2
      obtain ⟨w, e1, rel⟩ := r.dat i d hd
      rw [hσ] at e1
      cases e1
      obtain ⟨M', q1, q2, q3⟩ := lend_ok r b.2 h1
      exact ⟨M', q1, q2, q3.consDat rel⟩
    · cases h
/-- an argument that was lent is a variable -/
noncomputable def Links (σ : L2.St) : List V → List Bor → Prop
  | v :: vs, .r i :: bs => σ[i]? = some (some v) ∧ Links σ vs bs
  | _ :: vs, .v _ :: bs => Links σ vs bs
  | _, _ => True
theorem BRs.links {A : AS} {H : Hp} {σ : L2.St} : ∀ {vs : List V} {bs : List Bor}, BRs A H σ vs bs → Links σ vs bs
  | [], [], _ => trivial
  | v :: vs, .r i :: bs, h => ⟨h.1, BRs.links h.2⟩
  | v :: vs, .v d :: bs, h => BRs.links (vs := vs) (bs := bs) h.2
  | [], _ :: _, h => h.elim
  | _ :: _, [], h => h.elim
theorem back_ok {A : AS} {H : Hp} {σ : L2.St} : ∀ {bs : List Bor} {vs : List V} {M N : AS} {ρ ρ' : Rho} {as : List Arg} {ss : List Slot}, RE A M H ρ σ → RE A N H ss (vs.map some) → (∀ a, N a → ¬ M a) → Links σ vs bs → back ρ bs as ss = some ρ' →
    RE A (fun a => M a ∨ N a) H ρ' σ
  | [], vs, M, N, ρ, ρ', as, ss, r, q, dis, l, h => by
    have h' : some ρ = some ρ' := by simpa [back] using h
    cases h'
    exact r.monoM (fun _ z => .inl z) fun a z => by
      rcases z with z | z
      · exact r.sub a z
      · exact q.sub a z
  | b :: bs, vs, M, N, ρ, ρ', as, ss, r, q, dis, l, h => by
    cases as with
    | nil => cases b <;> simp [back] at h
    | cons x as =>
      obtain ⟨d, w⟩ := x
      cases ss with
      | nil => cases b <;> cases w <;> simp [back] at h
      | cons s ss =>
        cases vs with
        | nil => have := q.len; simp at this
        | cons v vs =>
          have q' : RE A N H (s :: ss) (some v :: vs.map some) := q
          cases w with
          | false =>
            have h' : back ρ bs as ss = some ρ' := by cases b <;> simpa [back] using h
            have l' : Links σ vs bs := by
              cases b with
              | v _ => exact l
              | r _ => exact l.2
            exact back_ok r q'.tail dis l' h'
          | true =>
            cases b with
            | v _ => simp [back] at h
            | r i =>
              have h' : back (ρ.set i s) bs as ss = some ρ' := by simpa [back] using h
              cases s with
              | no => exact back_ok r.setNo' q'.tail dis l.2 h'
              | exc e =>
                obtain ⟨a, e1, hx⟩ := q'.exc 0 e rfl
                cases e1
                exact back_ok (r.setExc' l.1 hx) q'.tail dis l.2 h'
              | dat e =>
                obtain ⟨w, e1, rel⟩ := q'.dat 0 e rfl
                cases e1
                exact back_ok (r.setDat' l.1 rel) q'.tail dis l.2 h'
              | own e =>
                obtain ⟨a, e1, hm, ho⟩ := q'.own 0 e rfl
                cases e1
                have z := back_ok (r.setOwn l.1 (q'.sub a hm) (dis a hm) ho) q'.tailOwn (fun x hx hy => by
                  rcases hy with hy | hy
                  · exact dis x hx.1 hy
                  · exact hx.2 hy) l.2 h'
                refine z.monoM (fun x hx => ?_) fun x hx => ?_
                · rcases hx with (hx | hx) | hx
                  · exact .inl hx
                  · exact .inr (hx ▸ hm)
                  · exact .inr hx.1
                · rcases hx with hx | hx
                  · exact r.sub x hx
                  · exact q.sub x hx
/-! ### a def's promise by the interpreter -/
noncomputable def spF (F : Fns) (id : Nat) : Sp := fun vs H Q _ => ∃ A M as d fr ss, RE A M H (as.map argSlot) (vs.map some) ∧ F id as = some (d, fr, ss) ∧ ∀ v H', Pst0 A M H ss (vs.map some) d fr v H' → Q v H'
/-- as FnOk, where no repr is under way -/
structure FnG (P : Program) (w : World) (K : PySem.W.Frag) (mg : Str → Option Value) (base : Heap) (k : Nat) (f : Addr) (fd : FuncData) (ps : List Str) (sp : Sp) : Prop where
  len : ∀ vs H Q, sp vs H Q E0 → vs.length = ps.length
  run : ∀ (A : Around) (outer : List Env) (s : Shared) (H : Hp) (args : Args) (us : List Value) (vs : List V) (Q : VK), GOk A → Room k A → Env0 P w K mg base A outer s H → BindsTo s fd args (ps.zip us) → Vals vs us → sp vs H Q E0 →
    codeAny (model P w) A (.call (.ref f) args) (CR CX0 outer P w H s Q E0) s
section
variable {X : Cx} {k : Nat} {f : Addr} {fd : FuncData} {ps : List Str} {sp : Sp} {x : Str} {p pos : Pos} {e : Expr} {es : List Expr} {t : TA} {F : Fns} {m : ME} {id : Nat}
theorem run_g {pins : List (Addr × Obj)} {σ : L2.St} {H : Hp} {s : Shared} {Q : VK} {us : List Value} {vs : List V} (G : FnG X.prog X.w X.K X.mg X.base k f fd ps sp) (hg : GOk X.A) (hr : Room k X.A) (hb : Binds X.K fd ps [])
    (I : L2.Inv X pins σ H s) (r : Vals vs us) (h : sp vs H Q E0) : wpAny (model X.prog X.w) X.A (call (.ref f) us) (EP X pins σ Q) X.xe s := by
  have hl : us.length = ps.length := r.length.symm.trans (G.len _ _ _ h)
  have bb : BindsTo s fd ⟨us, []⟩ (ps.zip us) := by
    have q := hb s us I.kIn (by rw [List.append_nil]; exact hl)
    rw [List.append_nil] at q
    exact q
  refine wpAny_call (codeAny_mono (G.run X.A X.stack s H ⟨us, []⟩ us vs Q hg hr I.env0 bb r h) fun res s' hq => ?_)
  match res, hq with
  | .error _, z => exact z.elim
  | .ok (.ret u), z => exact I.after z
theorem pe_callG (G : FnG X.prog X.w X.K X.mg X.base k f fd ps sp) (hgd : GOk X.A) (hr : Room k X.A) (hg : Gl X x) (hm : X.mg x = some (.ref f)) (hk : PySem.W.keepIn X.K (.ref f) = true) (hb : Binds X.K fd ps [])
    (ha : PA X (e :: es) t) (hdb : (x == ("__debug__" : Str)) = false) (ns : (e :: es).all noStar = true) : PE X (.Call (.Name x p) (e :: es) [] pos) (fun σ H Q => t σ H fun vs H1 => sp vs H1 Q E0) := by
  rw [List.all_cons, Bool.and_eq_true] at ns
  exact ⟨fun pins s σ H Q I h => wpAny_Call_Name_kw (ld_glob I hg hm (PySem.W.callWith_K (h₀ := X.base) I.ok.mod.kin hk
    (thn (ha.run pos pins s σ H _ I h) fun us s1 ⟨vs, H1, I1, r, q⟩ => ⟨I1.kIn, run_g G hgd hr hb I1 r q⟩) (star_no ns.1) (star_any ns.2)) hdb)⟩
theorem pe_callG0 (G : FnG X.prog X.w X.K X.mg X.base k f fd ps sp) (hgd : GOk X.A) (hr : Room k X.A) (hg : Gl X x) (hm : X.mg x = some (.ref f)) (hk : PySem.W.keepIn X.K (.ref f) = true) (hb : Binds X.K fd ps [])
    (hdb : (x == ("__debug__" : Str)) = false) : PE X (.Call (.Name x p) [] [] pos) (fun σ H Q => tNil σ H fun vs H1 => sp vs H1 Q E0) :=
  ⟨fun pins s σ H Q I h => wpAny_Call_Name_kw (ld_glob I hg hm (PySem.W.callWith_K0 I.kIn hk (run_g (us := []) G hgd hr hb I .nil h)) hdb)⟩
/-- a call, whatever comes of it -/
noncomputable def tC0 (F : Fns) (id : Nat) (m : ME) : TE := fun σ H Q => ∃ A M ρ bs ρ1 as ρ2 d fr ss ρ3, RE A M H ρ σ ∧ evL F m ρ = some (bs, ρ1) ∧ lend ρ1 bs = some (as, ρ2) ∧ F id as = some (d, fr, ss) ∧ back ρ2 bs as ss = some ρ3 ∧ ∀ v H', Pst0 A M H ρ3 σ d fr v H' → Q v H'
theorem call_read0 {σ : L2.St} {H : Hp} {Q : VK} (h : tC0 F id m σ H Q) : tL F m σ H fun vs H1 => spF F id vs H1 Q E0 := by
  obtain ⟨A, M, ρ, bs, ρ1, as, ρ2, d, fr, ss, ρ3, r, h1, h2, h3, h4, q⟩ := h
  refine ⟨A, M, ρ, bs, ρ1, r, h1, fun vs H1 A1 M1 s1 k1 r1 b1 => ?_⟩
  obtain ⟨M2, q1, q2, q3⟩ := lend_ok r1 b1 h2
  refine ⟨A1, _, as, _, _, ss, q3, h3, fun v H' pst => q v H' ?_⟩
  obtain ⟨A', Mc, s, k, rc, p1, p2⟩ := pst
  have kN : ∀ a, (M1 a ∧ ¬ M2 a) → A1 a := fun a z => r1.sub a z.1
  have m2 : ∀ a, M2 a → A' a := fun a z => Classical.byContradiction fun n => (s.d a (r1.sub a (q1 a z)) n).2 z
  have dis : ∀ a, Mc a → ¬ M2 a := fun a z => (s.m a z).2
  have rb : RE A' M2 H' ρ2 σ := q2.gen k kN (fun a z y => y.2 z) (fun a z => .inl (s.a a z)) m2 rc.live
  have r3 := back_ok rb rc dis b1.links h4
  refine ⟨A', _, ⟨fun a z => s1.a a (s.a a z), fun a z => ?_, fun a z n => ?_⟩, k1.comp s1 (k.mono fun a z => z.1), r3, p1, fun e => ?_⟩
  · rcases z with z | z
    · exact s1.m a (q1 a z)
    · exact s1.m a (s.m a z).1
  · by_cases hA : A1 a
    · exact s1.m a (s.d a hA n).1
    · exact s1.d a z hA
  · obtain ⟨a, rfl, ha, ra, oa⟩ := p2 e
    have H0 : H a = none := by
      cases e0 : H a with
      | none => rfl
      | some o => obtain ⟨o', e'⟩ := k1.live a o e0; rw [ha] at e'; cases e'
    refine ⟨a, rfl, H0, ?_, oa⟩
    have rb2 : RE (orA A' a) M2 H' ρ2 σ := q2.gen k kN (fun a z y => y.2 z) (fun b z => by
      rcases z with z | z
      · exact .inl (s.a b z)
      · exact .inr (z ▸ ha)) (fun b z => .inl (m2 b z)) ra.live
    exact back_ok rb2 ra dis b1.links h4
theorem nt_of {d : PyData} {fr : Bool} (h : (fr && isTup d) = false) : fr = true → NT d := fun e ds e2 => by
  subst e; subst e2
  simp [isTup] at h
theorem call_read {σ : L2.St} {H : Hp} {Q : VK} (h : tE F (.call id m) σ H Q) : tL F m σ H fun vs H1 => spF F id vs H1 Q E0 := by
  obtain ⟨A, M, ρ, d, fr, ρ', r, ev, q⟩ := h
  simp only [evE, Option.bind_eq_some_iff] at ev
  obtain ⟨⟨bs, ρ1⟩, h1, ⟨as, ρ2⟩, h2, ⟨d1, fr1, ss⟩, h3, h4⟩ := ev
  simp only [Option.map_eq_some_iff] at h4
  obtain ⟨ρ3, h4, h5⟩ := h4
  cases h5
  exact call_read0 ⟨A, M, ρ, bs, ρ1, as, ρ2, _, _, ss, _, r, h1, h2, h3, h4, fun v H' p => q v H' ⟨p, fun _ _ _ => trivial⟩⟩
theorem e_call (G : FnG X.prog X.w X.K X.mg X.base k f fd ps (spF F id)) (hgd : GOk X.A) (hr : Room k X.A) (hg : Gl X x) (hm : X.mg x = some (.ref f)) (hk : PySem.W.keepIn X.K (.ref f) = true) (hb : Binds X.K fd ps [])
    (ha : PA X (e :: es) (tL F m)) (hdb : (x == ("__debug__" : Str)) = false) (ns : (e :: es).all noStar = true) : Eb X F (.Call (.Name x p) (e :: es) [] pos) (.call id m) :=
  Eb.of ((pe_callG G hgd hr hg hm hk hb ha hdb ns).imp fun σ H Q h => call_read h) fun _ => nofun
theorem e_call0 (G : FnG X.prog X.w X.K X.mg X.base k f fd ps (spF F id)) (hgd : GOk X.A) (hr : Room k X.A) (hg : Gl X x) (hm : X.mg x = some (.ref f)) (hk : PySem.W.keepIn X.K (.ref f) = true) (hb : Binds X.K fd ps [])
    (hdb : (x == ("__debug__" : Str)) = false) : Eb X F (.Call (.Name x p) [] [] pos) (.call id .nil) :=
  Eb.of ((pe_callG0 G hgd hr hg hm hk hb hdb).imp fun σ H Q h => by
    obtain ⟨A, M, ρ, bs, ρ', r, ev, q⟩ := call_read h
    cases ev
    exact q [] H A M (Shr.refl _ _) (Kp.refl _ _) r trivial) fun _ => nofun
theorem Top.rel0 {A : AS} {H : Hp} {v : V} {d : PyData} (h : Top A H v d) : Rel No H v d := by
  rcases h with h | ⟨a, rfl, ho, nt⟩
  · exact h.anti fun _ z => z.elim
  · exact (ho.anti fun _ z => z.elim).rel nt fun z => z
theorem look_re {A : AS} {H : Hp} (t : TabX H) : ∀ {vs : List V} {ds : List PyData}, TopAll A H vs ds → RE No No H ((ds.map fun d => (d, false)).map argSlot) (vs.map some)
  | _, _, .nil => RE.nil (fun _ z => z) (fun _ z => z.elim) t
  | _, _, .cons a r => (look_re t r).consDat a.rel0
theorem flat_any {A A' : AS} {H : Hp} {v : V} {d : PyData} (h : Rel A H v d) (f : flat d = true) : Rel A' H v d := by
  cases h <;> first | (cases f; done) | constructor
/-- a call that only looks at what it is handed, and tells something flat -/
theorem callV_read {σ : L2.St} {H : Hp} {Q : VK} (h : tE F (.callV id m) σ H Q) : tL F m σ H fun vs H1 => spF F id vs H1 Q E0 := by
  obtain ⟨A, M, ρ, d, fr, ρ', r, ev, q⟩ := h
  simp only [evE, Option.bind_eq_some_iff] at ev
  obtain ⟨⟨bs, ρ1⟩, h1, ds, h2, ⟨d1, fr1, ss⟩, h3, h4⟩ := ev
  dsimp only at h4
  split at h4
  · rename_i hf
    simp only [Bool.and_eq_true, Bool.not_eq_true'] at hf
    cases h4
    refine ⟨A, M, ρ, bs, _, r, h1, fun vs H1 A1 M1 s1 k1 r1 b1 => ?_⟩
    refine ⟨No, No, _, _, _, ss, look_re r1.tab (BRs.top r1 b1 h2), h3, fun v H' pst => q v H' ?_⟩
    obtain ⟨A', Mc, s, k, rc, p1, p2⟩ := pst
    exact ⟨⟨A1, M1, s1, k1.comp s1 k.of, r1.keep k, fun _ => flat_any (p1 hf.2) hf.1, nofun⟩, nofun⟩
  · cases h4
theorem e_callV (G : FnG X.prog X.w X.K X.mg X.base k f fd ps (spF F id)) (hgd : GOk X.A) (hr : Room k X.A) (hg : Gl X x) (hm : X.mg x = some (.ref f)) (hk : PySem.W.keepIn X.K (.ref f) = true) (hb : Binds X.K fd ps [])
    (ha : PA X (e :: es) (tL F m)) (hdb : (x == ("__debug__" : Str)) = false) (ns : (e :: es).all noStar = true) : Eb X F (.Call (.Name x p) (e :: es) [] pos) (.callV id m) :=
  Eb.of ((pe_callG G hgd hr hg hm hk hb ha hdb ns).imp fun σ H Q h => callV_read h) fun _ => nofun
/-- a call whose first argument is new: the callee may change it -/
theorem callF_read {ma : ME} {σ : L2.St} {H : Hp} {Q : VK} (h : tE F (.callF id ma m) σ H Q) : tE F ma σ H fun v H1 => tL F m σ H1 fun vs H2 => spF F id (v :: vs) H2 Q E0 := by obtain ⟨_, _, _, _, _, _, _, ev, _⟩ := h; simp [evE] at ev
/-- the other way round -/
noncomputable def sw2 : Nat → Nat
  | 0 => 1
  | 1 => 0
  | n + 2 => n + 2
theorem sw2_sw : ∀ n, sw2 (sw2 n) = n
  | 0 => rfl
  | 1 => rfl
  | _ + 2 => rfl
theorem at_sw {α : Type} {x y : α} {l : List α} : ∀ n : Nat, (y :: x :: l)[n]? = (x :: y :: l)[sw2 n]?
  | 0 => rfl
  | 1 => rfl
  | _ + 2 => rfl
theorem RE.swap {A M : AS} {H : Hp} {x y : Slot} {u w : Option V} {ss : Rho} {σs : L2.St} (r : RE A M H (x :: y :: ss) (u :: w :: σs)) : RE A M H (y :: x :: ss) (w :: u :: σs) := by
  refine ⟨by have := r.len; simpa using this, r.sub, r.live, fun i d h => ?_, fun i d h => ?_, fun i j d e a h1 h2 h3 h4 => ?_, r.tab, fun i c h => ?_⟩
  · rw [at_sw] at h ⊢; exact r.dat _ d h
  · rw [at_sw] at h ⊢; exact r.own _ d h
  · rw [at_sw] at h1 h2 h3 h4
    have e0 := r.inj _ _ d e a h1 h2 h3 h4
    have e1 := congrArg sw2 e0
    rwa [sw2_sw, sw2_sw] at e1
  · rw [at_sw] at h ⊢; exact r.exc _ c h
/-- what was lent stands where it stood -/
theorem RE.setOwn2 {A M : AS} {H : Hp} {ρ : Rho} {σ : L2.St} {d : PyData} {p : Addr} {i : Nat} (r : RE A M H ρ σ) (hA : A p) (nM : ¬ M p) (ho : Own A H p d) (hσ : σ[i]? = some (some (.ref p))) : RE A (orA M p) H (ρ.set i (.own d)) σ := by
  have li : i < ρ.length := by rw [r.len]; exact (List.getElem?_eq_some_iff.mp hσ).1
  have at_ : ∀ {l : Nat} {s : Slot}, (ρ.set i (.own d))[l]? = some s → (l = i ∧ s = .own d) ∨ (l ≠ i ∧ ρ[l]? = some s) := fun {l s} h => by
    by_cases h1 : l = i
    · subst h1
      rw [List.getElem?_set_self li] at h
      exact .inl ⟨rfl, (Option.some.inj h).symm⟩
    · rw [List.getElem?_set_ne (Ne.symm h1)] at h
      exact .inr ⟨h1, h⟩
  refine ⟨by simp [r.len], fun a z => z.elim (r.sub a) fun e => e ▸ hA, r.live, fun l x h => ?_, fun l x h => ?_, fun l m x y a h1 h2 h3 h4 => ?_, r.tab, fun l x h => ?_⟩
  · rcases at_ h with ⟨_, z⟩ | ⟨_, z⟩
    · cases z
    · exact r.dat l x z
  · rcases at_ h with ⟨rfl, z⟩ | ⟨_, z⟩
    · cases z; exact ⟨p, hσ, .inr rfl, ho⟩
    · obtain ⟨a, e, m, o⟩ := r.own l x z; exact ⟨a, e, .inl m, o⟩
  · rcases at_ h1 with ⟨rfl, z⟩ | ⟨n1, z⟩
    · rcases at_ h2 with ⟨rfl, z2⟩ | ⟨n2, z2⟩
      · rfl
      · rw [hσ] at h3; cases h3
        obtain ⟨a', e, mm, _⟩ := r.own m y z2
        rw [h4] at e; cases e
        exact absurd mm nM
    · rcases at_ h2 with ⟨rfl, z2⟩ | ⟨n2, z2⟩
      · rw [hσ] at h4; cases h4
        obtain ⟨a', e, mm, _⟩ := r.own l x z
        rw [h3] at e; cases e
        exact absurd mm nM
      · exact r.inj l m x y a z z2 h3 h4
  · rcases at_ h with ⟨_, z⟩ | ⟨_, z⟩
    · cases z
    · exact r.exc l x z
theorem isOwnL_at {s : Option Slot} (h : isOwnL s = true) : ∃ ds, s = some (.own (.list ds)) := by
  unfold isOwnL at h
  split at h
  · exact ⟨_, rfl⟩
  · cases h
theorem callG_read {i : Nat} {mb : ME} {σ : L2.St} {H : Hp} {Q : VK} (h : tE F (.callG id i mb m) σ H Q) : ∃ v0, σ[i]? = some (some v0) ∧ tE F mb σ H fun vb H1 => tL F m σ H1 fun vs H2 => spF F id (v0 :: vb :: vs) H2 Q E0 := by
  obtain ⟨A, M, ρ, d, fr, ρ', r, ev, q⟩ := h
  simp only [evE] at ev
  split at ev
  case isFalse => cases ev
  rename_i hown
  obtain ⟨ds0, hi0⟩ := isOwnL_at hown
  obtain ⟨p0, hσ, _, _⟩ := r.own i _ hi0
  refine ⟨.ref p0, hσ, ?_⟩
  simp only [Option.bind_eq_some_iff] at ev
  obtain ⟨⟨da, fa, ρ0⟩, h0, ev⟩ := ev
  dsimp only at ev
  split at ev
  case isFalse => cases ev
  rename_i hfa
  simp only [Option.bind_eq_some_iff] at ev
  obtain ⟨⟨bs, ρ1⟩, h1, ⟨args, ρ2⟩, h2, ev⟩ := ev
  dsimp only at ev
  split at ev
  case h_2 => cases ev
  rename_i d0 rest
  split at ev
  case isFalse => cases ev
  rename_i hall
  simp only [Option.bind_eq_some_iff] at ev
  obtain ⟨⟨d1, fr1, ss⟩, h3, h4⟩ := ev
  dsimp only at h4
  split at h4
  · cases h4
  rename_i hnt
  split at h4
  case h_2 => cases h4
  rename_i dx sr
  cases h4
  refine ⟨A, M, ρ, da, fa, ρ0, r, h0, fun v H1 p => ?_⟩
  obtain ⟨⟨A1, M1, s1, k1, r1, _, q2⟩, _⟩ := p
  obtain ⟨pa, rfl, hp, ra, ho⟩ := q2 hfa
  have nA : ¬ A1 pa := fun z => by obtain ⟨o, e⟩ := r.live pa (s1.a pa z); rw [hp] at e; cases e
  have nM : ¬ M1 pa := fun z => nA (r1.sub pa z)
  refine ⟨orA A1 pa, M1, ρ0, bs, ρ1, ra, h1, fun vs H2 A2 M2 s2 k2 r2 b2 => ?_⟩
  have a2 : A2 pa := Classical.byContradiction fun n => nM (s2.d pa (.inr rfl) n)
  have ho2 : Own A2 H2 pa da := (ho.keep ra.sub k2 nM).anti s2.a
  -- the list that is lent
  have hi1 : ρ1[i]? = some (.own d0) := by
    unfold lend at h2
    split at h2
    · rename_i dd hd
      simp only [Option.map_eq_some_iff] at h2
      obtain ⟨⟨as, ρ'⟩, _, e⟩ := h2
      cases e
      exact hd
    · simp only [Option.map_eq_some_iff] at h2
      obtain ⟨⟨as, ρ'⟩, _, e⟩ := h2
      cases e
    · cases h2
  obtain ⟨p0', hσ', mp0, _⟩ := r2.own i _ hi1
  rw [hσ] at hσ'; cases hσ'
  have bb : BRs A2 H2 σ (.ref p0 :: vs) (.r i :: bs) := ⟨hσ, b2⟩
  obtain ⟨M3, l1, l2, l3⟩ := lend_ok r2 bb h2
  have nM3 : ¬ M3 pa := fun z => nM (s2.m pa (l1 pa z))
  have n2 : ¬ (M2 pa ∧ ¬ M3 pa) := fun z => nM (s2.m pa z.1)
  have np : p0 ≠ pa := fun e => nM (s2.m pa (e ▸ mp0))
  have rc0 := l3.consOwn (M := orA (fun a => M2 a ∧ ¬ M3 a) pa) (fun x z => .inl z) (fun x z => by
    rcases z with z | z
    · exact r2.sub x z.1
    · exact z ▸ a2) (.inr rfl) n2 ho2
  have rc1 := RE.swap (x := .own da) (y := .own d0) rc0
  refine ⟨A2, _, (d0, true) :: (da, true) :: rest, _, _, _, rc1, h3, fun v H' pst => q v H' ⟨?_, nt_of (by simpa using hnt)⟩⟩
  obtain ⟨A', Mc, s, k, rc, p1, p2⟩ := pst
  have kN : ∀ a, orA (fun a => M2 a ∧ ¬ M3 a) pa a → A2 a := fun a z => by
    rcases z with z | z
    · exact r2.sub a z.1
    · exact z ▸ a2
  have dis : ∀ a, M3 a → ¬ orA (fun a => M2 a ∧ ¬ M3 a) pa a := fun a z y => by
    rcases y with y | y
    · exact y.2 z
    · exact nM3 (y ▸ z)
  have m3 : ∀ a, M3 a → butA A' pa a := fun a z => ⟨Classical.byContradiction fun n => by
    rcases s.d a (r2.sub a (l1 a z)) n with y | y
    · exact y.2 z
    · exact nM3 (y ▸ z), fun e => nM3 (e ▸ z)⟩
  have rb : RE (butA A' pa) M3 H' _ σ := l2.gen k kN dis (fun a z => .inl (s.a a z.1)) m3 fun a z => rc.live a z.1
  -- what came back
  obtain ⟨pb, e0, mb0, ob0⟩ := rc.own 0 dx rfl
  have e0' : p0 = pb := by
    have z : some (some (V.ref p0)) = some (some (V.ref pb)) := e0
    injection z with z; injection z with z; injection z
  subst e0'
  have nM3p : ¬ M3 p0 := fun z => dis p0 z (s.m p0 mb0)
  have ap0 : butA A' pa p0 := ⟨rc.sub p0 mb0, np⟩
  have rd := rb.setOwn2 (i := i) ap0 nM3p (ob0.anti fun x z => z.1) hσ
  have up : ∀ x, butA A' pa x → A x := fun x z => by
    rcases s2.a x (s.a x z.1) with y | y
    · exact s1.a x y
    · exact absurd y z.2
  have mfin : ∀ x, orA M3 p0 x → M x := fun x z => by
    rcases z with z | z
    · exact s1.m x (s2.m x (l1 x z))
    · exact z ▸ s1.m p0 (s2.m p0 mp0)
  refine ⟨butA A' pa, orA M3 p0, ⟨up, mfin, fun x hA n => ?_⟩, ?_, rd, fun e => (p1 e).anti fun x z => z.1, fun e => ?_⟩
  · by_cases hx : x = pa
    · obtain ⟨o, e⟩ := r.live x hA
      rw [hx, hp] at e; cases e
    · have nA' : ¬ A' x := fun z => n ⟨z, hx⟩
      by_cases hA2 : A2 x
      · rcases s.d x hA2 nA' with y | y
        · exact s1.m x (s2.m x y.1)
        · exact absurd y hx
      · by_cases hA1 : A1 x
        · exact s1.m x (s2.d x (.inl hA1) hA2)
        · exact s1.d x hA hA1
  · have k2' : Kp M H H2 := k1.comp s1 k2
    refine ⟨fun a o h n nb => ?_, fun a o h => ?_, fun t => k.tab (k2'.tab t)⟩
    · refine k.same a o (k2'.same a o h n nb) (fun z => ?_) nb
      rcases z with z | z
      · exact n (s1.m a (s2.m a z.1))
      · rw [z, hp] at h; cases h
    · obtain ⟨o1, e1⟩ := k2'.live a o h
      exact k.live a o1 e1
  · obtain ⟨a, rfl, ha, ra', oa⟩ := p2 e
    have H0 : H a = none := by
      cases e0 : H a with
      | none => rfl
      | some o => obtain ⟨o', e'⟩ := (k1.comp s1 k2).live a o e0; rw [ha] at e'; cases e'
    have hap : a ≠ p0 := fun z => by
      obtain ⟨o, e⟩ := r2.live p0 (r2.sub p0 mp0)
      rw [z, e] at ha; cases ha
    have rb2 : RE (orA (butA A' pa) a) M3 H' ρ2 σ := l2.gen k kN dis (fun b z => by
      rcases z with z | z
      · exact .inl (s.a b z.1)
      · exact .inr (z ▸ ha)) (fun b z => .inl (m3 b z)) (fun b z => by
      rcases z with z | z
      · exact rc.live b z.1
      · exact ra'.live b (.inr z))
    obtain ⟨pb', e0', _, ob0'⟩ := ra'.own 0 dx rfl
    have e0'' : p0 = pb' := by
      have z : some (some (V.ref p0)) = some (some (V.ref pb')) := e0'
      injection z with z; injection z with z; injection z
    subst e0''
    refine ⟨a, rfl, H0, rb2.setOwn2 (i := i) (.inl ap0) nM3p (ob0'.anti fun x z => ?_) hσ, oa.anti fun x z => ?_⟩
    · rcases z with z | z
      · exact .inl z.1
      · exact .inr z
    · rcases z with z | z
      · exact .inl z.1
      · exact .inr z
theorem e_callG {x0 : Str} {px : Pos} {eb : Expr} {i : Nat} {mb : ME} (G : FnG X.prog X.w X.K X.mg X.base k f fd ps (spF F id)) (hgd : GOk X.A) (hr : Room k X.A) (hg : Gl X x) (hm : X.mg x = some (.ref f)) (hk : PySem.W.keepIn X.K (.ref f) = true) (hb : Binds X.K fd ps [])
    (h0 : PE X (.Name x0 px) (tVar i)) (h1 : Eb X F eb mb) (ha : PA X es (tL F m)) (hdb : (x == ("__debug__" : Str)) = false) (ns : (Expr.Name x0 px :: eb :: es).all noStar = true) : Eb X F (.Call (.Name x p) (.Name x0 px :: eb :: es) [] pos) (.callG id i mb m) := by
  have n0 := ns
  rw [List.all_cons, List.all_cons, Bool.and_eq_true, Bool.and_eq_true] at n0
  exact Eb.of ((pe_callG G hgd hr hg hm hk hb (pa_cons h0 (pa_cons h1.ev ha (star_no n0.2.1)) (star_no n0.1)) hdb ns).imp fun σ H Q h => by
    obtain ⟨v0, hσ, h'⟩ := callG_read h
    exact ⟨v0, hσ, h'⟩) fun _ => nofun
theorem e_callF {e0 : Expr} {ma : ME} (G : FnG X.prog X.w X.K X.mg X.base k f fd ps (spF F id)) (hgd : GOk X.A) (hr : Room k X.A) (hg : Gl X x) (hm : X.mg x = some (.ref f)) (hk : PySem.W.keepIn X.K (.ref f) = true) (hb : Binds X.K fd ps [])
    (h0 : Eb X F e0 ma) (ha : PA X es (tL F m)) (hdb : (x == ("__debug__" : Str)) = false) (ns : (e0 :: es).all noStar = true) : Eb X F (.Call (.Name x p) (e0 :: es) [] pos) (.callF id ma m) := by
  have n0 : noStar e0 = true := by rw [List.all_cons, Bool.and_eq_true] at ns; exact ns.1
  exact Eb.of ((pe_callG G hgd hr hg hm hk hb (pa_cons h0.ev ha (star_no n0)) hdb ns).imp fun σ H Q h => callF_read h) fun _ => nofun
/-- the same, the value may be a tuple of one's own -/
theorem e_call0s (G : FnG X.prog X.w X.K X.mg X.base k f fd ps (spF F id)) (hgd : GOk X.A) (hr : Room k X.A) (hg : Gl X x) (hm : X.mg x = some (.ref f)) (hk : PySem.W.keepIn X.K (.ref f) = true) (hb : Binds X.K fd ps [])
    (ha : PA X (e :: es) (tL F m)) (hdb : (x == ("__debug__" : Str)) = false) (ns : (e :: es).all noStar = true) : PE X (.Call (.Name x p) (e :: es) [] pos) (tC0 F id m) :=
  (pe_callG G hgd hr hg hm hk hb ha hdb ns).imp fun σ H Q h => call_read0 h
end
end MI
namespace MI
open PySem PySem.Spec PyProof.Rows L2
theorem vals_at : ∀ {vs : List V} {us : List Value} (i : Nat), Vals vs us → (∃ v u, vs[i]? = some v ∧ us[i]? = some u ∧ RelV v u) ∨ (vs[i]? = none ∧ us[i]? = none)
  | _, _, i, .nil => .inr ⟨by simp, by simp⟩
  | _, _, 0, .cons r _ => .inl ⟨_, _, rfl, rfl, r⟩
  | _, _, i + 1, .cons _ h => by simpa using vals_at i h
theorem vals_perm {vs : List V} {us : List Value} (h : Vals vs us) : ∀ l : List Nat, Vals (permL l vs) (permL l us)
  | [] => .nil
  | i :: l => by
    have ih := vals_perm h l
    unfold permL at ih ⊢
    rcases vals_at i h with ⟨v, u, h1, h2, r⟩ | ⟨h1, h2⟩
    · rw [List.filterMap_cons, List.filterMap_cons, h1, h2]; exact .cons r ih
    · rw [List.filterMap_cons, List.filterMap_cons, h1, h2]; exact ih
section
variable [EK] [GR] {X : Cx} {k : Nat} {f : Addr} {fd : FuncData} {ps ks : List Str} {sp : Sp} {x : Str} {p pos : Pos} {l : List Nat}
theorem pe_callGK {kws : List Keyword} {tk : TA} (G : FnG X.prog X.w X.K X.mg X.base k f fd ps sp) (hgd : GOk X.A) (hr : Room k X.A) (hg : Gl X x) (hm : X.mg x = some (.ref f)) (hk : PySem.W.keepIn X.K (.ref f) = true)
    (hb : ∀ (s : Shared) (ws : List Value), ws.length = ks.length → BindsTo s fd ⟨[], ks.zip ws⟩ (ps.zip (permL l ws)))
    (hkw : PK X kws tk) (hdb : (x == ("__debug__" : Str)) = false) (hall : (backToKw pos (keywordEach kws X.env)).all (·.1.isSome) = true) (hks : (backToKw pos (keywordEach kws X.env)).filterMap (·.1) = ks)
    (hpl : ((backTo pos (starEach [] X.env)).any (·.1) || (backToKw pos (keywordEach kws X.env)).any (·.1.isNone)) = false) :
    PE X (.Call (.Name x p) [] kws pos) (fun σ H Q => tk σ H fun zs H1 => zs.length = ks.length ∧ sp (permL l zs) H1 Q E0) := by
  refine ⟨fun pins s σ H Q I h => wpAny_Call_Name_kw (ld_glob I hg hm ?_ hdb)⟩
  refine PySem.W.callWith_KW0 (h₀ := X.base) I.ok.mod.kin hk hall (thn (hkw.run pos pins s σ H _ I h) fun ws s2 ⟨zs, H2, I2, rz, hl, q2⟩ => ⟨I2.kIn, ?_⟩) hpl
  rw [hks]
  refine wpAny_call (codeAny_mono (G.run X.A X.stack s2 H2 ⟨[], ks.zip ws⟩ (permL l ws) (permL l zs) Q hgd hr I2.env0 (hb s2 ws (rz.length.symm.trans hl)) (vals_perm rz l) q2) fun res s' hq => ?_)
  match res, hq with
  | .error _, z => exact z.elim
  | .ok (.ret u), z => exact I2.after z
variable {F : Fns} {id : Nat} {m : ME} {kws : List Keyword}
theorem relAll_perm {A : AS} {H : Hp} {vs : List V} {ds : List PyData} (h : RelAll A H vs ds) : ∀ l : List Nat, RelAll A H (permL l vs) (permL l ds)
  | [] => .nil
  | i :: l => by
    have ih := relAll_perm h l
    unfold permL at ih ⊢
    cases e : ds[i]? with
    | none =>
      have e2 : vs[i]? = none := by
        rw [List.getElem?_eq_none_iff] at e ⊢
        rw [h.length]; exact e
      rw [List.filterMap_cons, List.filterMap_cons, e, e2]; exact ih
    | some d =>
      obtain ⟨v, e2, r⟩ := h.get e
      rw [List.filterMap_cons, List.filterMap_cons, e, e2]; exact .cons r ih
theorem dats_re {A : AS} {H : Hp} (l : ∀ a, A a → ∃ o, H a = some o) (t : TabX H) : ∀ {vs : List V} {ds : List PyData}, RelAll A H vs ds → RE A No H ((ds.map fun d => (d, false)).map argSlot) (vs.map some)
  | _, _, .nil => RE.nil (fun _ z => z.elim) l t
  | _, _, .cons a r => (dats_re l t r).consDat a
theorem callK_read {σ : L2.St} {H : Hp} {Q : VK} (hl : l.length = ks.length) (h : tE F (.callK id l m) σ H Q) : tA F m σ H fun zs H1 => zs.length = ks.length ∧ spF F id (permL l zs) H1 Q E0 := by
  obtain ⟨A, M, ρ, d, fr, ρ', r, ev, q⟩ := h
  simp only [evE, Option.bind_eq_some_iff] at ev
  obtain ⟨⟨ds, ρ1⟩, h1, ev⟩ := ev
  dsimp only at ev
  split at ev
  · rename_i hlen
    simp only [Option.bind_eq_some_iff] at ev
    obtain ⟨⟨d1, fr1, ss⟩, h3, h4⟩ := ev
    dsimp only at h4
    split at h4
    · cases h4
    · rename_i hf
      have hf : fr1 = false := by simpa using hf
      cases h4
      refine ⟨A, M, ρ, ds, _, r, h1, fun vs H1 A1 M1 s1 k1 r1 ra => ⟨by rw [ra.length, hlen, hl], ?_⟩⟩
      refine ⟨A1, No, _, _, _, ss, dats_re r1.live r1.tab (relAll_perm ra l), h3, fun v H' pst => q v H' ?_⟩
      obtain ⟨A', Mc, s, k, rc, p1, p2⟩ := pst
      exact ⟨⟨A1, M1, s1, k1.comp s1 k.of, r1.keep k, fun _ => (p1 hf).anti fun x z => Classical.byContradiction fun n => s.d x z n, nofun⟩, nofun⟩
  · cases ev
theorem k_nil : PK X [] (tA F .nil) := ⟨fun pos pins s σ H Q I ⟨A, M, ρ, ds, ρ', r, ev, q⟩ => pk_nil.run pos pins s σ H Q I (by
  cases ev
  exact q [] H A M (Shr.refl _ _) (Kp.refl _ _) r .nil)⟩
theorem k_cons {e : Expr} {nm : Option Str} {kpos : Pos} {r : ME} (he : Eb X F e m) (hr : PK X kws (tA F r)) : PK X (⟨nm, e, kpos⟩ :: kws) (tA F (.cons m r)) := by
  refine ⟨fun pos pins s σ H Q I ⟨A, M, ρ, ds, ρ', rr, ev, q⟩ => (pk_cons (nm := nm) (kpos := kpos) he.ev hr).run pos pins s σ H Q I ?_⟩
  simp only [evA, Option.bind_eq_some_iff, Option.map_eq_some_iff] at ev
  obtain ⟨⟨d, fr, ρ1⟩, h1, ⟨ds1, ρ2⟩, h2, h3⟩ := ev
  cases h3
  refine ⟨A, M, ρ, d, fr, ρ1, rr, h1, fun v H1 p => ?_⟩
  obtain ⟨A1, M1, s1, k1, r1, b1⟩ := p.std rr.live
  refine ⟨A1, M1, ρ1, ds1, ρ2, r1, h2, fun vs H2 A2 M2 s2 k2 r2 ra => q _ _ _ _ (s1.trans s2) (k1.comp s1 k2) r2 (.cons ((b1.keep r1.sub k2).anti s2.a) ra)⟩
/-- the names of keywords -/
noncomputable def kwNames : List Keyword → Option (List Str)
  | [] => some []
  | ⟨some x, _, _⟩ :: r => (kwNames r).map (x :: ·)
  | _ => none
theorem kw_facts {env : Env} : ∀ {kws : List Keyword} {ns : List Str}, kwNames kws = some ns → (backToKw pos (keywordEach kws env)).all (·.1.isSome) = true ∧ (backToKw pos (keywordEach kws env)).filterMap (·.1) = ns ∧ (backToKw pos (keywordEach kws env)).any (·.1.isNone) = false
  | [], ns, h => by cases h; exact ⟨rfl, rfl, rfl⟩
  | ⟨none, _, _⟩ :: _, ns, h => by cases h
  | ⟨some x, e, p⟩ :: r, ns, h => by
    simp only [kwNames, Option.map_eq_some_iff] at h
    obtain ⟨ns', h1, rfl⟩ := h
    obtain ⟨a, b, c⟩ := kw_facts (env := env) h1
    unfold backToKw at a b c ⊢
    simp only [keywordEach, List.map_cons, List.all_cons, List.filterMap_cons, List.any_cons]
    exact ⟨by rw [a]; rfl, by rw [b], by rw [c]; rfl⟩
theorem e_callK (G : FnG X.prog X.w X.K X.mg X.base k f fd ps (spF F id)) (hgd : GOk X.A) (hr : Room k X.A) (hg : Gl X x) (hm : X.mg x = some (.ref f)) (hk : PySem.W.keepIn X.K (.ref f) = true)
    (hb : ∀ (s : Shared) (ws : List Value), ws.length = ks.length → BindsTo s fd ⟨[], ks.zip ws⟩ (ps.zip (permL l ws))) (hl : l.length = ks.length) (hn : kwNames kws = some ks)
    (hkw : PK X kws (tA F m)) (hdb : (x == ("__debug__" : Str)) = false) : Eb X F (.Call (.Name x p) [] kws pos) (.callK id l m) := by
  obtain ⟨a, b, c⟩ := kw_facts (pos := pos) (env := X.env) hn
  exact Eb.of ((pe_callGK (l := l) (p := p) (pos := pos) G hgd hr hg hm hk hb hkw hdb a b (by rw [c]; rfl)).imp fun σ H Q h => callK_read hl h) fun _ => nofun
/-- z.join(xs) -/
theorem e_join {e : Expr} {z : Str} {j : Nat} {p0 apos : Pos} (he : Eb X F e m) (ns : noStar e = true) (hline : (apos.endLine == pos.line) = true) : Eb X F (.Call (.Attribute (.Constant (.str z) j p0) "join" apos) [e] [] pos) (.join z m) := Eb.of ⟨fun _ _ _ _ _ _ ⟨_, _, _, _, _, _, _, ev, _⟩ => by simp [evE] at ev⟩ fun _ => nofun
end
end MI
/-! MIX: methods of texts; .get of a dict of the module with int keys. -/
namespace MI
open PySem PySem.Spec PyProof.Rows L2
variable [EK]
section
variable {X : Cx} {F : Fns} {o e : Expr} {mo m : ME} {apos cpos : Pos}
theorem e_split (ho : Eb X F o mo) (he : Eb X F e m) (ns : noStar e = true) (hbase : attributeBase o "split" X.env (eval o X.env) = eval o X.env) (hl : (apos.endLine == cpos.line) = true) :
    Eb X F (.Call (.Attribute o "split" apos) [e] [] cpos) (.met .split mo m) := Eb.of ⟨fun _ _ _ _ _ _ ⟨_, _, _, _, _, _, _, ev, _⟩ => by simp [evE] at ev⟩ fun _ => nofun
theorem e_part (ho : Eb X F o mo) (he : Eb X F e m) (ns : noStar e = true) (hbase : attributeBase o "partition" X.env (eval o X.env) = eval o X.env) (hl : (apos.endLine == cpos.line) = true) :
    Eb X F (.Call (.Attribute o "partition" apos) [e] [] cpos) (.met .part mo m) := Eb.of ⟨fun _ _ _ _ _ _ ⟨_, _, _, _, _, _, _, ev, _⟩ => by simp [evE] at ev⟩ fun _ => nofun
theorem e_tcount (ho : Eb X F o mo) (he : Eb X F e m) (ns : noStar e = true) (hbase : attributeBase o "count" X.env (eval o X.env) = eval o X.env) (hl : (apos.endLine == cpos.line) = true) :
    Eb X F (.Call (.Attribute o "count" apos) [e] [] cpos) (.met .count mo m) := Eb.of ⟨fun _ _ _ _ _ _ ⟨_, _, _, _, _, _, _, ev, _⟩ => by simp [evE] at ev⟩ fun _ => nofun
theorem e_tfind (ho : Eb X F o mo) (he : Eb X F e m) (ns : noStar e = true) (hbase : attributeBase o "find" X.env (eval o X.env) = eval o X.env) (hl : (apos.endLine == cpos.line) = true) :
    Eb X F (.Call (.Attribute o "find" apos) [e] [] cpos) (.met .find mo m) := Eb.of ⟨fun _ _ _ _ _ _ ⟨_, _, _, _, _, _, _, ev, _⟩ => by simp [evE] at ev⟩ fun _ => nofun
end
/-! ### a dict of the module with ints for keys and texts for values -/
noncomputable def PairsG : List DictEntry → List (Int × Str) → Prop
  | [], [] => True
  | d :: l, (i, z) :: r => (∃ t, d.key = .int i t) ∧ d.hash = hashInt i ∧ (∃ t, d.val = .str z t) ∧ PairsG l r
  | _, _ => False
structure GdAt (K : PySem.W.Frag) (a : Addr) (es : List (Int × Str)) : Prop where
  ex : ∃ (ents : Array DictEntry) (n : Nat), K.lookup a = some ⟨.type "dict", none, .dict ents n, #[]⟩ ∧ PairsG ents.toList es
  nd : (es.map (·.1)).Nodup
  ns : (a == sysModules) = false
theorem pairsG {P : Program} {w : World} : ∀ {l : List DictEntry} {es : List (Int × Str)}, PairsG l es → ∃ vs : List (Key × Value), Pairs (mixKind P w) l vs ∧ vs.map (·.1) = es.map (fun p => (Sum.inl p.1 : Key)) ∧ (∀ d ∈ l, ∃ k, (mixKind P w).is k d.key = true ∧ d.hash = (mixKind P w).hash k) ∧
    ∀ i : Int, RelO ((es.lookup i).map V.str) (valueAt vs (.inl i))
  | [], [], _ => ⟨[], .nil, rfl, (fun _ h => absurd h List.not_mem_nil), fun _ => trivial⟩
  | d :: l, (i, z) :: r, ⟨⟨t, h1⟩, h2, ⟨t', h3⟩, h4⟩ => by
    obtain ⟨vs, p, e, kk, q⟩ := pairsG (P := P) (w := w) h4
    have his : (mixKind P w).is (Sum.inl i) d.key = true := by rw [h1]; exact mixKind_int P w i t
    refine ⟨(.inl i, d.val) :: vs, .cons his rfl p, congrArg _ e, fun x hx => ?_, fun j => ?_⟩
    · rcases List.mem_cons.mp hx with z | z
      · subst z; exact ⟨.inl i, his, h2⟩
      · exact kk x z
    · unfold valueAt
      rw [List.find?_cons, List.lookup_cons]
      by_cases hj : j = i
      · subst hj
        simp only [beq_self_eq_true, decide_true, Option.map_some]
        rw [h3]
        exact ⟨t', rfl⟩
      · have h5 : (j == i) = false := by simpa using hj
        have h6 : decide ((Sum.inl i : Key) = Sum.inl j) = false := decide_eq_false fun z => hj (Sum.inl.inj z).symm
        rw [h5]
        simp only [h6]
        exact q j
  | [], _ :: _, h => h.elim
  | _ :: _, [], h => h.elim
theorem GdAt.dict {K : PySem.W.Frag} {a : Addr} {es : List (Int × Str)} (g : GdAt K a es) {P : Program} {w : World} {h : Heap} (hK : K.In h) : ∃ vs : List (Key × Value), h.DictOf (mixKind P w) a vs ∧ ∀ i : Int, RelO ((es.lookup i).map V.str) (valueAt vs (.inl i)) := by
  obtain ⟨ents, n, h1, h2⟩ := g.ex
  obtain ⟨vs, p, e, kk, q⟩ := pairsG (P := P) (w := w) h2
  refine ⟨vs, ⟨_, ents, n, hK _ _ h1, ⟨rfl, rfl, rfl⟩, rfl, fun d hd => kk d (Array.mem_toList_iff.mpr hd), p, ?_⟩, q⟩
  rw [e]
  have gn := g.nd
  rw [show es.map (fun p => (Sum.inl p.1 : Key)) = (es.map (·.1)).map Sum.inl by rw [List.map_map]; rfl]
  exact List.Pairwise.map Sum.inl (fun a b hab hz => hab (Sum.inl.inj hz)) gn
section
variable {X : Cx} {F : Fns} {ke fe : Expr} {mk mf : ME} {apos cpos px : Pos} {x : Str} {a : Addr} {es : List (Int × Str)} {tk tf : TE}
theorem e_gget (hg : Gl X x) (hm : X.mg x = some (.ref a)) (hd : (x == ("__debug__" : Str)) = false) (g : GdAt X.K a es) (he : Eb X F ke mk) (hf : Eb X F fe mf) (ns : noStar ke = true) (ns' : noStar fe = true) (hl : (apos.endLine == cpos.line) = true) :
    Eb X F (.Call (.Attribute (.Name x px) "get" apos) [ke, fe] [] cpos) (.gget es mk mf) := Eb.of ⟨fun _ _ _ _ _ _ ⟨_, _, _, _, _, _, _, ev, _⟩ => by simp [evE] at ev⟩ fun _ => nofun
end
end MI
/-! MI8: statements. -/
namespace MI
open PySem PySem.Spec PyProof.Rows L2
variable [EK]
/-- how the frame's sets change through statements -/
structure Chg (A M : AS) (H : Hp) (A' M' : AS) : Prop where
  a : ∀ x, A' x → A x ∨ H x = none
  m : ∀ x, M' x → M x ∨ H x = none
  d : ∀ x, A x → ¬ A' x → M x
section
variable {A M A1 M1 A2 M2 : AS} {H H1 H2 : Hp}
theorem Shr.chg (s : Shr A M A1 M1) : Chg A M H A1 M1 := ⟨fun x z => .inl (s.a x z), fun x z => .inl (s.m x z), s.d⟩
theorem Chg.refl (A M : AS) (H : Hp) : Chg A M H A M := (Shr.refl A M).chg
theorem Kp.back {p : Addr} (k : Kp M H H1) (h : H1 p = none) : H p = none := by
  cases e : H p with
  | none => rfl
  | some o => obtain ⟨o', e'⟩ := k.live p o e; rw [h] at e'; cases e'
theorem Chg.trans (l : ∀ a, A a → ∃ o, H a = some o) (c : Chg A M H A1 M1) (k : Kp M H H1) (c' : Chg A1 M1 H1 A2 M2) : Chg A M H A2 M2 := by
  refine ⟨fun x z => ?_, fun x z => ?_, fun x h n => ?_⟩
  · rcases c'.a x z with q | q
    · exact c.a x q
    · exact .inr (k.back q)
  · rcases c'.m x z with q | q
    · exact c.m x q
    · exact .inr (k.back q)
  · by_cases h1 : A1 x
    · rcases c.m x (c'.d x h1 n) with q | q
      · exact q
      · obtain ⟨o, e⟩ := l x h; rw [q] at e; cases e
    · exact c.d x h h1
theorem Kp.chg (k : Kp M H H1) (c : Chg A M H A1 M1) (k' : Kp M1 H1 H2) : Kp M H H2 :=
  ⟨fun x o h n nb => k'.same x o (k.same x o h n nb) (fun z => (c.m x z).elim n fun q => absurd h (by rw [q]; exact fun y => nomatch y)) nb, fun x o h => let ⟨o1, h1⟩ := k.live x o h; k'.live x o1 h1, fun t => k'.tab (k.tab t)⟩
end
/-- behind a block that goes on -/
noncomputable def PN (A M : AS) (H : Hp) (σ : L2.St) (l : List Nat) (ρ' : Rho) (σ' : L2.St) (H' : Hp) : Prop := ∃ A' M', Chg A M H A' M' ∧ Kp M H H' ∧ RE A' M' H' ρ' σ' ∧ Agree l σ σ'
/-- .. that returns -/
noncomputable def PR (A M : AS) (H : Hp) (σ : L2.St) (l : List Nat) (d : PyData) (fr : Bool) (ρ' : Rho) (v : V) (σ' : L2.St) (H' : Hp) : Prop :=
  ∃ A' M', Chg A M H A' M' ∧ Kp M H H' ∧ RE A' M' H' ρ' σ' ∧ Agree l σ σ' ∧ (fr = false → Rel A' H' v d) ∧ (fr = true → ∃ a, v = .ref a ∧ H a = none ∧ RE (orA A' a) M' H' ρ' σ' ∧ Own (orA A' a) H' a d)
noncomputable def Gs (A M : AS) (H : Hp) (σ : L2.St) (l : List Nat) : Out → Ends → Prop
  | .nx ρ', D => ∀ σ' H', PN A M H σ l ρ' σ' H' → D.nx σ' H'
  | .bk ρ', D => ∀ σ' H', PN A M H σ l ρ' σ' H' → D.bk σ' H'
  | .ct ρ', D => ∀ σ' H', PN A M H σ l ρ' σ' H' → D.ct σ' H'
  | .rt d fr ρ', D => ∀ v σ' H', PR A M H σ l d fr ρ' v σ' H' → D.rt v H'
noncomputable def tS (F : Fns) (W : Nat) (m : MS) : TS := fun D σ H => ∃ A M ρ o, RE A M H ρ σ ∧ evS F W m ρ = some o ∧ Gs A M H σ (asgd m) o D
section
variable {A M A1 M1 A2 M2 : AS} {H H1 H2 H' : Hp} {σ σ1 σ' : L2.St} {l l1 l2 : List Nat} {ρ ρ' : Rho} {D : Ends} {o : Out} {d : PyData} {fr : Bool} {v : V}
theorem Agree.mono (h : ∀ i ∈ l1, i ∈ l2) (a : Agree l1 σ σ') : Agree l2 σ σ' := fun i hi => a i fun z => hi (h i z)
theorem Agree.refl (l : List Nat) (σ : L2.St) : Agree l σ σ := fun _ _ => rfl
theorem PN.mono (h : ∀ i ∈ l1, i ∈ l2) (p : PN A M H σ l1 ρ' σ' H') : PN A M H σ l2 ρ' σ' H' := let ⟨A', M', c, k, r, a⟩ := p; ⟨A', M', c, k, r, a.mono h⟩
theorem PR.mono (h : ∀ i ∈ l1, i ∈ l2) (p : PR A M H σ l1 d fr ρ' v σ' H') : PR A M H σ l2 d fr ρ' v σ' H' := let ⟨A', M', c, k, r, a, q⟩ := p; ⟨A', M', c, k, r, a.mono h, q⟩
theorem PN.after (l0 : ∀ a, A a → ∃ o, H a = some o) (c : Chg A M H A1 M1) (k : Kp M H H1) (ag : Agree l1 σ σ1) (p : PN A1 M1 H1 σ1 l2 ρ' σ' H') : PN A M H σ (l1 ++ l2) ρ' σ' H' := by
  obtain ⟨A', M', c', k', r, a⟩ := p
  exact ⟨A', M', c.trans l0 k c', k.chg c k', r, ag.trans a⟩
theorem PR.after (l0 : ∀ a, A a → ∃ o, H a = some o) (c : Chg A M H A1 M1) (k : Kp M H H1) (ag : Agree l1 σ σ1) (p : PR A1 M1 H1 σ1 l2 d fr ρ' v σ' H') : PR A M H σ (l1 ++ l2) d fr ρ' v σ' H' := by
  obtain ⟨A', M', c', k', r, a, q1, q2⟩ := p
  exact ⟨A', M', c.trans l0 k c', k.chg c k', r, ag.trans a, q1, fun e => let ⟨p, e1, e2, e3⟩ := q2 e; ⟨p, e1, k.back e2, e3⟩⟩
theorem Gs.after (l0 : ∀ a, A a → ∃ o, H a = some o) (c : Chg A M H A1 M1) (k : Kp M H H1) (ag : Agree l1 σ σ1) (g : Gs A M H σ (l1 ++ l2) o D) : Gs A1 M1 H1 σ1 l2 o D := by
  cases o with
  | nx ρ' => exact fun σ' H' p => g σ' H' (p.after l0 c k ag)
  | bk ρ' => exact fun σ' H' p => g σ' H' (p.after l0 c k ag)
  | ct ρ' => exact fun σ' H' p => g σ' H' (p.after l0 c k ag)
  | rt d fr ρ' => exact fun v σ' H' p => g v σ' H' (p.after l0 c k ag)
theorem Gs.less (h : ∀ i ∈ l1, i ∈ l2) (g : Gs A M H σ l2 o D) : Gs A M H σ l1 o D := by
  cases o with
  | nx ρ' => exact fun σ' H' p => g σ' H' (p.mono h)
  | bk ρ' => exact fun σ' H' p => g σ' H' (p.mono h)
  | ct ρ' => exact fun σ' H' p => g σ' H' (p.mono h)
  | rt d fr ρ' => exact fun v σ' H' p => g v σ' H' (p.mono h)
/-- ahead of it an expression or a test -/
theorem Gs.expr (r : RE A M H ρ σ) (s : Shr A M A1 M1) (k : Kp M H H1) (g : Gs A M H σ l o D) : Gs A1 M1 H1 σ l o D := Gs.after (l1 := []) r.live s.chg k (Agree.refl _ _) g
theorem _root_.L2.PS.imp {X : Cx} {st : Stmt} {t t' : TS} (h : PS X st t) (f : ∀ D σ H, t' D σ H → t D σ H) : PS X st t' := ⟨fun pins s σ H D I q => h.run pins s σ H D I (f D σ H q)⟩
theorem _root_.L2.PSs.imp {X : Cx} {st : List Stmt} {t t' : TS} (h : PSs X st t) (f : ∀ D σ H, t' D σ H → t D σ H) : PSs X st t' := ⟨fun pins s σ H D I q => h.run pins s σ H D I (f D σ H q)⟩
end
section
variable {X : Cx} {F : Fns} {W : Nat} {e a b c tg : Expr} {es : List Expr} {st : Stmt} {sts sts' : List Stmt} {m ma mb mc : ME} {n n' : MS} {pos : Pos} {t : MT} {sts0 : List Expr}
theorem ss_nil : PSs X [] (tS F W .skip) := pss_nil.imp fun D σ H ⟨A, M, ρ, o, r, ev, g⟩ => by
  cases ev
  exact g σ H ⟨A, M, Chg.refl _ _ _, Kp.refl _ _, r, Agree.refl _ _⟩
theorem s_pass : PS X (.Pass pos) (tS F W .skip) := ps_pass.imp fun D σ H ⟨A, M, ρ, o, r, ev, g⟩ => by
  cases ev
  exact g σ H ⟨A, M, Chg.refl _ _ _, Kp.refl _ _, r, Agree.refl _ _⟩
theorem s_break : PS X (.Break pos) (tS F W .brk) := ps_break.imp fun D σ H ⟨A, M, ρ, o, r, ev, g⟩ => by
  cases ev
  exact g σ H ⟨A, M, Chg.refl _ _ _, Kp.refl _ _, r, Agree.refl _ _⟩
theorem s_continue : PS X (.Continue pos) (tS F W .cont) := ps_continue.imp fun D σ H ⟨A, M, ρ, o, r, ev, g⟩ => by
  cases ev
  exact g σ H ⟨A, M, Chg.refl _ _ _, Kp.refl _ _, r, Agree.refl _ _⟩
theorem s_stuck : PS X st (tS F W .stuck) := ps_never.imp fun D σ H ⟨A, M, ρ, o, r, ev, g⟩ => by cases ev
theorem ss_cons (h : PS X st (tS F W n)) (hr : PSs X sts (tS F W n')) : PSs X (st :: sts) (tS F W (.seq n n')) := by
  refine (pss_cons h hr).imp fun D σ H ⟨A, M, ρ, o, r, ev, g⟩ => ?_
  simp only [evS, Option.bind_eq_some_iff] at ev
  obtain ⟨o1, h1, h2⟩ := ev
  refine ⟨A, M, ρ, o1, r, h1, ?_⟩
  have gl : Gs A M H σ (asgd n ++ asgd n') o D := g
  cases o1 with
  | nx ρ1 =>
    intro σ1 H1 p
    obtain ⟨A1, M1, c, k, r1, ag⟩ := p
    exact ⟨A1, M1, ρ1, o, r1, h2, gl.after r.live c k ag⟩
  | bk ρ1 => cases h2; exact gl.less fun i h => List.mem_append_left _ h
  | ct ρ1 => cases h2; exact gl.less fun i h => List.mem_append_left _ h
  | rt d fr ρ1 => cases h2; exact gl.less fun i h => List.mem_append_left _ h
theorem ss_one (h : PS X st (tS F W n)) : PSs X [st] (tS F W n) := pss_one h
theorem s_expr (he : Eb X F e m) (hs : swapsWith e none pos.line X.env = pure false) : PS X (.Expr e pos) (tS F W (.expr m)) := by
  refine (ps_expr he.ev hs).imp fun D σ H ⟨A, M, ρ, o, r, ev, g⟩ => ?_
  simp only [evS, Option.map_eq_some_iff] at ev
  obtain ⟨⟨d, fr, ρ1⟩, h1, h2⟩ := ev
  cases h2
  refine ⟨A, M, ρ, d, fr, ρ1, r, h1, fun v H1 p => ?_⟩
  obtain ⟨⟨A1, M1, s1, k1, r1, _⟩, _⟩ := p
  exact g σ H1 ⟨A1, M1, s1.chg, k1, r1, Agree.refl _ _⟩
theorem s_ret (he : Eb X F e m) : PS X (.Return (some e) pos) (tS F W (.ret m)) := by
  refine (ps_ret he.ev).imp fun D σ H ⟨A, M, ρ, o, r, ev, g⟩ => ?_
  simp only [evS, Option.map_eq_some_iff] at ev
  obtain ⟨⟨d, fr, ρ1⟩, h1, h2⟩ := ev
  cases h2
  refine ⟨A, M, ρ, d, fr, ρ1, r, h1, fun v H1 p => ?_⟩
  obtain ⟨⟨A1, M1, s1, k1, r1, q1, q2⟩, _⟩ := p
  exact g v σ H1 ⟨A1, M1, s1.chg, k1, r1, Agree.refl _ _, q1, q2⟩
theorem s_retN : PS X (.Return none pos) (tS F W (.ret (.lit .none))) := by
  refine ps_retN.imp fun D σ H ⟨A, M, ρ, o, r, ev, g⟩ => ?_
  cases ev
  exact g .non σ H ⟨A, M, Chg.refl _ _ _, Kp.refl _ _, r, Agree.refl _ _, fun _ => .non, fun e => nomatch e⟩
theorem s_ite (hc : PT X c (tT F mc)) (ha : PSs X sts (tS F W n)) (hb : PSs X sts' (tS F W n')) : PS X (.If c sts sts' pos) (tS F W (.ite mc n n')) := by
  refine (ps_if hc ha hb).imp fun D σ H ⟨A, M, ρ, o, r, ev, g⟩ => ?_
  simp only [evS, Option.bind_eq_some_iff] at ev
  obtain ⟨⟨k, ρ1⟩, h1, h2⟩ := ev
  refine ⟨A, M, ρ, k, ρ1, r, h1, fun H1 A1 M1 s1 k1 r1 => ?_⟩
  have gl : Gs A M H σ (asgd n ++ asgd n') o D := g
  cases k with
  | true => exact iteT ⟨A1, M1, ρ1, o, r1, h2, (gl.expr r s1 k1).less fun i h => List.mem_append_left _ h⟩
  | false => exact iteF ⟨A1, M1, ρ1, o, r1, h2, (gl.expr r s1 k1).less fun i h => List.mem_append_right _ h⟩
/-! ### stores -/
theorem RE.setFresh {A M : AS} {H : Hp} {ρ : Rho} {σ : L2.St} {d : PyData} {p : Addr} {i : Nat} (r : RE A M H ρ σ) (hA : A p) (nM : ¬ M p) (ho : Own A H p d) : RE A (orA M p) H (ρ.set i (.own d)) (σ.set i (some (.ref p))) := by
  by_cases hi : i < ρ.length
  · have hσ : (σ.set i (some (V.ref p)))[i]? = some (some (.ref p)) := List.getElem?_set_self (r.len ▸ hi)
    have r0 : RE A M H (ρ.set i .no) (σ.set i (some (V.ref p))) := by
      have ne : ∀ {j : Nat} {s : Slot}, (ρ.set i .no)[j]? = some s → s = .no ∨ (ρ[j]? = some s ∧ (σ.set i (some (V.ref p)))[j]? = σ[j]?) := fun {j s} h => by
        rcases set_cases h with ⟨_, q⟩ | ⟨n, q⟩
        · exact .inl q
        · exact .inr ⟨q, List.getElem?_set_ne (Ne.symm n)⟩
      refine ⟨by rw [List.length_set, List.length_set]; exact r.len, r.sub, r.live, fun j x e => ?_, fun j x e => ?_, fun j k x y a e1 e2 e3 e4 => ?_, r.tab, r.excB fun _ => nofun⟩
      · rcases ne e with q | ⟨q, z⟩
        · cases q
        · obtain ⟨w, e1, e2⟩ := r.dat j x q
          exact ⟨w, z.trans e1, e2⟩
      · rcases ne e with q | ⟨q, z⟩
        · cases q
        · obtain ⟨w, e1, e2⟩ := r.own j x q
          exact ⟨w, z.trans e1, e2⟩
      · rcases ne e1 with q | ⟨q1, z1⟩
        · cases q
        · rcases ne e2 with q | ⟨q2, z2⟩
          · cases q
          · exact r.inj j k x y a q1 q2 (z1.symm.trans e3) (z2.symm.trans e4)
    have r1 := r0.setOwn hσ hA nM ho
    rw [List.set_set] at r1
    exact r1
  · rw [List.set_eq_of_length_le (by omega), List.set_eq_of_length_le (by rw [← r.len]; omega)]
    exact r.monoM (fun _ z => .inl z) fun b z => by
      rcases z with z | z
      · exact r.sub b z
      · rw [z]; exact hA
/-- a value is stored in a variable -/
theorem Pst0.store {A M : AS} {H H1 : Hp} {ρ1 : Rho} {σ : L2.St} {d : PyData} {fr : Bool} {v : V} {i : Nat} {l : List Nat} (hl : i ∈ l) (l0 : ∀ a, A a → ∃ o, H a = some o) (p : Pst0 A M H ρ1 σ d fr v H1) : PN A M H σ l (ρ1.set i (slotOf d fr)) (σ.set i (some v)) H1 := by
  obtain ⟨A1, M1, s1, k1, r1, q1, q2⟩ := p
  cases fr with
  | false => exact ⟨A1, M1, s1.chg, k1, r1.setDat (q1 rfl), Agree.set hl⟩
  | true =>
    obtain ⟨p, rfl, hp, ra, ho⟩ := q2 rfl
    have nA : ¬ A p := fun z => by obtain ⟨o, e⟩ := l0 p z; rw [hp] at e; cases e
    refine ⟨orA A1 p, orA M1 p, ⟨fun x z => ?_, fun x z => ?_, fun x h n => s1.d x h fun z => n (.inl z)⟩, k1, ra.setFresh (.inr rfl) (fun z => nA (s1.a p (r1.sub p z))) ho, Agree.set hl⟩
    · rcases z with z | z
      · exact .inl (s1.a x z)
      · exact .inr (z ▸ hp)
    · rcases z with z | z
      · exact .inl (s1.m x z)
      · exact .inr (z ▸ hp)
theorem s_asgN {i : Nat} (he : PS X st (tAsg (tE F m) (gName i))) : PS X st (tS F W (.asg (.nm i) m)) := by
  refine he.imp fun D σ H ⟨A, M, ρ, o, r, ev, g⟩ => ?_
  simp only [evS, setT, Option.bind_eq_some_iff, Option.map_some, Option.some.injEq] at ev
  obtain ⟨⟨d, fr, ρ1⟩, h1, h2⟩ := ev
  cases h2
  exact ⟨A, M, ρ, d, fr, ρ1, r, h1, fun v H1 p => g _ _ (p.1.store (by simp [asgd, slotsT]) r.live)⟩
theorem s_asgT {ts : MT} (he : PS X st (tAsg (tE F m) (gM (.tp ts)))) : PS X st (tS F W (.asg (.tp ts) m)) := by
  refine he.imp fun D σ H ⟨A, M, ρ, o, r, ev, g⟩ => ?_
  simp only [evS, setT, Option.bind_eq_some_iff, Option.map_eq_some_iff] at ev
  obtain ⟨⟨d, fr, ρ1⟩, h1, ρ2, h2, h3⟩ := ev
  cases h3
  refine ⟨A, M, ρ, d, fr, ρ1, r, h1, fun v H1 p => ?_⟩
  obtain ⟨A1, M1, s1, k1, r1, b1⟩ := p.std r.live
  exact ⟨A1, M1, ρ1, d, ρ2, r1, b1, h2, fun σ' r' ag => g σ' H1 ⟨A1, M1, s1.chg, k1, r', ag⟩⟩
/-! ### several values at once -/
inductive FR (N : PyData → Prop) (A M : AS) (H0 H : Hp) : AS → List V → List (PyData × Bool) → Prop
  | nil {U : AS} : FR N A M H0 H U [] []
  | dat {U : AS} {v : V} {d : PyData} {vs : List V} {r : List (PyData × Bool)} : Rel A H v d → FR N A M H0 H U vs r → FR N A M H0 H U (v :: vs) ((d, false) :: r)
  | own {U : AS} {p : Addr} {d : PyData} {vs : List V} {r : List (PyData × Bool)} : H0 p = none → A p → ¬ M p → ¬ U p → Own A H p d → N d → FR N A M H0 H (orA U p) vs r → FR N A M H0 H U (.ref p :: vs) ((d, true) :: r)
theorem FR.more {N : PyData → Prop} {A M : AS} {H0 H1 H : Hp} {q : Addr} (hq : ∃ o, H0 q = some o) (hb : ∀ p, H0 p = none → H1 p = none) : ∀ {U : AS} {vs : List V} {r : List (PyData × Bool)}, FR N A M H0 H U vs r → FR N A M H1 H (orA U q) vs r
  | _, _, _, .nil => .nil
  | _, _, _, .dat a r => .dat a (FR.more hq hb r)
  | U, _, _, .own (p := p) h a m u o nt r => .own (hb _ h) a m (fun z => by
      rcases z with z | z
      · exact u z
      · obtain ⟨o', e⟩ := hq; rw [z] at h; rw [h] at e; cases e) o nt (by
      have z := FR.more hq hb r
      have e : orA (orA U p) q = orA (orA U q) p := funext fun x => propext ⟨fun z => by
        rcases z with (z | z) | z
        · exact .inl (.inl z)
        · exact .inr z
        · exact .inl (.inr z), fun z => by
        rcases z with (z | z) | z
        · exact .inl (.inl z)
        · exact .inr z
        · exact .inl (.inr z)⟩
      rw [e] at z
      exact z)
theorem FR.base {N : PyData → Prop} {A M : AS} {H0 H1 H : Hp} (hb : ∀ p, H0 p = none → H1 p = none) : ∀ {U : AS} {vs : List V} {r : List (PyData × Bool)}, FR N A M H0 H U vs r → FR N A M H1 H U vs r
  | _, _, _, .nil => .nil
  | _, _, _, .dat a r => .dat a (FR.base hb r)
  | _, _, _, .own h a m u o nt r => .own (hb _ h) a m u o nt (FR.base hb r)
noncomputable def tP (F : Fns) (m : ME) : TA := fun σ H Q => ∃ A M ρ ds ρ', RE A M H ρ σ ∧ evP F m ρ = some (ds, ρ') ∧ ∀ vs H' A' M', Chg A M H A' M' → (∀ x, M' x → M x) → Kp M H H' → RE A' M' H' ρ' σ → FR NT A' M' H H' No vs ds → Q vs H'
theorem p_nil : PA X [] (tP F .nil) := pa_nil.imp fun σ H Q ⟨A, M, ρ, bs, ρ', r, ev, q⟩ => by
  cases ev
  exact q [] H A M (Chg.refl _ _ _) (fun _ z => z) (Kp.refl _ _) r .nil
theorem p_cons {r : ME} (he : Eb X F e m) (hr : PA X es (tP F r)) (ns : noStar e = true) : PA X (e :: es) (tP F (.cons m r)) := by
  refine (pa_cons he.ev hr (star_no ns)).imp fun σ H Q ⟨A, M, ρ, ds, ρ', r, ev, q⟩ => ?_
  simp only [evP, Option.bind_eq_some_iff, Option.map_eq_some_iff] at ev
  obtain ⟨⟨d, fr, ρ1⟩, h1, ⟨ds1, ρ2⟩, h2, h3⟩ := ev
  cases h3
  refine ⟨A, M, ρ, d, fr, ρ1, r, h1, fun v H1 p => ?_⟩
  obtain ⟨⟨A1, M1, s1, k1, r1, q1, q2⟩, q3⟩ := p
  cases fr with
  | false =>
    refine ⟨A1, M1, ρ1, ds1, _, r1, h2, fun vs H2 A2 M2 c2 m2 k2 r2 f2 => q (v :: vs) H2 A2 M2 (s1.chg.trans r.live k1 c2) (fun x z => s1.m x (m2 x z)) (k1.comp s1 k2) r2 (.dat ?_ (f2.base fun p z => k1.back z))⟩
    exact (q1 rfl).lat ⟨k2.mono r1.sub, fun a z => c2.a a z⟩
  | true =>
    obtain ⟨p, rfl, hp, ra, ho⟩ := q2 rfl
    have nA1 : ¬ A1 p := fun z => by obtain ⟨o, e⟩ := r.live p (s1.a p z); rw [hp] at e; cases e
    have nM1 : ¬ M1 p := fun z => nA1 (r1.sub p z)
    have hp1 : ∃ o, H1 p = some o := let ⟨o, e, _⟩ := ho.live; ⟨o, e⟩
    refine ⟨orA A1 p, M1, ρ1, ds1, _, ra, h2, fun vs H2 A2 M2 c2 m2 k2 r2 f2 => q (.ref p :: vs) H2 A2 M2 ⟨fun x z => ?_, fun x z => .inl (s1.m x (m2 x z)), fun x h n => ?_⟩ (fun x z => s1.m x (m2 x z)) (k1.comp s1 k2) r2 (.own hp ?_ (fun z => nM1 (m2 p z)) (fun z => z) ?_ (q3 rfl) (f2.more hp1 fun p z => k1.back z))⟩
    · rcases c2.a x z with (z | z) | z
      · exact .inl (s1.a x z)
      · exact .inr (z ▸ hp)
      · exact .inr (k1.back z)
    · by_cases h1 : A1 x
      · exact s1.m x (c2.d x (.inl h1) n)
      · exact s1.d x h h1
    · exact Classical.byContradiction fun n => nM1 (c2.d p (.inr rfl) n)
    · refine ho.map (H' := H2) (A' := A2) (fun a o nb h z => k2.same a o h (fun y => z (.inl (r1.sub a y))) nb) (fun a o h z n _ => ?_) ?_
      · rcases c2.a a z with y | y
        · exact n y
        · rw [y] at h; cases h
      · obtain ⟨o, e, mu⟩ := ho.live
        rw [e]
        exact k2.same p o e (fun z => absurd z nM1) (ho.nb e)
/-- the stores, one behind the other -/
theorem FR.bind {N : PyData → Prop} {A M : AS} {H0 H : Hp} : ∀ {t : MT} {vs : List V} {ds : List (PyData × Bool)} {U : AS} {ρ ρ' : Rho} {σ : L2.St} {l : List Nat}, FR N A M H0 H U vs ds → RE A (fun x => M x ∨ U x) H ρ σ → (∀ x, U x → H0 x = none) → bindP t ds ρ = some ρ' →
    ∀ is : List Nat, (∀ i ∈ is, i ∈ l) → t = is.foldr (fun i r => MT.cons (.nm i) r) .nil → ∃ U' : AS, RE A (fun x => M x ∨ U' x) H ρ' ((is.zip vs).foldl (fun s p => s.set p.1 (some p.2)) σ) ∧ (∀ x, U' x → H0 x = none) ∧ Agree l σ ((is.zip vs).foldl (fun s p => s.set p.1 (some p.2)) σ)
  | t, vs, ds, U, ρ, ρ', σ, l, f, r, hU, h, [], hl, e => by
    subst e
    cases f with
    | nil =>
      have h' : some ρ = some ρ' := by simpa [bindP] using h
      cases h'
      exact ⟨U, r, hU, Agree.refl _ _⟩
    | dat _ _ => simp [bindP] at h
    | own _ _ _ _ _ _ => simp [bindP] at h
  | t, vs, ds, U, ρ, ρ', σ, l, f, r, hU, h, i :: is, hl, e => by
    subst e
    have hi : i ∈ l := hl i List.mem_cons_self
    cases f with
    | nil => simp [bindP] at h
    | @dat _ v d vs dr a f =>
      have h' : bindP (is.foldr (fun i r => MT.cons (.nm i) r) .nil) dr (ρ.set i (.dat d)) = some ρ' := by simpa [bindP, slotOf] using h
      obtain ⟨U', q1, q2, q3⟩ := FR.bind (l := l) f (r.setDat (i := i) a) hU h' is (fun j hj => hl j (List.mem_cons_of_mem _ hj)) rfl
      exact ⟨U', q1, q2, fun j hj => (q3 j hj).trans (Agree.set hi j hj)⟩
    | @own _ p d vs dr hp ha nm nu o nt f =>
      have h' : bindP (is.foldr (fun i r => MT.cons (.nm i) r) .nil) dr (ρ.set i (.own d)) = some ρ' := by simpa [bindP, slotOf] using h
      have r1 := r.setFresh (i := i) ha (fun z => by
        rcases z with z | z
        · exact nm z
        · exact nu z) o
      have e2 : (orA (fun x => M x ∨ U x) p) = (fun x => M x ∨ orA U p x) := funext fun x => propext ⟨fun z => by
        rcases z with (z | z) | z
        · exact .inl z
        · exact .inr (.inl z)
        · exact .inr (.inr z), fun z => by
        rcases z with z | z | z
        · exact .inl (.inl z)
        · exact .inl (.inr z)
        · exact .inr z⟩
      rw [e2] at r1
      obtain ⟨U', q1, q2, q3⟩ := FR.bind (l := l) f r1 (fun x z => by
        rcases z with z | z
        · exact hU x z
        · rw [z]; exact hp) h' is (fun j hj => hl j (List.mem_cons_of_mem _ hj)) rfl
      exact ⟨U', q1, q2, fun j hj => (q3 j hj).trans (Agree.set hi j hj)⟩
noncomputable def nmT (is : List Nat) : MT := is.foldr (fun i r => MT.cons (.nm i) r) .nil
theorem slots_nmT : ∀ is : List Nat, slotsT (nmT is) = is
  | [] => rfl
  | i :: is => by
    show [i] ++ slotsT (nmT is) = _
    rw [slots_nmT is]
    rfl
theorem FR.length {N : PyData → Prop} {A M : AS} {H0 H : Hp} : ∀ {U : AS} {vs : List V} {ds : List (PyData × Bool)}, FR N A M H0 H U vs ds → vs.length = ds.length
  | _, _, _, .nil => rfl
  | _, _, _, .dat _ f => congrArg (· + 1) (FR.length f)
  | _, _, _, .own _ _ _ _ _ _ f => congrArg (· + 1) (FR.length f)
theorem bindP_len : ∀ {t : MT} {ds : List (PyData × Bool)} {ρ ρ' : Rho}, bindP t ds ρ = some ρ' → ds.length = lenT t
  | .nil, [], _, _, _ => rfl
  | .nil, _ :: _, _, _, h => by simp [bindP] at h
  | .cons _ _, [], _, _, h => by simp [bindP] at h
  | .nm _, _, _, _, h => by simp [bindP] at h
  | .tp _, _, _, _, h => by simp [bindP] at h
  | .cons (.nm i) r, (d, fr) :: ds, ρ, ρ', h => by
    have h' : bindP r ds (ρ.set i (slotOf d fr)) = some ρ' := by simpa [bindP] using h
    exact congrArg (· + 1) (bindP_len h')
  | .cons (.tp t) r, (d, fr) :: ds, ρ, ρ', h => by
    simp only [bindP, Option.bind_eq_some_iff] at h
    obtain ⟨ρ1, _, h2⟩ := h
    exact congrArg (· + 1) (bindP_len h2)
  | .cons .nil r, (d, fr) :: ds, ρ, ρ', h => by
    simp only [bindP, Option.bind_eq_some_iff] at h
    obtain ⟨ρ1, _, h2⟩ := h
    exact congrArg (· + 1) (bindP_len h2)
  | .cons (.cons a b) r, (d, fr) :: ds, ρ, ρ', h => by
    simp only [bindP, Option.bind_eq_some_iff] at h
    obtain ⟨ρ1, _, h2⟩ := h
    exact congrArg (· + 1) (bindP_len h2)
theorem lenT_nmT : ∀ is : List Nat, lenT (nmT is) = is.length
  | [] => rfl
  | i :: is => congrArg (· + 1) (lenT_nmT is)
/-- plain names, whatever way the model stores them -/
theorem par_read {is : List Nat} {D : Ends} {σ : L2.St} {H : Hp} (h : tS F W (.par (nmT is) m) D σ H) : tP F m σ H fun vs H1 => vs.length = is.length ∧ D.nx ((is.zip vs).foldl (fun s p => s.set p.1 (some p.2)) σ) H1 := by
  obtain ⟨A, M, ρ, o, r, ev, g⟩ := h
  simp only [evS, Option.bind_eq_some_iff, Option.map_eq_some_iff] at ev
  obtain ⟨⟨ds, ρ1⟩, h1, ρ2, h2, h3⟩ := ev
  cases h3
  refine ⟨A, M, ρ, ds, ρ1, r, h1, fun vs H1 A1 M1 c1 m1 k1 r1 f1 => ⟨?_, ?_⟩⟩
  · rw [f1.length, bindP_len h2, lenT_nmT]
  have e0 : (fun x => M1 x ∨ No x) = M1 := funext fun x => propext ⟨fun z => z.elim id fun y => y.elim, .inl⟩
  obtain ⟨U', q1, q2, q3⟩ := FR.bind (l := asgd (.par (nmT is) m)) f1 (by rw [e0]; exact r1) (fun x z => z.elim) h2 is (fun i hi => by show i ∈ slotsT (nmT is); rw [slots_nmT]; exact hi) rfl
  exact g _ _ ⟨A1, _, ⟨c1.a, fun x z => z.elim (fun y => .inl (m1 x y)) fun y => .inr (q2 x y), c1.d⟩, k1, q1, q3⟩
theorem s_par2 {i j : Nat} (h : PS X st (tPar i j (tP F m))) : PS X st (tS F W (.par (nmT [i, j]) m)) := h.imp fun D σ H q => by
  obtain ⟨A, M, ρ, ds, ρ', r, ev, g⟩ := par_read q
  refine ⟨A, M, ρ, ds, ρ', r, ev, fun vs H' A' M' c m' k r' f => ?_⟩
  obtain ⟨hl, hq⟩ := g vs H' A' M' c m' k r' f
  match vs, hl, hq with
  | [v, w], _, hq => exact ⟨v, w, rfl, hq⟩
theorem s_par3 {i j l : Nat} (h : PS X st (tPar3 i j l (tP F m))) : PS X st (tS F W (.par (nmT [i, j, l]) m)) := h.imp fun D σ H q => by
  obtain ⟨A, M, ρ, ds, ρ', r, ev, g⟩ := par_read q
  refine ⟨A, M, ρ, ds, ρ', r, ev, fun vs H' A' M' c m' k r' f => ?_⟩
  obtain ⟨hl, hq⟩ := g vs H' A' M' c m' k r' f
  match vs, hl, hq with
  | [u, v, w], _, hq => exact ⟨u, v, w, rfl, hq⟩
/-- an item: reckoned, or a call that may give out a tuple of one's own -/
noncomputable def tU (F : Fns) : Option Nat → ME → TE
  | none, m => tE F m
  | some id, m => tC0 F id m
theorem tU_of {o : Option Nat} {A M : AS} {ρ ρ' : Rho} {d : PyData} {fr : Bool} {σ : L2.St} {H : Hp} {Q : VK} (r : RE A M H ρ σ) (ev : evU F o m ρ = some (d, fr, ρ')) (q : ∀ v H', Pst0 A M H ρ' σ d fr v H' → Q v H') : tU F o m σ H Q := by
  cases o with
  | none => exact ⟨A, M, ρ, d, fr, ρ', r, ev, fun v H' p => q v H' p.1⟩
  | some id =>
    simp only [evU, Option.bind_eq_some_iff, Option.map_eq_some_iff] at ev
    obtain ⟨⟨bs, ρ1⟩, h1, ⟨as, ρ2⟩, h2, ⟨d, fr, ss⟩, h3, ρ3, h4, h5⟩ := ev
    cases h5
    exact ⟨A, M, ρ, bs, ρ1, as, ρ2, _, _, ss, _, r, h1, h2, h3, h4, q⟩
theorem fr_step {N : PyData → Prop} {A M : AS} {ρ ρ1 : Rho} {σ : L2.St} {H H1 : Hp} {d : PyData} {fr : Bool} {v : V} (r : RE A M H ρ σ) (p : Pst0 A M H ρ1 σ d fr v H1) (hN : fr = true → N d) :
    ∃ A1 M1, RE A1 M1 H1 ρ1 σ ∧ ∀ vs ds H2 A2 M2 ρ2, Chg A1 M1 H1 A2 M2 → (∀ x, M2 x → M1 x) → Kp M1 H1 H2 → RE A2 M2 H2 ρ2 σ → FR N A2 M2 H1 H2 No vs ds →
      Chg A M H A2 M2 ∧ (∀ x, M2 x → M x) ∧ Kp M H H2 ∧ FR N A2 M2 H H2 No (v :: vs) ((d, fr) :: ds) := by
  obtain ⟨A1, M1, s1, k1, r1, q1, q2⟩ := p
  cases fr with
  | false =>
    refine ⟨A1, M1, r1, fun vs ds H2 A2 M2 ρ2 c2 m2 k2 r2 f2 => ⟨s1.chg.trans r.live k1 c2, fun x z => s1.m x (m2 x z), k1.comp s1 k2, .dat ?_ (f2.base fun p z => k1.back z)⟩⟩
    exact (q1 rfl).lat ⟨k2.mono r1.sub, fun a z => c2.a a z⟩
  | true =>
    obtain ⟨p, rfl, hp, ra, ho⟩ := q2 rfl
    have nA1 : ¬ A1 p := fun z => by obtain ⟨o, e⟩ := r.live p (s1.a p z); rw [hp] at e; cases e
    have nM1 : ¬ M1 p := fun z => nA1 (r1.sub p z)
    have hp1 : ∃ o, H1 p = some o := let ⟨o, e, _⟩ := ho.live; ⟨o, e⟩
    refine ⟨orA A1 p, M1, ra, fun vs ds H2 A2 M2 ρ2 c2 m2 k2 r2 f2 => ⟨⟨fun x z => ?_, fun x z => .inl (s1.m x (m2 x z)), fun x h n => ?_⟩, fun x z => s1.m x (m2 x z), k1.comp s1 k2, .own hp ?_ (fun z => nM1 (m2 p z)) (fun z => z) ?_ (hN rfl) (f2.more hp1 fun p z => k1.back z)⟩⟩
    · rcases c2.a x z with (z | z) | z
      · exact .inl (s1.a x z)
      · exact .inr (z ▸ hp)
      · exact .inr (k1.back z)
    · by_cases h1 : A1 x
      · exact s1.m x (c2.d x (.inl h1) n)
      · exact s1.d x h h1
    · exact Classical.byContradiction fun n => nM1 (c2.d p (.inr rfl) n)
    · refine ho.map (H' := H2) (A' := A2) (fun a o nb h z => k2.same a o h (fun y => z (.inl (r1.sub a y))) nb) (fun a o h z n _ => ?_) ?_
      · rcases c2.a a z with y | y
        · exact n y
        · rw [y] at h; cases h
      · obtain ⟨o, e, mu⟩ := ho.live
        rw [e]
        exact k2.same p o e (fun z => absurd z nM1) (ho.nb e)
noncomputable def tP2 (F : Fns) (f : Option Nat) (a : ME) (g : Option Nat) (b : ME) : TA := fun σ H Q => ∃ A M ρ d fr ρ1 e fr2 ρ2, RE A M H ρ σ ∧ evU F f a ρ = some (d, fr, ρ1) ∧ evU F g b ρ1 = some (e, fr2, ρ2) ∧
  ∀ vs H' A' M', Chg A M H A' M' → (∀ x, M' x → M x) → Kp M H H' → RE A' M' H' ρ2 σ → FR (fun _ => True) A' M' H H' No vs [(d, fr), (e, fr2)] → Q vs H'
theorem p_two {e1 e2 : Expr} {f g : Option Nat} {a b : ME} (h1 : PE X e1 (tU F f a)) (h2 : PE X e2 (tU F g b)) (n1 : noStar e1 = true) (n2 : noStar e2 = true) : PA X [e1, e2] (tP2 F f a g b) := by
  refine (pa_cons h1 (pa_cons h2 pa_nil (star_no n2)) (star_no n1)).imp fun σ H Q ⟨A, M, ρ, d, fr, ρ1, e, fr2, ρ2, r, v1, v2, q⟩ => ?_
  refine tU_of r v1 fun v H1 p => ?_
  obtain ⟨A1, M1, r1, k1⟩ := fr_step (N := fun _ => True) r p fun _ => trivial
  refine tU_of r1 v2 fun w H2 p2 => ?_
  obtain ⟨A2, M2, r2, k2⟩ := fr_step (N := fun _ => True) r1 p2 fun _ => trivial
  obtain ⟨c2, m2, kk2, f2⟩ := k2 [] [] H2 A2 M2 ρ2 (Chg.refl _ _ _) (fun _ z => z) (Kp.refl _ _) r2 .nil
  obtain ⟨c1, m1, kk1, f1⟩ := k1 _ _ H2 A2 M2 ρ2 c2 m2 kk2 r2 f2
  exact q _ _ A2 M2 c1 m1 kk1 r2 f1
theorem s_parS {i j : Nat} {f g : Option Nat} {a b : ME} (h : PS X st (tPar i j (tP2 F f a g b))) : PS X st (tS F W (.parS i f a j g b)) := ⟨fun _ _ _ _ _ _ ⟨_, _, _, _, _, ev, _⟩ => by simp [evS] at ev⟩
/-- the stores of a tuple that was made, one by one -/
noncomputable def gPs (t : MT) : TGs := fun vs σ H Q => ∃ (A M : AS) (H0 : Hp) (U : AS) (ρ : Rho) (ds : List (PyData × Bool)) (ρ' : Rho), FR NT A M H0 H U vs ds ∧ RE A (fun x => M x ∨ U x) H ρ σ ∧ (∀ x, U x → H0 x = none) ∧ bindP t ds ρ = some ρ' ∧
  ∀ (σ' : L2.St) (U' : AS), RE A (fun x => M x ∨ U' x) H ρ' σ' → (∀ x, U' x → H0 x = none) → Agree (slotsT t) σ σ' → Q σ' H
theorem gp_nil : PGs X [] (gPs .nil) := pgs_nil.imp fun v σ H Q ⟨A, M, H0, U, ρ, ds, ρ', f, r, hU, ev, q⟩ => by
  cases f with
  | nil =>
    have h' : some ρ = some ρ' := by simpa [bindP] using ev
    cases h'
    exact ⟨rfl, q σ U r hU (Agree.refl _ _)⟩
  | dat _ _ => simp [bindP] at ev
  | own _ _ _ _ _ _ => simp [bindP] at ev
theorem gp_name {i : Nat} {u : MT} (h : PG X e (gName i)) (hr : PGs X es (gPs u)) (h1 : (assignEach (e :: es) X.env).map (·.2) = assign e X.env :: (assignEach es X.env).map (·.2)) : PGs X (e :: es) (gPs (.cons (.nm i) u)) :=
  (pgs_cons h hr h1).imp fun v σ H Q ⟨A, M, H0, U, ρ, ds, ρ', f, r, hU, ev, q⟩ => by
  have hi : i ∈ slotsT (.cons (.nm i) u) := List.mem_append_left _ List.mem_cons_self
  have hu : ∀ j ∈ slotsT u, j ∈ slotsT (.cons (.nm i) u) := fun j hj => List.mem_append_right _ hj
  have hl : ∀ {σ1 σ2 : L2.St}, Agree (slotsT (.cons (.nm i) u)) σ σ1 → Agree (slotsT u) σ1 σ2 → Agree (slotsT (.cons (.nm i) u)) σ σ2 := fun a b j hj => (b j fun z => hj (hu j z)).trans (a j hj)
  cases f with
  | nil => simp [bindP] at ev
  | @dat _ v d vs dr a f =>
    have h' : bindP u dr (ρ.set i (.dat d)) = some ρ' := by simpa [bindP, slotOf] using ev
    exact ⟨v, vs, rfl, A, M, H0, U, _, dr, ρ', f, r.setDat a, hU, h', fun σ' U' r' hU' ag => q σ' U' r' hU' (hl (Agree.set hi) ag)⟩
  | @own _ p d vs dr hp ha nm nu o nt f =>
    have h' : bindP u dr (ρ.set i (.own d)) = some ρ' := by simpa [bindP, slotOf] using ev
    have r1 := r.setFresh (i := i) ha (fun z => z.elim nm nu) o
    have e2 : (orA (fun x => M x ∨ U x) p) = (fun x => M x ∨ orA U p x) := funext fun x => propext ⟨fun z => by
      rcases z with (z | z) | z
      · exact .inl z
      · exact .inr (.inl z)
      · exact .inr (.inr z), fun z => by
      rcases z with z | z | z
      · exact .inl (.inl z)
      · exact .inl (.inr z)
      · exact .inr z⟩
    rw [e2] at r1
    exact ⟨_, vs, rfl, A, M, H0, orA U p, _, dr, ρ', f, r1, fun x z => z.elim (hU x) fun y => y ▸ hp, h', fun σ' U' r' hU' ag => q σ' U' r' hU' (hl (Agree.set hi) ag)⟩
theorem gp_tup {t u : MT} (h : PG X e (gM (.tp t))) (hr : PGs X es (gPs u)) (h1 : (assignEach (e :: es) X.env).map (·.2) = assign e X.env :: (assignEach es X.env).map (·.2)) : PGs X (e :: es) (gPs (.cons (.tp t) u)) :=
  (pgs_cons h hr h1).imp fun v σ H Q ⟨A, M, H0, U, ρ, ds, ρ', f, r, hU, ev, q⟩ => by
  cases f with
  | nil => simp [bindP] at ev
  | @dat _ v d vs dr a f =>
    simp only [bindP, Option.bind_eq_some_iff] at ev
    obtain ⟨ρ1, h1, h2⟩ := ev
    exact ⟨v, vs, rfl, A, _, ρ, d, ρ1, r, a, h1, fun σ1 r1 a1 => ⟨A, M, H0, U, ρ1, dr, ρ', f, r1, hU, h2, fun σ' U' r' hU' ag => q σ' U' r' hU' (a1.trans ag)⟩⟩
  | @own _ p d vs dr hp ha nm nu o nt f =>
    simp only [bindP, Option.bind_eq_some_iff] at ev
    obtain ⟨ρ1, h1, h2⟩ := ev
    rcases o with ⟨_, _, rfl, _⟩ | ⟨_, _, rfl, _⟩ | ⟨xs, ds, ob, rfl, hd, hH, rr⟩ | ⟨_, _, rfl, _⟩ | ⟨_, _, _, _, _, rfl, _⟩
    · simp [bindT] at h1
    · simp [bindT] at h1
    · have r' : RE A (fun x => M x ∨ orA U p x) H ρ σ := r.monoM (fun b z => z.imp id .inl) fun b z => by
        rcases z with z | z | z
        · exact r.sub b (.inl z)
        · exact r.sub b (.inr z)
        · exact z ▸ ha
      exact ⟨_, vs, rfl, A, _, ρ, _, ρ1, r', .tup (.inr ⟨ob, hd, hH⟩) rr, h1, fun σ1 r1 a1 => ⟨A, M, H0, orA U p, ρ1, dr, ρ', f, r1, fun x z => z.elim (hU x) fun y => y ▸ hp, h2, fun σ' U' r' hU' ag => q σ' U' r' hU' (a1.trans ag)⟩⟩
    · simp [bindT] at h1
    · simp [bindT] at h1
theorem FR.keep {N : PyData → Prop} {A M : AS} {H0 H H' : Hp} (k : Kp No H H') : ∀ {U : AS} {vs : List V} {ds : List (PyData × Bool)}, FR N A M H0 H U vs ds → FR N A M H0 H' U vs ds
  | _, _, _, .nil => .nil
  | _, _, _, .dat a f => .dat (a.keep (M := No) (fun _ z => z.elim) k) (FR.keep k f)
  | _, _, _, .own h a m u o nt f => .own h a m u (o.keep (M := No) (fun _ z => z.elim) k fun z => z) nt (FR.keep k f)
theorem s_parG {k k2 : Nat} {p1 p2 : Pos} (hc : X.calm = true) (ha : PA X sts0 (tP F m)) (hg : PGs X es (gPs t)) (hn : (assignEach es X.env).length = lenT t) (hst : (assignEach es X.env).findIdx? (·.1) = none)
    (hs : swapsWithSole [.Tuple es k p1] (.Tuple sts0 k2 p2) pos.line X.env = pure false) (hw : swappedStores [.Tuple es k p1] (.Tuple sts0 k2 p2) X.env = pure none) (hl : ∀ ρ ds ρ', evP F m ρ = some (ds, ρ') → ds.length ≤ sizeLine) :
    PS X (.Assign [.Tuple es k p1] (.Tuple sts0 k2 p2) pos) (tS F W (.par t m)) := by
  refine (ps_asg (pe_tup ha) (pg_tup hc hg hn hst) hs hw).imp fun D σ H ⟨A, M, ρ, o, r, ev, g⟩ => ?_
  simp only [evS, Option.bind_eq_some_iff, Option.map_eq_some_iff] at ev
  obtain ⟨⟨ds, ρ1⟩, h1, ρ2, h2, h3⟩ := ev
  cases h3
  refine ⟨A, M, ρ, ds, ρ1, r, h1, fun vs H1 A1 M1 c1 m1 k1 r1 f1 => ⟨by rw [f1.length]; exact hl _ _ _ h1, fun p hp => ?_⟩⟩
  have kn : Kp No H1 (upd H1 p (.tup vs)) := Kp.new hp
  have e0 : (fun x => M1 x ∨ No x) = M1 := funext fun x => propext ⟨fun z => z.elim (fun y => y) fun y => y.elim, .inl⟩
  refine ⟨p, vs, rfl, SqT.of upd_same, by rw [f1.length]; exact bindP_len h2, A1, M1, H, No, ρ1, ds, ρ2, f1.keep kn, by rw [e0]; exact r1.keep kn, fun x z => z.elim, h2, fun σ' U' r' hU' ag => ?_⟩
  exact g _ _ ⟨A1, _, ⟨c1.a, fun x z => z.elim (fun y => .inl (m1 x y)) fun y => .inr (hU' x y), c1.d⟩, k1.trans kn.of, r', ag⟩
end
end MI
/-! MXG: sets of tuples of ints, up to three hundred of them. -/
namespace GS
open PySem PySem.Spec PyProof.Rows L2
/-! ### tables of up to 512 slots -/
noncomputable def orb : Nat → Nat → List Nat
  | 0, _ => []
  | n + 1, x => x :: orb n ((x * 5 + 1) % 512)
theorem orb_get : ∀ (n x b : Nat), b < n → (orb n x)[b]? = some (lcgI 511 x b)
  | 0, _, _, h => by omega
  | n + 1, x, 0, _ => rfl
  | n + 1, x, b + 1, h => by
    have sh : ∀ b, lcgI 511 x (b + 1) = lcgI 511 ((x * 5 + 1) % 512) b := by
      intro b
      induction b with
      | zero => rfl
      | succ b ih =>
        have e : lcgI 511 x (b + 1 + 1) = (lcgI 511 x (b + 1) * 5 + 1) % 512 := rfl
        rw [e, ih]
        rfl
    rw [sh]
    exact orb_get n _ b (by omega)
theorem orb_len : ∀ n x, (orb n x).length = n
  | 0, _ => rfl
  | n + 1, x => congrArg (· + 1) (orb_len n _)
theorem orb_has : ((List.range 512).all fun j => (orb 512 0).contains j) = true := by decide +kernel
theorem lcg_zero (b : Nat) : lcgI 511 0 b = lcgN 511 b := by
  induction b with
  | zero => rfl
  | succ b ih =>
    have e : lcgI 511 0 (b + 1) = (lcgI 511 0 b * 5 + 1) % 512 := rfl
    rw [e, ih]
    rfl
theorem orb_all {j : Nat} (h : j ≤ 511) : ∃ b, b ≤ 511 ∧ lcgN 511 b = j := by
  have z := List.all_eq_true.mp orb_has j (List.mem_range.mpr (by omega))
  have z2 : j ∈ orb 512 0 := by simpa using z
  obtain ⟨b, hb, e⟩ := List.getElem_of_mem z2
  rw [orb_len] at hb
  have q := orb_get 512 0 b hb
  rw [List.getElem?_eq_getElem (by rw [orb_len]; exact hb), e] at q
  exact ⟨b, by omega, by rw [← lcg_zero]; exact (Option.some.inj q).symm⟩
theorem lcg_per : ∀ k, lcgN 511 (512 + k) = lcgN 511 k
  | 0 => by decide +kernel
  | k + 1 => by
    have e : lcgN 511 (512 + (k + 1)) = (lcgN 511 (512 + k) * 5 + 1) % 512 := rfl
    rw [e, lcg_per k]
    rfl
/-- the masks -/
noncomputable def Mk (m : Nat) : Prop := m = 7 ∨ m = 31 ∨ m = 127 ∨ m = 511
theorem Mk.le {m : Nat} (g : Mk m) : m ≤ 511 ∧ m % 2 = 1 := by
  unfold Mk at g
  omega
/-- any slot begins a run, soon enough -/
theorem Mk.runs {m : Nat} (g : Mk m) (h : Int) {j : Nat} (hj : j ≤ m) : ∃ n, n ≤ m + 12 ∧ runI m (SetTable.bits h) n = j := by
  rcases g with e | e | e | e
  · exact run_meets (Or.inl e) h hj
  · exact run_meets (Or.inr (Or.inl e)) h hj
  · exact run_meets (Or.inr (Or.inr e)) h hj
  · subst e
    obtain ⟨x, hx, ex⟩ := orb_all (runI_le 511 (SetTable.bits h) 12)
    obtain ⟨y, hy, ey⟩ := orb_all hj
    have key : ∃ k, k ≤ 511 ∧ lcgN 511 (x + k) = j := by
      by_cases c : x ≤ y
      · exact ⟨y - x, by omega, by rw [show x + (y - x) = y by omega]; exact ey⟩
      · exact ⟨y + 512 - x, by omega, by rw [show x + (y + 512 - x) = 512 + y by omega, lcg_per]; exact ey⟩
    obtain ⟨k, hk, ek⟩ := key
    refine ⟨12 + k, by omega, ?_⟩
    rw [runI_tail (bits_lt h), ← ex, lcgN_add]
    exact ek
theorem Mk.way {m : Nat} (g : Mk m) (h : Int) {j : Nat} (hj : j ≤ m) : ∃ k, k < 10 * SetTable.turns m ∧ L2.way m h k = j := by
  obtain ⟨n, hn, e⟩ := g.runs h hj
  obtain ⟨k, hk, ek⟩ := run_nth m (SetTable.bits h) n
  exact ⟨k, by unfold SetTable.turns; omega, (congrArg SetTable.Probe.j ek).trans e⟩
theorem way_in (m : Nat) (h : Int) (k : Nat) : way m h k ≤ m := by
  have z := runEnd_bd (m := m) (i := SetTable.bits h % (m + 1)) (Nat.le_of_lt_succ (Nat.mod_lt _ (Nat.succ_pos m)))
  have q := nth_in (m := m) k (runAt m (SetTable.bits h % (m + 1)) (SetTable.bits h)) (show SetTable.bits h % (m + 1) + (SetTable.runEnd m (SetTable.bits h % (m + 1)) - SetTable.bits h % (m + 1)) ≤ m by omega)
  unfold way
  omega
/-! ### a table in which each is found from its hash -/
structure Tab (t : SetTable) (hs : List Int) : Prop where
  asc : Ris t.place.toList
  clean : t.dummies = #[]
  len : t.place.toList.length = hs.length
  msk : Mk t.mask
  top : ∀ j ∈ t.place.toList, j ≤ t.mask
  fnd : ∀ q ∈ hs.zip t.place.toList, ∃ k, L2.way t.mask q.1 k = q.2 ∧ ∀ c, c < k → L2.way t.mask q.1 c ∈ t.place.toList
theorem zip_get {α β : Type} {l : List α} {r : List β} {i : Nat} {x : α} {y : β} (h : l[i]? = some x) (k : r[i]? = some y) : (x, y) ∈ l.zip r :=
  List.mem_of_getElem? (List.getElem?_zip_eq_some.mpr ⟨h, k⟩)
theorem zip_ins {α β : Type} {l : List α} {r : List β} (h : l.length = r.length) (p : Nat) (x : α) (y : β) {q : α × β} (hq : q ∈ (l.take p ++ x :: l.drop p).zip (r.take p ++ y :: r.drop p)) : q = (x, y) ∨ q ∈ l.zip r := by
  rw [List.zip_append (by rw [List.length_take, List.length_take, h]), List.zip_cons_cons] at hq
  have e : l.zip r = (l.take p).zip (r.take p) ++ (l.drop p).zip (r.drop p) := by
    rw [← List.zip_append (by rw [List.length_take, List.length_take, h]), List.take_append_drop, List.take_append_drop]
  rw [e]
  rcases List.mem_append.mp hq with z | z
  · exact Or.inr (List.mem_append_left _ z)
  · rcases List.mem_cons.mp z with z | z
    · exact Or.inl z
    · exact Or.inr (List.mem_append_right _ z)
/-- the first slot of the way that nothing sits at -/
theorem Tab.gap {t : SetTable} {hs : List Int} (T : Tab t hs) (hl : hs.length ≤ t.mask) (h : Int) : ∃ K, K < 10 * SetTable.turns t.mask ∧ L2.way t.mask h K ∉ t.place.toList ∧ ∀ c, c < K → L2.way t.mask h c ∈ t.place.toList := by
  have lt : t.place.toList.length < t.mask + 1 := by
    have z := T.len
    omega
  obtain ⟨j, j1, j2⟩ := st_missing _ _ lt
  obtain ⟨b, b1, b2⟩ := T.msk.way h (Nat.le_of_lt_succ j1)
  obtain ⟨K, k1, k2, k3⟩ := st_least (p := fun c => L2.way t.mask h c ∉ t.place.toList) b (fun z => j2 (b2 ▸ z))
  exact ⟨K, Nat.lt_of_le_of_lt k1 b1, k2, fun c hc => Classical.not_not.mp (k3 c hc)⟩
/-- one more -/
theorem Tab.ins {t : SetTable} {hs : List Int} (T : Tab t hs) {h : Int} {K : Nat} (hK : L2.way t.mask h K ∉ t.place.toList) (hb : ∀ c, c < K → L2.way t.mask h c ∈ t.place.toList) (p : Nat) (hp : SetTable.below t.place (L2.way t.mask h K) = p) :
    p ≤ hs.length ∧ Tab (t.put (L2.way t.mask h K)).1 (hs.take p ++ h :: hs.drop p) ∧ (t.put (L2.way t.mask h K)).1.fill = hs.length + 1 := by
  obtain ⟨lo, _, _⟩ := below_cut T.asc (L2.way t.mask h K)
  rw [hp] at lo
  have hsz : t.place.size = hs.length := by rw [← Array.length_toList]; exact T.len
  have hp1 : p ≤ hs.length := hsz ▸ lo
  have hp2 : p ≤ t.place.toList.length := by rw [T.len]; exact hp1
  have pl : (t.put (L2.way t.mask h K)).1.place.toList = t.place.toList.take p ++ L2.way t.mask h K :: t.place.toList.drop p := by rw [put_place, hp]
  have nw : t.place[SetTable.below t.place (L2.way t.mask h K)]? ≠ some (L2.way t.mask h K) := fun z => by
    rw [← Array.getElem?_toList] at z
    exact hK (List.mem_of_getElem? z)
  have ln : (t.put (L2.way t.mask h K)).1.place.toList.length = hs.length + 1 := by rw [pl, len_ins _ hp2, T.len]
  have wide : ∀ j, j ∈ t.place.toList → j ∈ (t.put (L2.way t.mask h K)).1.place.toList := fun j z => by
    rw [pl]
    exact mem_ins.mpr (Or.inr z)
  refine ⟨hp1, ⟨ris_insert T.asc nw, put_dm T.clean _, ?_, T.msk, ?_, ?_⟩, ?_⟩
  · rw [ln, len_ins _ hp1]
  · intro j z
    rw [pl] at z
    rcases mem_ins.mp z with e | z
    · rw [e]
      exact way_in _ _ _
    · exact T.top j z
  · intro q hq
    rw [pl] at hq
    rcases zip_ins T.len.symm p h _ hq with e | z
    · subst e
      exact ⟨K, rfl, fun c hc => wide _ (hb c hc)⟩
    · obtain ⟨k, e, y⟩ := T.fnd q z
      exact ⟨k, e, fun c hc => wide _ (y c hc)⟩
  · have f : (t.put (L2.way t.mask h K)).1.fill = (t.put (L2.way t.mask h K)).1.place.toList.length + (t.put (L2.way t.mask h K)).1.dummies.size := rfl
    rw [f, ln, put_dm T.clean]
    rfl
/-! ### the table laid anew -/
theorem free_at {m : Nat} (g : Mk m) (ow : Array (Option Nat)) (h : Int) {j : Nat} (hj : j ≤ m) (e : oAt ow j = none) :
    ∃ K, SetTable.layClean.free m ow (SetTable.turns m) (SetTable.bits h % (m + 1)) (SetTable.bits h) = some (L2.way m h K) ∧ oAt ow (L2.way m h K) = none ∧ ∀ c, c < K → oAt ow (L2.way m h c) ≠ none := by
  obtain ⟨n, n1, n2⟩ := g.runs h hj
  have there : L2.way m h (off m (SetTable.bits h % (m + 1)) (SetTable.bits h) n) = j := by
    unfold L2.way
    rw [nth_off, itL_run]
    exact n2
  obtain ⟨K, k1, k2, k3⟩ := st_least (p := fun c => oAt ow (L2.way m h c) = none) _ (show oAt ow (L2.way m h (off m (SetTable.bits h % (m + 1)) (SetTable.bits h) n)) = none by rw [there]; exact e)
  have some_ : ∀ c, c < K → (oAt ow (L2.way m h c)).isNone = false := fun c hc => by
    cases z : oAt ow (L2.way m h c) with
    | some _ => rfl
    | none => exact absurd z (k3 c hc)
  exact ⟨K, free_spec m ow (SetTable.turns m) n _ _ K (by unfold SetTable.turns; omega) k1 some_ (by rw [show oAt ow (nth m (runAt m (SetTable.bits h % (m + 1)) (SetTable.bits h)) K).j = none from k2]; rfl), k2, k3⟩
theorem own_more {m : Nat} (g : Mk m) {old : List Int} {ow : Array (Option Nat)} (W : Own m old ow) (few : old.length ≤ m) (h : Int) :
    ∃ j, SetTable.layClean.free m ow (SetTable.turns m) (SetTable.bits h % (m + 1)) (SetTable.bits h) = some j ∧ Own m (old ++ [h]) (ow.setIfInBounds j (some old.length)) := by
  obtain ⟨occ, c1, c2⟩ := W.ps
  obtain ⟨j, j1, j2⟩ := st_missing occ (m + 1) (by omega)
  have jn : oAt ow j = none := Classical.byContradiction fun z => j2 (c2 j (by omega) z)
  obtain ⟨K, f1, f2, f3⟩ := free_at g ow h (Nat.le_of_lt_succ j1) jn
  have wl : L2.way m h K < ow.size := by
    have := way_in m h K
    rw [W.sz]
    omega
  have here := oAt_set_self (some old.length) wl
  have there : ∀ i, i ≠ L2.way m h K → oAt (ow.setIfInBounds (L2.way m h K) (some old.length)) i = oAt ow i := fun i z => oAt_set_ne _ z
  have keep : ∀ i, oAt ow i ≠ none → oAt (ow.setIfInBounds (L2.way m h K) (some old.length)) i ≠ none := fun i z => by
    rw [there i fun e => z (e ▸ f2)]
    exact z
  refine ⟨_, f1, ⟨by rw [Array.size_setIfInBounds, W.sz], ?_, ?_, L2.way m h K :: occ, by rw [List.length_cons, c1, List.length_append]; rfl, ?_⟩⟩
  · intro i k hi e
    rcases Classical.em (i = L2.way m h K) with z | z
    · rw [z, here] at e
      cases e
      exact ⟨h, K, by simp, z.symm, fun c hc => keep _ (f3 c hc)⟩
    · rw [there i z] at e
      obtain ⟨h', K', a1, a2, a3⟩ := W.at_ i k hi e
      have lt := (List.getElem?_eq_some_iff.mp a1).1
      exact ⟨h', K', by rw [List.getElem?_append_left lt]; exact a1, a2, fun c hc => keep _ (a3 c hc)⟩
  · intro k hk
    rw [List.length_append] at hk
    rcases Nat.lt_or_ge k old.length with z | z
    · obtain ⟨i, i1, i2⟩ := W.all k z
      exact ⟨i, i1, by rw [there i fun e => by rw [e, f2] at i2; cases i2]; exact i2⟩
    · have e : k = old.length := by
        have : [h].length = 1 := rfl
        omega
      exact ⟨_, way_in m h K, by rw [here, e]⟩
  · intro i hi z
    rcases Classical.em (i = L2.way m h K) with e | e
    · rw [e]
      exact List.mem_cons_self
    · rw [there i e] at z
      exact List.mem_cons_of_mem _ (c2 i hi z)
theorem own_all {m : Nat} (g : Mk m) : ∀ (new old : List Int) (ow : Array (Option Nat)), Own m old ow → (old ++ new).length ≤ m →
    ∃ ow', new.foldl (stepF m) (some (ow, old.length)) = some (ow', (old ++ new).length) ∧ Own m (old ++ new) ow'
  | [], old, ow, W, _ => ⟨ow, by rw [List.append_nil]; rfl, by rw [List.append_nil]; exact W⟩
  | h :: new, old, ow, W, few => by
    have e : old ++ h :: new = (old ++ [h]) ++ new := by rw [List.append_assoc]; rfl
    have few1 : old.length ≤ m := by
      rw [List.length_append] at few
      omega
    obtain ⟨j, j1, j2⟩ := own_more g W few1 h
    obtain ⟨ow', w1, w2⟩ := own_all g new (old ++ [h]) _ j2 (e ▸ few)
    rw [e]
    refine ⟨ow', ?_, w2⟩
    have ln : (old ++ [h]).length = old.length + 1 := by rw [List.length_append]; rfl
    rw [List.foldl_cons, stepF_some j1, ← ln]
    exact w1
theorem relaid_tab (t : SetTable) {hs : Array Int} {wanted M : Nat} (hw : SetTable.sizeAbove wanted - 1 = M) (g : Mk M) (few : hs.size ≤ M) :
    ∃ t' order, t.relaid hs wanted = some (t', order) ∧ order.toList.Perm (List.range hs.size) ∧ Tab t' (order.toList.map fun i => hs.getD i 0) ∧ t'.mask = M ∧ t'.led = t.led ∧ t'.plain = t.plain := by
  obtain ⟨ow, w1, W⟩ := own_all g hs.toList [] _ (Own.init M) (by simpa using few)
  have hsz : hs.toList.length = hs.size := Array.length_toList
  have W : Own M hs.toList ow := W
  have lc : SetTable.layClean M hs = some ow := by
    have w1 : hs.toList.foldl (stepF M) (some (Array.replicate (M + 1) none, 0)) = _ := w1
    rw [layClean_eq, w1]
    rfl
  have rl : t.relaid hs wanted = some (tabOf t M ow, ((liveOf M ow).map (·.2)).toArray) := by
    rw [relaid_eq, hw, lc]
    rfl
  have asc : Ris ((liveOf M ow).map (·.1)) ∧ ∀ x ∈ (liveOf M ow).map (·.1), x ∈ List.range (M + 1) := ris_live (fun j => ow.getD j none) (List.range (M + 1)) (by
    unfold Ris
    first | exact List.pairwise_lt_range | exact List.pairwise_lt_range _)
  have has : ∀ k, k < hs.size → k ∈ (liveOf M ow).map (·.2) := fun k hk => by
    obtain ⟨j, a1, a2⟩ := W.all k (by rw [hsz]; exact hk)
    exact List.mem_map.mpr ⟨_, (mem_live W.sz).mpr ⟨a1, a2⟩, rfl⟩
  have ln : (liveOf M ow).length = hs.size := by
    obtain ⟨occ, c1, c2⟩ := W.ps
    have up := nat_nodup_len _ occ (List.Pairwise.imp Nat.ne_of_lt asc.1) fun x hx => by
      obtain ⟨⟨y, k⟩, q1, q2⟩ := List.mem_map.mp hx
      obtain ⟨b1, b2⟩ := (mem_live W.sz).mp q1
      have q2 : y = x := q2
      rw [← q2]
      exact c2 y b1 (by rw [b2]; simp)
    have dn := nat_nodup_len (List.range hs.size) _ List.nodup_range fun k hk => has k (List.mem_range.mp hk)
    rw [List.length_map] at up dn
    rw [List.length_range] at dn
    omega
  refine ⟨_, _, rl, perm_range _ _ (by rw [List.toList_toArray, List.length_map, ln]) has, ⟨asc.1, rfl, ?_, g, fun j hj => Nat.le_of_lt_succ (List.mem_range.mp (asc.2 j hj)), ?_⟩, rfl, rfl, rfl⟩
  · show ((liveOf M ow).map (·.1)).length = (((liveOf M ow).map (·.2)).map fun i => hs.getD i 0).length
    rw [List.length_map, List.length_map, List.length_map]
  · intro q hq
    have hq : q ∈ (((liveOf M ow).map (·.2)).map fun i => hs.getD i 0).zip ((liveOf M ow).map (·.1)) := hq
    obtain ⟨i, hi⟩ := List.getElem?_of_mem hq
    obtain ⟨x1, x2⟩ := List.getElem?_zip_eq_some.mp hi
    rw [List.getElem?_map, List.getElem?_map] at x1
    rw [List.getElem?_map] at x2
    cases z : (liveOf M ow)[i]? with
    | none =>
      rw [z] at x2
      cases x2
    | some r =>
      obtain ⟨j, k⟩ := r
      rw [z] at x1 x2
      have x1 : hs.getD k 0 = q.1 := Option.some.inj x1
      have x2 : j = q.2 := Option.some.inj x2
      obtain ⟨b1, b2⟩ := (mem_live W.sz).mp (List.mem_of_getElem? z)
      obtain ⟨h0, K, y1, y2, y3⟩ := W.at_ j k b1 b2
      have eh : h0 = q.1 := by
        rw [← x1, Array.getD_eq_getD_getElem?, ← Array.getElem?_toList, y1]
        rfl
      rw [← x2, ← eh]
      refine ⟨K, y2, fun c hc => ?_⟩
      show L2.way M h0 c ∈ (liveOf M ow).map (·.1)
      cases u : oAt ow (L2.way M h0 c) with
      | none => exact absurd u (y3 c hc)
      | some v => exact List.mem_map.mpr ⟨_, (mem_live W.sz).mpr ⟨way_in M h0 c, u⟩, rfl⟩
theorem size_512 : SetTable.sizeAbove (SetTable.grown 77) = 512 := by decide +kernel
/-! ### the set -/
section
variable {P : Program} {w : World} {A : Around} {E : Value → Shared → Prop} {s : Shared}
/-- at a lies a set of just the tuples L -/
structure SetG (P : Program) (w : World) (h : Heap) (a : Addr) (L : List (Addr × List Int)) (es : Array (Int × Value)) (ep : Nat) (t : SetTable) : Prop where
  obj : ∃ o, h.get? a = some o ∧ o.ExactSet ∧ o.data = .set es ep t
  row : es.toList = rowsOf P w L
  tab : Tab t (L.map fun p => thash P w p.2)
  one : (L.map (·.2)).Nodup
  isT : ∀ p ∈ L, IsT P w h p.2 p.1
  pln : t.plain = true
  ldd : w.params.followText "set-order" = true ∨ t.led = true
  bnd : L.length * 5 < t.mask * 3 ∧ L.length ≤ 300
variable {a : Addr} {L : List (Addr × List Int)} {es : Array (Int × Value)} {ep : Nat} {t : SetTable}
theorem rows_len {L : List (Addr × List Int)} {es : Array (Int × Value)} (h : es.toList = rowsOf P w L) : es.size = L.length := by
  rw [← Array.length_toList, h]
  unfold rowsOf
  exact List.length_map ..
theorem SetG.fit (R : SetG P w s.heap a L es ep t) : t.fits es.size = true := by
  have x1 := R.tab.len
  have x2 := rows_len R.row
  have x3 := R.bnd.1
  rw [List.length_map, Array.length_toList] at x1
  have x4 : t.fill = t.place.size + t.dummies.size := rfl
  have x5 : t.dummies.size = 0 := by rw [R.tab.clean]; rfl
  unfold SetTable.fits
  rw [x4, x5, x1, x2]
  simp
  omega
theorem SetG.at_ (R : SetG P w s.heap a L es ep t) {i : Nat} {p : Addr × List Int} (e : L[i]? = some p) : es[i]? = some (thash P w p.2, Value.ref p.1) := by
  have z : es.toList[i]? = (rowsOf P w L)[i]? := by rw [R.row]
  rw [Array.getElem?_toList] at z
  rw [z]
  unfold rowsOf
  rw [List.getElem?_map, e]
  rfl
theorem nth_dm (m : Nat) : ∀ (c : Nat) (p : SetTable.Probe), p.dummy = none → (nth m p c).dummy = none
  | 0, _, e => e
  | c + 1, p, e => nth_dm m c (adv m p) (by
    unfold adv
    split <;> exact e)
/-- the way's c-th state -/
abbrev stt (m : Nat) (h : Int) (c : Nat) : SetTable.Probe := nth m (runAt m (SetTable.bits h % (m + 1)) (SetTable.bits h)) c
theorem stt_add (m : Nat) (h : Int) (c d : Nat) : nth m (stt m h c) d = stt m h (c + d) := (nth_add m c _ d).symm
/-- who sits where, and what each slot of the table is -/
theorem SetG.who (R : SetG P w s.heap a L es ep t) {i j : Nat} (h : t.place.toList[i]? = some j) : ∃ p, L[i]? = some p ∧ p ∈ L ∧ t.slot j = .live i := by
  have l1 := (List.getElem?_eq_some_iff.mp h).1
  have l2 := R.tab.len
  rw [List.length_map] at l2
  have l3 : i < L.length := by omega
  exact ⟨L[i], List.getElem?_eq_getElem l3, List.getElem_mem l3, slot_live R.tab.asc h⟩
/-- the search goes on from its c-th step -/
theorem seek (R : SetG P w s.heap a L es ep t) {x : Addr} {k : List Int} (hx : IsT P w s.heap k x) (hu : A.units < cLine) {K : Nat} (big : K < 10 * SetTable.turns t.mask)
    (end_ : L2.way t.mask (thash P w k) K ∉ t.place.toList) (full : ∀ c, c < K → L2.way t.mask (thash P w k) c ∈ t.place.toList) {Q : SetFound → Shared → Prop}
    (yes : k ∈ L.map (·.2) → Q (.there none) s) (no : k ∉ L.map (·.2) → Q (.free (L2.way t.mask (thash P w k) K) false) s) :
    ∀ (f c : Nat) (st : Option SetTable.Probe), st.getD (t.probeStart (thash P w k)) = stt t.mask (thash P w k) c → c ≤ K → K < f + c →
      (∀ p ∈ L, p.2 = k → ∃ (i d : Nat), L[i]? = some p ∧ c ≤ d ∧ d < K ∧ t.place.toList[i]? = some (L2.way t.mask (thash P w k) d)) →
      wpAny (model P w) A (setSearchFrom a (.ref x) (thash P w k) true f st) Q E s := by
  obtain ⟨o, ho, ox, od⟩ := R.obj
  have gw : ¬ t.gaveWay = true := by
    unfold SetTable.gaveWay
    rw [R.tab.msk.le.2]
    decide
  have hsh : ∀ (i : Nat) (p : Addr × List Int), L[i]? = some p → (es[i]?.map (·.1)).getD 0 = thash P w p.2 := fun i p e => by rw [R.at_ e]; rfl
  intro f
  induction f with
  | zero => intro c st _ c1 c2; omega
  | succ f ih =>
    intro c st hst c1 c2 left_
    rw [setSearchFrom_succ]
    refine wpAny_bind (wpAny_setState_of ho od R.fit ?_)
    dsimp only
    refine wp_if_neg gw ?_
    try refine wpAny_bind (wpAny_pure ?_)
    rw [hst]
    have wd : ∀ d, (nth t.mask (stt t.mask (thash P w k) c) d).j = L2.way t.mask (thash P w k) (c + d) := fun d => congrArg SetTable.Probe.j (stt_add _ _ _ _)
    have cK : c + (K - c) = K := by omega
    have two_ := go_spec t R.tab.asc R.tab.clean (fun i => (es[i]?.map (·.1)).getD 0) (thash P w k) (10 * SetTable.turns t.mask) (K - c) (stt t.mask (thash P w k) c) (nth_dm _ _ _ rfl) (by omega)
      (fun d hd => by rw [wd]; exact full _ (by omega)) (by rw [wd, cK]; exact end_)
    have pe : t.probe (fun i => (es[i]?.map (·.1)).getD 0) (thash P w k) (stt t.mask (thash P w k) c) = SetTable.probe.go t (fun i => (es[i]?.map (·.1)).getD 0) (thash P w k) (10 * SetTable.turns t.mask) (stt t.mask (thash P w k) c) := rfl
    rw [pe]
    rcases two_ with ⟨d, i, d1, d2, d3, d4, d5⟩ | ⟨d4, d5⟩
    · rw [d5]
      dsimp only
      rw [wd, stt_add]
      rw [wd] at d2
      obtain ⟨p, p1, p2, p3⟩ := R.who d2
      have goal : wpAny (model P w) A (searchRest a (.ref x) (thash P w k) true f es t (L2.way t.mask (thash P w k) (c + d)) i (stt t.mask (thash P w k) (c + (d + 1)))) Q E s := by
        unfold searchRest
        rw [R.at_ p1]
        dsimp only
        refine wpAny_bind (wpAny_holding (wpAny_eqBool_tuple hu (R.isT p p2) hx ?_))
        refine wpAny_bind (wpAny_setState_of ho od R.fit ?_)
        dsimp only
        by_cases ek : p.2 = k
        · refine wp_if_pos (by simp [ek]) (wpAny_pure (yes ?_))
          exact ek ▸ List.mem_map_of_mem p2
        · refine wp_if_neg (by simp [ek]) ?_
          try refine wpAny_bind (wpAny_pure ?_)
          rw [sameMem]
          dsimp only
          simp only [if_true, p3, R.at_ p1]
          refine wpAny_bind (wpAny_isSame_ref_self (wpAny_bind (wpAny_pure ?_)))
          simp only [if_true]
          refine wp_if_neg (by simp [ek]) ?_
          refine ih (c + (d + 1)) _ rfl (by omega) (by omega) fun q q1 q2 => ?_
          obtain ⟨i', d', e1, e2, e3, e4⟩ := left_ q q1 q2
          refine ⟨i', d', e1, ?_, e3, e4⟩
          rcases Nat.lt_trichotomy d' (c + d) with z | z | z
          · have y := d4 (d' - c) i' (by omega) (by rw [wd, show c + (d' - c) = d' by omega]; exact e4)
            exact absurd (by rw [hsh _ _ e1, q2]) y
          · rw [z] at e4
            have y := slot_live R.tab.asc e4
            rw [p3] at y
            cases y
            rw [p1] at e1
            cases e1
            exact absurd q2 ek
          · omega
      by_cases ld : t.led = true
      · refine wp_if_neg (by simp [ld]) ?_
        try refine wpAny_bind (wpAny_pure ?_)
        exact goal
      · refine wp_if_pos (by simp [ld]) ?_
        refine wpAny_bind (seen_tup hx (fun y hy => ?_) ?_)
        · obtain ⟨q, q1, q2⟩ := List.mem_map.mp hy
          have q3 : q ∈ es.toList := by
            have : q ∈ es ∧ q.1 = thash P w k := by simpa using q1
            simpa using this.1
          rw [R.row] at q3
          obtain ⟨r, r1, r2⟩ := List.mem_map.mp q3
          exact ⟨r.2, r.1, by rw [← q2, ← r2], R.isT r r1⟩
        · refine wp_if_neg (by decide) ?_
          try refine wpAny_bind (wpAny_pure ?_)
          exact goal
    · rw [d5]
      dsimp only
      rw [wd, cK]
      refine wpAny_pure (no fun z => ?_)
      obtain ⟨q, q1, q2⟩ := List.mem_map.mp z
      obtain ⟨i', d', e1, e2, e3, e4⟩ := left_ q q1 q2
      exact d4 (d' - c) i' (by omega) (by rw [wd, show c + (d' - c) = d' by omega]; exact e4) (by rw [hsh _ _ e1, q2])
/-- the search from its first step -/
theorem seek0 (R : SetG P w s.heap a L es ep t) {x : Addr} {k : List Int} (hx : IsT P w s.heap k x) (hu : A.units < cLine) {Q : SetFound → Shared → Prop} (yes : k ∈ L.map (·.2) → Q (.there none) s)
    (no : ∀ K, k ∉ L.map (·.2) → L2.way t.mask (thash P w k) K ∉ t.place.toList → (∀ c, c < K → L2.way t.mask (thash P w k) c ∈ t.place.toList) → Q (.free (L2.way t.mask (thash P w k) K) false) s) :
    wpAny (model P w) A (setSearch a (.ref x) (thash P w k) true) Q E s := by
  have b := R.bnd.1
  obtain ⟨K, k1, k2, k3⟩ := R.tab.gap (by rw [List.length_map]; omega) (thash P w k)
  have k4 : K < 100000 := by
    have := R.tab.msk.le.1
    unfold SetTable.turns at k1
    omega
  unfold setSearch
  refine seek R hx hu k1 k2 k3 yes (fun z => no K z k2 k3) 100000 0 none rfl (Nat.zero_le _) (by omega) fun p p1 p2 => ?_
  obtain ⟨i, hi⟩ := List.getElem?_of_mem p1
  have l := R.tab.len
  rw [List.length_map] at l
  have li : i < t.place.toList.length := l ▸ (List.getElem?_eq_some_iff.mp hi).1
  have mem := zip_get (show (L.map fun p => thash P w p.2)[i]? = some (thash P w k) by rw [List.getElem?_map, hi, ← p2]; rfl) (List.getElem?_eq_getElem li)
  obtain ⟨d, e1, e2⟩ := R.tab.fnd _ mem
  have e1 : L2.way t.mask (thash P w k) d = t.place.toList[i] := e1
  refine ⟨i, d, hi, Nat.zero_le _, ?_, by rw [List.getElem?_eq_getElem li, e1]⟩
  rcases Nat.lt_trichotomy d K with z | z | z
  · exact z
  · exact absurd (List.getElem_mem li) (by rw [← e1, z]; exact k2)
  · exact absurd (e2 K z) k2
/-! ### one more -/
/-- laid anew in a larger table -/
theorem larger {o : Obj} (ho : s.heap.get? a = some o) (ox : o.ExactSet) (od : o.data = .set es ep t) (row : es.toList = rowsOf P w L) (tab : Tab t (L.map fun p => thash P w p.2)) (lm : L.length ≤ t.mask)
    (one : (L.map (·.2)).Nodup) (ts : ∀ p ∈ L, IsT P w s.heap p.2 p.1) (pln : t.plain = true) (ldd : w.params.followText "set-order" = true ∨ t.led = true) {wanted M : Nat}
    (sz : SetTable.sizeAbove wanted = M + 1) (g : Mk M) (bnd : L.length * 5 < M * 3 ∧ L.length ≤ 300) {Q : Unit → Shared → Prop}
    (q : ∀ h' L' es' ep' t', Heap.SameBut a s.heap h' → SetG P w h' a L' es' ep' t' → L'.Perm L → Q () { s with heap := h' }) : wpAny (model P w) A (setRelay a wanted) Q E s := by
  have el := rows_len row
  have fit : t.fits es.size = true := by
    have x1 := tab.len
    rw [List.length_map, Array.length_toList] at x1
    have x4 : t.fill = t.place.size + t.dummies.size := rfl
    have x5 : t.dummies.size = 0 := by rw [tab.clean]; rfl
    unfold SetTable.fits
    rw [x4, x5, x1, el]
    simp
    exact lm
  obtain ⟨t', ord, r1, r2, r3, r4, r5, r6⟩ := relaid_tab t (hs := es.map (·.1)) (wanted := wanted) (M := M) (by rw [sz]; rfl) g (by rw [Array.size_map, el]; omega)
  rw [Array.size_map, el] at r2
  obtain ⟨L', l1, l2, l3⟩ := order_rows L es ord row r2
  rw [← l3] at r3
  have l4 : (ord.filterMap (es[·]?)).size = es.size := by rw [rows_len l1, l2.length_eq, el]
  rw [setRelay_eq]
  refine wpAny_bind (wpAny_setState_of ho od fit ?_)
  dsimp only
  have gl := g.le.1
  refine wp_if_neg (by rw [sizeLine_eq, sz]; omega) ?_
  try refine wpAny_bind (wpAny_pure ?_)
  rw [r1]
  dsimp only
  refine wpAny_bind (wp_if_neg (by rw [l4]; simp) ?_)
  try refine wpAny_bind (wpAny_pure ?_)
  refine wpAny_pure ?_
  dsimp only
  refine wpAny_storeSet_of ho od ?_ (by rw [l4, el, sizeLine_eq]; omega)
  have sb : Heap.SameBut a s.heap (s.heap.update a (Obj.putSet (ord.filterMap (es[·]?)) t')) := Heap.SameBut.update ..
  exact q _ L' _ (ep + 1) t' sb ⟨⟨_, store_at ho od, ⟨ox.1, ox.2.1, ox.2.2⟩, rfl⟩, l1, r3, (l2.map (·.2)).nodup_iff.mpr one, fun p hp => isT_same (ts p (l2.mem_iff.mp hp)) ho od sb, r6 ▸ pln, r5 ▸ ldd, by rw [l2.length_eq, r4]; exact bnd⟩ l2
/-- how large the next table is -/
theorem next_size {m n : Nat} (g : Mk m) (h1 : n * 5 < m * 3) (h2 : (n + 1) * 5 ≥ m * 3) (h3 : n + 1 ≤ 300) : ∃ M, SetTable.sizeAbove (SetTable.grown (n + 1)) = M + 1 ∧ Mk M ∧ (n + 1) * 5 < M * 3 := by
  rcases g with e | e | e | e
  · have : n = 4 := by omega
    subst this
    exact ⟨31, size_20, Or.inr (Or.inl rfl), by omega⟩
  · have : n = 18 := by omega
    subst this
    exact ⟨127, size_76, Or.inr (Or.inr (Or.inl rfl)), by omega⟩
  · have : n = 76 := by omega
    subst this
    exact ⟨511, size_512, Or.inr (Or.inr (Or.inr rfl)), by omega⟩
  · omega
/-- a tuple is added -/
theorem add_one (R : SetG P w s.heap a L es ep t) {x : Addr} {k : List Int} (hx : IsT P w s.heap k x) (hu : A.units < cLine) (few : k ∉ L.map (·.2) → L.length + 1 ≤ 300) {Q : Bool → Shared → Prop}
    (q : ∀ b h' L' es' ep' t', Heap.SameBut a s.heap h' → SetG P w h' a L' es' ep' t' → (k ∈ L.map (·.2) ∧ L' = L ∨ k ∉ L.map (·.2) ∧ L'.Perm ((x, k) :: L)) → Q b { s with heap := h' }) :
    wpAny (model P w) A (setAddHashed a (.ref x) (thash P w k)) Q E s := by
  obtain ⟨o, ho, ox, od⟩ := R.obj
  have el := rows_len R.row
  unfold setAddHashed
  refine wpAny_holding ?_
  rw [show (100000 : Nat) = 99999 + 1 from rfl, setAddHashedIn_succ]
  refine wpAny_bind (wpAny_setState_of ho od R.fit ?_)
  dsimp only
  refine wp_if_neg (by simp [byScan, Value.scannable]) ?_
  try refine wpAny_bind (wpAny_pure ?_)
  refine wpAny_bind (seek0 R hx hu (fun y => ?_) fun K n1 n2 n3 => ?_)
  · dsimp only
    exact wpAny_pure (q false s.heap L es ep t (Heap.SameBut.refl a s.heap) R (Or.inl ⟨y, rfl⟩))
  · dsimp only
    refine wpAny_bind (wpAny_setState_of ho od R.fit ?_)
    dsimp only
    have few := few n1
    obtain ⟨i1, i2, i3⟩ := R.tab.ins n2 n3 _ rfl
    have pe : (t.put (L2.way t.mask (thash P w k) K)).2 = SetTable.below t.place (L2.way t.mask (thash P w k) K) := rfl
    have m1 : (t.put (L2.way t.mask (thash P w k) K)).1.mask = t.mask := rfl
    have m2 : (t.put (L2.way t.mask (thash P w k) K)).1.plain = true := R.pln
    have m3 : w.params.followText "set-order" = true ∨ (t.put (L2.way t.mask (thash P w k) K)).1.led = true := R.ldd
    generalize t.put (L2.way t.mask (thash P w k) K) = tp at *
    obtain ⟨t1, p⟩ := tp
    dsimp only at *
    subst pe
    first
      | (refine wpAny_bind ?_; refine wp_if_pos m2 ?_; refine hashBy_tup hx ?_)
      | refine wp_if_pos m2 (wpAny_bind (hashBy_tup hx ?_))
    simp only [if_true]
    generalize SetTable.below t.place (L2.way t.mask (thash P w k) K) = p at *
    have row1 : (SetTable.insertAt es p (thash P w k, Value.ref x)).toList = rowsOf P w (L.take p ++ (x, k) :: L.drop p) := by rw [SetTable.toList_insertAt, rows_put, R.row]
    have pm := put_perm L p (x, k)
    have tab1 : Tab t1 ((L.take p ++ (x, k) :: L.drop p).map fun p => thash P w p.2) := by
      rw [List.map_append, List.map_cons, List.map_take, List.map_drop]
      exact i2
    rw [List.length_map] at i3
    generalize SetTable.insertAt es p (thash P w k, Value.ref x) = es1 at *
    generalize L.take p ++ (x, k) :: L.drop p = L1 at *
    have ln : L1.length = L.length + 1 := pm.length_eq
    have one1 : (L1.map (·.2)).Nodup := (pm.map (·.2)).nodup_iff.mpr (List.nodup_cons.mpr ⟨n1, R.one⟩)
    have el1 := rows_len row1
    refine wpAny_bind (wpAny_storeSet_of ho od ?_ (by rw [el1, ln, sizeLine_eq]; omega))
    have sb : Heap.SameBut a s.heap (s.heap.update a (Obj.putSet es1 t1)) := Heap.SameBut.update ..
    have ho1 := store_at (es' := es1) (t' := t1) ho od
    generalize s.heap.update a (Obj.putSet es1 t1) = h1 at sb ho1 ⊢
    have ts1 : ∀ p ∈ L1, IsT P w h1 p.2 p.1 := fun p hp => by
      have z := pm.mem_iff.mp hp
      rw [List.mem_cons] at z
      rcases z with e | z
      · subst e
        exact isT_same hx ho od sb
      · exact isT_same (R.isT p z) ho od sb
    have tf : t1.tooFull = decide ((L.length + 1) * 5 ≥ t.mask * 3) := by
      unfold SetTable.tooFull
      rw [i3, m1]
    by_cases full : (L.length + 1) * 5 ≥ t.mask * 3
    · obtain ⟨M, M1, M2, M3⟩ := next_size R.tab.msk R.bnd.1 full few
      have tt : t1.tooFull = true := by rw [tf]; exact decide_eq_true full
      have goal : wpAny (model P w) A (setRelay a (SetTable.grown (es.size + 1))) (fun _ s' => wpAny (model P w) A (pure true) Q E s') E { s with heap := h1 } := by
        rw [el]
        refine larger (s := { s with heap := h1 }) ho1 ⟨ox.1, ox.2.1, ox.2.2⟩ rfl row1 tab1 ?_ one1 ts1 m2 m3 M1 M2 (by rw [ln]; exact ⟨M3, few⟩) fun h2 L2 es2 ep2 t2 sb2 R2 pm2 => ?_
        · have := R.bnd.1
          have := R.tab.msk
          unfold Mk at this
          rw [ln, m1]
          omega
        · exact wpAny_pure (q true h2 L2 es2 ep2 t2 (sb.trans sb2) R2 (Or.inr ⟨n1, pm2.trans pm⟩))
      first
        | (refine wpAny_bind ?_; refine wp_if_pos (by simp [tt]) ?_; exact goal)
        | (refine wp_if_pos (by simp [tt]) ?_; refine wpAny_bind ?_; exact goal)
    · have tt : t1.tooFull = false := by rw [tf]; exact decide_eq_false full
      have last := q true h1 L1 es1 (ep + 1) t1 sb ⟨⟨_, ho1, ⟨ox.1, ox.2.1, ox.2.2⟩, rfl⟩, row1, tab1, one1, ts1, m2, m3, by rw [ln, m1]; omega⟩ (Or.inr ⟨n1, pm⟩)
      first
        | (refine wp_if_neg (by simp [tt]) ?_; exact wpAny_pure last)
        | (refine wpAny_bind ?_; refine wp_if_neg (by simp [tt]) ?_; refine wpAny_pure ?_; exact wpAny_pure last)
/-! ### set(xs) -/
theorem SetG.stay {h h' : Heap} (R : SetG P w h a L es ep t) (ka : ∀ o, h.get? a = some o → h'.get? a = some o) (kt : ∀ p ∈ L, IsT P w h' p.2 p.1) : SetG P w h' a L es ep t :=
  let ⟨o, ho, r⟩ := R.obj
  { R with obj := ⟨o, ka o ho, r⟩, isT := kt }
/-- what is in the set behind the first i of ks -/
noncomputable def Has (ks : List (Addr × List Int)) (i : Nat) (L : List (Addr × List Int)) : Prop := (∀ p ∈ L, p ∈ ks.take i) ∧ ∀ p ∈ ks.take i, p.2 ∈ L.map (·.2)
theorem Has.next {ks L L' : List (Addr × List Int)} {i : Nat} {x : Addr} {k : List Int} (g : Has ks i L) (e : ks[i]? = some (x, k)) (c : k ∈ L.map (·.2) ∧ L' = L ∨ k ∉ L.map (·.2) ∧ L'.Perm ((x, k) :: L)) : Has ks (i + 1) L' := by
  have tk : ks.take (i + 1) = ks.take i ++ [(x, k)] := take_next e
  have sup : ∀ q ∈ L.map (·.2), q ∈ L'.map (·.2) := fun q z => by
    rcases c with ⟨_, c⟩ | ⟨_, c⟩
    · rw [c]; exact z
    · exact (c.map (·.2)).mem_iff.mpr (List.mem_cons_of_mem _ z)
  unfold Has
  rw [tk]
  refine ⟨fun p z => List.mem_append.mpr ?_, fun p z => ?_⟩
  · rcases c with ⟨_, c⟩ | ⟨_, c⟩
    · exact Or.inl (g.1 p (c ▸ z))
    · have z := c.mem_iff.mp z
      rw [List.mem_cons] at z
      exact z.elim (fun y => Or.inr (y ▸ List.mem_singleton_self _)) fun y => Or.inl (g.1 p y)
  · rcases List.mem_append.mp z with z | z
    · exact sup _ (g.2 p z)
    · rw [List.mem_singleton.mp z]
      rcases c with ⟨y, c⟩ | ⟨_, c⟩
      · exact c ▸ y
      · exact (c.map (·.2)).mem_iff.mpr List.mem_cons_self
/-- no more than three hundred are distinct -/
noncomputable def Few (ks : List (Addr × List Int)) : Prop := ∀ l : List (List Int), l.Nodup → (∀ k ∈ l, k ∈ ks.map (·.2)) → l.length ≤ 300
theorem fill {I : Addr} {fp wr : List Addr} {G : Array GenState → Array GenState → Prop} {n : Nat} {Pv : Nat → Value → Prop} {St : Nat → Shared → Prop} {Z : Result → Shared → Prop}
    (W : WalksS P w A.in1 I fp wr G n Pv St) {S : Addr} (sf : S ∉ fp) {ks : List (Addr × List Int)} (hn : ks.length = n) (few : Few ks) (val : ∀ i v, Pv i v → ∃ p, ks[i]? = some p ∧ v = .ref p.1)
    {h0 : Heap} (kt : ∀ p ∈ ks, IsT P w h0 p.2 p.1) (s0 : h0.get? S = none) (w0 : ∀ b ∈ wr, h0.get? b = none) (hu : A.in1.units < cLine)
    (last : ∀ s' L es ep t, Moved (S :: wr) G s s' → SetG P w s'.heap S L es ep t → Has ks n L → (∀ b o, h0.get? b = some o → s'.heap.get? b = some o) → Z (.ok (.ret .none)) s') :
    ∀ (r i : Nat) (s1 : Shared), i + r = n → St i s1 → Moved (S :: wr) G s s1 → (∀ b o, h0.get? b = some o → s1.heap.get? b = some o) → (∃ L es ep t, SetG P w s1.heap S L es ep t ∧ Has ks i L) →
      codeAny (model P w) A (.builtin "set.update.loop" ⟨[.ref S, .ref I], []⟩) Z s1 := by
  have sw : S ∉ wr := fun z => sf (W.sub _ z)
  have up : ∀ {s1 s2 : Shared}, Moved wr G s1 s2 → Moved (S :: wr) G s1 s2 := fun m => m.mono fun b z => List.mem_cons_of_mem _ z
  have old : ∀ {s1 s2 : Shared}, Moved wr G s1 s2 → (∀ b o, h0.get? b = some o → s1.heap.get? b = some o) → ∀ b o, h0.get? b = some o → s2.heap.get? b = some o := fun m y b o e =>
    m.heap b o (fun z => by rw [w0 b z] at e; cases e) (y b o e)
  have sub : ∀ {i : Nat} {L : List (Addr × List Int)}, Has ks i L → ∀ p ∈ L, p ∈ ks := fun g p z => List.mem_of_mem_take (g.1 p z)
  intro r
  induction r with
  | zero =>
    intro i s1 hi st mv y ⟨L, es, ep, t, R, g⟩
    obtain rfl : i = n := by omega
    refine codeAny_builtin F.entry_set_update_loop ?_
    rw [Around.under_plainId F.plain_set_update_loop _]
    show wpAny _ A.in1 (pyNext (.ref I) >>= _) _ _ s1
    refine wpAny_bind (W.done s1 _ _ st fun s2 m => ?_)
    show wpAny _ A.in1 (ret Value.none) _ _ s2
    have y2 := old m y
    exact wpAny_pure (last s2 L es ep t (Moved.trans W.gtrans mv (up m)) (R.stay (fun o e => m.heap S o sw e) fun p z => isT_keep (kt p (sub g p z)) y2) g y2)
  | succ r ih =>
    intro i s1 hi st mv y ⟨L, es, ep, t, R, g⟩
    refine codeAny_builtin F.entry_set_update_loop ?_
    rw [Around.under_plainId F.plain_set_update_loop _]
    show wpAny _ A.in1 (pyNext (.ref I) >>= _) _ _ s1
    refine wpAny_bind (W.item i s1 _ _ (by omega) st fun v s2 pv st2 m => ?_)
    obtain ⟨⟨x, k⟩, e, rfl⟩ := val i v pv
    have y2 := old m y
    have R2 : SetG P w s2.heap S L es ep t := R.stay (fun o e => m.heap S o sw e) fun p z => isT_keep (kt p (sub g p z)) y2
    have hx : IsT P w s2.heap k x := isT_keep (kt (x, k) (List.mem_of_getElem? e)) y2
    show wpAny _ A.in1 (holding [Value.ref x] (setAdd S (.ref x)) >>= _) _ _ s2
    refine wpAny_bind (wpAny_holding ?_)
    unfold setAdd
    refine wpAny_holding (wpAny_bind (wpAny_pyHash_tuple hu hx ?_))
    refine add_one (s := { s2 with toks := s2.toks + (k.length + 1) }) R2 hx hu (fun z => ?_) fun b h' L' es' ep' t' sb R3 c => ?_
    · have q := few (k :: L.map (·.2)) (List.nodup_cons.mpr ⟨z, R2.one⟩) fun j hj => by
        rcases List.mem_cons.mp hj with e1 | hj
        · rw [e1]
          exact List.mem_map.mpr ⟨_, List.mem_of_getElem? e, rfl⟩
        · obtain ⟨p, p1, p2⟩ := List.mem_map.mp hj
          exact List.mem_map.mpr ⟨p, sub g p p1, p2⟩
      rw [List.length_cons, List.length_map] at q
      exact q
    · have nS : ∀ b, b ≠ S → h'.get? b = s2.heap.get? b := fun b z => sb.2 b z
      have y3 : ∀ b o, h0.get? b = some o → h'.get? b = some o := fun b o z => (nS b fun q => by rw [q, s0] at z; cases z).trans (y2 b o z)
      refine wpAny_pure ⟨plainId_quiet F.plain_set_update_loop _, ih (i + 1) _ (by omega) (W.frame _ s2 _ _ st2 (Nat.le_add_right _ _) fun b z o q => (nS b fun q => sf (q ▸ z)).trans q) ?_ y3 ⟨L', es', ep', t', R3, g.next e c⟩⟩
      exact Moved.trans W.gtrans mv ((up m).then_heap (Nat.le_add_right _ _) fun b o z q => (nS b fun q => z (q ▸ List.mem_cons_self)).trans q)
/-! ### sorted(s) -/
end
/-! ### as tracked things -/
/-! ### plainly: ascending, each once -/
end GS
/-! MI9: lists that change, loops. -/
namespace MI
open PySem PySem.Spec PyProof.Rows L2
variable [EK]
section
variable {X : Cx} {F : Fns} {W : Nat} {e a b c tg iter : Expr} {es : List Expr} {st : Stmt} {sts sts' : List Stmt} {m ma mb mc mi : ME} {n n' : MS} {pos : Pos} {t : MT} {i : Nat}
/-- a list of one's own is written -/
theorem RE.write {A M : AS} {H : Hp} {ρ : Rho} {σ : L2.St} {d d' : PyData} {p : Addr} {o : HO} (r : RE A M H ρ σ) (e : ρ[i]? = some (Slot.own d)) (hσ : σ[i]? = some (some (.ref p))) (nt : NM d) (ho : Own A (upd H p o) p d') : RE A M (upd H p o) (ρ.set i (.own d')) σ ∧ Kp M H (upd H p o) := by
  obtain ⟨p', e1, hm, hown⟩ := r.own i d e
  rw [hσ] at e1
  cases e1
  obtain ⟨o0, h0, mu⟩ := hown.live
  have k : Kp M H (upd H p o) := Kp.wr hm h0 (mu nt)
  refine ⟨⟨by rw [List.length_set]; exact r.len, r.sub, fun x z => let ⟨u, h⟩ := r.live x z; k.live x u h, fun j x h => ?_, fun j x h => ?_, fun j k x y b h1 h2 h3 h4 => ?_, k.tabX r.tab, r.excS fun _ => nofun⟩, k⟩
  · rcases set_cases h with ⟨_, q⟩ | ⟨_, q⟩
    · cases q
    · obtain ⟨v, q1, q2⟩ := r.dat j x q
      exact ⟨v, q1, q2.keep r.sub k⟩
  · rcases set_cases h with ⟨rfl, q⟩ | ⟨ne, q⟩
    · cases q; exact ⟨p, hσ, hm, ho⟩
    · obtain ⟨b, q1, q2, q3⟩ := r.own j x q
      have nb : b ≠ p := fun z => ne (r.inj j i x d p q e (z ▸ q1) hσ)
      have kp : Kp (fun x => x = p) H (upd H p o) := Kp.wr rfl h0 (mu nt)
      exact ⟨b, q1, q2, q3.keep (M := fun x => x = p) (fun x z => z ▸ r.sub p hm) kp nb⟩
  · have own : ∀ {j : Nat} {x : PyData}, (ρ.set i (.own d'))[j]? = some (Slot.own x) → ∃ y, ρ[j]? = some (Slot.own y) := fun {j x} h => by
      rcases set_cases h with ⟨rfl, _⟩ | ⟨_, q⟩
      · exact ⟨d, e⟩
      · exact ⟨x, q⟩
    obtain ⟨x', q1⟩ := own h1
    obtain ⟨y', q2⟩ := own h2
    exact r.inj j k x' y' b q1 q2 h3 h4
theorem own_lst {A M : AS} {H : Hp} {ρ : Rho} {σ : L2.St} {ds : List PyData} (r : RE A M H ρ σ) (e : ρ[i]? = some (Slot.own (.list ds))) : ∃ p xs, σ[i]? = some (some (.ref p)) ∧ M p ∧ H p = some (.lst xs) ∧ RelAll A H xs ds := by
  obtain ⟨p, e1, hm, ho⟩ := r.own i _ e
  rcases ho with ⟨xs, ds', e2, h, rr⟩ | ⟨_, _, e2, _⟩ | ⟨_, _, _, e2, _⟩ | ⟨_, _, e2, _⟩ | ⟨_, _, _, _, _, e2, _⟩
  · cases e2; exact ⟨p, xs, e1, hm, h, rr⟩
  · cases e2
  · cases e2
  · cases e2
  · cases e2
theorem isOwnL_iff {s : Option Slot} (h : isOwnL s = true) : ∃ ds, s = some (.own (.list ds)) := by
  unfold isOwnL at h
  split at h
  · exact ⟨_, rfl⟩
  · cases h
theorem hfew1 {cp : Pos} (ns : noStar e = true) : ((backTo cp (starEach [e] X.env)).all (fun x => !x.1) && (backToKw cp (keywordEach [] X.env)).all (fun x => x.1.isSome)
      && decide ([e].length + ([] : List Keyword).length + (if ([] : List Keyword).isEmpty then 0 else 1) < 30)) = true := by
  rw [star_no ns]
  rfl
theorem s_app {x : Str} {px ap cp : Pos} (hx : PE X (.Name x px) (tVar i)) (he : Eb X F e m) (ns : noStar e = true) (hl : (ap.endLine == cp.line) = true) : PS X (.Expr (.Call (.Attribute (.Name x px) "append" ap) [e] [] cp) pos) (tS F W (.app i m)) := by
  refine (ps_expr (pe_bm PySem.F.plainAttrs_list PySem.F.slot_list_append PySem.F.type_list_append mt_append hx (pa_cons he.ev pa_nil (star_no ns)) rfl (hfew1 ns) hl (star_no ns) rfl) rfl).imp fun D σ H ⟨A, M, ρ, o, r, ev, g⟩ => ?_
  simp only [evS] at ev
  split at ev
  · rename_i hown
    obtain ⟨ds0, e0⟩ := isOwnL_iff hown
    obtain ⟨p0, xs0, hσ, _, hp0, _⟩ := own_lst r e0
    simp only [Option.bind_eq_some_iff] at ev
    obtain ⟨⟨d, fr, ρ1⟩, h1, h2⟩ := ev
    refine ⟨.ref p0, hσ, .inl ⟨rfl, xs0, SqL.of hp0⟩, A, M, ρ, d, fr, ρ1, r, h1, fun v H1 p => ?_⟩
    obtain ⟨A1, M1, s1, k1, r1, b1⟩ := p.std r.live
    dsimp only at h2
    split at h2
    · rename_i xs hx1
      split at h2
      · rename_i hlen
        cases h2
        obtain ⟨p1, ys, hσ1, hm1, hp1, rr⟩ := own_lst r1 hx1
        rw [hσ] at hσ1
        cases hσ1
        have k : Kp M1 H1 (upd H1 p0 (.lst (ys ++ [v]))) := Kp.wr hm1 hp1 trivial
        obtain ⟨r2, k2⟩ := r1.write (d' := .list (xs ++ [d])) hx1 hσ (fun _ => nofun) (.inl ⟨_, _, rfl, upd_same, (rr.append (.cons b1 .nil)).keep r1.sub k⟩)
        exact ⟨p0, ys, v, rfl, rfl, hp1, by rw [rr.length]; exact hlen, g _ _ ⟨A1, M1, s1.chg, k1.comp s1 k2, r2, Agree.refl _ _⟩⟩
      · cases h2
    · cases h2
  · cases ev
theorem s_ext {x : Str} {px ap cp : Pos} (hx : PE X (.Name x px) (tVar i)) (he : Eb X F e m) (ns : noStar e = true) (hl : (ap.endLine == cp.line) = true) : PS X (.Expr (.Call (.Attribute (.Name x px) "extend" ap) [e] [] cp) pos) (tS F W (.ext i m)) := ⟨fun _ _ _ _ _ _ ⟨_, _, _, _, _, ev, _⟩ => by simp [evS] at ev⟩
theorem _root_.L2.PS.or {X : Cx} {st : Stmt} {t t' : TS} (h : PS X st t) (h' : PS X st t') : PS X st (fun D σ H => t D σ H ∨ t' D σ H) := ⟨fun pins s σ H D I q => q.elim (h.run pins s σ H D I) (h'.run pins s σ H D I)⟩
theorem isOwn_iff {s : Option Slot} (h : isOwn s = true) : ∃ d, s = some (.own d) := by
  unfold isOwn at h
  split at h
  · exact ⟨_, rfl⟩
  · cases h
theorem s_put2 {x y : Str} {px py sp p1 p2 : Pos} {k1 k2 j : Nat} {vs : List Expr} {me : ME} (hc : X.calm = true) (hx : PE X (.Name x px) (tVar i)) (hy : PG X (.Name y py) (gName j)) (hk : Eb X F b mb) (he : PA X vs (tP F me))
    (hs : swapsWithSole [.Tuple [.Subscript (.Name x px) b sp, .Name y py] k1 p1] (.Tuple vs k2 p2) pos.line X.env = pure false) (hw : swappedStores [.Tuple [.Subscript (.Name x px) b sp, .Name y py] k1 p1] (.Tuple vs k2 p2) X.env = pure none)
    (ha : ∀ v, assign (.Subscript (.Name x px) b sp) X.env v = (do
      let ov ← holding [v] (eval (.Name x px) X.env)
      let iv ← holding [v, ov] (eval b X.env)
      standAt sp
      holding [v, ov, iv] (setItem ov iv v)
      release [v, ov, iv] [])) : PS X (.Assign [.Tuple [.Subscript (.Name x px) b sp, .Name y py] k1 p1] (.Tuple vs k2 p2) pos) (tS F W (.put2 i mb j me)) := ⟨fun _ _ _ _ _ _ ⟨_, _, _, _, _, ev, _⟩ => by simp [evS] at ev⟩
theorem s_put {x : Str} {px sp : Pos} (hu : X.A.units + 1 < cLine) (hx : PE X (.Name x px) (tVar i)) (hk : Eb X F b mb) (he : Eb X F e m) (hs : swapsWith e (some (.Subscript (.Name x px) b sp)) pos.line X.env = pure false) (hw : swappedStores [.Subscript (.Name x px) b sp] e X.env = pure none)
    (ha : ∀ v, assign (.Subscript (.Name x px) b sp) X.env v = (do
      let ov ← holding [v] (eval (.Name x px) X.env)
      let iv ← holding [v, ov] (eval b X.env)
      standAt sp
      holding [v, ov, iv] (setItem ov iv v)
      release [v, ov, iv] [])) : PS X (.Assign [.Subscript (.Name x px) b sp] e pos) (tS F W (.put i mb m)) := by
  refine ((ps_asg he.ev (pg_sub hx hk.ev set_list ha) hs hw).or (ps_dput hu hx hk.ev he.ev hs)).imp fun D σ H ⟨A, M, ρ, o, r, ev, g⟩ => ?_
  simp only [evS] at ev
  split at ev
  · rename_i hown
    obtain ⟨ds0, e0⟩ := isOwn_iff hown
    obtain ⟨p0, hσ, _, _⟩ := r.own i _ e0
    simp only [Option.bind_eq_some_iff] at ev
    obtain ⟨⟨d, fr, ρ1⟩, h1, ⟨j, fr2, ρ2⟩, h2, h3⟩ := ev
    dsimp only at h3
    split at h3
    · rename_i x0 hx1
      simp only [Option.map_eq_some_iff] at h3
      obtain ⟨y0, h3, h4⟩ := h3
      cases h4
      unfold putD at h3
      split at h3
      · rename_i xs kk
        simp only [Option.map_eq_some_iff] at h3
        obtain ⟨jj, h3, rfl⟩ := h3
        refine .inl ⟨A, M, ρ, d, fr, ρ1, r, h1, fun v H1 p => ?_⟩
        obtain ⟨A1, M1, s1, k1, r1, b1⟩ := p.std r.live
        refine ⟨.ref p0, hσ, A1, M1, ρ1, _, fr2, ρ2, r1, h2, fun y H2 p2 => ?_⟩
        obtain ⟨A2, M2, s2, k2, r2, b2⟩ := p2.std r1.live
        have b1' := (b1.keep r1.sub k2).anti s2.a
        obtain ⟨p1, ys, hσ1, hm1, hp1, rr⟩ := own_lst r2 hx1
        rw [hσ] at hσ1
        cases hσ1
        cases b2
        have k : Kp M2 H2 (upd H2 p0 (.lst (ys.set jj v))) := Kp.wr hm1 hp1 trivial
        obtain ⟨r3, k3⟩ := r2.write (d' := .list (xs.set jj d)) hx1 hσ (fun _ => nofun) (.inl ⟨_, _, rfl, upd_same, (rr.set b1' jj).keep r2.sub k⟩)
        exact ⟨p0, ys, kk, jj, rfl, rfl, hp1, by rw [rr.length]; exact h3, g _ _ ⟨A2, M2, (s1.trans s2).chg, (k1.comp s1 k2).comp (s1.trans s2) k3, r3, Agree.refl _ _⟩⟩
      · rename_i es
        simp only [Option.bind_eq_some_iff] at h3
        obtain ⟨ks, hk, h3⟩ := h3
        split at h3
        · rename_i hlen
          cases h3
          refine .inr ⟨A, M, ρ, d, fr, ρ1, r, h1, fun v H1 p => ?_⟩
          obtain ⟨A1, M1, s1, k1, r1, b1⟩ := p.std r.live
          refine ⟨.ref p0, hσ, A1, M1, ρ1, _, fr2, ρ2, r1, h2, fun y H2 p2 => ?_⟩
          obtain ⟨A2, M2, s2, k2, r2, b2⟩ := p2.std r1.live
          have b1' := (b1.keep r1.sub k2).anti s2.a
          obtain ⟨p1, hσ1, hm1, ho1⟩ := r2.own i _ hx1
          rw [hσ] at hσ1
          cases hσ1
          obtain ⟨p2', kvs, e1, hp1, rr⟩ := Top.dit (.inr ⟨p0, rfl, ho1, fun _ => nofun⟩)
          cases e1
          obtain ⟨bb, rfl, hb, _⟩ := tupI_rel b2 hk
          have k : Kp M2 H2 (upd H2 p0 (.dT (putK kvs (ks.map Sum.inl) v))) := Kp.wr hm1 hp1 trivial
          obtain ⟨r3, k3⟩ := r2.write (d' := .dict (tMark :: tPut es ks d)) hx1 hσ (fun _ => nofun) (.inr (.inr (.inr (.inl ⟨_, _, rfl, upd_same, (tput_rel b1' rr).keep r2.sub k⟩))))
          exact ⟨p0, _, rfl, DPut.t hp1 (hb.tr rr.fz) (by rw [rr.length]; exact hlen), g _ _ ⟨A2, M2, (s1.trans s2).chg, (k1.comp s1 k2).comp (s1.trans s2) k3, r3, Agree.refl _ _⟩⟩
        · cases h3
      · rename_i es hnm
        split at h3
        · rename_i hc
          cases h3
          simp only [Bool.and_eq_true, Bool.not_eq_true', decide_eq_true_iff] at hc
          refine .inr ⟨A, M, ρ, d, fr, ρ1, r, h1, fun v H1 p => ?_⟩
          obtain ⟨A1, M1, s1, k1, r1, b1⟩ := p.std r.live
          refine ⟨.ref p0, hσ, A1, M1, ρ1, _, fr2, ρ2, r1, h2, fun y H2 p2 => ?_⟩
          obtain ⟨A2, M2, s2, k2, r2, b2⟩ := p2.std r1.live
          have b1' := (b1.keep r1.sub k2).anti s2.a
          obtain ⟨p1, hσ1, hm1, ho1⟩ := r2.own i _ hx1
          rw [hσ] at hσ1
          cases hσ1
          rcases ho1 with ⟨_, _, z, _⟩ | ⟨kvs, _, z, hp1, rr⟩ | ⟨_, _, _, z, _⟩ | ⟨kvs, es', z, hp1, rr⟩ | ⟨_, _, _, _, _, z, _⟩
          · cases z
          rotate_left
          · cases z
          · cases z; simp [isScr, tMark] at hc
          · cases z; simp [isScr, oMark] at hc
          · cases z
            obtain ⟨q, rfl, rfl⟩ := key_rel b2 hc.1.1
            have k : Kp M2 H2 (upd H2 p0 (.dK (putK kvs q v))) := Kp.wr hm1 hp1 trivial
            obtain ⟨r3, k3⟩ := r2.write (d' := .dict (dPut es (keyD q) d)) hx1 hσ (fun _ => nofun) (.inr (.inl ⟨_, _, rfl, upd_same, (put_rel b1' rr).keep r2.sub k⟩))
            exact ⟨p0, _, rfl, DPut.k hp1 (by rw [rr.length]; exact hc.2), g _ _ ⟨A2, M2, (s1.trans s2).chg, (k1.comp s1 k2).comp (s1.trans s2) k3, r3, Agree.refl _ _⟩⟩
        · cases h3
      · cases h3
    · cases h3
  · cases ev
/-! ### methods that are asked for a value -/
theorem _root_.L2.PE.or {X : Cx} {e : Expr} {t t' : TE} (h : PE X e t) (h' : PE X e t') : PE X e (fun σ H Q => t σ H Q ∨ t' σ H Q) :=
  ⟨fun pins s σ H Q I q => q.elim (h.run pins s σ H Q I) (h'.run pins s σ H Q I)⟩
/-- a method of a built-in type, by what is known of the receiver -/
theorem pe_mth {o : Expr} {name : Str} {T id : String} {to : TE} {ts : TA} {ap cp : Pos} {rr : V → List V → Hp → VK → Prop} {ty : V → Hp → Prop} (pa : PlainAttrs T) (slot : PySem.Slot T name id) (hty : typeOf (.builtin id) = pure (.type "method_descriptor"))
    (hm : MtR X id rr) (ho : PE X o to) (ha : PA X [e] ts) (is : ∀ {pins : List (Addr × Obj)} {σ : L2.St} {H : Hp} {s : Shared} {x : V} {v : Value}, Inv X pins σ H s → RelV x v → ty x H → s.TypeIs v T ∧ ∀ a, v = .ref a → ∃ ob, s.heap.get? a = some ob ∧ ob.dict = none)
    (hbase : attributeBase o name X.env (eval o X.env) = eval o X.env) (ns : noStar e = true) (hl : (ap.endLine == cp.line) = true) :
    PE X (.Call (.Attribute o name ap) [e] [] cp) (fun σ H Q => to σ H fun x H1 => ty x H1 ∧ ts σ H1 fun xs H2 => rr x xs H2 Q) := by
  refine ⟨fun pins s σ H Q I h => wpAny_Call_method_late hbase (hfew1 ns) hl rfl (thn (ho.run pins s σ H _ I h) fun v s1 ⟨x, H1, I1, r1, hx, q1⟩ => ?_)⟩
  obtain ⟨h1, h2⟩ := is I1 r1 hx
  refine ⟨T, id, pa, slot, hty, h1, h2, ?_⟩
  have hA := ha.run cp pins s1 σ H1 _ I1 q1
  rw [star_no ns] at hA ⊢
  exact Calls.callWith_builtin rfl (Calls.evalArgs_plain (thn hA fun us s2 ⟨vs, H2, I2, r2, q2⟩ => hm pins s2 σ H2 x vs v us Q I2 r1 r2 q2))
noncomputable def isLst (K : PySem.W.Frag) (x : V) (H : Hp) : Prop := ∃ p xs, x = .ref p ∧ SqL K H p xs
noncomputable def isTupP (x : V) (H : Hp) : Prop := ∃ p xs o, x = .ref p ∧ o.dict = none ∧ H p = some (.frz o (.tup xs))
theorem isLst_ok {pins : List (Addr × Obj)} {σ : L2.St} {H : Hp} {s : Shared} {x : V} {v : Value} (I : Inv X pins σ H s) (r : RelV x v) (h : isLst X.K x H) : s.TypeIs v "list" ∧ ∀ a, v = .ref a → ∃ ob, s.heap.get? a = some ob ∧ ob.dict = none := by
  obtain ⟨p, xs, rfl, hq⟩ := h
  exact tyV_is (T := "list") I r (.inl ⟨rfl, xs, hq⟩)
theorem isTupP_ok {pins : List (Addr × Obj)} {σ : L2.St} {H : Hp} {s : Shared} {x : V} {v : Value} (I : Inv X pins σ H s) (r : RelV x v) (h : isTupP x H) : s.TypeIs v "tuple" ∧ ∀ a, v = .ref a → ∃ ob, s.heap.get? a = some ob ∧ ob.dict = none := by
  obtain ⟨p, xs, o, rfl, hd, hp⟩ := h
  cases r
  obtain ⟨g, _, its, _, ⟨o', e', hc, n, hdt⟩⟩ := I.hok p _ hp
  rw [g] at e'; cases e'
  exact ⟨⟨o, g, hc⟩, fun a e => by cases e; exact ⟨o, g, hd⟩⟩
/-- how often a flat value stands in a list or a tuple of such -/
noncomputable def rCnt (lst : Bool) (K : PySem.W.Frag) : V → List V → Hp → VK → Prop := fun x xs H Q => ∃ A p vs ds d y, x = .ref p ∧ xs = [y] ∧ (if lst then SqL K H p vs else SqT K H p vs) ∧ RelAll A H vs ds ∧ Rel A H y d ∧ flat d = true ∧ ds.all flat = true ∧ Q (.int (ds.countP fun z => PyData.eqv z d : Nat)) H
theorem flat_nd {d : PyData} (h : flat d = true) : d.hasDict = false ∧ d.depth = 0 := by
  cases d <;> first | (simp [flat] at h; done) | exact ⟨by simp [PyData.hasDict], by simp [PyData.depth]⟩
theorem flat_ndA {ds : List PyData} (h : ds.all flat = true) : PyData.hasDictAll ds = false := by
  induction ds with
  | nil => simp [PyData.hasDictAll]
  | cons a t ih =>
    rw [List.all_cons, Bool.and_eq_true] at h
    simp [PyData.hasDictAll, (flat_nd h.1).1, ih h.2]
theorem mt_cntL (hu : X.A.units + 64 < cLine) : MtR X "list.count" (rCnt true X.K) := by
  intro pins s σ H x xs v us Q I rx rs ⟨A, p, vs, ds, d, y, e1, e2, hs, ra, rd, fd, fds, q⟩
  subst e1; subst e2
  cases rx
  obtain ⟨u, rfl, ru⟩ := rs.one
  obtain ⟨its, rv, pl, _⟩ := I.list (by simpa using hs)
  obtain ⟨as, r1⟩ := Dp.readsAll I ds vs its (ra.dp (flat_ndA fds)) rv
  obtain ⟨bs, r2⟩ := Dp.reads I d y u (rd.dp (flat_nd fd).1) ru
  exact PySem.SeqAt.count_list_data (vs := its.toArray) pl.isList (by simpa using r1) r2 (plainAll_of (flat_ndA fds)) (plain_of (flat_nd fd).1) (by rw [(flat_nd fd).2]; omega) ⟨.int _, H, I.tok _, ⟨_, rfl⟩, q⟩
theorem mt_cntT (hu : X.A.units + 64 < cLine) : MtR X "tuple.count" (rCnt false X.K) := by
  intro pins s σ H x xs v us Q I rx rs ⟨A, p, vs, ds, d, y, e1, e2, hs, ra, rd, fd, fds, q⟩
  subst e1; subst e2
  cases rx
  obtain ⟨u, rfl, ru⟩ := rs.one
  obtain ⟨its, rv, pl, _⟩ := I.tuple (by simpa using hs)
  obtain ⟨as, r1⟩ := Dp.readsAll I ds vs its (ra.dp (flat_ndA fds)) rv
  obtain ⟨bs, r2⟩ := Dp.reads I d y u (rd.dp (flat_nd fd).1) ru
  exact PySem.SeqAt.count_tuple_data (vs := its.toArray) pl (by simpa using r1) r2 (plainAll_of (flat_ndA fds)) (plain_of (flat_nd fd).1) (by rw [(flat_nd fd).2]; omega) ⟨.int _, H, I.tok _, ⟨_, rfl⟩, q⟩
theorem own_tup {A M : AS} {H : Hp} {ρ : Rho} {σ : L2.St} {ds : List PyData} (r : RE A M H ρ σ) (e : ρ[i]? = some (Slot.own (.tuple ds))) : ∃ p xs o, σ[i]? = some (some (.ref p)) ∧ o.dict = none ∧ H p = some (.frz o (.tup xs)) ∧ RelAll A H xs ds := by
  obtain ⟨p, e1, hm, ho⟩ := r.own i _ e
  rcases ho with ⟨xs, ds', e2, h, rr⟩ | ⟨_, _, e2, _⟩ | ⟨xs, ds', o, e2, hd, h, rr⟩ | ⟨_, _, e2, _⟩ | ⟨_, _, _, _, _, e2, _⟩
  · cases e2
  · cases e2
  · cases e2; exact ⟨p, xs, o, e1, hd.1, h, rr⟩
  · cases e2
  · cases e2
theorem slot_lst {A M : AS} {H : Hp} {ρ : Rho} {σ : L2.St} (r : RE A M H ρ σ) (h : cntK ρ[i]? = some true) : ∃ p vs ds, σ[i]? = some (some (.ref p)) ∧ H p = some (.lst vs) ∧ RelAll A H vs ds ∧ seqS ρ[i]? = some ds := by
  unfold cntK at h
  split at h
  · rename_i ys hy
    obtain ⟨p, vs, hσ, _, hp, ra⟩ := own_lst r hy
    exact ⟨p, vs, ys, hσ, hp, ra, by rw [hy]; rfl⟩
  · cases h
  · rename_i ys hy
    obtain ⟨v, hσ, rel⟩ := r.dat i _ hy
    cases rel with
    | lst hh hn rr => exact ⟨_, _, ys, hσ, hh, rr, by rw [hy]; rfl⟩
  · cases h
theorem slot_tup {A M : AS} {H : Hp} {ρ : Rho} {σ : L2.St} (r : RE A M H ρ σ) (h : cntK ρ[i]? = some false) : ∃ p vs ds o, σ[i]? = some (some (.ref p)) ∧ o.dict = none ∧ H p = some (.frz o (.tup vs)) ∧ RelAll A H vs ds ∧ seqS ρ[i]? = some ds := by
  unfold cntK at h
  split at h
  · cases h
  · rename_i ys hy
    obtain ⟨p, vs, o, hσ, hd, hp, ra⟩ := own_tup r hy
    exact ⟨p, vs, ys, o, hσ, hd, hp, ra, by rw [hy]; rfl⟩
  · cases h
  · cases h
theorem slot_fz {A M : AS} {H : Hp} {ρ : Rho} {σ : L2.St} (r : RE A M H ρ σ) (h : cntK ρ[i]? = some false) : fzB = true := by
  unfold cntK at h
  split at h
  · cases h
  · rename_i ys hy
    obtain ⟨p, _, _, ho⟩ := r.own i _ hy
    rcases ho with ⟨_, _, e2, _⟩ | ⟨_, _, e2, _⟩ | ⟨_, _, _, _, hd, _⟩ | ⟨_, _, e2, _⟩ | ⟨_, _, _, _, _, e2, _⟩
    · cases e2
    · cases e2
    · exact hd.2
    · cases e2
    · cases e2
  · cases h
  · cases h
theorem e_cnt {x : Str} {px ap cp : Pos} (hu : X.A.units + 64 < cLine) (hx : PE X (.Name x px) (tVar i)) (he : Eb X F e m) (ns : noStar e = true) (hl : (ap.endLine == cp.line) = true) : Eb X F (.Call (.Attribute (.Name x px) "count" ap) [e] [] cp) (.cnt i m) := by
  have ha := pa_cons he.ev pa_nil (star_no ns)
  refine Eb.of (((pe_mth PySem.F.plainAttrs_list PySem.F.slot_list_count PySem.F.type_list_count (mt_cntL hu) hx ha isLst_ok rfl ns hl).or (pe_mth PySem.F.plainAttrs_tuple PySem.F.slot_tuple_count PySem.F.type_tuple_count (mt_cntT hu) hx ha isTupP_ok rfl ns hl)).imp fun σ H Q ⟨A, M, ρ, d, fr, ρ', r, ev, q⟩ => ?_) fun _ => nofun
  simp only [evE, Option.bind_eq_some_iff] at ev
  obtain ⟨kd, h0, ⟨d1, fr1, ρ1⟩, h1, ev⟩ := ev
  dsimp only at ev
  split at ev
  · rename_i h0'
    simp only [Option.bind_eq_some_iff, Option.map_eq_some_iff] at ev
    obtain ⟨xs, h2, z, h3, h4⟩ := ev
    cases h4
    unfold cntD at h3
    split at h3
    · rename_i hfl
      cases h3
      rw [Bool.and_eq_true] at hfl
      cases kd with
      | true =>
        obtain ⟨p0, vs0, ds0, hσ, hp0, _⟩ := slot_lst r h0
        refine .inl ⟨_, hσ, ⟨_, _, rfl, SqL.of hp0⟩, A, M, ρ, d1, fr1, _, r, h1, fun v H1 p => ?_⟩
        obtain ⟨A1, M1, s1, k1, r1, b1⟩ := p.std r.live
        obtain ⟨p1, vs, ds, hσ1, hp1, ra, e⟩ := slot_lst r1 h0'
        rw [hσ] at hσ1; cases hσ1
        rw [h2] at e; cases e
        exact ⟨A1, _, vs, xs, d1, v, rfl, rfl, by simpa using SqL.of hp1, ra, b1, hfl.1, hfl.2, q _ _ (((NewV.val (.int _)).pst r1).after s1 k1)⟩
      | false =>
        obtain ⟨p0, vs0, ds0, o0, hσ, hd0, hp0, _⟩ := slot_tup r h0
        refine .inr ⟨_, hσ, ⟨_, _, o0, rfl, hd0, hp0⟩, A, M, ρ, d1, fr1, _, r, h1, fun v H1 p => ?_⟩
        obtain ⟨A1, M1, s1, k1, r1, b1⟩ := p.std r.live
        have hf1 := slot_fz r1 h0'
        obtain ⟨p1, vs, ds, o1, hσ1, hd1, hp1, ra, e⟩ := slot_tup r1 h0'
        rw [hσ] at hσ1; cases hσ1
        rw [h2] at e; cases e
        exact ⟨A1, _, vs, xs, d1, v, rfl, rfl, by simpa using (TupAt.sq (.inr ⟨o1, ⟨hd1, hf1⟩, hp1⟩) : SqT X.K H1 p0 vs), ra, b1, hfl.1, hfl.2, q _ _ (((NewV.val (.int _)).pst r1).after s1 k1)⟩
    · cases h3
  · cases ev
/-- list(..).count(..) -/
theorem e_cntL {o : Expr} {mo : ME} {ap cp : Pos} (hu : X.A.units + 64 < cLine) (ho : Eb X F o mo) (he : Eb X F e m) (hb : attributeBase o "count" X.env (eval o X.env) = eval o X.env) (ns : noStar e = true) (hl : (ap.endLine == cp.line) = true) : Eb X F (.Call (.Attribute o "count" ap) [e] [] cp) (.cntL mo m) := by
  refine Eb.of ((pe_mth PySem.F.plainAttrs_list PySem.F.slot_list_count PySem.F.type_list_count (mt_cntL hu) ho.ev (pa_cons he.ev pa_nil (star_no ns)) isLst_ok hb ns hl).imp fun σ H Q ⟨A, M, ρ, d, fr, ρ', r, ev, q⟩ => ?_) fun _ => nofun
  simp only [evE, Option.bind_eq_some_iff] at ev
  obtain ⟨⟨d0, fr0, ρ0⟩, h0, ev⟩ := ev
  cases d0 with
  | list xs =>
    simp only [Option.bind_eq_some_iff, Option.map_eq_some_iff] at ev
    obtain ⟨⟨d1, fr1, ρ1⟩, h1, z, h3, h4⟩ := ev
    cases h4
    unfold cntD at h3
    split at h3
    · rename_i hfl
      cases h3
      rw [Bool.and_eq_true] at hfl
      refine ⟨A, M, ρ, _, fr0, ρ0, r, h0, fun v H1 p => ?_⟩
      obtain ⟨A1, M1, s1, k1, r1, b1⟩ := p.std r.live
      have b1' := b1
      cases b1 with
      | @lst p0 vs _ hh hn rr =>
        refine ⟨⟨p0, vs, rfl, SqL.of hh⟩, A1, M1, ρ0, d1, fr1, _, r1, h1, fun w H2 p2 => ?_⟩
        obtain ⟨A2, M2, s2, k2, r2, b2⟩ := p2.std r1.live
        have b3 := (b1'.keep r1.sub k2).anti s2.a
        have hh2 : H2 p0 = some (.lst vs) := k2.same _ _ hh fun z => absurd (r1.sub _ z) hn
        cases b3 with
        | @lst _ vs2 _ hh3 hn3 rr3 =>
          rw [hh2] at hh3; cases hh3
          exact ⟨A2, _, vs, xs, d1, w, rfl, rfl, by simpa using SqL.of hh2, rr3, b2, hfl.1, hfl.2, q _ _ (((NewV.val (.int _)).pst r2).after (s1.trans s2) (k1.comp s1 k2))⟩
    · cases h3
  | _ => cases ev
/-- the first place of an int in a list of ints -/
theorem e_ix {x : Str} {px ap cp : Pos} (hx : PE X (.Name x px) (tVar i)) (he : Eb X F e m) (ns : noStar e = true) (hl : (ap.endLine == cp.line) = true) : Eb X F (.Call (.Attribute (.Name x px) "index" ap) [e] [] cp) (.ix i m) := by
  have ha := pa_cons he.ev pa_nil (star_no ns)
  refine Eb.of ((pe_mth PySem.F.plainAttrs_list PySem.F.slot_list_index PySem.F.type_list_index mt_index hx ha isLst_ok rfl ns hl).imp fun σ H Q ⟨A, M, ρ, d, fr, ρ', r, ev, q⟩ => ?_) fun _ => nofun
  simp only [evE] at ev
  split at ev
  · rename_i h0
    simp only [Option.bind_eq_some_iff] at ev
    obtain ⟨⟨d1, fr1, ρ1⟩, h1, ev⟩ := ev
    dsimp only at ev
    split at ev
    · rename_i h0'
      simp only [Option.bind_eq_some_iff, Option.map_eq_some_iff] at ev
      obtain ⟨xs, h2, z, h3, h4⟩ := ev
      cases h4
      unfold ixD at h3
      split at h3
      · rename_i a ns' hns
        simp only [Option.map_eq_some_iff] at h3
        obtain ⟨j, h5, rfl⟩ := h3
        obtain ⟨hj, hp, hno⟩ := List.findIdx?_eq_some_iff_getElem.1 h5
        obtain ⟨p0, vs0, ds0, hσ, hp0, _⟩ := slot_lst r h0
        refine ⟨_, hσ, ⟨_, _, rfl, SqL.of hp0⟩, A, M, ρ, _, fr1, _, r, h1, fun v H1 p => ?_⟩
        obtain ⟨A1, M1, s1, k1, r1, b1⟩ := p.std r.live
        obtain ⟨p1, vs, ds, hσ1, hp1, ra, e⟩ := slot_lst r1 h0'
        rw [hσ] at hσ1; cases hσ1
        rw [h2] at e; cases e
        cases b1
        have ev := ints_rel ra hns
        subst ev
        refine ⟨p0, ns'.map V.int, .int a, j, .int ns'[j], rfl, rfl, SqL.of hp1, rfl, ?_, by simp [hj], by simpa [eqV] using hp, ?_, q _ _ (((NewV.val (.int _)).pst r1).after s1 k1)⟩
        · rw [List.all_map]; exact List.all_eq_true.mpr fun _ _ => rfl
        · intro m z' hm hz
          have hmj := hno m hm
          have hml : m < ns'.length := by omega
          rw [List.getElem?_map, List.getElem?_eq_getElem hml, Option.map_some] at hz
          cases hz
          simpa [eqV] using hmj
      · rename_i a hns0
        simp only [Option.bind_eq_some_iff, Option.map_eq_some_iff] at h3
        obtain ⟨ns', hns, j, h5, rfl⟩ := h3
        obtain ⟨hj, hp, hno⟩ := List.findIdx?_eq_some_iff_getElem.1 h5
        obtain ⟨p0, vs0, ds0, hσ, hp0, _⟩ := slot_lst r h0
        refine ⟨_, hσ, ⟨_, _, rfl, SqL.of hp0⟩, A, M, ρ, _, fr1, _, r, h1, fun v H1 p => ?_⟩
        obtain ⟨A1, M1, s1, k1, r1, b1⟩ := p.std r.live
        obtain ⟨p1, vs, ds, hσ1, hp1, ra, e⟩ := slot_lst r1 h0'
        rw [hσ] at hσ1; cases hσ1
        rw [h2] at e; cases e
        cases b1
        have ev := bools_rel ra hns
        subst ev
        refine ⟨p0, ns'.map V.bl, .bl a, j, .bl ns'[j], rfl, rfl, SqL.of hp1, rfl, ?_, by simp [hj], by simpa [eqV] using hp, ?_, q _ _ (((NewV.val (.int _)).pst r1).after s1 k1)⟩
        · rw [List.all_map]; exact List.all_eq_true.mpr fun _ _ => rfl
        · intro m z' hm hz
          have hmj := hno m hm
          have hml : m < ns'.length := by omega
          rw [List.getElem?_map, List.getElem?_eq_getElem hml, Option.map_some] at hz
          cases hz
          simpa [eqV] using hmj
      · cases h3
    · cases ev
  · cases ev
/-- the last item is taken away -/
theorem e_pop {x : Str} {px ap cp : Pos} (hx : PE X (.Name x px) (tVar i)) (hl : (ap.endLine == cp.line) = true) : Eb X F (.Call (.Attribute (.Name x px) "pop" ap) [] [] cp) (.pop i) := by
  refine Eb.of ((pe_bm0 PySem.F.plainAttrs_list PySem.F.slot_list_pop PySem.F.type_list_pop mt_pop hx rfl hl).imp fun σ H Q ⟨A, M, ρ, d, fr, ρ', r, ev, q⟩ => ?_) fun _ => nofun
  simp only [evE] at ev
  split at ev
  · rename_i xs hs
    simp only [Option.map_eq_some_iff] at ev
    obtain ⟨y, h1, h2⟩ := ev
    cases h2
    obtain ⟨p, vs, hσ, hm, hp, rr⟩ := own_lst r hs
    obtain ⟨v, e1, rel⟩ := rr.get h1
    have k : Kp M H (upd H p (.lst vs.dropLast)) := Kp.wr hm hp trivial
    have rd : RelAll A H vs.dropLast xs.dropLast := by
      rw [List.dropLast_eq_take, List.dropLast_eq_take, rr.length]
      exact rr.take _
    obtain ⟨r2, k2⟩ := r.write (d' := .list xs.dropLast) hs hσ (fun _ => nofun) (.inl ⟨_, _, rfl, upd_same, rd.keep r.sub k⟩)
    refine ⟨_, hσ, .inl ⟨rfl, vs, SqL.of hp⟩, p, vs, v, rfl, rfl, hp, by rw [rr.length]; exact e1, q _ _ (Pst0.val ⟨A, M, Shr.refl _ _, k2, r2, fun _ => rel.keep r.sub k, fun z => nomatch z⟩)⟩
  · cases ev
theorem e_popAt {x : Str} {px ap cp : Pos} (hx : PE X (.Name x px) (tVar i)) (he : Eb X F e m) (ns : noStar e = true) (hl : (ap.endLine == cp.line) = true) : Eb X F (.Call (.Attribute (.Name x px) "pop" ap) [e] [] cp) (.popAt i m) := Eb.of ⟨fun _ _ _ _ _ _ ⟨_, _, _, _, _, _, _, ev, _⟩ => by simp [evE] at ev⟩ fun _ => nofun
/-! ### is True, is False; backwards; tuple(range(..)), list(range(..)) -/
theorem e_isB {k : Bool} {j : Nat} {p : Pos} (ha : Eb X F a ma) : Eb X F (.Compare a [.Is] [.Constant (.bool k) j p] pos) (.isB k ma) := Eb.of ⟨fun _ _ _ _ _ _ ⟨_, _, _, _, _, _, _, ev, _⟩ => by simp [evE] at ev⟩ fun _ => nofun
theorem t_isB {k : Bool} {j : Nat} {p : Pos} (ha : Eb X F a ma) : PT X (.Compare a [.Is] [.Constant (.bool k) j p] pos) (tT F (.tst (.isB k ma))) := ⟨fun _ _ _ _ _ _ ⟨_, _, _, _, _, _, ev, _⟩ => by obtain ⟨_, _, ev, _⟩ := tst_inv (by intro _ z; cases z) ev; simp [evE] at ev⟩
theorem e_nisB {k : Bool} {j : Nat} {p : Pos} (ha : Eb X F a ma) : Eb X F (.Compare a [.IsNot] [.Constant (.bool k) j p] pos) (.nisB k ma) := Eb.of ⟨fun _ _ _ _ _ _ ⟨_, _, _, _, _, _, _, ev, _⟩ => by simp [evE] at ev⟩ fun _ => nofun
theorem t_nisB {k : Bool} {j : Nat} {p : Pos} (ha : Eb X F a ma) : PT X (.Compare a [.IsNot] [.Constant (.bool k) j p] pos) (tT F (.tst (.nisB k ma))) := ⟨fun _ _ _ _ _ _ ⟨_, _, _, _, _, _, ev, _⟩ => by obtain ⟨_, _, ev, _⟩ := tst_inv (by intro _ z; cases z) ev; simp [evE] at ev⟩
theorem RelAll.rev {A : AS} {H : Hp} : ∀ {vs : List V} {ds : List PyData}, RelAll A H vs ds → RelAll A H vs.reverse ds.reverse
  | _, _, .nil => .nil
  | _, _, .cons a r => by
    rw [List.reverse_cons, List.reverse_cons]
    exact (RelAll.rev r).append (.cons a .nil)
theorem e_rev {j : Nat} {p1 p2 p3 : Pos} (ha : Eb X F a ma) : Eb X F (.Subscript a (.Slice none none (some (.UnaryOp .USub (.Constant (.int 1) j p1) p2)) p3) pos) (.rev ma) := Eb.of ⟨fun _ _ _ _ _ _ ⟨_, _, _, _, _, _, _, ev, _⟩ => by simp [evE] at ev⟩ fun _ => nofun
theorem rgV_rel {A : AS} {H : Hp} (lo hi : Int) : RelAll A H (rgV lo hi) (rangeD lo hi) := by
  unfold rgV rangeD
  generalize (hi - lo).toNat = n
  have : ∀ l : List Nat, RelAll A H (l.map fun i => V.int (lo + (i : Nat))) (l.map fun (k : Nat) => PyData.int (lo + (k : Int))) := fun l => by
    induction l with
    | nil => exact .nil
    | cons a t ih => exact .cons (.int _) ih
  exact this _
/-- range(..) as an argument -/
noncomputable def tRg (F : Fns) (m : ME) : L2.St → Hp → (Int → Int → Hp → Prop) → Prop := fun σ H Q => ∃ A M ρ ds ρ', RE A M H ρ σ ∧ evI F m ρ = some (ds, ρ') ∧ ∀ lo hi H' A' M', ds = rangeD lo hi → lineI lo = true → lineI hi = true → Shr A M A' M' → Kp M H H' → RE A' M' H' ρ' σ → Q lo hi H'
theorem PRg.imp {X : Cx} {e : Expr} {t t' : L2.St → Hp → (Int → Int → Hp → Prop) → Prop} (h : PRg X e t) (f : ∀ σ H Q, t' σ H Q → t σ H Q) : PRg X e t' := fun pins s σ H Q I q => h pins s σ H Q I (f σ H Q q)
theorem rg_1 {p : Pos} (hg : Gl X "range") (hm : X.mg "range" = none) (ha : Eb X F a ma) (ns : noStar a = true) : PRg X (.Call (.Name "range" p) [a] [] pos) (tRg F (.rng1 ma)) := by
  refine PRg.imp (prg_1 hg hm ha.ev (star_no ns)) fun σ H Q ⟨A, M, ρ, ds, ρ', r, ev, q⟩ => ?_
  simp only [evI, Option.bind_eq_some_iff] at ev
  obtain ⟨⟨d, fr, ρ1⟩, h1, h2⟩ := ev
  refine ⟨A, M, ρ, d, fr, ρ1, r, h1, fun v H1 p => ?_⟩
  obtain ⟨A1, M1, s1, k1, r1, b1⟩ := p.std r.live
  cases b1 with
  | int i =>
    dsimp only at h2
    split at h2
    · rename_i hl
      cases h2
      exact ⟨i, rfl, q 0 i _ _ _ rfl (by decide) hl s1 k1 r1⟩
    · cases h2
  | _ => cases h2
theorem rg_2 {p : Pos} (hg : Gl X "range") (hm : X.mg "range" = none) (ha : Eb X F a ma) (hb : Eb X F b mb) (ns : noStar a = true) (ns' : noStar b = true) : PRg X (.Call (.Name "range" p) [a, b] [] pos) (tRg F (.rng2 ma mb)) := PRg.imp (prg_2 hg hm ha.ev hb.ev (star_no ns) (star_no ns') (star_any (es := [b]) (by simp [ns']))) fun _ _ _ ⟨_, _, _, _, _, _, ev, _⟩ => by simp [evI] at ev
theorem rg_ok {lo hi : Int} (h : (rangeD lo hi).length ≤ 65536) (h1 : lineI lo = true) (h2 : lineI hi = true) : RgOk lo hi := by
  have a := line_iff h1
  have b := line_iff h2
  have e : (rangeD lo hi).length = (hi - lo).toNat := by simp [rangeD]
  exact ⟨a.1, a.2, b.1, b.2, by omega⟩
theorem e_cvT {p : Pos} (hc : X.calm = true) (hg : Gl X "tuple") (hm : X.mg "tuple" = none) (h : PRg X e (tRg F m)) (ns : noStar e = true) : Eb X F (.Call (.Name "tuple" p) [e] [] pos) (.cv true m) := by
  refine Eb.of ((pe_tupRg hc hg hm h (star_no ns)).imp fun σ H Q ⟨A, M, ρ, d, fr, ρ', r, ev, q⟩ => ?_) fun _ => nofun
  simp only [evE, Option.bind_eq_some_iff] at ev
  obtain ⟨⟨ds, ρ1⟩, h1, h2⟩ := ev
  dsimp only at h2
  split at h2
  · rename_i hl
    cases h2
    exact ⟨A, M, ρ, ds, _, r, h1, fun lo hi H1 A1 M1 e l1 l2 s1 k1 r1 => by
      subst e
      exact ⟨rg_ok hl l1 l2, fun l hl => q _ _ (((new_tup hl (rgV_rel lo hi)).pst r1).after s1 k1)⟩⟩
  · cases h2
theorem e_cvL {p : Pos} (hc : X.calm = true) (hg : Gl X "list") (hm : X.mg "list" = none) (h : PRg X e (tRg F m)) (ns : noStar e = true) : Eb X F (.Call (.Name "list" p) [e] [] pos) (.cv false m) := by
  refine Eb.of ((pe_listRg hc hg hm h (star_no ns)).imp fun σ H Q ⟨A, M, ρ, d, fr, ρ', r, ev, q⟩ => ?_) fun _ => nofun
  simp only [evE, Option.bind_eq_some_iff] at ev
  obtain ⟨⟨ds, ρ1⟩, h1, h2⟩ := ev
  dsimp only at h2
  split at h2
  · rename_i hl
    cases h2
    exact ⟨A, M, ρ, ds, _, r, h1, fun lo hi H1 A1 M1 e l1 l2 s1 k1 r1 => by
      subst e
      exact ⟨rg_ok hl l1 l2, fun l hl => q _ _ (((new_lst hl (rgV_rel lo hi)).pst r1).after s1 k1)⟩⟩
  · cases h2
/-! ### tuple(range(a, b, c)) -/
theorem e_cvT3 {c : Expr} {mc : ME} {p p2 q1 : Pos} (hc : X.calm = true) (hg : Gl X "tuple") (hm : X.mg "tuple" = none) (hg2 : Gl X "range") (hm2 : X.mg "range" = none) (ha : Eb X F a ma) (hb : Eb X F b mb) (hd : Eb X F c mc) (ns : noStar a = true) (ns' : noStar b = true) (ns'' : noStar c = true) :
    Eb X F (.Call (.Name "tuple" p) [.Call (.Name "range" p2) [a, b, c] [] q1] [] pos) (.cv true (.rng3 ma mb mc)) := Eb.of ⟨fun _ _ _ _ _ _ ⟨_, _, _, _, _, _, _, ev, _⟩ => by simp [evE, evI] at ev⟩ fun _ => nofun
/-! ### tuples of one's own -/
theorem s_asgO {x : Str} {px : Pos} {id : Nat} (hN : X.N.Nodup) (hi : X.N[i]? = some x) (hl : Loc X.env.scope x) (he : PE X e (tC0 F id m)) (hs : swapsWith e (some (.Name x px)) pos.line X.env = pure false) (hst : X.fn x = true ∨ X.env.scope.names.lookup x = some .local) :
    PS X (.Assign [.Name x px] e pos) (tS F W (.asgO i id m)) := by
  refine (ps_set hN hi hl he hs hst).imp fun D σ H ⟨A, M, ρ, o, r, ev, g⟩ => ?_
  simp only [evS, Option.bind_eq_some_iff, Option.map_eq_some_iff] at ev
  obtain ⟨⟨bs, ρ1⟩, h1, ⟨as, ρ2⟩, h2, ⟨d, fr, ss⟩, h3, ρ3, h4, h5⟩ := ev
  cases h5
  exact ⟨A, M, ρ, bs, ρ1, as, ρ2, d, fr, ss, ρ3, r, h1, h2, h3, h4, fun v H1 p => g _ _ (p.store (by simp [asgd]) r.live)⟩
theorem s_retO {id : Nat} (he : PE X e (tC0 F id m)) : PS X (.Return (some e) pos) (tS F W (.retO id m)) := by
  refine (ps_ret he).imp fun D σ H ⟨A, M, ρ, o, r, ev, g⟩ => ?_
  simp only [evS, Option.bind_eq_some_iff, Option.map_eq_some_iff] at ev
  obtain ⟨⟨bs, ρ1⟩, h1, ⟨as, ρ2⟩, h2, ⟨d, fr, ss⟩, h3, ρ3, h4, h5⟩ := ev
  cases h5
  refine ⟨A, M, ρ, bs, ρ1, as, ρ2, d, fr, ss, ρ3, r, h1, h2, h3, h4, fun v H1 p => ?_⟩
  obtain ⟨A1, M1, s1, k1, r1, q1, q2⟩ := p
  exact g v σ H1 ⟨A1, M1, s1.chg, k1, r1, Agree.refl _ _, q1, q2⟩
/-- tuple(xs) of a list, a tuple of one's own -/
noncomputable def rTupO : List V → Hp → VK → Prop := fun vs H Q => ∃ a ys, vs = [V.ref a] ∧ H a = some (.lst ys) ∧ ∀ l (o : Obj), o.dict = none → H l = none → Q (.ref l) (upd H l (.frz o (.tup ys)))
theorem cr_tupO : CallR X (.type "tuple") rTupO := by
  intro pins s σ H vs us Q I r ⟨a, ys, e, h1, q⟩
  subst e
  exact tup_strong I r h1 q
theorem s_retT {p p2 : Pos} (hf : fzB = true) (hg : Gl X "tuple") (hm : X.mg "tuple" = none) (he : Eb X F e m) (ns : noStar e = true) : PS X (.Return (some (.Call (.Name "tuple" p) [e] [] p2)) pos) (tS F W (.retT m)) := by
  refine (ps_ret (pe_callTy cr_tupO hg hm (by decide +kernel) (pa_cons he.ev pa_nil (star_no ns)) (by decide) (by decide) (star_no ns) rfl)).imp fun D σ H ⟨A, M, ρ, o, r, ev, g⟩ => ?_
  simp only [evS, Option.bind_eq_some_iff] at ev
  obtain ⟨⟨d, fr, ρ1⟩, h1, h2⟩ := ev
  refine ⟨A, M, ρ, d, fr, ρ1, r, h1, fun v H1 p => ?_⟩
  obtain ⟨A1, M1, s1, k1, r1, b1⟩ := p.std r.live
  cases b1 with
  | @lst a xs ds hh hn rr =>
    cases h2
    refine ⟨a, xs, rfl, hh, fun l ob hd hl => ?_⟩
    have kn : Kp M1 H1 (upd H1 l (.frz ob (.tup xs))) := Kp.new hl
    have hl0 : H l = none := by
      cases e0 : H l with
      | none => rfl
      | some o => obtain ⟨o', e'⟩ := k1.live l o e0; rw [hl] at e'; cases e'
    exact g (.ref l) σ _ ⟨A1, M1, s1.chg, k1.comp s1 kn, r1.keep (Kp.new hl), Agree.refl _ _, (fun e => nomatch e), fun _ => ⟨l, rfl, hl0, r1.fresh hl ⟨_, upd_same⟩ (Kp.new hl), new_tupO hd hf hl rr⟩⟩
  | _ => cases h2
/-! ### sorted(set(xs)) -/
theorem e_lset {p p2 q1 : Pos} (hc : X.calm = true) (hg : Gl X "len") (hm : X.mg "len" = none) (hg2 : Gl X "set") (hm2 : X.mg "set" = none) (ha : Eb X F a ma) (ns : noStar a = true) :
    Eb X F (.Call (.Name "len" p) [.Call (.Name "set" p2) [a] [] q1] [] pos) (.lset ma) := Eb.of ⟨fun _ _ _ _ _ _ ⟨_, _, _, _, _, _, _, ev, _⟩ => by simp [evE] at ev⟩ fun _ => nofun
theorem e_sset {p p2 q1 : Pos} (hc : X.calm = true) (hu : X.A.units + 100 < cLine) (hg : Gl X "sorted") (hm : X.mg "sorted" = none) (hg2 : Gl X "set") (hm2 : X.mg "set" = none) (ha : Eb X F a ma) (ns : noStar a = true) :
    Eb X F (.Call (.Name "sorted" p) [.Call (.Name "set" p2) [a] [] q1] [] pos) (.sset ma) := Eb.of ⟨fun _ _ _ _ _ _ ⟨_, _, _, _, _, _, _, ev, _⟩ => by simp [evE] at ev⟩ fun _ => nofun
/-! ### loops -/
theorem s_loop (hp : PassesOwn (model X.prog X.w) X.A X.env X.xe) (hc : X.calm = true) (hi : PI X tg iter (tI F mi)) (hg : PG X tg (gM t)) (hb : PSs X sts (tS F W n)) (hs : ∀ x, foldedSetIterable iter X.env x = pure x) :
    PS X (.For tg iter sts [] pos) (tS F W (.loop t mi n)) := by
  refine (ps_for hp hc hi hg hb hs).imp fun D σ H ⟨A, M, ρ, o, r, ev, g⟩ => ?_
  simp only [evS, Option.bind_eq_some_iff] at ev
  obtain ⟨⟨ds, ρ1⟩, h1, h2⟩ := ev
  refine ⟨A, M, ρ, ds, ρ1, r, h1, fun J H1 A1 M1 s1 k1 r1 it => ?_⟩
  obtain ⟨G, Y, w, hG, hY⟩ := it
  have g1 : Gs A1 M1 H1 σ (slotsT t ++ asgd n) o D := g.expr r s1 k1
  have idem : ∀ {σ σ1 σ2 : L2.St}, Agree (slotsT t ++ asgd n) σ σ1 → Agree (slotsT t ++ asgd n) σ1 σ2 → Agree (slotsT t ++ asgd n) σ σ2 := fun a b i hi => (b i hi).trans (a i hi)
  refine for_it w (fun i σ' H' => ∃ A2 M2 ρ2, Chg A1 M1 H1 A2 M2 ∧ Kp M1 H1 H' ∧ RE A2 M2 H' ρ2 σ' ∧ Agree (slotsT t ++ asgd n) σ σ' ∧ loopS t (evS F W n) (ds.drop i) ρ2 = some o) ⟨A1, M1, ρ1, Chg.refl _ _ _, Kp.refl _ _, r1, Agree.refl _ _, h2⟩
    (fun i σ' H' _ ⟨A2, M2, ρ2, c2, k2, _⟩ => hG H' (k2.mono r1.sub)) (fun i x σ' H' H'' hi ⟨A2, M2, ρ2, c2, k2, r2, a2, e2⟩ y => ?_) fun σ' H' ⟨A2, M2, ρ2, c2, k2, r2, a2, e2⟩ => ?_
  · obtain ⟨kn, d, hd, rel⟩ := hY i A2 H' x H'' hi ⟨k2.mono r1.sub, c2.a⟩ y
    rw [drop_cons hd] at e2
    simp only [loopS, Option.bind_eq_some_iff] at e2
    obtain ⟨ρ3, f1, o1, f2, f3⟩ := e2
    refine ⟨A2, M2, ρ2, d, ρ3, r2.keep kn, rel, f1, fun σ3 r3 a3 => ⟨A2, M2, ρ3, o1, r3, f2, ?_⟩⟩
    have k3 : Kp M1 H1 H'' := k2.chg c2 kn.of
    have a3' : Agree (slotsT t ++ asgd n) σ σ3 := idem a2 (a3.mono fun i h => List.mem_append_left _ h)
    have nxt : ∀ ρ4, loopS t (evS F W n) (ds.drop (i + 1)) ρ4 = some o → ∀ σ4 H4, PN A2 M2 H'' σ3 (asgd n) ρ4 σ4 H4 → ∃ A2 M2 ρ2, Chg A1 M1 H1 A2 M2 ∧ Kp M1 H1 H4 ∧ RE A2 M2 H4 ρ2 σ4 ∧ Agree (slotsT t ++ asgd n) σ σ4 ∧ loopS t (evS F W n) (ds.drop (i + 1)) ρ2 = some o := fun ρ4 f4 σ4 H4 ⟨A4, M4, c4, k4, r4, a4⟩ =>
      ⟨A4, M4, ρ4, c2.trans r1.live k3 c4, k3.chg c2 k4, r4, idem a3' (a4.mono fun i h => List.mem_append_right _ h), f4⟩
    have fin : ∀ ρ4, o = .nx ρ4 → ∀ σ4 H4, PN A2 M2 H'' σ3 (asgd n) ρ4 σ4 H4 → D.nx σ4 H4 := fun ρ4 f4 σ4 H4 ⟨A4, M4, c4, k4, r4, a4⟩ => by
      subst f4
      exact g1 σ4 H4 ⟨A4, M4, c2.trans r1.live k3 c4, k3.chg c2 k4, r4, idem a3' (a4.mono fun i h => List.mem_append_right _ h)⟩
    cases o1 with
    | nx ρ4 => exact nxt ρ4 f3
    | ct ρ4 => exact nxt ρ4 f3
    | bk ρ4 => exact fin ρ4 (Option.some.inj f3).symm
    | rt d fr ρ4 =>
      intro v σ4 H4 ⟨A4, M4, c4, k4, r4, a4, q1, q2⟩
      have eo : o = .rt d fr ρ4 := (Option.some.inj f3).symm
      subst eo
      exact g1 v σ4 H4 ⟨A4, M4, c2.trans r1.live k3 c4, k3.chg c2 k4, r4, idem a3' (a4.mono fun i h => List.mem_append_right _ h), q1, fun e => let ⟨p, e1, e2, e3⟩ := q2 e; ⟨p, e1, k3.back e2, e3⟩⟩
  · rw [List.drop_length] at e2
    have eo : o = .nx ρ2 := (Option.some.inj e2).symm
    subst eo
    exact g1 σ' H' ⟨A2, M2, c2, k2, r2, a2⟩
/-! ### loops over new objects -/
theorem drop_c {α : Type} {l : List α} {j : Nat} {x : α} (h : l[j]? = some x) : l.drop j = x :: l.drop (j + 1) := by
  obtain ⟨hi, e⟩ := List.getElem?_eq_some_iff.mp h
  exact e ▸ List.drop_eq_getElem_cons hi
/-- values, those that are new objects at addresses that nothing else touches -/
inductive FO (A : AS) (H0 H : Hp) : AS → List V → List (PyData × Bool) → Prop
  | nil {U : AS} : FO A H0 H U [] []
  | dat {U : AS} {v : V} {d : PyData} {vs : List V} {r : List (PyData × Bool)} : Rel A H v d → FO A H0 H U vs r → FO A H0 H U (v :: vs) ((d, false) :: r)
  | own {U : AS} {p : Addr} {d : PyData} {vs : List V} {r : List (PyData × Bool)} : H0 p = none → A p → ¬ U p → Own A H p d → FO A H0 H (orA U p) vs r → FO A H0 H U (.ref p :: vs) ((d, true) :: r)
theorem FO.of {N : PyData → Prop} {A M : AS} {H0 H : Hp} : ∀ {U : AS} {vs : List V} {r : List (PyData × Bool)}, FR N A M H0 H U vs r → FO A H0 H (fun x => M x ∨ U x) vs r
  | _, _, _, .nil => .nil
  | _, _, _, .dat a f => .dat a (FO.of f)
  | U, _, _, .own (p := p) h a m u o _ f => .own h a (fun z => z.elim m u) o (by
      have z := FO.of f
      have e : (fun x => M x ∨ orA U p x) = orA (fun x => M x ∨ U x) p := funext fun x => propext ⟨fun z => by
        rcases z with z | z | z
        · exact .inl (.inl z)
        · exact .inl (.inr z)
        · exact .inr z, fun z => by
        rcases z with (z | z) | z
        · exact .inl z
        · exact .inr (.inl z)
        · exact .inr (.inr z)⟩
      rw [e] at z
      exact z)
theorem FO.over {A M A2 M2 : AS} {H0 H H2 : Hp} (sub : ∀ a, M a → A a) (c : Chg A M H A2 M2) (k : Kp M H H2) : ∀ {U U2 : AS} {vs : List V} {r : List (PyData × Bool)}, (∀ x, U2 x → U x ∨ H x = none) → (∀ x, M x → U x) → FO A H0 H U vs r → FO A2 H0 H2 U2 vs r
  | _, _, _, _, _, _, .nil => .nil
  | _, _, _, _, hU, hM, .dat a f => .dat (a.map (fun b o nb h n => k.same b o h (fun z => n (sub b z)) nb) fun b o h z n _ => (c.a b z).elim n fun q => by rw [q] at h; cases h) (FO.over sub c k hU hM f)
  | U, U2, _, _, hU, hM, .own (p := p) h a u o f => by
    obtain ⟨ob, e, _⟩ := o.live
    have nM : ¬ M p := fun z => u (hM p z)
    refine .own h (Classical.byContradiction fun n => nM (c.d p a n)) (fun z => (hU p z).elim u fun q => by rw [q] at e; cases e) ?_ (FO.over sub c k (fun x z => ?_) (fun x z => .inl (hM x z)) f)
    · refine o.map (fun b o nb h n => k.same b o h (fun z => n (sub b z)) nb) (fun b o h z n _ => (c.a b z).elim n fun q => by rw [q] at h; cases h) ?_
      rw [e]
      exact k.same p ob e (fun z => absurd z nM) (o.nb e)
    · rcases z with z | z
      · exact (hU x z).imp .inl id
      · exact .inl (.inr z)
theorem FO.length {A : AS} {H0 H : Hp} : ∀ {U : AS} {vs : List V} {r : List (PyData × Bool)}, FO A H0 H U vs r → vs.length = r.length
  | _, _, _, .nil => rfl
  | _, _, _, .dat _ f => congrArg (· + 1) (FO.length f)
  | _, _, _, .own _ _ _ _ f => congrArg (· + 1) (FO.length f)
theorem s_loopO {i k2 : Nat} {p1 : Pos} {es : List Expr} (hp : PassesOwn (model X.prog X.w) X.A X.env X.xe) (hc : X.calm = true) (ha : PA X es (tP F m)) (hg : PG X tg (gName i)) (hb : PSs X sts (tS F W n)) (hs : ∀ x, foldedSetIterable (.Tuple es k2 p1) X.env x = pure x) :
    PS X (.For tg (.Tuple es k2 p1) sts [] pos) (tS F W (.loopO i m n)) := by
  refine (ps_for hp hc (pi_tup (pe_tup ha)) hg hb hs).imp fun D σ H ⟨A, M, ρ, o, r, ev, g⟩ => ?_
  simp only [evS, Option.bind_eq_some_iff] at ev
  obtain ⟨⟨ds, ρ1⟩, h1, h2⟩ := ev
  split at h2
  case isFalse => cases h2
  rename_i hlen
  refine ⟨A, M, ρ, ds, ρ1, r, h1, fun vs H1 A1 M1 c1 m1 k1 r1 fr => ⟨by rw [fr.length]; exact hlen, fun q hq => ⟨q, rfl, ⟨vs, SqT.of upd_same⟩, ?_⟩⟩⟩
  have kq : Kp No H1 (upd H1 q (.tup vs)) := Kp.new hq
  have f1 : FO A1 H (upd H1 q (.tup vs)) M1 vs ds := by
    have z := FO.of (fr.keep kq)
    have e : (fun x => M1 x ∨ No x) = M1 := funext fun x => propext ⟨fun z => z.elim id fun y => y.elim, .inl⟩
    rw [e] at z
    exact z
  have r1q := r1.keep kq
  have kb : Kp M H (upd H1 q (.tup vs)) := k1.trans kq.of
  have hlq : vs.length = ds.length := fr.length
  have idem : ∀ {σ σ1 σ2 : L2.St}, Agree (i :: asgd n) σ σ1 → Agree (i :: asgd n) σ1 σ2 → Agree (i :: asgd n) σ σ2 := fun a b j hj => (b j hj).trans (a j hj)
  have w := walk_tup (K := X.K) (a := q) (xs := vs)
  refine for_it w (fun j σ' H' => ∃ A2 M2 ρ2, Chg A M H A2 M2 ∧ Kp M H H' ∧ H' q = some (.tup vs) ∧ RE A2 M2 H' ρ2 σ' ∧ Agree (i :: asgd n) σ σ' ∧ FO A2 H H' M2 (vs.drop j) (ds.drop j) ∧ loopOS i (evS F W n) (ds.drop j) ρ2 = some o) ⟨A1, M1, ρ1, c1, kb, upd_same, r1q, Agree.refl _ _, f1, h2⟩
    (fun j σ' H' _ ⟨A2, M2, ρ2, c2, k2, hq2, _⟩ => SqT.of hq2) (fun j x σ' H' H'' hj ⟨A2, M2, ρ2, c2, k2, hq2, r2, a2, f2, e2⟩ y => ?_) fun σ' H' ⟨A2, M2, ρ2, c2, k2, hq2, r2, a2, f2, e2⟩ => ?_
  · obtain ⟨rfl, hx⟩ := y
    have hd : ∃ p, ds[j]? = some p := ⟨ds[j]'(by omega), List.getElem?_eq_getElem _⟩
    obtain ⟨⟨d, fr1⟩, hd⟩ := hd
    rw [drop_c hd] at e2 f2
    rw [drop_c hx] at f2
    simp only [loopOS, Option.bind_eq_some_iff] at e2
    obtain ⟨o1, g2, g3⟩ := e2
    have nxt : ∀ M3 ρ3 σ3, Chg A M H A2 M3 → RE A2 M3 H'' ρ3 σ3 → Agree (i :: asgd n) σ σ3 → FO A2 H H'' M3 (vs.drop (j + 1)) (ds.drop (j + 1)) → evS F W n ρ3 = some o1 → tS F W n { D with
        nx := fun σ4 H4 => ∃ A2 M2 ρ2, Chg A M H A2 M2 ∧ Kp M H H4 ∧ H4 q = some (.tup vs) ∧ RE A2 M2 H4 ρ2 σ4 ∧ Agree (i :: asgd n) σ σ4 ∧ FO A2 H H4 M2 (vs.drop (j + 1)) (ds.drop (j + 1)) ∧ loopOS i (evS F W n) (ds.drop (j + 1)) ρ2 = some o,
        ct := fun σ4 H4 => ∃ A2 M2 ρ2, Chg A M H A2 M2 ∧ Kp M H H4 ∧ H4 q = some (.tup vs) ∧ RE A2 M2 H4 ρ2 σ4 ∧ Agree (i :: asgd n) σ σ4 ∧ FO A2 H H4 M2 (vs.drop (j + 1)) (ds.drop (j + 1)) ∧ loopOS i (evS F W n) (ds.drop (j + 1)) ρ2 = some o, bk := D.nx } σ3 H'' := fun M3 ρ3 σ3 c3 r3 a3 f3 g2 => by
      refine ⟨A2, M3, ρ3, o1, r3, g2, ?_⟩
      have go : ∀ ρ4, loopOS i (evS F W n) (ds.drop (j + 1)) ρ4 = some o → ∀ σ4 H4, PN A2 M3 H'' σ3 (asgd n) ρ4 σ4 H4 → ∃ A2 M2 ρ2, Chg A M H A2 M2 ∧ Kp M H H4 ∧ H4 q = some (.tup vs) ∧ RE A2 M2 H4 ρ2 σ4 ∧ Agree (i :: asgd n) σ σ4 ∧ FO A2 H H4 M2 (vs.drop (j + 1)) (ds.drop (j + 1)) ∧ loopOS i (evS F W n) (ds.drop (j + 1)) ρ2 = some o := fun ρ4 f4 σ4 H4 ⟨A4, M4, c4, k4, r4, a4⟩ =>
        ⟨A4, M4, ρ4, c3.trans r.live k2 c4, k2.chg c3 k4, k4.same _ _ hq2 fun _ z => z, r4, idem a3 (a4.mono fun i h => List.mem_cons_of_mem _ h), f3.over r3.sub c4 k4 c4.m fun _ z => z, f4⟩
      have fin : ∀ ρ4, o = .nx ρ4 → ∀ σ4 H4, PN A2 M3 H'' σ3 (asgd n) ρ4 σ4 H4 → D.nx σ4 H4 := fun ρ4 f4 σ4 H4 ⟨A4, M4, c4, k4, r4, a4⟩ => by
        subst f4
        exact g σ4 H4 ⟨A4, M4, c3.trans r.live k2 c4, k2.chg c3 k4, r4, idem a3 (a4.mono fun i h => List.mem_cons_of_mem _ h)⟩
      cases o1 with
      | nx ρ4 => exact go ρ4 g3
      | ct ρ4 => exact go ρ4 g3
      | bk ρ4 => exact fin ρ4 (Option.some.inj g3).symm
      | rt d fr ρ4 =>
        intro v σ4 H4 ⟨A4, M4, c4, k4, r4, a4, q1, q2⟩
        have eo : o = .rt d fr ρ4 := (Option.some.inj g3).symm
        subst eo
        exact g v σ4 H4 ⟨A4, M4, c3.trans r.live k2 c4, k2.chg c3 k4, r4, idem a3 (a4.mono fun i h => List.mem_cons_of_mem _ h), q1, fun e => let ⟨p, e1, e2, e3⟩ := q2 e; ⟨p, e1, k2.back e2, e3⟩⟩
    have a3 : Agree (i :: asgd n) σ (σ'.set i (some x)) := fun l hl => by
      have ne : i ≠ l := fun z => hl (by rw [z]; exact List.mem_cons_self)
      rw [List.getElem?_set_ne ne]; exact a2 l hl
    cases f2 with
    | dat rel f2 => exact nxt M2 _ _ c2 (r2.setDat rel) a3 f2 g2
    | @own _ p _ _ _ hp ha2 nu o2 f2 =>
      refine nxt (orA M2 p) _ _ ⟨c2.a, fun y z => ?_, fun y h n => (c2.d y h n)⟩ (r2.setFresh ha2 nu o2) a3 f2 g2
      rcases z with z | z
      · exact c2.m y z
      · exact .inr (z ▸ hp)
  · rw [hlq, List.drop_length] at e2
    have eo : o = .nx ρ2 := (Option.some.inj e2).symm
    subst eo
    exact g σ' H' ⟨A2, M2, c2, k2, r2, a2⟩
/-! ### .. over variables that hold objects -/
theorem RE.shift {A M : AS} {H : Hp} {ρ : Rho} {σ : L2.St} {i j : Nat} {d : PyData} {p : Addr} (r : RE A M H ρ σ) (e : ρ[i]? = some (.own d)) (hi : σ[i]? = some (some (.ref p))) (hj : σ[j]? = some (some (.ref p))) (ne : j ≠ i) : RE A M H ((ρ.set i .no).set j (.own d)) σ := by
  have lj : j < ρ.length := by rw [r.len]; exact (List.getElem?_eq_some_iff.mp hj).1
  have li : i < ρ.length := (List.getElem?_eq_some_iff.mp e).1
  have at_ : ∀ {l : Nat} {s : Slot}, ((ρ.set i .no).set j (.own d))[l]? = some s → (l = j ∧ s = .own d) ∨ (l = i ∧ s = .no) ∨ (l ≠ i ∧ l ≠ j ∧ ρ[l]? = some s) := fun {l s} h => by
    by_cases h1 : l = j
    · subst h1
      rw [List.getElem?_set_self (by rw [List.length_set]; exact lj)] at h
      exact .inl ⟨rfl, (Option.some.inj h).symm⟩
    · rw [List.getElem?_set_ne (Ne.symm h1)] at h
      by_cases h2 : l = i
      · subst h2
        rw [List.getElem?_set_self li] at h
        exact .inr (.inl ⟨rfl, (Option.some.inj h).symm⟩)
      · rw [List.getElem?_set_ne (Ne.symm h2)] at h
        exact .inr (.inr ⟨h2, h1, h⟩)
  obtain ⟨p', e1, hm, ho⟩ := r.own i d e
  rw [hi] at e1; cases e1
  refine ⟨by simp [r.len], r.sub, r.live, fun l x h => ?_, fun l x h => ?_, fun l m x y a h1 h2 h3 h4 => ?_, r.tab, fun l x h => ?_⟩
  · rcases at_ h with ⟨_, z⟩ | ⟨_, z⟩ | ⟨_, _, z⟩
    · cases z
    · cases z
    · exact r.dat l x z
  · rcases at_ h with ⟨rfl, z⟩ | ⟨_, z⟩ | ⟨_, _, z⟩
    · cases z; exact ⟨p, hj, hm, ho⟩
    · cases z
    · exact r.own l x z
  · rcases at_ h1 with ⟨rfl, z⟩ | ⟨_, z⟩ | ⟨n1, n2, z⟩
    · rcases at_ h2 with ⟨rfl, z2⟩ | ⟨_, z2⟩ | ⟨n1, n2, z2⟩
      · rfl
      · cases z2
      · rw [hj] at h3; cases h3
        exact absurd (r.inj i m d y p e z2 hi h4) (Ne.symm n1)
    · cases z
    · rcases at_ h2 with ⟨rfl, z2⟩ | ⟨_, z2⟩ | ⟨m1, m2, z2⟩
      · rw [hj] at h4; cases h4
        exact absurd (r.inj i l d x p e z hi h3) (Ne.symm n1)
      · cases z2
      · exact r.inj l m x y a z z2 h3 h4
  · rcases at_ h with ⟨_, z⟩ | ⟨_, z⟩ | ⟨_, _, z⟩
    · cases z
    · cases z
    · exact r.exc l x z
theorem RE.setNoW {A M : AS} {H : Hp} {ρ : Rho} {σ : L2.St} {i : Nat} {w : Option V} (r : RE A M H ρ σ) : RE A M H (ρ.set i .no) (σ.set i w) := by
  have at_ : ∀ {l : Nat} {s : Slot}, s ≠ .no → (ρ.set i .no)[l]? = some s → ρ[l]? = some s ∧ (σ.set i w)[l]? = σ[l]? := fun {l s} n h => by
    by_cases h1 : l = i
    · subst h1
      have : l < (ρ.set l .no).length := (List.getElem?_eq_some_iff.mp h).1
      rw [List.length_set] at this
      rw [List.getElem?_set_self this] at h
      exact absurd (Option.some.inj h).symm n
    · rw [List.getElem?_set_ne (Ne.symm h1)] at h
      exact ⟨h, List.getElem?_set_ne (Ne.symm h1)⟩
  refine ⟨by simp [r.len], r.sub, r.live, fun l x h => ?_, fun l x h => ?_, fun l m x y a h1 h2 h3 h4 => ?_, r.tab, fun l x h => ?_⟩
  · obtain ⟨z, e⟩ := at_ (by simp) h; rw [e]; exact r.dat l x z
  · obtain ⟨z, e⟩ := at_ (by simp) h; rw [e]; exact r.own l x z
  · obtain ⟨z1, e1⟩ := at_ (by simp) h1
    obtain ⟨z2, e2⟩ := at_ (by simp) h2
    rw [e1] at h3; rw [e2] at h4
    exact r.inj l m x y a z1 z2 h3 h4
  · obtain ⟨z, e⟩ := at_ (by simp) h; rw [e]; exact r.exc l x z
theorem isObj_iff {s : Option Slot} (h : isObj s = true) : ∃ es, s = some (.own (.dict es)) := by
  unfold isObj at h
  split at h
  · exact ⟨_, rfl⟩
  · cases h
theorem evL_vars {ρ : Rho} : ∀ {js : List Nat}, js.all (fun j => isObj ρ[j]?) = true → evL F (varsM js) ρ = some (js.map Bor.r, ρ)
  | [], _ => rfl
  | j :: js, h => by
    rw [List.all_cons, Bool.and_eq_true] at h
    obtain ⟨es, e⟩ := isObj_iff h.1
    have e1 : bor (evE F (.var j)) (.var j) ρ = some (.r j, ρ) := by simp [bor, e]
    simp only [varsM, evL, e1, evL_vars h.2, Option.bind_some, Option.map_some, List.map_cons]
theorem brs_vars {A : AS} {H : Hp} {σ : L2.St} : ∀ {js : List Nat} {vs : List V}, BRs A H σ vs (js.map Bor.r) → vs.length = js.length ∧ ∀ (l j : Nat), js[l]? = some j → ∃ v, vs[l]? = some v ∧ σ[j]? = some (some v)
  | [], [], _ => ⟨rfl, fun l j h => by simp at h⟩
  | [], _ :: _, h => h.elim
  | _ :: _, [], h => h.elim
  | j :: js, v :: vs, h => by
    obtain ⟨h1, h2⟩ := brs_vars (js := js) h.2
    refine ⟨congrArg (· + 1) h1, fun l j' e => ?_⟩
    cases l with
    | zero => cases e; exact ⟨v, rfl, h.1⟩
    | succ l => exact h2 l j' e
theorem s_loopV {i k2 : Nat} {js : List Nat} {p1 : Pos} {es : List Expr} (hp : PassesOwn (model X.prog X.w) X.A X.env X.xe) (hc : X.calm = true) (ha : PA X es (tL F (varsM js))) (hg : PG X tg (gName i)) (hb : PSs X sts (tS F W n)) (hs : ∀ x, foldedSetIterable (.Tuple es k2 p1) X.env x = pure x)
    (hj : ∀ j ∈ js, j ≠ i ∧ j ∉ asgd n) (hi : i ∉ asgd n) : PS X (.For tg (.Tuple es k2 p1) sts [] pos) (tS F W (.loopV i js n)) := by
  refine (ps_for hp hc (pi_tup (pe_tup ha)) hg hb hs).imp fun D σ H ⟨A, M, ρ, o, r, ev, g⟩ => ?_
  simp only [evS] at ev
  split at ev
  case isFalse => cases ev
  rename_i hc2
  rw [Bool.and_eq_true, decide_eq_true_iff] at hc2
  refine ⟨A, M, ρ, _, ρ, r, evL_vars hc2.1, fun vs H1 A1 M1 s1 k1 r1 br => ?_⟩
  obtain ⟨hlen, hat⟩ := brs_vars br
  refine ⟨by rw [hlen]; exact hc2.2, fun q hq => ⟨q, rfl, ⟨vs, SqT.of upd_same⟩, ?_⟩⟩
  have kq : Kp No H1 (upd H1 q (.tup vs)) := Kp.new hq
  have kb : Kp M H (upd H1 q (.tup vs)) := k1.trans kq.of
  have idem : ∀ {σ σ1 σ2 : L2.St}, Agree (i :: asgd n) σ σ1 → Agree (i :: asgd n) σ1 σ2 → Agree (i :: asgd n) σ σ2 := fun a b j hj => (b j hj).trans (a j hj)
  have w := walk_tup (K := X.K) (a := q) (xs := vs)
  refine for_it w (fun j σ' H' => ∃ A2 M2 ρ2, Chg A M H A2 M2 ∧ Kp M H H' ∧ H' q = some (.tup vs) ∧ RE A2 M2 H' ρ2 σ' ∧ Agree (i :: asgd n) σ σ' ∧ loopVS i (evS F W n) (js.drop j) ρ2 = some o) ⟨A1, M1, ρ, s1.chg, kb, upd_same, r1.keep kq, Agree.refl _ _, ev⟩
    (fun j σ' H' _ ⟨A2, M2, ρ2, c2, k2, hq2, _⟩ => SqT.of hq2) (fun l x σ' H' H'' hl ⟨A2, M2, ρ2, c2, k2, hq2, r2, a2, e2⟩ y => ?_) fun σ' H' ⟨A2, M2, ρ2, c2, k2, hq2, r2, a2, e2⟩ => ?_
  · obtain ⟨rfl, hx⟩ := y
    have hjl : js[l]? = some (js[l]'(by omega)) := List.getElem?_eq_getElem _
    generalize js[l]'(by omega) = j at hjl
    obtain ⟨nj, aj⟩ := hj j (List.mem_of_getElem? hjl)
    obtain ⟨x', hx', hσj⟩ := hat l j hjl
    rw [hx] at hx'; cases hx'
    have hσ' : σ'[j]? = some (some x) := (a2 j (fun z => (List.mem_cons.1 z).elim nj aj)).trans hσj
    rw [drop_c hjl] at e2
    simp only [loopVS] at e2
    split at e2
    case h_2 => cases e2
    rename_i d hd
    obtain ⟨p, hp1, hm, ho⟩ := r2.own j d hd
    rw [hσ'] at hp1; cases hp1
    split at e2
    case isFalse => cases e2
    rename_i li
    simp only [Option.bind_eq_some_iff] at e2
    obtain ⟨o1, g2, g3⟩ := e2
    rw [r2.len] at li
    have r3 : RE A2 M2 H'' (((ρ2.set i .no).set j .no).set i (.own d)) (σ'.set i (some (.ref p))) := (r2.setNoW (i := i) (w := some (.ref p))).shift (i := j) (j := i) (by rw [List.getElem?_set_ne (Ne.symm nj)]; exact hd) (by rw [List.getElem?_set_ne (Ne.symm nj)]; exact hσ') (List.getElem?_set_self li) (Ne.symm nj)
    have a3 : Agree (i :: asgd n) σ (σ'.set i (some (.ref p))) := fun l hl => by
      have ne : i ≠ l := fun z => hl (by rw [z]; exact List.mem_cons_self)
      rw [List.getElem?_set_ne ne]; exact a2 l hl
    refine ⟨A2, M2, _, o1, r3, g2, ?_⟩
    cases o1 with
    | nx ρ4 =>
      dsimp only at g3
      split at g3
      case h_2 => cases g3
      rename_i d2 hd2
      intro σ4 H4 ⟨A4, M4, c4, k4, r4, a4⟩
      have e4i : σ4[i]? = some (some (.ref p)) := (a4 i hi).trans (List.getElem?_set_self li)
      have e4j : σ4[j]? = some (some (.ref p)) := (a4 j aj).trans (by rw [List.getElem?_set_ne (Ne.symm nj)]; exact hσ')
      exact ⟨A4, M4, _, c2.trans r.live k2 c4, k2.chg c2 k4, k4.same _ _ hq2 fun _ z => z, r4.shift hd2 e4i e4j nj, idem a3 (a4.mono fun i h => List.mem_cons_of_mem _ h), g3⟩
    | rt d fr ρ4 =>
      intro v σ4 H4 ⟨A4, M4, c4, k4, r4, a4, q1, q2⟩
      have eo : o = .rt d fr ρ4 := (Option.some.inj g3).symm
      subst eo
      exact g v σ4 H4 ⟨A4, M4, c2.trans r.live k2 c4, k2.chg c2 k4, r4, idem a3 (a4.mono fun i h => List.mem_cons_of_mem _ h), q1, fun e => let ⟨p, e1, e2, e3⟩ := q2 e; ⟨p, e1, k2.back e2, e3⟩⟩
    | ct ρ4 => cases g3
    | bk ρ4 => cases g3
  · rw [hlen, List.drop_length] at e2
    have eo : o = .nx ρ2 := (Option.some.inj e2).symm
    subst eo
    exact g σ' H' ⟨A2, M2, c2, k2, r2, a2⟩
theorem s_while (hp : PassesOwn (model X.prog X.w) X.A X.env X.xe) (hc : PT X c (tT F mc)) (hb : PSs X sts (tS F W n)) : PS X (.While c sts [] pos) (tS F W (.while mc n)) := by
  refine (ps_while hp hc hb).imp fun D σ H ⟨A, M, ρ, o, r, ev, g⟩ => ?_
  simp only [evS] at ev
  have g1 : Gs A M H σ (asgd n) o D := g
  have idem : ∀ {σ σ1 σ2 : L2.St}, Agree (asgd n) σ σ1 → Agree (asgd n) σ1 σ2 → Agree (asgd n) σ σ2 := fun a b i hi => (b i hi).trans (a i hi)
  refine ⟨fun q σ' H' => ∃ A2 M2 ρ2, Chg A M H A2 M2 ∧ Kp M H H' ∧ RE A2 M2 H' ρ2 σ' ∧ Agree (asgd n) σ σ' ∧ whileS (evT F mc) (evS F W n) q ρ2 = some o, ⟨W, A, M, ρ, Chg.refl _ _ _, Kp.refl _ _, r, Agree.refl _ _, ev⟩, fun q σ' H' hw => ?_⟩
  obtain ⟨A2, M2, ρ2, c2, k2, r2, a2, e2⟩ := hw
  cases q with
  | zero => cases e2
  | succ q =>
    simp only [whileS, Option.bind_eq_some_iff] at e2
    obtain ⟨⟨b, ρ3⟩, f1, f2⟩ := e2
    refine ⟨A2, M2, ρ2, b, ρ3, r2, f1, fun H3 A3 M3 s3 k3 r3 => ?_⟩
    have c3 : Chg A M H A3 M3 := c2.trans r.live k2 s3.chg
    have k3' : Kp M H H3 := k2.chg c2 k3
    cases b with
    | false =>
      have eo : o = .nx ρ3 := (Option.some.inj f2).symm
      subst eo
      exact iteF (g1 σ' H3 ⟨A3, M3, c3, k3', r3, a2⟩)
    | true =>
      rw [if_pos rfl] at f2
      simp only [Option.bind_eq_some_iff] at f2
      obtain ⟨o1, f3, f4⟩ := f2
      refine iteT ⟨fun σ4 H4 => ∃ A2 M2 ρ2, Chg A M H A2 M2 ∧ Kp M H H4 ∧ RE A2 M2 H4 ρ2 σ4 ∧ Agree (asgd n) σ σ4 ∧ whileS (evT F mc) (evS F W n) q ρ2 = some o, fun σ4 H4 z => ⟨q, Nat.lt_succ_self q, z⟩, A3, M3, ρ3, o1, r3, f3, ?_⟩
      have nxt : ∀ ρ4, whileS (evT F mc) (evS F W n) q ρ4 = some o → ∀ σ4 H4, PN A3 M3 H3 σ' (asgd n) ρ4 σ4 H4 → ∃ A2 M2 ρ2, Chg A M H A2 M2 ∧ Kp M H H4 ∧ RE A2 M2 H4 ρ2 σ4 ∧ Agree (asgd n) σ σ4 ∧ whileS (evT F mc) (evS F W n) q ρ2 = some o := fun ρ4 f4 σ4 H4 ⟨A4, M4, c4, k4, r4, a4⟩ =>
        ⟨A4, M4, ρ4, c3.trans r.live k3' c4, k3'.chg c3 k4, r4, idem a2 a4, f4⟩
      cases o1 with
      | nx ρ4 => exact nxt ρ4 f4
      | ct ρ4 => exact nxt ρ4 f4
      | bk ρ4 =>
        have eo : o = .nx ρ4 := (Option.some.inj f4).symm
        subst eo
        exact fun σ4 H4 ⟨A4, M4, c4, k4, r4, a4⟩ => g1 σ4 H4 ⟨A4, M4, c3.trans r.live k3' c4, k3'.chg c3 k4, r4, idem a2 a4⟩
      | rt d fr ρ4 =>
        have eo : o = .rt d fr ρ4 := (Option.some.inj f4).symm
        subst eo
        exact fun v σ4 H4 ⟨A4, M4, c4, k4, r4, a4, q1, q2⟩ => g1 v σ4 H4 ⟨A4, M4, c3.trans r.live k3' c4, k3'.chg c3 k4, r4, idem a2 a4, q1, fun e => let ⟨p, e1, e2, e3⟩ := q2 e; ⟨p, e1, k3'.back e2, e3⟩⟩
end
end MI
/-! MIA: a def by its body; the law's call. -/
namespace MI
open PySem PySem.Spec PyProof.Rows L2
variable [EK] [GR]
theorem finals_len : ∀ (as : List Arg) (ρ : Rho), (finals as ρ).length = as.length
  | [], _ => rfl
  | (_, true) :: as, s :: ρ => congrArg (· + 1) (finals_len as ρ)
  | (_, true) :: as, [] => congrArg (· + 1) (finals_len as _)
  | (_, false) :: as, ρ => congrArg (· + 1) (finals_len as _)
theorem finals_at : ∀ {as : List Arg} {ρ : Rho} {i : Nat} {s : Slot}, (finals as ρ)[i]? = some s → s = .no ∨ ((∃ d, as[i]? = some (d, true)) ∧ ρ[i]? = some s)
  | [], _, _, _, h => by simp [finals] at h
  | (d, true) :: as, s :: ρ, 0, _, h => .inr ⟨⟨d, rfl⟩, h⟩
  | (d, true) :: as, s :: ρ, i + 1, x, h => (finals_at (as := as) (ρ := ρ) (i := i) h).imp id fun z => z
  | (d, true) :: as, [], 0, _, h => .inl (Option.some.inj h).symm
  | (d, true) :: as, [], i + 1, x, h => (finals_at (as := as) (ρ := []) (i := i) h).imp id fun z => z
  | (d, false) :: as, ρ, 0, _, h => .inl (Option.some.inj h).symm
  | (d, false) :: as, ρ, i + 1, x, h => by
    rcases finals_at (as := as) (ρ := ρ.tail) (i := i) h with z | ⟨z1, z2⟩
    · exact .inl z
    · refine .inr ⟨z1, ?_⟩
      cases ρ with
      | nil => simp at z2
      | cons a r => exact z2
theorem lent_not {l : List Nat} : ∀ {as : List Arg} {k i : Nat} {d : PyData}, lentOk l k as = true → as[i]? = some (d, true) → (k + i) ∉ l
  | (d, true) :: as, k, 0, _, h, _ => by
    simp only [lentOk, Bool.and_eq_true, Bool.not_eq_true'] at h
    intro z
    have := List.contains_iff_mem.mpr z
    simp only [Nat.add_zero] at this
    rw [h.1] at this
    cases this
  | (d, true) :: as, k, i + 1, _, h, e => by
    simp only [lentOk, Bool.and_eq_true] at h
    have := lent_not (k := k + 1) (i := i) h.2 e
    rw [show k + (i + 1) = k + 1 + i by omega]
    exact this
  | (d, false) :: as, k, 0, _, h, e => by cases e
  | (d, false) :: as, k, i + 1, _, h, e => by
    simp only [lentOk] at h
    have := lent_not (k := k + 1) (i := i) h e
    rw [show k + (i + 1) = k + 1 + i by omega]
    exact this
  | [], _, _, _, _, e => by simp at e
theorem RE.pad {A M : AS} {H : Hp} {ρ : Rho} {σ : L2.St} (r : RE A M H ρ σ) (n : Nat) : RE A M H (ρ ++ List.replicate n .no) (σ ++ List.replicate n none) := by
  have old : ∀ {i : Nat} {s : Slot}, (ρ ++ List.replicate n Slot.no)[i]? = some s → s = .no ∨ (ρ[i]? = some s ∧ (σ ++ List.replicate n none)[i]? = σ[i]?) := fun {i s} h => by
    by_cases hi : i < ρ.length
    · rw [List.getElem?_append_left hi] at h
      exact .inr ⟨h, List.getElem?_append_left (r.len ▸ hi)⟩
    · rw [List.getElem?_append_right (by omega), List.getElem?_replicate] at h
      split at h
      · exact .inl (Option.some.inj h).symm
      · cases h
  refine ⟨by simp [r.len], r.sub, r.live, fun i d h => ?_, fun i d h => ?_, fun i j d e a h1 h2 h3 h4 => ?_, r.tab, fun i d h => ?_⟩
  · rcases old h with z | ⟨z1, z2⟩
    · cases z
    · obtain ⟨v, q1, q2⟩ := r.dat i d z1
      exact ⟨v, z2.trans q1, q2⟩
  · rcases old h with z | ⟨z1, z2⟩
    · cases z
    · obtain ⟨v, q1, q2⟩ := r.own i d z1
      exact ⟨v, z2.trans q1, q2⟩
  · rcases old h1 with z | ⟨z1, z2⟩
    · cases z
    · rcases old h2 with z | ⟨z3, z4⟩
      · cases z
      · exact r.inj i j d e a z1 z3 (z2.symm.trans h3) (z4.symm.trans h4)
  · rcases old h with z | ⟨z1, z2⟩
    · cases z
    · obtain ⟨a, q1, q2⟩ := r.exc i d z1
      exact ⟨a, z2.trans q1, q2⟩
/-- what comes back to the caller -/
theorem fin_ok {A M A' M' A2 : AS} {H H' : Hp} {as : List Arg} {vs : List V} {ρ' : Rho} {σ σ' : L2.St} {l : List Nat} (r : RE A M H (as.map argSlot) (vs.map some)) (r' : RE A' M' H' ρ' σ') (hσ : ∀ i, i < vs.length → σ[i]? = (vs.map some)[i]?) (ag : Agree l σ σ') (lo : lentOk l 0 as = true)
    (h2 : ∀ a, A2 a → A' a) (hm : ∀ a, M' a → M a → A2 a) : RE A2 (fun a => M' a ∧ M a) H' (finals as ρ') (vs.map some) := by
  have len : as.length = vs.length := by simpa using r.len
  have at_ : ∀ {i : Nat} {d : PyData}, as[i]? = some (d, true) → σ'[i]? = (vs.map some)[i]? := fun {i d} e => by
    have hi : i < vs.length := by rw [← len]; exact (List.getElem?_eq_some_iff.mp e).1
    have z := lent_not lo e
    rw [Nat.zero_add] at z
    rw [ag i z, hσ i hi]
  refine ⟨by rw [finals_len, List.length_map]; exact len, fun a z => hm a z.1 z.2, fun a z => r'.live a (h2 a z), fun i d h => ?_, fun i d h => ?_, fun i j d e a h1 h2' h3 h4 => ?_, r'.tab, fun i d h => ?_⟩
  · rcases finals_at h with z | ⟨⟨d0, z1⟩, z2⟩
    · cases z
    · obtain ⟨v, q1, q2⟩ := r'.dat i d z2
      exact ⟨v, (at_ z1).symm.trans q1, q2.anti h2⟩
  · rcases finals_at h with z | ⟨⟨d0, z1⟩, z2⟩
    · cases z
    · obtain ⟨a, q1, q2, q3⟩ := r'.own i d z2
      have e1 : (vs.map some)[i]? = some (some (.ref a)) := (at_ z1).symm.trans q1
      have z3 : (as.map argSlot)[i]? = some (Slot.own d0) := by rw [List.getElem?_map, z1]; rfl
      obtain ⟨a', p1, p2, _⟩ := r.own i d0 z3
      rw [e1] at p1
      cases p1
      exact ⟨a, e1, ⟨q2, p2⟩, q3.anti h2⟩
  · rcases finals_at h1 with z | ⟨⟨d0, z1⟩, z2⟩
    · cases z
    · rcases finals_at h2' with z | ⟨⟨d1, z3⟩, z4⟩
      · cases z
      · exact r'.inj i j d e a z2 z4 ((at_ z1).trans h3) ((at_ z3).trans h4)
  · rcases finals_at h with z | ⟨⟨d0, z1⟩, z2⟩
    · cases z
    · obtain ⟨a, q1, q2⟩ := r'.exc i d z2
      exact ⟨a, (at_ z1).symm.trans q1, q2⟩
theorem ret_pst {A M : AS} {H H' : Hp} {as : List Arg} {vs : List V} {ρ' : Rho} {σ σ' : L2.St} {l : List Nat} {d : PyData} {fr : Bool} {v : V} (r : RE A M H (as.map argSlot) (vs.map some)) (hσ : ∀ i, i < vs.length → σ[i]? = (vs.map some)[i]?) (lo : lentOk l 0 as = true)
    (p : PR A M H σ l d fr ρ' v σ' H') : Pst0 A M H (finals as ρ') (vs.map some) d fr v H' := by
  obtain ⟨A', M', c, k, r', ag, q1, q2⟩ := p
  refine ⟨fun a => A' a ∧ A a, fun a => M' a ∧ M a, ⟨fun x z => z.2, fun x z => z.2, fun x h n => c.d x h fun z => n ⟨z, h⟩⟩, k, fin_ok r r' hσ ag lo (fun a z => z.1) fun a z y => ⟨r'.sub a z, r.sub a y⟩, fun e => (q1 e).anti fun a z => z.1, fun e => ?_⟩
  obtain ⟨p, rfl, hp, ra, ho⟩ := q2 e
  have sub : ∀ a, orA (fun a => A' a ∧ A a) p a → orA A' p a := fun a z => z.imp (fun y => y.1) id
  exact ⟨p, rfl, hp, fin_ok r ra hσ ag lo sub fun a z y => .inl ⟨r'.sub a z, r.sub a y⟩, ho.anti sub⟩
section
variable {P : Program} {w : World} {K : PySem.W.Frag} {mg : Str → Option Value} {base : Heap}
/-- a def of the program by the interpreter's run of its body -/
theorem fn_g {x qual : Str} {st : Stmt} {f : Addr} {fd : FuncData} {N ps : List Str} {k W id : Nat} {F F' : Fns} {fn : Fn} (U : L2.Fun K x qual st f fd) (S : FnScope N ps (defScope st)) (hnp : fn.np = ps.length) (hnv : fn.nv = N.length)
    (hF : ∀ as, F' id as = runFn F W fn as)
    (hbody : ∀ (cdv : Value) (A : Around) (outer : List Env) (s : Shared) (H : Hp), (∀ o d, K.lookup f = some o → o.data = .func d → d.code = cdv) → GOk A → Room k (A.deeper (envOfC qual (defScope st) s.heap.objs.size f cdv)) → PSs (cxOf CX0 P w K mg base N qual (defScope st) f cdv A outer s H E0).nox (defBody st) (tS F W fn.body)) :
    FnG P w K mg base (k + 1) f fd ps (spF F' id) := by
  obtain ⟨oc, od, kV, doc, pm, an, cdv, ct, osl, rfl, lk, hcd⟩ := U.ex
  have inv : ∀ {vs : List V} {H : Hp} {Q : VK}, spF F' id vs H Q E0 → ∃ A M as d fr ss, RE A M H (as.map argSlot) (vs.map some) ∧ runFn F W fn as = some (d, fr, ss) ∧ as.length = vs.length ∧ vs.length = ps.length ∧ ∀ v H', Pst0 A M H ss (vs.map some) d fr v H' → Q v H' := fun {vs H Q} h => by
    obtain ⟨A, M, as, d, fr, ss, r, e, q⟩ := h
    rw [hF] at e
    have l1 : as.length = vs.length := by simpa using r.len
    have l2 : as.length = fn.np := by
      unfold runFn at e
      split at e
      · rename_i z; exact z.1
      · cases e
    exact ⟨A, M, as, d, fr, ss, r, e, l1, by omega, q⟩
  refine ⟨fun vs H Q h => let ⟨_, _, _, _, _, _, _, _, _, l, _⟩ := inv h; l, fun A outer s H args us vs Q hgd hr e0 hb rv hsp => ?_⟩
  obtain ⟨AA, MM, as, d, fr, ss, r, e, l1, l2, q⟩ := inv hsp
  unfold runFn at e
  split at e
  case isFalse => cases e
  rename_i hc
  simp only [Option.bind_eq_some_iff] at e
  obtain ⟨o, e1, e2⟩ := e
  have KX : K.In s.heap := e0.mod.kin.keeps fun b o e => (e0.bs b o e).1
  have lim : s.heap.NoLimit := e0.mod.nolimit.keeps fun b o e => (e0.bs b o e).1
  have hkind : ∀ y ∈ ps.zip us, (defScope st).names.lookup y.1 = some .local ∨ ((defScope st).names.lookup y.1 = some .cell ∧ ((cellsFrom (s.heap.objs.size + 1) (defScope st).names []).lookup y.1).isSome = true) := by
    rintro ⟨nm, v⟩ hy
    refine (S.par nm (List.of_mem_zip hy).1).imp (fun z => z) fun q => ⟨q, PySem.W.cellsFrom_some _ _ _ (.inl q)⟩
  refine codeAny_call_function hr.depth (KX _ _ lk) rfl S.co S.gen rfl (PySem.W.codeRec_of KX hcd) (hb _ _ _ _ (wpAny_newFunctionEnv_cells S.kind hkind fun env he s1 x => ?_))
  subst he
  refine ⟨lim.keeps x.toInCall.keep, codeAny_func ?_⟩
  have I := inv_start (CX := CX0) (E := E0) S hr.hd e0 l2 rv x
  have st0 : start N vs = vs.map some ++ List.replicate (N.length - vs.length) none := rfl
  have hσ : ∀ i, i < vs.length → (start N vs)[i]? = (vs.map some)[i]? := fun i hi => by
    rw [st0, List.getElem?_append_left (by simpa using hi)]
  have r0 : RE AA MM H (as.map argSlot ++ List.replicate (fn.nv - fn.np) .no) (start N vs) := by
    rw [st0, hnv, hnp, ← l2]
    exact r.pad _
  have go := (hbody cdv A outer s H (fun o d e1 e2 => by rw [lk] at e1; cases e1; cases e2; rfl) hgd (hr.deeper _)).nox.run [] s1 (start N vs) H { nx := fun _ H' => Q .non H', rt := Q } I ⟨AA, MM, _, o, r0, e1, ?_⟩
  · refine wpAny_mono go (fun fl s' hs => ?_) fun _ _ z => z
    match fl, hs with
    | .ret u, ⟨v, σ', H', J, rv', q'⟩ => exact ⟨v, H', J.os, J.bare, J.base, J.hok, rv', q'⟩
    | .next, ⟨σ', H', J, q'⟩ => exact ⟨.non, H', J.os, J.bare, J.base, J.hok, rfl, q'⟩
    | .brk, ⟨_, _, _, q'⟩ => exact q'.elim
    | .cont, ⟨_, _, _, q'⟩ => exact q'.elim
  · cases o with
    | nx ρ' =>
      cases e2
      exact fun σ' H' ⟨A', M', c, k, r', ag⟩ => q .non H' (ret_pst (l := asgd fn.body) r hσ hc.2 ⟨A', M', c, k, r', ag, fun _ => .non, fun z => nomatch z⟩)
    | bk ρ' => cases e2
    | ct ρ' => cases e2
    | rt d fr ρ' =>
      cases e2
      exact fun v σ' H' p => q v H' (ret_pst r hσ hc.2 p)
/-- the abstract heap at the law's entry: the script alone, if it isn't the module's own -/
noncomputable def entryH (K : PySem.W.Frag) (a : Addr) (o : Obj) (xs : List V) : Hp := fun b => if b = a ∧ K.lookup a = none then some (.frz o (.lst xs)) else none
theorem entry_cases {K : PySem.W.Frag} {a b : Addr} {o : Obj} {xs : List V} {u : HO} (h : entryH K a o xs b = some u) : b = a ∧ K.lookup a = none ∧ u = .frz o (.lst xs) := by
  unfold entryH at h
  split at h
  · rename_i z
    exact ⟨z.1, z.2, (Option.some.inj h).symm⟩
  · cases h
/-- the law's call -/
theorem law_g {mb : Str → Option Value} {k id : Nat} {fa a : Addr} {fd : FuncData} {x : Str} {F : Fns} {s₁ : Shared} {vs : List Value} {ns : List Int} {fr : Bool} {ss : List Slot} (hK : K = EK.k) (hT0 : EK.t = []) (hX0 : EK.x = none)
    (KX : K.In s₁.heap) (hmod : s₁.heap.Ns mainGlobals mg) (hblt : s₁.heap.Ns builtinsNs mb) (hb0 : ∀ y : Str, y ≠ "__name__" → mb y = bootBuiltins y) (hlim : s₁.heap.NoLimit) (hgens : s₁.gens = #[])
    (hlist : s₁.heap.get? a = some { cls := .type "list", data := .seq vs.toArray }) (hints : IntsAre vs ns) (hlen : ns.length ≤ sizeLine) (room : Room k callerA)
    (G : ∀ base : Heap, K.In base → base.Ns mainGlobals mg → FnG P w K mg base k fa fd [x] (spF F id)) (hbind : ∀ (s : Shared) (u : Value), BindsTo s fd ⟨[u], []⟩ [(x, u)])
    (hev : F id [(scr (ns.map PyData.int), false)] = some (.bool true, fr, ss)) :
    codeAny (model P w) callerA (.call (.ref fa) ⟨[.ref a], []⟩) (fun r s' => r = .ok (.ret (.bool true)) ∧ OldK s₁.heap s'.heap ∧ s'.os = s₁.os ∧ AllBare s'.gens) s₁ := by
  obtain ⟨o, ho⟩ : ∃ o : Obj, o = { cls := .type "list", data := .seq vs.toArray } := ⟨_, rfl⟩
  have vals := vals_ints hints
  have hsize : (ns.map V.int).length ≤ sizeLine := by rw [List.length_map]; exact hlen
  obtain ⟨H, hH⟩ : ∃ H, H = entryH K a o (ns.map V.int) := ⟨_, rfl⟩
  have only : ∀ {b u}, H b = some u → b = a ∧ K.lookup a = none ∧ u = .frz o (.lst (ns.map V.int)) := fun {b u} z => entry_cases (hH ▸ z)
  have hobj : s₁.heap.get? a = some o := ho ▸ hlist
  have okH : HOk P w H s₁.heap := fun b u z => by
    obtain ⟨rfl, _, rfl⟩ := only z
    exact ⟨hobj, hsize, vs, _, vals, hlist⟩
  have noneOf : ∀ {b : Addr}, (b = a → ∃ ob, K.lookup a = some ob) → H b = none := fun {b} z => by
    cases e : H b with
    | none => rfl
    | some u =>
      obtain ⟨e1, e2, _⟩ := only e
      obtain ⟨ob, e3⟩ := z e1
      rw [e2] at e3
      cases e3
  have keepD : ∀ {b : Addr} {ob : Obj} {es : Array DictEntry} {ep : Nat}, s₁.heap.get? b = some ob → ob.data = .dict es ep → (hidT s₁.heap H).get? b = some ob := fun {b ob es ep} e dd => hidT_get e (by
    cases q : H b with
    | none => rfl
    | some u =>
      obtain ⟨rfl, _, _⟩ := only q
      rw [hlist] at e
      cases e
      exact absurd dd (fun z => by injection z))
  have nsOf : ∀ {b : Addr} {m : Str → Option Value}, s₁.heap.Ns b m → (hidT s₁.heap H).Ns b m := fun {b m} z => by
    obtain ⟨ob, es, ep, e, dd, rest⟩ := z
    exact ⟨ob, es, ep, keepD e dd, dd, rest⟩
  have kin : K.In (hidT s₁.heap H) := fun b ob e => hidT_get (KX b ob e) (noneOf fun z => ⟨ob, z ▸ e⟩)
  have md : Mod K mg (hidT s₁.heap H) := by
    obtain ⟨mc, l1, l2⟩ := hlim
    exact ⟨kin, nsOf hmod, ⟨mb, nsOf hblt, hb0⟩, mc, nsOf l1, l2⟩
  have env : Env0 P w K mg (hidT s₁.heap H) callerA [] s₁ H :=
    { frames := rfl, mod := md, bs := fun b ob e => of_hidT e, bsz := Nat.le_of_eq (hidT_size _ _), funs := trivial, frf := fun b z => (List.not_mem_nil z).elim, hok := okH, bare := .of_eq hgens }
  have scrA : ScrAt H a (ns.map V.int) := by
    cases e : K.lookup a with
    | none => exact .inl ⟨o, by rw [hH]; exact if_pos ⟨rfl, e⟩⟩
    | some ob =>
      have z := KX a ob e
      rw [hlist] at z
      cases z
      exact .inr ⟨_, vs.toArray, _, hK ▸ e, rfl, rfl, rfl, by rw [List.size_toArray, hints.length]; exact hlen, vals⟩
  have re : RE No No H [Slot.dat (scr (ns.map PyData.int))] [some (V.ref a)] := (RE.nil (A := No) (M := No) (H := H) (fun _ z => z) (fun _ z => z.elim) ⟨(by rw [hT0]; exact fun _ h => nomatch h), fun _ _ _ e => by rw [hX0] at e; cases e⟩).consDat (.scr scrA (ints_all ns))
  have sp : spF F id [V.ref a] H (fun v _ => v = .bl true) E0 := ⟨No, No, [(scr (ns.map PyData.int), false)], _, _, _, re, hev, fun v H' p => by
    obtain ⟨A', M', _, _, _, rel⟩ := Pst.std ⟨p, fun _ _ => nofun⟩ fun _ z => z.elim
    cases rel
    rfl⟩
  refine codeAny_mono ((G _ kin (nsOf hmod)).run callerA [] s₁ H ⟨[.ref a], []⟩ [.ref a] [.ref a] _ (.inr rfl) room env (hbind s₁ (.ref a)) (.cons rfl .nil) sp) fun res s' z => ?_
  match res, z with
  | .error _, z => exact z.elim
  | .ok (.ret u), ⟨v, H', os, bare, un, ok', rel, q⟩ =>
    have qv : v = .bl true := q
    subst qv
    cases rel
    refine ⟨rfl, OldK.of_keep fun b ob e => ?_, os, bare⟩
    cases q : H b with
    | none => exact un.keep b ob e q (fun z => (List.not_mem_nil z).elim) (fun z => (List.not_mem_nil z).elim)
    | some u =>
      obtain ⟨rfl, _, rfl⟩ := only q
      have z1 := (ok' _ _ (un.frzs _ _ _ q)).1
      rw [hobj] at e
      cases e
      exact z1
end
end MI
/-! MIV: what a def raises, told by a def that calls a lambda. -/
namespace MI
open PySem PySem.Spec PyProof.Rows L2
variable [EK] [GR]
/-- the classes by their numbers -/
abbrev CAs := Nat → Option Addr
/-- the exception that such a value stands for: its class, its dict -/
noncomputable def ExcR (CA : CAs) (cv : PyData) (cls : Value) (dd : Option Addr) (H : Hp) : Prop := ∃ c C, xcls cv = some c ∧ CA c = some C ∧ cls = .ref C ∧ XdAt H cv dd
/-- a def that raises -/
noncomputable def spX (F : Fns) (CA : CAs) (id : Nat) : List V → Hp → XK → Prop := fun vs H E => ∃ A M as cv fr ss, RE A M H (as.map argSlot) (vs.map some) ∧ F id as = some (cv, fr, ss) ∧ xD cv = true ∧ ∀ cls dd H', ExcR CA cv cls dd H' → Kp M H H' → E cls dd H'
structure FnX (P : Program) (w : World) (K : PySem.W.Frag) (mg : Str → Option Value) (base : Heap) (k : Nat) (f : Addr) (fd : FuncData) (ps : List Str) (sp : List V → Hp → XK → Prop) : Prop where
  len : ∀ vs H E, sp vs H E → vs.length = ps.length
  run : ∀ (A : Around) (outer : List Env) (s : Shared) (H : Hp) (args : Args) (us : List Value) (vs : List V) (E : XK), A.guards = some [] → Room k A → Env0 P w K mg base A outer s H → BindsTo s fd args (ps.zip us) → Vals vs us → sp vs H E →
    codeAny (model P w) A (.call (.ref f) args) (CR (L2.CX P w) outer P w H s (fun _ _ => False) E) s
/-! ### a lambda handed to a def -/
open LamX
/-- no object goes -/
noncomputable def Alive (H H' : Hp) : Prop := ∀ b o, H b = some o → ∃ o', H' b = some o'
section
variable {X : Cx} {pins : List (Addr × Obj)} {σ : L2.St} {H HZ : Hp} {s s1 : Shared}
theorem lam_new {T : List (Addr × Str)} {c P : Addr} {par : Arguments} {bd : Expr} {sc : Scope} {pos : Pos} {E Q : Value → Shared → Prop} (I : Inv X pins σ H s) (TB : TabB X.base X.mg c P) (hcode : X.env.code = .ref c)
    (inT : (P, X.env.qual ++ "<lambda>") ∈ T) (oneT : ∀ p ∈ T, p.1 = P → p.2 = X.env.qual ++ "<lambda>") (hT : Tabs T H) (hdef : defaultsOf par X.env = ([], [])) (hfree : ∀ y ∈ sc.names, y.2 = .free → ∃ c, X.env.cells.lookup y.1 = some c)
    (go : ∀ (f cc : Addr) (pm ct : Value) (H1 : Hp) (s2 : Shared), Inv X pins σ H1 s2 → ExtN H H1 → Alive H H1 → Tabs T H1 →
      s2.heap.get? f = some (PySem.W.kla_obj "<lambda>" (X.env.qual ++ "<lambda>") par bd sc (cloFrom X.env.cells sc.names []) pm cc ct) → H1 f = none → f ∉ frs X.stack → H1 cc = some (CodeO cc (X.env.qual ++ "<lambda>")) → Q (.ref f) s2) :
    wpAny (model X.prog X.w) X.A (eval (.Lambda par bd sc pos) X.env) Q E s := by
  obtain ⟨tb, atP, tri, each⟩ := hT _ inT
  have bmP : s.heap.BuiltinsAt X.mg P := TB.bm.keeps I.bk
  have heapP : s.heap.get? P = some { cls := .none, data := .fields tb } := I.hok P _ atP
  have offFrames : ∀ {f : Addr}, s.heap.objs.size ≤ f → f ∉ frs X.stack := fun {f} le mem => by
    cases List.mem_cons.mp (I.stkSub _ mem) with
    | inl e =>
      have lt := I.lt
      rw [← e] at lt
      exact absurd (Nat.lt_of_lt_of_le lt le) (Nat.lt_irrefl _)
    | inr e => exact I.nofs le e
  apply PySem.W.kla_eval hdef
  cases found : codeAmong pos tb.toList with
  | some cv =>
    obtain ⟨cc, rfl, inH⟩ := each pos cv found
    refine PySem.W.kla_makeFunctionHit (mg := X.mg) (c := c) (P := P) (ps := tb) (closure_ok hfree) I.ok.glob (I.mod.glob.keeps I.bk) hcode (TB.code.keeps I.bk) heapP tri found bmP ?_
    intro ct h' tk keep size
    exact go h'.objs.size cc ((X.mg "__name__").getD .none) ct H _ (I.kept fun b o e => Heap.get?_push_of_some _ (keep b o e)) (ExtN.refl H) (fun _ o z => ⟨o, z⟩) hT (Heap.get?_push_size _ rfl) (I.hok.fresh size) (offFrames size) inH
  | none =>
    refine PySem.W.kla_makeFunction (mg := X.mg) (c := c) (P := P) (ps := tb) (closure_ok hfree) I.ok.glob (I.mod.glob.keeps I.bk) hcode (TB.code.keeps I.bk) heapP tri found TB.gP bmP ?_
    intro cc ct h' tk keep le lt hrec newP
    obtain ⟨c2, oc, vs, t, ecc, hoc, hd, hv⟩ := hrec
    cases ecc
    have size : s.heap.objs.size ≤ h'.objs.size := Nat.le_trans le (Nat.le_of_lt lt)
    have noC : H cc = none := I.hok.fresh le
    have PneC : P ≠ cc := ne_of_none atP noC
    obtain ⟨H1, eH1⟩ : ∃ H1, H1 = upd (upd H P (.tbl (tb ++ #[rawInt pos.line, rawInt pos.col, .ref cc]))) cc (CodeO cc (X.env.qual ++ "<lambda>")) := ⟨_, rfl⟩
    have I1 := inv_table (q := X.env.qual ++ "<lambda>") (t' := tk) (more := #[rawInt pos.line, rawInt pos.col, .ref cc]) (h' := h'.push (PySem.W.kla_obj "<lambda>" (X.env.qual ++ "<lambda>") par bd sc (cloFrom X.env.cells sc.names []) ((X.mg "__name__").getD .none) cc ct)) I atP
      (fun b o ne e => Heap.get?_push_of_some _ (keep b o ne e)) (Heap.get?_push_of_some _ newP) le ⟨oc, vs, t, Heap.get?_push_of_some _ hoc, hd, hv⟩
    rw [← eH1] at I1
    have other : ∀ {b : Addr}, b ≠ P → b ≠ cc → H1 b = H b := fun {b} n1 n2 => by rw [eH1, upd_ne n2, upd_ne n1]
    have grew : H1 P = some (.tbl (tb ++ #[rawInt pos.line, rawInt pos.col, .ref cc])) := by rw [eH1, upd_ne PneC, upd_same]
    have neC : ∀ {b : Addr} {o : HO}, H b = some o → b ≠ cc := fun {b o} e => ne_of_none e noC
    have eN : ExtN H H1 := fun b o e nb => by
      rw [other (fun z => nb tb (by rw [z, atP] at e; exact (Option.some.inj e).symm)) (neC e)]
      exact e
    have al : Alive H H1 := fun b o e => by
      by_cases hb : b = P
      · exact hb ▸ ⟨_, grew⟩
      · exact ⟨o, (other hb (neC e)).trans e⟩
    have lst : (tb ++ #[rawInt pos.line, rawInt pos.col, .ref cc]).toList = tb.toList ++ [rawInt pos.line, rawInt pos.col, .ref cc] := by simp
    have atC : H1 cc = some (CodeO cc (X.env.qual ++ "<lambda>")) := by rw [eH1]; exact upd_same
    have T1 : Tabs T H1 := fun p hp => by
      by_cases hb : p.1 = P
      · rw [oneT p hp hb, hb]
        refine ⟨_, grew, by rw [lst]; exact PySem.TriplesOk_snoc _ _ _ _ tri, fun p' cv z => ?_⟩
        rw [lst] at z
        cases among_app _ tri z with
        | inr e => exact ⟨cc, e, atC⟩
        | inl e =>
          obtain ⟨c0, e1, e2⟩ := each p' cv e
          exact ⟨c0, e1, eN _ _ e2 codeO_ne⟩
      · obtain ⟨tb', a1, a2, a3⟩ := hT p hp
        refine ⟨tb', (other hb (neC a1)).trans a1, a2, fun p' cv z => ?_⟩
        obtain ⟨c0, e1, e2⟩ := a3 p' cv z
        exact ⟨c0, e1, eN _ _ e2 codeO_ne⟩
    refine go h'.objs.size cc ((X.mg "__name__").getD .none) ct H1 _ I1 eN al T1 (Heap.get?_push_size _ rfl) ?_ (offFrames size) atC
    have n1 : h'.objs.size ≠ cc := Nat.ne_of_gt lt
    have n2 : h'.objs.size ≠ P := Nat.ne_of_gt (Nat.lt_of_lt_of_le (Heap.lt_size heapP) size)
    rw [other n2 n1]
    exact I.hok.fresh size
/-- the lambda called, in the def that got it -/
theorem act_g {Ng : List Str} {qg : Str} {sg : Scope} {g f cc : Addr} {cdg pm ct : Value} {par : Arguments} {bd : Expr} {sc : Scope} {k i : Nat} {a : Str} {pn : List (Addr × Obj)} {xe : Value → Shared → Prop} {W : WX} {E : XK} {tb : TE} {p1 p2 : Pos}
    (hgd : X.A.guards = some []) (I : Inv X pins σ H s) (L : LamS X.env.scope sc) (atf : s.heap.get? f = some (PySem.W.kla_obj "<lambda>" (X.env.qual ++ "<lambda>") par bd sc (cloFrom X.env.cells sc.names []) pm cc ct)) (nof : H f = none) (nfr : f ∉ frs X.stack)
    (hbind : bindArgs (PySem.W.kla_fn "<lambda>" (X.env.qual ++ "<lambda>") par bd sc (cloFrom X.env.cells sc.names []) pm (.ref cc) ct) ⟨[], []⟩ = pure [])
    (tk : Takes ((cxOf C8.CX0 X.prog X.w X.K X.mg X.base Ng qg sg g cdg X.A X.stack s H C8.E0).tr pn xe) W) (hW : ∀ cls d σ' H', E cls d H' → W cls d σ' H') (hr : Room (k + 1) (X.A.deeper (envOfC qg sg s.heap.objs.size g cdg)))
    (hbody : ∀ (A : Around) (outer : List Env) (s : Shared) (H : Hp), A.guards = some [] → Room k (A.deeper (lamEnv X sc s.heap.objs.size f cc)) → PE (lamCx X A outer s H E sc f cc) bd tb)
    (hN : Ng[i]? = some a) (hv : Vis sg a) (hd : (a == ("__debug__" : Str)) = false) (hcd : (a == ("__classdict__" : Str)) = false) :
    PE ((cxOf C8.CX0 X.prog X.w X.K X.mg X.base Ng qg sg g cdg X.A X.stack s H C8.E0).tr pn xe) (.Call (.Name a p1) [] [] p2)
      (fun σZ HZ Q => σZ[i]? = some (some (.ref f)) ∧ HZ cc = some (CodeO cc (X.env.qual ++ "<lambda>")) ∧ tb σ HZ Q) := by
  constructor
  intro pinsZ sZ σZ HZ Q IZ hyp
  obtain ⟨var, inH, rd⟩ := hyp
  have loaded := (pe_var (pos := p1) (i := i) hN hv hd hcd).run pinsZ sZ σZ HZ (fun v H1 => v = .ref f ∧ H1 = HZ) IZ ⟨.ref f, var, rfl, rfl⟩
  refine wpAny_Call_Name_kw (thn loaded fun u s1 got => ?_)
  obtain ⟨v, H1, I1, rv, rfl, rfl⟩ := got
  obtain rfl : u = Value.ref f := rv
  have still : s1.heap.get? f = some (PySem.W.kla_obj "<lambda>" (X.env.qual ++ "<lambda>") par bd sc (cloFrom X.env.cells sc.names []) pm cc ct) := I1.base.keep f _ atf nof nfr (fun z => nomatch (show f ∈ ([] : List Addr) from z))
  apply PySem.W.callWith_F0 ⟨_, _, _, _, still⟩
  obtain ⟨⟨oc, vs, t, hoc, hdc, hvc⟩, _⟩ := I1.hok cc _ inH
  have un : Un (frs X.stack) [] H H1 s.heap s1.heap := I1.base
  have passes : Passes (L2.CX X.prog X.w) ((cxOf C8.CX0 X.prog X.w X.K X.mg X.base Ng qg sg g cdg X.A X.stack s H C8.E0).tr pn xe) E := passes_call tk hW
  have ran : codeAny (model X.prog X.w) (X.A.deeper (envOfC qg sg s.heap.objs.size g cdg)) (.call (.ref f) ⟨[], []⟩) (CR (L2.CX X.prog X.w) (envOfC qg sg s.heap.objs.size g cdg :: X.stack) X.prog X.w H1 s1 Q E) s1 := by
    refine PySem.W.kla_callFunE hr.depth still rfl L.co L.gen rfl ⟨cc, oc, vs, t, rfl, hoc, hdc, hvc⟩ ?_
    rw [hbind]
    refine wpAny_pure (wpAny_newFunctionEnv (fun y hy => (L.own y hy).2) (fun y hy => absurd hy (by simp)) (fun hN ns same => ⟨I1.nolimit.fresh _ same, ?_⟩) L.kind)
    show codeAny _ _ (.expr bd (lamEnv X sc s1.heap.objs.size f cc)) _ _
    have kp : ∀ b o, s1.heap.get? b = some o → hN.get? b = some o := fun b o e => same.extBut b o (Nat.ne_of_lt (Heap.lt_size e)) (Heap.get?_push_of_some _ e)
    have J : Inv (lamCx X (X.A.deeper (envOfC qg sg s.heap.objs.size g cdg)) (envOfC qg sg s.heap.objs.size g cdg :: X.stack) s1 H1 E sc f cc) [] σ H1 { s1 with heap := hN, toks := s1.toks + ([] : List (Str × Value)).length } := lam_start2 I L I1.env0 hr.hd un ns kp
    have inner := (hbody (X.A.deeper (envOfC qg sg s.heap.objs.size g cdg)) _ s1 H1 hgd (hr.deeper _)).run [] _ _ H1 Q J rd
    exact PySem.W.kla_codeExpr (wpAny_mono inner (fun v s' ⟨w', H', J', r', q⟩ => ⟨w', H', J'.os, J'.bare, J'.base, J'.hok, r', q⟩) fun _ _ z => z)
  refine wpAny_call (codeAny_mono ran fun r s' hq => ?_)
  match r, hq with
  | .error e, z => exact passes pinsZ σZ H1 s1 e s' I1 z
  | .ok (.ret u), z => exact I1.after z
end
/-- what the reading of a lambda handed on asks -/
noncomputable def tLam2 (TT : (XK → Hp → VK → Prop) → Hp → VK → Prop) (t : XK → TE) : TE := fun σ H Q => Tabs EK.t H ∧ ∀ H1, ExtN H H1 → Alive H H1 → Tabs EK.t H1 → TT (fun E H' Q' => t E σ H' Q') H1 Q
section
variable {X : Cx}
/-- x(lambda: bd) -/
theorem pe_lam {TT : (XK → Hp → VK → Prop) → Hp → VK → Prop} {x a : Str} {g c P : Addr} {k : Nat} {pg : Arguments} {bg : List Stmt} {sg : Scope} {dV kV doc pm cdv ct oc : Value} {an od : Option Addr} {osl : Array (Option Value)} {Ng : List Str}
    {par : Arguments} {bd : Expr} {sc : Scope} {t : XK → TE} {p lpos pos : Pos} (hgd : X.A.guards = some []) (hg : Gl X x) (hm : X.mg x = some (.ref g)) (hk : PySem.W.keepIn X.K (.ref g) = true)
    (lk : X.K.lookup g = some ⟨oc, od, .func (PySem.W.fnOf x x pg bg sg dV kV doc pm an cdv ct), osl⟩) (hcg : PySem.W.codeIn X.K cdv x = true) (hb : L2.Binds X.K (PySem.W.fnOf x x pg bg sg dV kV doc pm an cdv ct) [a] []) (Sg : FnScope Ng [a] sg) (hNg : Ng[0]? = some a) (hva : Vis sg a)
    (hG : GivesTo X Ng x sg g cdv bg a (X.env.qual ++ "<lambda>") TT)
    (TB : TabB X.base X.mg c P) (hcode : X.env.code = .ref c) (inT : (P, X.env.qual ++ "<lambda>") ∈ EK.t) (oneT : ∀ p ∈ EK.t, p.1 = P → p.2 = X.env.qual ++ "<lambda>") (hr : Room (k + 2) X.A) (L : LamS X.env.scope sc) (hdef : defaultsOf par X.env = ([], []))
    (hbind : ∀ (q : Str) (cl : List (Str × Addr)) (pm cv ctv : Value), bindArgs (PySem.W.kla_fn "<lambda>" q par bd sc cl pm cv ctv) ⟨[], []⟩ = pure [])
    (hbody : ∀ (A : Around) (outer : List Env) (s : Shared) (H : Hp) (E : XK) (f c' : Addr), A.guards = some [] → Room k (A.deeper (lamEnv X sc s.heap.objs.size f c')) → PE (lamCx X A outer s H E sc f c') bd (t E))
    (hdb : (x == ("__debug__" : Str)) = false) (hd : (a == ("__debug__" : Str)) = false) (hcd : (a == ("__classdict__" : Str)) = false) :
    PE X (.Call (.Name x p) [.Lambda par bd sc lpos] [] pos) (tLam2 TT t) := by
  constructor
  intro pins s σ H Q I hyp
  obtain ⟨hT, rd⟩ := hyp
  apply wpAny_Call_Name_kw
  refine ld_glob I hg hm (PySem.W.callWith_K (h₀ := X.base) I.ok.mod.kin hk ?_ rfl rfl) hdb
  show wpAny _ _ (spliced ((false, eval (.Lambda par bd sc lpos) X.env) :: backTo pos (starEach [] X.env))) _ _ s
  apply Calls.spliced_cons
  refine lam_new I TB hcode inT oneT hT hdef (L.has I.ok) fun f cc pm2 ct2 H1 s1 I1 eN al T1 atf nof nfr inH => ?_
  refine Calls.spliced_nil ⟨I1.kIn, ?_⟩
  have ran : codeAny (model X.prog X.w) X.A (.call (.ref g) ⟨[.ref f], []⟩) (CR C8.CX0 X.stack X.prog X.w H1 s1 Q C8.E0) s1 := by
    refine run_ofS (N := Ng) (ps := [a]) (us := [.ref f]) (vs := [.ref f]) lk hcg Sg hr I1.env0 (hb s1 [.ref f] I1.kIn rfl) (.cons rfl .nil) rfl fun hr1 => ?_
    obtain ⟨t', q1, q2⟩ := hG f cc s1 H1 Q (fun E H' Q' => t E σ H' Q') (fun W pn xe E p1 p2 tk hW => act_g (i := 0) hgd I1 L atf nof nfr (hbind _ _ _ _ _) tk hW hr1 (fun A outer s H hA hr2 => hbody A outer s H E f cc hA hr2) hNg hva hd hcd) inH (rd H1 eN al T1)
    exact ⟨t', q1.nox, q2⟩
  refine wpAny_call (codeAny_mono ran fun r s2 hq => ?_)
  match r, hq with
  | .error _, z => exact False.elim z
  | .ok (.ret u), z => exact I1.after z
end
end MI
namespace MI
open PySem PySem.Spec PyProof.Rows L2 LamX
variable [EK] [GR]
/-- what is told of the call that was got: the word of what it raises, or what it gives, shown -/
noncomputable def TTs (CA : CAs) (ts : List Str) : (XK → Hp → VK → Prop) → Hp → VK → Prop := fun tl H Q => ∃ Ech : XK,
  tl Ech H (fun v H' => ∃ A d, Top A H' v d ∧ shows d = true ∧ Q (.str d.shown) H') ∧
    ∀ cls d H', Ech cls d H' → ∃ cv t, ExcR CA cv cls d H' ∧ xD cv = true ∧ tellW ts cv = some t ∧ Tabs EK.t H' ∧ ∀ H'', Kp No H' H'' → Q (.str t) H''
/-- .. whoever calls it -/
noncomputable def GivesAll (X : Cx) (k : Nat) (Ng : List Str) (y : Str) (sg : Scope) (g : Addr) (cdv : Value) (bg : List Stmt) (a : Str) (TT : (XK → Hp → VK → Prop) → Hp → VK → Prop) : Prop :=
  ∀ (Z : Cx) (q : Str), Z.prog = X.prog → Z.w = X.w → Z.K = X.K → Z.mg = X.mg → Z.base = X.base → Z.A.guards = some [] → Room (k + 2) Z.A → GivesTo Z Ng y sg g cdv bg a q TT
/-- a def that tells so, in the context of its caller -/
structure ToldAt (X : Cx) (CA : CAs) (k : Nat) (y : Str) (ts : List Str) : Prop where
  ok : ∃ (g : Addr) (pg : Arguments) (bg : List Stmt) (sg : Scope) (dV kV doc pm cdv ct oc : Value) (an od : Option Addr) (osl : Array (Option Value)) (Ng : List Str) (a : Str),
    X.mg y = some (.ref g) ∧ PySem.W.keepIn X.K (.ref g) = true ∧ X.K.lookup g = some ⟨oc, od, .func (PySem.W.fnOf y y pg bg sg dV kV doc pm an cdv ct), osl⟩ ∧ PySem.W.codeIn X.K cdv y = true ∧ L2.Binds X.K (PySem.W.fnOf y y pg bg sg dV kV doc pm an cdv ct) [a] [] ∧
      FnScope Ng [a] sg ∧ Ng[0]? = some a ∧ Vis sg a ∧ (a == ("__debug__" : Str)) = false ∧ (a == ("__classdict__" : Str)) = false ∧ GivesAll X k Ng y sg g cdv bg a (TTs CA ts)
  tab : ∃ c P, X.env.code = .ref c ∧ TabB X.base X.mg c P ∧ (P, X.env.qual ++ "<lambda>") ∈ EK.t ∧ ∀ p ∈ EK.t, p.1 = P → p.2 = X.env.qual ++ "<lambda>"
  room : Room (k + 2) X.A
theorem ToldAt.blk {X : Cx} {CA : CAs} {k : Nat} {y : Str} {ts : List Str} {scope : Scope} {s : Shared} {H : Hp} {C : Addr} {cl : List (Str × Addr)} {fp : List Addr} (T : ToldAt X CA k y ts) : ToldAt (X.blk s H scope (compEnvC scope cl C X.env) fp) CA k y ts := ⟨T.ok, T.tab, T.room⟩
theorem kp_ext {H H' : Hp} (e : ExtN H H') (a : Alive H H') (t : Tabs EK.t H') : Kp No H H' := ⟨fun b o h _ nb => e b o h nb, a, fun _ => t⟩
section
variable {X : Cx} {F : Fns} {CA : CAs} {k fid xid : Nat} {y fn : Str} {ts : List Str} {par : Arguments} {sc : Scope} {e : Expr} {es : List Expr} {m : ME} {p fp cp lp pos : Pos}
theorem e_told (T : ToldAt X CA k y ts) (hgd : X.A.guards = some []) (hg : Gl X y) (hdb : (y == ("__debug__" : Str)) = false)
    (hf : ∃ f fd ps, X.mg fn = some (.ref f) ∧ PySem.W.keepIn X.K (.ref f) = true ∧ Binds X.K fd ps [] ∧ FnG X.prog X.w X.K X.mg X.base k f fd ps (spF F fid) ∧ FnX X.prog X.w X.K X.mg X.base k f fd ps (spX F CA xid))
    (hfn : sc.names.lookup fn = some .globalImplicit) (hfd : (fn == ("__debug__" : Str)) = false) (L : LamS X.env.scope sc) (hdef : defaultsOf par X.env = ([], []))
    (hbind : ∀ (q : Str) (cl : List (Str × Addr)) (pm cv ctv : Value), bindArgs (PySem.W.kla_fn "<lambda>" q par (.Call (.Name fn fp) (e :: es) [] cp) sc cl pm cv ctv) ⟨[], []⟩ = pure [])
    (ha : ∀ (Z : Cx), Z.N = X.N → Z.env.scope = sc → Z.K = X.K → PA Z (e :: es) (tL F m)) (ns : (e :: es).all noStar = true) :
    Eb X F (.Call (.Name y p) [.Lambda par (.Call (.Name fn fp) (e :: es) [] cp) sc lp] [] pos) (.told fid xid ts m) := Eb.of ⟨fun _ _ _ _ _ _ ⟨_, _, _, _, _, _, _, ev, _⟩ => by simp [evE] at ev⟩ fun _ => nofun
end
end MI
/-! MIO: objects: attributes, methods, making. -/
namespace MI
open PySem PySem.Spec PyProof.Rows L2
variable [EK] [GR]
theorem val_kvF {x : Str} : ∀ {fs : List (Str × V)}, valV (kvF fs) (.inr x) = fs.lookup x
  | [] => rfl
  | (y, v) :: r => by
    have ih := val_kvF (x := x) (fs := r)
    unfold valV kvF at ih ⊢
    rw [List.map_cons, List.find?_cons, List.lookup_cons]
    by_cases h : y = x
    · subst h; simp
    · have h1 : decide ((Sum.inr y : Key) = Sum.inr x) = false := by simp [h]
      have h2 : (x == y) = false := by simp [Ne.symm h]
      simp only [h1, h2]
      exact ih
theorem fld_get {A : AS} {H : Hp} {fs : List (Str × V)} {es : List (PyData × PyData)} {x : Str} (r : RelKv A H (kvF fs) es) : (fs.lookup x = none ∧ dGet es (.str x) = none) ∨ ∃ v d, fs.lookup x = some v ∧ dGet es (.str x) = some d ∧ Rel A H v d := by
  have := get_rel (k := .inr x) r
  rw [val_kvF] at this
  exact this
theorem clsD_of {d : PyData} {c : Nat} (h : clsD d = some c) : ∃ es, d = .dict (oMark c :: es) := by
  unfold clsD at h
  split at h
  · cases h; exact ⟨_, rfl⟩
  · cases h
theorem fldD_of {x : Str} {d z : PyData} (h : fldD x d = some z) : ∃ c es, d = .dict (oMark c :: es) ∧ dGet es (.str x) = some z := by
  unfold fldD at h
  split at h
  · exact ⟨_, _, rfl, h⟩
  · cases h
theorem fldD_no {x : Str} {c : Nat} {es : List (PyData × PyData)} (h : ¬ (fldD x (.dict (oMark c :: es))).isSome = true) : dGet es (.str x) = none := by
  have e : fldD x (.dict (oMark c :: es)) = dGet es (.str x) := rfl
  rw [e] at h
  simpa using h
section
variable {X : Cx} {F : Fns} {e a b : Expr} {es : List Expr} {m ma mb : ME} {pos : Pos} {x : Str}
theorem e_fld (hK : X.K = EK.k) (hn : ∀ C ∈ EK.c, NoAttr X.K C x) (he : Eb X F e m) (hab : attributeBase e x X.env (eval e X.env) = eval e X.env) : Eb X F (.Attribute e x pos) (.fld x m) := by
  refine Eb.of ((pe_fld he.bo hab).imp fun σ H Q ⟨A, M, ρ, d, fr, ρ', r, ev, q⟩ => ?_) fun _ => nofun
  simp only [evE, Option.bind_eq_some_iff, Option.map_eq_some_iff] at ev
  obtain ⟨⟨b, ρ1⟩, h1, o, h2, z, h3, h4⟩ := ev
  cases h4
  refine ⟨A, M, ρ, b, _, r, h1, fun v H1 A1 M1 s1 k1 r1 b1 => ?_⟩
  obtain ⟨c, es, rfl, hz⟩ := fldD_of h3
  obtain ⟨a, C, dx, fs, rfl, hH, hc, rk⟩ := (b1.top r1 h2).obj
  have hC := List.mem_of_getElem? hc
  rcases fld_get (x := x) rk with ⟨_, g⟩ | ⟨v, d, g1, g2, rel⟩
  · rw [hz] at g; cases g
  · rw [hz] at g2; cases g2
    exact ⟨a, C, dx, fs, v, rfl, hH, hK ▸ (EK.ok C hC).cls, hn C hC, g1, q _ _ (((NewV.val rel).pst r1).after s1 k1)⟩
theorem e_con {l : List PyData} (hK : X.K = EK.k) (hc : ∀ (c : Nat) C z, EK.c[c]? = some C → l[c]? = some z → ∃ v u, Con X.K C x v u ∧ ∀ A H, Rel A H v z) (he : Eb X F e m) (hab : attributeBase e x X.env (eval e X.env) = eval e X.env) : Eb X F (.Attribute e x pos) (.con x l m) := by
  refine Eb.of ((pe_con he.bo hab).imp fun σ H Q ⟨A, M, ρ, d, fr, ρ', r, ev, q⟩ => ?_) fun _ => nofun
  simp only [evE, Option.bind_eq_some_iff] at ev
  obtain ⟨⟨b, ρ1⟩, h1, o, h2, ev⟩ := ev
  split at ev
  · cases ev
  · rename_i hno
    simp only [Option.bind_eq_some_iff, Option.map_eq_some_iff] at ev
    obtain ⟨c, h3, z, h4, h5⟩ := ev
    cases h5
    refine ⟨A, M, ρ, b, _, r, h1, fun v H1 A1 M1 s1 k1 r1 b1 => ?_⟩
    obtain ⟨es, rfl⟩ := clsD_of h3
    obtain ⟨a, C, dx, fs, rfl, hH, hcC, rk⟩ := (b1.top r1 h2).obj
    have hC := List.mem_of_getElem? hcC
    obtain ⟨v, u, g1, g2⟩ := hc c C _ hcC h4
    rcases fld_get (x := x) rk with ⟨g, _⟩ | ⟨v', d', _, g, _⟩
    · exact ⟨a, C, dx, fs, v, u, rfl, hH, hK ▸ (EK.ok C hC).cls, g1, g, q _ _ (((NewV.val (g2 _ _)).pst r1).after s1 k1)⟩
    · rw [fldD_no hno] at g; cases g
/-- isinstance(x, C) of an own class -/
structure IsoAt (K : PySem.W.Frag) (C : Addr) (l : List Bool) : Prop where
  b : ∀ t ∈ ["NoneType", "bool", "int", "str", "tuple", "list", "dict"], PySem.W.kitOne K (.type t) (.ref C) = some false
  o : ∀ (c : Nat) D z, EK.c[c]? = some D → l[c]? = some z → PySem.W.kitOne K (.ref D) (.ref C) = some z
theorem iso_ty {A : AS} {H : Hp} {v : V} {d : PyData} {C : Addr} {l : List Bool} {z : Bool} (hI : IsoAt EK.k C l) (h : Top A H v d) (hz : isoD l d = some z) : ∃ t, TyX EK.k H v t ∧ PySem.W.kitOne EK.k t (.ref C) = some z := by
  cases d with
  | none => cases hz; cases h.non; exact ⟨_, .base .non, hI.b _ (by simp)⟩
  | bool i => cases hz; cases h.bl; exact ⟨_, .base (.bl i), hI.b _ (by simp)⟩
  | int i => cases hz; cases h.int; exact ⟨_, .base (.int i), hI.b _ (by simp)⟩
  | str i => cases hz; cases h.str; exact ⟨_, .base (.str i), hI.b _ (by simp)⟩
  | list ds => cases hz; obtain ⟨a, xs, rfl, h, _⟩ := h.lst; exact ⟨_, .base (.lst h), hI.b _ (by simp)⟩
  | tuple ds =>
    cases hz
    obtain ⟨a, xs, rfl, h, _⟩ := h.tup
    rcases h with h | ⟨ob, _, h⟩
    · exact ⟨_, .base (.tup h), hI.b _ (by simp)⟩
    · exact ⟨_, .fTuple h, hI.b _ (by simp)⟩
  | dict es =>
    unfold isoD at hz
    split at hz
    · cases ‹PyData.dict es = _›
    · cases ‹PyData.dict es = _›
    · cases ‹PyData.dict es = _›
    · cases ‹PyData.dict es = _›
    · cases ‹PyData.dict es = _›
    · cases ‹PyData.dict es = _›
    · rename_i c r e
      cases e
      obtain ⟨a, D, dx, fs, rfl, hH, hc, rk⟩ := (show Top A H v (.dict (oMark c :: r)) from h).obj
      exact ⟨_, .base ((EK.ok D (List.mem_of_getElem? hc)).ty hH), hI.o c D z hc hz⟩
    · rename_i es' _ e
      cases e
      split at hz
      · cases hz
      · rename_i hs
        cases hz
        obtain ⟨a, kvs, rfl, hH, _⟩ := h.dic (by simpa using hs)
        exact ⟨_, .base (.dK hH), hI.b _ (by simp)⟩
theorem e_isO {p p' : Pos} {n : Str} {C : Addr} {l : List Bool} (hK : X.K = EK.k) (hg : Gl X "isinstance") (hm : X.mg "isinstance" = none) (hgt : Gl X n) (hmt : X.mg n = some (.ref C)) (hdn : (n == ("__debug__" : Str)) = false)
    (hI : IsoAt EK.k C l) (ha : Eb X F a ma) (ns : noStar a = true) : Eb X F (.Call (.Name "isinstance" p) [a, .Name n p'] [] pos) (.isO l ma) := by
  have hpa : PA X [a, .Name n p'] (tCons (tB F ma) (tCons (tC (.ref C)) tNil)) := pa_cons ha.bo (pa_cons (pe_glob hgt hmt rfl hdn) pa_nil) (star_no ns)
  refine Eb.of ((pe_callB call_isi hg hm (by decide +kernel) hpa (by decide) (by decide) (star_no ns) rfl).imp fun σ H Q ⟨A, M, ρ, d, fr, ρ', r, ev, q⟩ => ?_) fun _ => nofun
  simp only [evE, Option.bind_eq_some_iff, Option.map_eq_some_iff] at ev
  obtain ⟨⟨b, ρ1⟩, h1, o, h2, z, h3, h4⟩ := ev
  cases h4
  refine ⟨A, M, ρ, b, _, r, h1, fun v H1 A1 M1 s1 k1 r1 b1 => ?_⟩
  obtain ⟨t, ty, kt⟩ := iso_ty hI (b1.top r1 h2) h3
  rw [← hK] at ty kt
  exact ⟨v, .ref C, t, .ref C, z, rfl, .own C, ty, kt, q _ _ ((Pst.bool r1).after s1 k1)⟩
end
/-! ### defs of classes -/
/-- a call from its operands -/
theorem call_core {F : Fns} {id : Nat} {A M A1 M1 : AS} {H H1 : Hp} {σ : L2.St} {vs : List V} {bs : List Bor} {ρ1 ρ2 ρ3 : Rho} {as : List Arg} {d : PyData} {fr : Bool} {ss : List Slot} {Q : VK}
    (s1 : Shr A M A1 M1) (k1 : Kp M H H1) (r1 : RE A1 M1 H1 ρ1 σ) (b1 : BRs A1 H1 σ vs bs) (h2 : lend ρ1 bs = some (as, ρ2)) (h3 : F id as = some (d, fr, ss)) (h4 : back ρ2 bs as ss = some ρ3)
    (q : ∀ v H', Pst0 A M H ρ3 σ d fr v H' → Q v H') : spF F id vs H1 Q E0 := by
  obtain ⟨M2, q1, q2, q3⟩ := lend_ok r1 b1 h2
  refine ⟨A1, _, as, _, _, ss, q3, h3, fun v H' pst => q v H' ?_⟩
  obtain ⟨A', Mc, s, k, rc, p1, p2⟩ := pst
  have kN : ∀ a, (M1 a ∧ ¬ M2 a) → A1 a := fun a z => r1.sub a z.1
  have m2 : ∀ a, M2 a → A' a := fun a z => Classical.byContradiction fun n => (s.d a (r1.sub a (q1 a z)) n).2 z
  have dis : ∀ a, Mc a → ¬ M2 a := fun a z => (s.m a z).2
  have rb : RE A' M2 H' ρ2 σ := q2.gen k kN (fun a z y => y.2 z) (fun a z => .inl (s.a a z)) m2 rc.live
  have r3 := back_ok rb rc dis b1.links h4
  refine ⟨A', _, ⟨fun a z => s1.a a (s.a a z), fun a z => ?_, fun a z n => ?_⟩, k1.comp s1 (k.mono fun a z => z.1), r3, p1, fun e => ?_⟩
  · rcases z with z | z
    · exact s1.m a (q1 a z)
    · exact s1.m a (s.m a z).1
  · by_cases hA : A1 a
    · exact s1.m a (s.d a hA n).1
    · exact s1.d a z hA
  · obtain ⟨a, rfl, ha, ra, oa⟩ := p2 e
    have H0 : H a = none := by
      cases e0 : H a with
      | none => rfl
      | some o => obtain ⟨o', e'⟩ := k1.live a o e0; rw [ha] at e'; cases e'
    refine ⟨a, rfl, H0, ?_, oa⟩
    have rb2 : RE (orA A' a) M2 H' ρ2 σ := q2.gen k kN (fun a z y => y.2 z) (fun b z => by
      rcases z with z | z
      · exact .inl (s.a b z)
      · exact .inr (z ▸ ha)) (fun b z => .inl (m2 b z)) ra.live
    exact back_ok rb2 ra dis b1.links h4
/-- what is asked of a def behind an operator -/
noncomputable def ckR (ck : Nat) (Q : VK) : VK := fun w H => match ck with
  | 0 => Q w H
  | 1 => ∃ i, w = .int i ∧ (0 ≤ i ∧ i < 2 ^ 63) ∧ Q (.int i) H
  | 2 => ∃ z, w = .str z ∧ Q (.str z) H
  | 3 => ∃ b, w = .bl b ∧ Q (.bl b) H
  | 4 => ∃ b, w = .bl b ∧ Q (.bl !b) H
  | _ => False
theorem ck_ok {ck : Nat} {A M : AS} {H H' : Hp} {ρ : Rho} {σ : L2.St} {d z : PyData} {fr : Bool} {w : V} {Q : VK} (h : (if ck = 0 then some (d, fr, ρ) else if fr then none else (ckD ck d).map fun z => (z, false, ρ)) = some (z, fr2, ρ')) (p : Pst0 A M H ρ σ d fr w H')
    (q : ∀ v H', Pst A M H ρ' σ z fr2 v H' → Q v H') : ckR ck Q w H' := by
  split at h
  · rename_i e
    cases h
    subst e
    exact q w H' ⟨p, fun _ _ _ => trivial⟩
  · rename_i hck
    split at h
    · cases h
    · rename_i hfr
      simp only [Option.map_eq_some_iff] at h
      obtain ⟨z', h1, h2⟩ := h
      cases h2
      obtain ⟨A', M', s, k, r, p1, _⟩ := p
      have rel := p1 (by simpa using hfr)
      have fin : ∀ v, Rel A' H' v z → Q v H' := fun v rv => q v H' ⟨⟨A', M', s, k, r, fun _ => rv, nofun⟩, nofun⟩
      unfold ckD at h1
      split at h1
      · exact absurd rfl hck
      · split at h1
        · rename_i hr
          cases h1; cases rel
          exact ⟨_, rfl, hr, fin _ (.int _)⟩
        · cases h1
      · cases h1; cases rel
        exact ⟨_, rfl, fin _ (.str _)⟩
      · cases h1; cases rel
        exact ⟨_, rfl, fin _ (.bl _)⟩
      · cases h1; cases rel
        exact ⟨_, rfl, fin _ (.bl _)⟩
      · cases h1
/-- a def of the class, asked of an object -/
theorem meth_read {F : Fns} {ck : Nat} {x : Str} {l : List Nat} {ma m : ME} {σ : L2.St} {H : Hp} {Q : VK} (h : tE F (.meth ck x l ma m) σ H Q) : tB F ma σ H fun v H1 => ∃ (a C dx : Addr) (fs : List (Str × V)) (c id : Nat), v = .ref a ∧ H1 a = some (.ins C dx fs) ∧ fs.lookup x = none ∧ EK.c[c]? = some C ∧ l[c]? = some id ∧
    tL F m σ H1 fun vs H2 => spF F id (v :: vs) H2 (ckR ck Q) E0 := by
  obtain ⟨A, M, ρ, d, fr, ρ', r, ev, q⟩ := h
  simp only [evE, Option.bind_eq_some_iff] at ev
  obtain ⟨⟨b, ρ0⟩, h0, o, ho, ev⟩ := ev
  split at ev
  · cases ev
  · rename_i hno
    simp only [Option.bind_eq_some_iff] at ev
    obtain ⟨c, hc, f, hf, ⟨bs, ρ1⟩, h1, ⟨as, ρ2⟩, h2, ⟨d1, fr1, ss⟩, h3, ρ3, h4, h5⟩ := ev
    refine ⟨A, M, ρ, b, ρ0, r, h0, fun v H1 A1 M1 s1 k1 r1 b1 => ?_⟩
    obtain ⟨es, rfl⟩ := clsD_of hc
    obtain ⟨a, C, dx, fs, rfl, hH, hcC, rk⟩ := (b1.top r1 ho).obj
    have nl : fs.lookup x = none := by
      rcases fld_get (x := x) rk with ⟨g, _⟩ | ⟨v', d', _, g, _⟩
      · exact g
      · rw [fldD_no hno] at g; cases g
    refine ⟨a, C, dx, fs, c, f, rfl, hH, nl, hcC, hf, A1, M1, ρ0, bs, ρ1, r1, h1, fun vs H2 A2 M2 s2 k2 r2 b2 => ?_⟩
    exact call_core (vs := .ref a :: vs) (bs := b :: bs) (s1.trans s2) (k1.comp s1 k2) r2 ⟨b1.keep r1.sub s2 k2, b2⟩ h2 h3 h4 fun w H' p => ck_ok h5 p q
/-- the defs by class behind a name -/
noncomputable def DefsAt (X : Cx) (F : Fns) (k : Nat) (l : List Nat) (at_ : Addr → Addr → Prop) : Prop := ∀ (c : Nat) C id, EK.c[c]? = some C → l[c]? = some id → ∃ f fd ps, at_ C f ∧ Binds X.K fd ps [] ∧ FnG X.prog X.w X.K X.mg X.base k f fd ps (spF F id)
theorem run_g1 {X : Cx} {k : Nat} {f : Addr} {fd : FuncData} {ps : List Str} {sp : Sp} {pins : List (Addr × Obj)} {σ : L2.St} {H : Hp} {s : Shared} {Q : VK} {us : List Value} {vs : List V} (G : FnG X.prog X.w X.K X.mg X.base k f fd ps sp) (hg : GOk X.A) (hr : Room (k + 1) X.A) (hb : Binds X.K fd ps [])
    (I : L2.Inv X pins σ H s) (r : Vals vs us) (h : sp vs H Q E0) : wpAny (model X.prog X.w) X.A.in1 (call (.ref f) us) (EP X pins σ Q) X.xe s := by
  have hl : us.length = ps.length := r.length.symm.trans (G.len _ _ _ h)
  have bb : BindsTo s fd ⟨us, []⟩ (ps.zip us) := by
    have q := hb s us I.kIn (by rw [List.append_nil]; exact hl)
    rw [List.append_nil] at q
    exact q
  refine wpAny_call (codeAny_mono (G.run X.A.in1 X.stack s H ⟨us, []⟩ us vs Q hg hr.in1 I.env0.in1 bb r h) fun res s' hq => ?_)
  match res, hq with
  | .error _, z => exact z.elim
  | .ok (.ret u), z => exact I.after z
section
variable {X : Cx} {k : Nat} {F : Fns} {o e a b : Expr} {es : List Expr} {ma m mb : ME} {x : Str} {l : List Nat} {pos apos p : Pos}
/-- o.m(e, ..) -/
theorem e_meth {pl : Sem Bool} (hK : X.K = EK.k) (hgd : GOk X.A) (hr : Room k X.A) (D : DefsAt X F k l (fun C f => Meth X.K C x f)) (ho : Eb X F o ma) (ha : PA X (e :: es) (tL F m)) (ns : (e :: es).all noStar = true)
    (ht : eval (.Call (.Attribute o x apos) (e :: es) [] pos) X.env = (do
      let ov ← eval o X.env
      standAt apos.atName
      let (f, first) ← holding [ov] (getMethod ov x pl)
      callWith pos f first (backTo pos (starEach (e :: es) X.env)) (backToKw pos (keywordEach [] X.env)))) :
    Eb X F (.Call (.Attribute o x apos) (e :: es) [] pos) (.meth 0 x l ma m) := by
  rw [List.all_cons, Bool.and_eq_true] at ns
  refine Eb.of ⟨fun pins s σ H Q I h => ?_⟩ fun _ => nofun
  refine PySem.W.methodCall_KW (pl := pl) (thn (ho.bo.run pins s σ H _ I (meth_read h)) fun u s1 ⟨v, H1, I1, rx, a, C, dx, fs, c, id, ev, ea, nl, hc, hid, q⟩ => ?_) ht
  subst ev
  obtain rfl : u = Value.ref a := rx
  obtain ⟨f, fd, ps, hm, hb, G⟩ := D c C id hc hid
  have oc := EK.ok C (List.mem_of_getElem? hc)
  refine getmeth_ok I1 ea (hK ▸ oc.cls) hm nl ?_
  refine PySem.W.callWith_K (first := [.ref a]) (h₀ := X.base) I.ok.mod.kin hm.kp (thn (ha.run pos pins s1 σ H1 _ I1 q) fun us s2 ⟨vs, H2, I2, r, q2⟩ => ⟨I2.kIn, ?_⟩) (star_no ns.1) (star_any ns.2)
  exact run_g (us := .ref a :: us) (vs := .ref a :: vs) G hgd hr hb I2 (.cons rfl r) q2
theorem nil_read {σ : L2.St} {H : Hp} {Q : List V → Hp → Prop} (h : tL F .nil σ H Q) : Q [] H := by
  obtain ⟨A, M, ρ, bs, ρ', r, ev, q⟩ := h
  cases ev
  exact q [] H A M (Shr.refl _ _) (Kp.refl _ _) r trivial
/-- o.m() -/
theorem e_meth0 {pl : Sem Bool} (hK : X.K = EK.k) (hgd : GOk X.A) (hr : Room k X.A) (D : DefsAt X F k l (fun C f => Meth X.K C x f)) (ho : Eb X F o ma)
    (ht : eval (.Call (.Attribute o x apos) [] [] pos) X.env = (do
      let ov ← eval o X.env
      standAt apos.atName
      let (f, first) ← holding [ov] (getMethod ov x pl)
      callWith pos f first (backTo pos (starEach [] X.env)) (backToKw pos (keywordEach [] X.env)))) :
    Eb X F (.Call (.Attribute o x apos) [] [] pos) (.meth 0 x l ma .nil) := by
  refine Eb.of ⟨fun pins s σ H Q I h => ?_⟩ fun _ => nofun
  refine PySem.W.methodCall_KW (pl := pl) (thn (ho.bo.run pins s σ H _ I (meth_read h)) fun u s1 ⟨v, H1, I1, rx, a, C, dx, fs, c, id, ev, ea, nl, hc, hid, q⟩ => ?_) ht
  subst ev
  obtain rfl : u = Value.ref a := rx
  obtain ⟨f, fd, ps, hm, hb, G⟩ := D c C id hc hid
  have oc := EK.ok C (List.mem_of_getElem? hc)
  refine getmeth_ok I1 ea (hK ▸ oc.cls) hm nl ?_
  exact PySem.W.callWith_K0 (first := [.ref a]) I1.kIn hm.kp (run_g (us := [.ref a]) (vs := [.ref a]) G hgd hr hb I1 (.cons rfl .nil) (nil_read q))
/-- o.x, a property -/
theorem e_prop (hK : X.K = EK.k) (hgd : GOk X.A) (hr : Room (k + 1) X.A) (D : DefsAt X F k l (fun C f => ∃ p, PropOf X.K C x p f)) (ho : Eb X F o ma) (hab : attributeBase o x X.env (eval o X.env) = eval o X.env) : Eb X F (.Attribute o x pos) (.meth 0 x l ma .nil) := by
  refine Eb.of ⟨fun pins s σ H Q I h => ?_⟩ fun _ => nofun
  refine attr_of hab (thn (ho.bo.run pins s σ H _ I (meth_read h)) fun u s1 ⟨v, H1, I1, rx, a, C, dx, fs, c, id, ev, ea, nl, hc, hid, q⟩ => ?_)
  subst ev
  obtain rfl : u = Value.ref a := rx
  obtain ⟨f, fd, ps, ⟨p, hp⟩, hb, G⟩ := D c C id hc hid
  have oc : Cls X.K C := hK ▸ (EK.ok C (List.mem_of_getElem? hc)).cls
  obtain ⟨mA, O, _, _, _, _⟩ := ins_get I1.hok ea
  obtain ⟨od, J, _⟩ := O.look
  obtain ⟨rest, hrec⟩ := hp.rec_
  have I2 := I1.tok (s1.toks + 1)
  have hcl : (PySem.W.clsIn X.K C).isSome = true := by
    obtain ⟨cd, hc, _⟩ := PySem.W.any_some oc.hd
    rw [hc]
    rfl
  refine PySem.W.get_bind I1.kIn J (PySem.W.plainGet_of (oc.get x)).1 (PySem.W.findObj_data hcl hp.at_ hp.get hp.tak) (PySem.W.plainGet_of (oc.get x)).2 (wpAny_call (PySem.W.prop_get (s := { s1 with toks := s1.toks + 1 }) I1.kIn hrec ?_))
  have q' := nil_read q
  have hl : [Value.ref a].length = ps.length := (G.len _ _ _ q')
  have bb : BindsTo { s1 with toks := s1.toks + 1 } fd ⟨[.ref a], []⟩ (ps.zip [.ref a]) := by
    have z := hb { s1 with toks := s1.toks + 1 } [.ref a] I1.kIn (by rw [List.append_nil]; exact hl)
    rw [List.append_nil] at z
    exact z
  refine codeAny_mono (G.run X.A.in1 X.stack { s1 with toks := s1.toks + 1 } H1 ⟨[.ref a], []⟩ [.ref a] [.ref a] _ hgd hr.in1 I2.env0.in1 bb (.cons rfl .nil) q') fun r s' hq => ?_
  match r, hq with
  | .error _, z => exact z.elim
  | .ok (.ret u), z =>
    obtain ⟨v, H', I3, rv, q3⟩ := I2.after z
    show wpAny _ _ (handedOut u) _ _ _
    rw [PySem.W.handedOut_of (handed_of rv)]
    exact wpAny_pure ⟨v, H', I3, rv, q3⟩
end
/-! ### making -/
/-- def __init__(self, *rest) -/
noncomputable def spI (F : Fns) (id : Nat) : Sp := fun vs H Q _ => ∃ u rest, vs = u :: rest ∧ rest.length ≤ sizeLine ∧ ∀ p, H p = none → spF F id [u, .ref p] (upd H p (.tup rest)) Q E0
structure FnI (P : Program) (w : World) (K : PySem.W.Frag) (mg : Str → Option Value) (base : Heap) (k : Nat) (f : Addr) (sp : Sp) : Prop where
  run : ∀ (A : Around) (outer : List Env) (s : Shared) (H : Hp) (us : List Value) (vs : List V) (Q : VK), GOk A → Room k A → Env0 P w K mg base A outer s H → Vals vs us → sp vs H Q E0 →
    codeAny (model P w) A (.call (.ref f) ⟨us, []⟩) (CR CX0 outer P w H s Q E0) s
section
variable {X : Cx} {k : Nat} {F : Fns} {e : Expr} {es : List Expr} {m : ME} {x : Str} {pos p : Pos}
theorem run_makeI {sp : Sp} {C f : Addr} {pins : List (Addr × Obj)} {σ : L2.St} {H : Hp} {s : Shared} {Q : VK} {us : List Value} {vs : List V} (M : Mk X.K C f) (G : FnI X.prog X.w X.K X.mg X.base k f sp) (hg : GOk X.A) (hr : Room (k + 1) X.A)
    (I : L2.Inv X pins σ H s) (r : Vals vs us)
    (h : ∀ x dx, H x = none → H dx = none → dx ≠ x → sp (.ref x :: vs) (upd (upd H dx (.own x)) x (.ins C dx [])) (fun v H2 => v = .non ∧ Q (.ref x) H2) E0) :
    wpAny (model X.prog X.w) X.A (call (.ref C) us) (EP X pins σ Q) X.xe s := by
  have hq := h (s.heap.objs.size + 1) s.heap.objs.size (I.hok.fresh (Nat.le_succ _)) (I.hok.fresh (Nat.le_refl _)) (Nat.ne_of_lt (Nat.lt_succ_self _))
  have I2 := Inv.made (C := C) I
  have r2 : Vals (V.ref (s.heap.objs.size + 1) :: vs) (Value.ref (s.heap.objs.size + 1) :: us) := .cons rfl r
  have gd : GOk (X.A.under (.builtin "type.__call__" ⟨.ref C :: us, []⟩)) := by
    refine hg.imp id fun hg => ?_
    have g0 : (Code.builtin "type.__call__" ⟨Value.ref C :: us, []⟩).guards = [] := by
      unfold Code.guards
      rw [if_neg]
      show ¬ (guardIds.contains "type.__call__" = true)
      decide +kernel
    unfold Around.under
    dsimp only
    rw [g0, hg]
    rfl
  refine wpAny_call (make_map (f := f) I.kIn M.makes M.init (beq_iff_eq.mp M.fn) (codeAny_mono (G.run _ X.stack _ _ (Value.ref (s.heap.objs.size + 1) :: us) _ _ gd (hr.make C us [])
    (I2.env0.make C us []) r2 hq) fun r s' hq' => ?_))
  match r, hq' with
  | .error _, z => exact z.elim
  | .ok (.ret u), z =>
    obtain ⟨v, H', I3, rv, ev, q3⟩ := I2.after z
    subst ev
    exact ⟨rv, ⟨V.ref (s.heap.objs.size + 1), H', I3, rfl, q3⟩⟩
theorem mk_read {C : Addr} {c id : Nat} {σ : L2.St} {H : Hp} {Q : VK} (hc : EK.c[c]? = some C) (h : tE F (.mk c id m) σ H Q) : tA F m σ H fun vs H1 => ∀ x dx, H1 x = none → H1 dx = none → dx ≠ x → spI F id (.ref x :: vs) (upd (upd H1 dx (.own x)) x (.ins C dx [])) (fun v H2 => v = .non ∧ Q (.ref x) H2) E0 := by
  obtain ⟨A, M, ρ, d, fr, ρ', r, ev, q⟩ := h
  simp only [evE, Option.bind_eq_some_iff] at ev
  obtain ⟨⟨ds, ρ1⟩, h1, ev⟩ := ev
  dsimp only at ev
  split at ev
  case isFalse => cases ev
  rename_i hl
  simp only [Option.bind_eq_some_iff] at ev
  obtain ⟨⟨d1, fr1, ss⟩, h2, h3⟩ := ev
  dsimp only at h3
  split at h3
  case h_2 => cases h3
  rename_i o ss' _ _
  cases h3
  refine ⟨A, M, ρ, ds, _, r, h1, fun vs H1 A1 M1 s1 k1 r1 b1 x dx hx hdx hne => ?_⟩
  refine ⟨.ref x, vs, rfl, by rw [b1.length]; exact hl, fun p hp => ?_⟩
  have nx : ¬ A1 x := fun z => by obtain ⟨o, e⟩ := r1.live x z; rw [hx] at e; cases e
  have hpx : p ≠ x := fun z => by rw [z, upd_same] at hp; cases hp
  have hpd : p ≠ dx := fun z => by rw [z, upd_ne hne, upd_same] at hp; cases hp
  have k2 : Kp No H1 (upd H1 dx (.own x)) := Kp.new hdx
  have k3 : Kp No (upd H1 dx (.own x)) (upd (upd H1 dx (.own x)) x (.ins C dx [])) := Kp.new (by rw [upd_ne (Ne.symm hne)]; exact hx)
  have k4 : Kp No (upd (upd H1 dx (.own x)) x (.ins C dx [])) (upd (upd (upd H1 dx (.own x)) x (.ins C dx [])) p (.tup vs)) := Kp.new hp
  have k5 : Kp No H1 (upd (upd (upd H1 dx (.own x)) x (.ins C dx [])) p (.tup vs)) := (k2.trans k3).trans k4
  obtain ⟨H3, eH⟩ : ∃ H3, H3 = upd (upd (upd H1 dx (.own x)) x (.ins C dx [])) p (.tup vs) := ⟨_, rfl⟩
  have atx : H3 x = some (.ins C dx []) := by rw [eH, upd_ne (Ne.symm hpx), upd_same]
  have atp : H3 p = some (.tup vs) := by rw [eH, upd_same]
  rw [← eH] at k5 ⊢
  have rd : RelAll (orA A1 x) H3 vs ds := (b1.fresh hx).keep (M := No) (fun _ z => z.elim) k5
  have lv : ∀ a, orA A1 x a → ∃ o, H3 a = some o := fun a z => by
    rcases z with z | z
    · obtain ⟨o, e⟩ := r1.live a z; exact k5.live a o e
    · exact z ▸ ⟨_, atx⟩
  have rc : RE (orA A1 x) (fun a => a = x) H3 [.own (objD c []), .dat (.tuple ds)] [some (.ref x), some (.ref p)] :=
    ((RE.nil (A := orA A1 x) (M := No) (fun _ z => z.elim) lv (k5.tabX r1.tab)).consDat (.tup (.inl atp) rd)).consOwn (fun _ z => z.elim) (fun b z => .inr z) rfl (fun z => z) (.inr (.inr (.inr (.inr ⟨C, dx, [], [], c, rfl, atx, hc, .nil⟩))))
  refine ⟨orA A1 x, fun a => a = x, [(objD c [], true), (.tuple ds, false)], _, _, _, rc, h2, fun v H' pst => ?_⟩
  obtain ⟨A', M', s, k, rr, p1, p2⟩ := pst
  have v0 : v = .non := by
    cases fr1 with
    | false => cases p1 rfl; rfl
    | true =>
      obtain ⟨a, _, _, _, ho⟩ := p2 rfl
      rcases ho with ⟨_, _, e, _⟩ | ⟨_, _, e, _⟩ | ⟨_, _, _, e, _⟩ | ⟨_, _, e, _⟩ | ⟨_, _, _, _, _, e, _⟩ <;> cases e
  refine ⟨v0, q _ _ ⟨?_, fun _ _ _ => trivial⟩⟩
  obtain ⟨a, e1, hm, ho⟩ := rr.own 0 d rfl
  cases e1
  have A'x : A' x := rr.sub x hm
  have kN : ∀ a, a = x → orA A1 x a := fun a z => .inr z
  have k6 : Kp (fun a => a = x) H1 H' := k5.of.trans k
  have nM : ∀ a, M1 a → ¬ a = x := fun a z e => nx (e ▸ r1.sub a z)
  have m3 : ∀ a, M1 a → butA A' x a := fun a z => ⟨Classical.byContradiction fun n => nM a z (s.d a (.inl (r1.sub a z)) n), nM a z⟩
  have up1 : ∀ a, butA A' x a → A1 a := fun a z => (s.a a z.1).elim (fun y => y) fun y => absurd y z.2
  have g1 : RE (butA A' x) M1 H' ρ' σ := by
    have : ∀ a, a = x → A1 a ∨ H1 a = none := fun a z => .inr (z ▸ hx)
    have f : ∀ a o, Nb o → H1 a = some o → (A1 a → ¬ Mu o) → H' a = some o := fun a o nb e n => k6.same a o e (fun z => by rw [z, hx] at e; cases e) nb
    have gg : ∀ a o, H1 a = some o → butA A' x a → ¬ A1 a → Mu o → False := fun a o _ z n _ => n (up1 a z)
    refine ⟨r1.len, m3, fun a z => rr.live a z.1, fun j y e => ?_, fun j y e => ?_, r1.inj, k6.tabX r1.tab, r1.exc⟩
    · obtain ⟨w, e1, e2⟩ := r1.dat j y e
      exact ⟨w, e1, e2.map f gg⟩
    · obtain ⟨b, e1, e2, e3⟩ := r1.own j y e
      have eb : H' b = H1 b := by
        obtain ⟨o, ho, mu⟩ := e3.live
        rw [ho]
        exact k6.same b o ho (fun z => absurd z (nM b e2)) (e3.nb ho)
      exact ⟨b, e1, e2, e3.map f gg eb⟩
  have hx0 : H x = none := by
    cases e0 : H x with
    | none => rfl
    | some o => obtain ⟨o', e'⟩ := k1.live x o e0; rw [hx] at e'; cases e'
  have km : Kp M H H' := by
    refine ⟨fun a o e n nb => ?_, fun a o e => ?_, fun t => k6.tab (k1.tab t)⟩
    · exact k6.same a o (k1.same a o e n nb) (fun z => by rw [z, hx0] at e; cases e) nb
    · obtain ⟨o1, e1⟩ := k1.live a o e; exact k6.live a o1 e1
  have back : ∀ a, orA (butA A' x) x a → A' a := fun a z => z.elim (fun y => y.1) fun y => y ▸ A'x
  refine ⟨butA A' x, M1, ⟨fun a z => s1.a a (up1 a z), s1.m, fun a z n => ?_⟩, km, g1, nofun, fun _ => ⟨x, rfl, hx0, ?_, ho.anti back⟩⟩
  · by_cases ha : A1 a
    · have hax : a ≠ x := fun e => nx (e ▸ ha)
      exact absurd (s.d a (.inl ha) fun y => n ⟨y, hax⟩) hax
    · exact s1.d a z ha
  · exact ⟨g1.len, fun a z => .inl (m3 a z), fun a z => rr.live a (back a z), fun j y e => by
        obtain ⟨w, e1, e2⟩ := g1.dat j y e
        exact ⟨w, e1, by
          obtain ⟨w', e1', e2'⟩ := r1.dat j y e
          rw [e1] at e1'; cases e1'
          exact (e2'.fresh hx).map (fun a o nb e n => k6.same a o e (fun z => by rw [z, hx] at e; cases e) nb) fun a o _ z n _ => n (z.elim (fun y => .inl (up1 a y)) .inr)⟩,
      fun j y e => by
        obtain ⟨b, e1, e2, e3⟩ := r1.own j y e
        have eb : H' b = H1 b := by
          obtain ⟨o, ho, mu⟩ := e3.live
          rw [ho]
          exact k6.same b o ho (fun z => absurd z (nM b e2)) (e3.nb ho)
        exact ⟨b, e1, e2, (e3.fresh hx).map (fun a o nb e n => k6.same a o e (fun z => by rw [z, hx] at e; cases e) nb) (fun a o _ z n _ => n (z.elim (fun y => .inl (up1 a y)) .inr)) eb⟩, g1.inj, g1.tab, g1.exc⟩
/-- C(e, ..) -/
theorem e_mk {C f : Addr} {c id : Nat} (M : Mk X.K C f) (hc : EK.c[c]? = some C) (G : FnI X.prog X.w X.K X.mg X.base k f (spI F id)) (hg : GOk X.A) (hr : Room (k + 1) X.A) (hgl : Gl X x) (hm : X.mg x = some (.ref C)) (ha : PA X (e :: es) (tA F m))
    (hdb : (x == ("__debug__" : Str)) = false) (ns : (e :: es).all noStar = true) : Eb X F (.Call (.Name x p) (e :: es) [] pos) (.mk c id m) := by
  rw [List.all_cons, Bool.and_eq_true] at ns
  refine Eb.of ⟨fun pins s σ H Q I h => ?_⟩ fun _ => nofun
  refine wpAny_Call_Name_kw (ld_glob I hgl hm ?_ hdb)
  refine PySem.W.callWith_K (h₀ := X.base) I.ok.mod.kin M.kp (thn (ha.run pos pins s σ H _ I (mk_read hc h)) fun us s1 ⟨vs, H1, I1, r, q⟩ => ⟨I1.kIn, ?_⟩) (star_no ns.1) (star_any ns.2)
  exact run_makeI M G hg hr I1 r q
end
/-! ### operators of classes -/
theorem get_inst {X : Cx} {pins : List (Addr × Obj)} {σ : L2.St} {H : Hp} {s : Shared} {a C dx : Addr} {fs : List (Str × V)} (I : L2.Inv X pins σ H s) (e : H a = some (.ins C dx fs)) : ∃ od, PySem.W.InstAt s.heap a (PySem.W.instObj C dx) C (some od) := by
  obtain ⟨mA, O, _⟩ := ins_get I.hok e
  obtain ⟨od, J, _⟩ := O.look
  exact ⟨od, J⟩
/-- what stands behind a special name -/
structure Spec (K : PySem.W.Frag) (nm : Str) (C f : Addr) : Prop where
  at_ : PySem.W.findIn K (.ref C) nm = some (some (.ref f))
  fn : PySem.W.isFn K (.ref f) = true
  fi : PySem.W.fnIn K f = true
/-- an object asked, the class's def told -/
noncomputable def rO1 (F : Fns) (ck : Nat) (l : List Nat) : List V → Hp → VK → Prop := fun vs H Q => ∃ (a C dx : Addr) (fs : List (Str × V)) (c id : Nat), vs = [.ref a] ∧ H a = some (.ins C dx fs) ∧ EK.c[c]? = some C ∧ l[c]? = some id ∧ spF F id [.ref a] H (ckR ck Q) E0
noncomputable def rOb (F : Fns) (ck : Nat) (l : List Nat) : R2 := fun x y H Q => ∃ (a C dx : Addr) (fs : List (Str × V)) (c id : Nat), x = .ref a ∧ H a = some (.ins C dx fs) ∧ EK.c[c]? = some C ∧ l[c]? = some id ∧ spF F id [x, y] H (ckR ck Q) E0
section
variable {X : Cx} {k : Nat} {F : Fns} {o e a b : Expr} {es : List Expr} {ma m mb : ME} {x : Str} {l : List Nat} {pos apos p : Pos}
theorem o1_read {ck : Nat} {σ : L2.St} {H : Hp} {Q : VK} (h : tE F (.meth ck x l ma .nil) σ H Q) : tCB (rO1 F ck l) (tCons (tB F ma) tNil) σ H Q := by
  obtain ⟨A, M, ρ, b, ρ', r, h0, g⟩ := meth_read h
  refine ⟨A, M, ρ, b, ρ', r, h0, fun v H1 A1 M1 s1 k1 r1 b1 => ?_⟩
  obtain ⟨a, C, dx, fs, c, id, ev, ea, _, hc, hid, q⟩ := g v H1 A1 M1 s1 k1 r1 b1
  subst ev
  exact ⟨a, C, dx, fs, c, id, rfl, ea, hc, hid, nil_read q⟩
theorem lenO_ok (hgd : GOk X.A) (hr : Room (k + 1) X.A) (D : DefsAt X F k l (Spec X.K "__len__")) : CallR X (.builtin "len") (rO1 F 1 l) := by
  intro pins s σ H xs us Q I r ⟨a, C, dx, fs, c, id, e, ea, hc, hid, q⟩
  subst e
  obtain ⟨u1, rfl, r1⟩ := vals1 r
  obtain rfl : u1 = Value.ref a := r1
  obtain ⟨f, fd, ps, hs, hb, G⟩ := D c C id hc hid
  obtain ⟨od, J⟩ := get_inst I ea
  obtain ⟨m, hF⟩ := I.fr
  refine PySem.W.len_K hF I.ok.mod.kin J hs.at_ hs.fn (wpAny_mono (run_g1 (us := [.ref a]) (vs := [.ref a]) G hgd hr hb I (.cons rfl .nil) q) (fun u s' hu => ?_) fun _ _ z => z)
  obtain ⟨v, H', I', rv, i, ev, hi, q'⟩ := hu
  subst ev
  obtain ⟨t, rfl⟩ := rv
  exact ⟨hi, .int i, H', I'.tok _, ⟨_, rfl⟩, q'⟩
theorem reprO_ok (hgd : GOk X.A) (hr : Room (k + 1) X.A) (D : DefsAt X F k l (Spec X.K "__repr__")) : CallR X (.builtin "repr") (rO1 F 2 l) := by
  intro pins s σ H xs us Q I r ⟨a, C, dx, fs, c, id, e, ea, hc, hid, q⟩
  subst e
  obtain ⟨u1, rfl, r1⟩ := vals1 r
  obtain rfl : u1 = Value.ref a := r1
  obtain ⟨f, fd, ps, hs, hb, G⟩ := D c C id hc hid
  obtain ⟨od, J⟩ := get_inst I ea
  obtain ⟨m, hF⟩ := I.fr
  refine PySem.W.repr_K hr.in1.units0 hF I.ok.mod.kin J hs.at_ hs.fn (wpAny_mono (run_g1 (us := [.ref a]) (vs := [.ref a]) G hgd hr hb I (.cons rfl .nil) q) (fun u s' hu => ?_) fun _ _ z => z)
  obtain ⟨v, H', I', rv, i, ev, q'⟩ := hu
  subst ev
  obtain ⟨t, rfl⟩ := rv
  exact ⟨.str i, H', I', ⟨_, rfl⟩, q'⟩
theorem e_lenO (hgd : GOk X.A) (hr : Room (k + 1) X.A) (D : DefsAt X F k l (Spec X.K "__len__")) (hg : Gl X "len") (hm : X.mg "len" = none) (ha : Eb X F a ma) (ns : noStar a = true) : Eb X F (.Call (.Name "len" p) [a] [] pos) (.meth 1 x l ma .nil) :=
  Eb.of ((pe_callB (lenO_ok hgd hr D) hg hm (by decide +kernel) (pa_cons ha.bo pa_nil (star_no ns)) (by decide) (by decide) (star_no ns) rfl).imp fun σ H Q h => o1_read h) fun _ => nofun
theorem e_reprO (hgd : GOk X.A) (hr : Room (k + 1) X.A) (D : DefsAt X F k l (Spec X.K "__repr__")) (hg : Gl X "repr") (hm : X.mg "repr" = none) (ha : Eb X F a ma) (ns : noStar a = true) : Eb X F (.Call (.Name "repr" p) [a] [] pos) (.meth 2 x l ma .nil) :=
  Eb.of ((pe_callB (reprO_ok hgd hr D) hg hm (by decide +kernel) (pa_cons ha.bo pa_nil (star_no ns)) (by decide) (by decide) (star_no ns) rfl).imp fun σ H Q h => o1_read h) fun _ => nofun
/-- both operands, then the class's def -/
theorem op_read2 {ck : Nat} {σ : L2.St} {H : Hp} {Q : VK} (h : tE F (.opO ck l ma mb) σ H Q) : tB F ma σ H fun v H1 => (∃ a, v = .ref a) ∧ tB F mb σ H1 fun z H2 => rOb F ck l v z H2 Q := by obtain ⟨_, _, _, _, _, _, _, ev, _⟩ := h; simp [evE] at ev
theorem op_read {ck : Nat} {σ : L2.St} {H : Hp} {Q : VK} (h : tE F (.opO ck l ma mb) σ H Q) : tOp (rOb F ck l) (tB F ma) (tB F mb) σ H Q := by
  obtain ⟨A, M, ρ, b, ρ0, r, h0, g⟩ := op_read2 h
  exact ⟨A, M, ρ, b, ρ0, r, h0, fun v H' A' M' s k r b => (g v H' A' M' s k r b).2⟩
theorem code_g {f : Addr} {fd : FuncData} {ps : List Str} {sp : Sp} {pins : List (Addr × Obj)} {σ : L2.St} {H : Hp} {s : Shared} {Q : VK} {us : List Value} {vs : List V} (G : FnG X.prog X.w X.K X.mg X.base k f fd ps sp) (hg : GOk X.A) (hr : Room k X.A) (hb : Binds X.K fd ps [])
    (I : L2.Inv X pins σ H s) (r : Vals vs us) (h : sp vs H Q E0) : codeAny (model X.prog X.w) X.A (.call (.ref f) ⟨us, []⟩) (fun r s' => match r with | .ok (.ret v) => EP X pins σ Q v s' | .ok _ => False | .error e => X.xe e s') s := by
  have hl : us.length = ps.length := r.length.symm.trans (G.len _ _ _ h)
  have bb : BindsTo s fd ⟨us, []⟩ (ps.zip us) := by
    have q := hb s us I.kIn (by rw [List.append_nil]; exact hl)
    rw [List.append_nil] at q
    exact q
  refine codeAny_mono (G.run X.A X.stack s H ⟨us, []⟩ us vs Q hg hr I.env0 bb r h) fun res s' hq => ?_
  match res, hq with
  | .error _, z => exact z.elim
  | .ok (.ret u), z => exact I.after z
/-- o[i] -/
theorem e_itemO (hgd : GOk X.A) (hr : Room (k + 1) X.A) (D : DefsAt X F k l (Spec X.K "__getitem__")) (ha : Eb X F a ma) (hb : Eb X F b mb) (hs : ∀ o i, subscripted b true o i = runValue (.builtin "lifetime.subscript" ⟨[o, i], []⟩)) : Eb X F (.Subscript a b pos) (.opO 0 l ma mb) := by
  refine Eb.of ⟨fun pins s σ H Q I h => ?_⟩ fun _ => nofun
  refine Subscript_ (binT ha.bo hb.bo I (op_read h) fun v u s2 x y H2 I2 rx ry q => ?_)
  obtain ⟨a', C, dx, fs, c, id, ex, ea, hc, hid, q⟩ := q
  subst ex
  obtain rfl : v = Value.ref a' := rx
  obtain ⟨f, fd, ps, hs', hb', G⟩ := D c C id hc hid
  obtain ⟨od, J⟩ := get_inst I2 ea
  obtain ⟨m, hF⟩ := I2.fr
  exact PySem.W.sub_K hF I2.ok.mod.kin J hs'.at_ hs'.fi hs'.fn (run_g1 (us := [.ref a', u]) (vs := [.ref a', y]) G hgd hr hb' I2 (.cons rfl (.cons ry .nil)) q) (hs _ _)
/-- o(e) -/
theorem e_callO {fe : Expr} (hgd : GOk X.A) (hr : Room k X.A) (D : DefsAt X F k l (Spec X.K "__call__")) (hf : Eb X F fe ma) (ha : Eb X F e mb) (ns : noStar e = true)
    (ht : eval (.Call fe [e] [] pos) X.env = (do callWith pos (← eval fe X.env) [] (backTo pos (starEach [e] X.env)) (backToKw pos (keywordEach [] X.env)))) : Eb X F (.Call fe [e] [] pos) (.opO 0 l ma mb) := by
  refine Eb.of ⟨fun pins s σ H Q I h => ?_⟩ fun _ => nofun
  have pa : PA X [e] (tCons (tB F mb) tNil) := pa_cons ha.bo pa_nil (star_no ns)
  refine Call_ (thn (hf.bo.run pins s σ H _ I (op_read2 h)) fun u s1 ⟨y, H1, I1, ry, ⟨a, ey⟩, q⟩ => ?_) ht
  subst ey
  obtain rfl : u = Value.ref a := ry
  refine StX.callO_with (thn (pa.run pos pins s1 σ H1 (fun vs H2 => ∃ z, vs = [z] ∧ rOb F 0 l (.ref a) z H2 Q) I1 (by
    obtain ⟨A, M, ρ, b, ρ0, r, h0, g⟩ := q
    exact ⟨A, M, ρ, b, ρ0, r, h0, fun v H' A' M' s k r b => ⟨v, rfl, g v H' A' M' s k r b⟩⟩)) fun us s2 ⟨vs, H2, I2, rv, z, ez, q2⟩ => ?_) (star_no ns) rfl
  subst ez
  obtain ⟨u1, rfl, r1⟩ := vals1 rv
  obtain ⟨a', C, dx, fs, c, id, ex, ea, hc, hid, q⟩ := q2
  cases ex
  obtain ⟨f, fd, ps, hs', hb', G⟩ := D c C id hc hid
  obtain ⟨od, J⟩ := get_inst I2 ea
  refine ⟨⟨C, _, _, J, rfl⟩, ?_⟩
  exact wpAny_call (PySem.W.kco_code I2.kIn J rfl hs'.at_ hs'.fn hs'.fi (code_g (us := [.ref a, u1]) (vs := [.ref a, z]) G hgd hr hb' I2 (.cons rfl (.cons r1 .nil)) q))
end
theorem putE_rel {A : AS} {H : Hp} {x : Str} {v : V} {d : PyData} (hv : Rel A H v d) : ∀ {fs : List (Str × V)} {es : List (PyData × PyData)}, RelKv A H (kvF fs) es → RelKv A H (kvF (putF x v fs)) (putE x d es)
  | [], es, r => by
    cases r
    exact .cons (k := .inr x) hv .nil
  | (y, w) :: fs, es, r => by
    cases r with
    | @cons _ _ _ d' es' a r =>
    have ih := putE_rel (x := x) hv r
    by_cases h : y = x
    · subst h
      have e1 : putF y v ((y, w) :: fs) = (y, v) :: fs := by simp [putF]
      have e2 : putE y d ((keyD (.inr y), d') :: es') = (keyD (.inr y), d) :: es' := by simp [putE, keyD, eqK]
      rw [e1, e2]
      exact .cons (k := .inr y) hv r
    · have e1 : putF x v ((y, w) :: fs) = (y, w) :: putF x v fs := by simp [putF, h]
      have e2 : putE x d ((keyD (.inr y), d') :: es') = (keyD (.inr y), d') :: putE x d es' := by simp [putE, keyD, eqK, h]
      rw [e1, e2]
      exact .cons (k := .inr y) a ih
section
variable {X : Cx} {k W : Nat} {F : Fns} {o e a b : Expr} {es : List Expr} {ma m mb : ME} {x y : Str} {l : List Nat} {pos apos p : Pos} {i : Nat}
theorem e_inO {n : Bool} (hgd : GOk X.A) (hr : Room k X.A) (D : DefsAt X F k l (Spec X.K "__contains__")) (ha : Eb X F a ma) (hb : Eb X F b mb) (hm : ∀ op, behindInMarks op b = false) : Eb X F (.Compare a [if n then .NotIn else .In] [b] pos) (.inO n l ma mb) := Eb.of ⟨fun _ _ _ _ _ _ ⟨_, _, _, _, _, _, _, ev, _⟩ => by simp [evE] at ev⟩ fun _ => nofun
theorem t_inO {n : Bool} (hgd : GOk X.A) (hr : Room k X.A) (D : DefsAt X F k l (Spec X.K "__contains__")) (ha : Eb X F a ma) (hb : Eb X F b mb) (hm : ∀ op, behindInMarks op b = false) : PT X (.Compare a [if n then .NotIn else .In] [b] pos) (tT F (.tst (.inO n l ma mb))) := ⟨fun _ _ _ _ _ _ ⟨_, _, _, _, _, _, ev, _⟩ => by obtain ⟨_, _, ev, _⟩ := tst_inv (by intro _ z; cases z) ev; simp [evE] at ev⟩
/-- o.x = e -/
theorem s_putA {py pt : Pos} (hK : X.K = EK.k) (hn : ∀ C ∈ EK.c, NoAttr X.K C x) (hy : PE X (.Name y py) (tVar i)) (he : Eb X F e m) (hs : swapsWith e (some (.Attribute (.Name y py) x pt)) pos.line X.env = pure false) :
    PS X (.Assign [.Attribute (.Name y py) x pt] e pos) (tS F W (.putA i x m)) := by
  refine (ps_fld hy he.ev hs).imp fun D σ H ⟨A, M, ρ, o, r, ev, g⟩ => ?_
  simp only [evS, Option.bind_eq_some_iff] at ev
  obtain ⟨⟨d, fr, ρ1⟩, h1, h2⟩ := ev
  dsimp only at h2
  split at h2
  case h_2 => cases h2
  rename_i u hu
  simp only [Option.map_eq_some_iff] at h2
  obtain ⟨z, h3, h4⟩ := h2
  cases h4
  refine ⟨A, M, ρ, d, fr, ρ1, r, h1, fun v H1 p => ?_⟩
  obtain ⟨A1, M1, s1, k1, r1, b1⟩ := p.std r.live
  obtain ⟨q, hσ, hm, ho⟩ := r1.own i _ hu
  unfold setD at h3
  split at h3
  case h_2 => cases h3
  rename_i c es
  split at h3
  case isFalse => cases h3
  rename_i hl
  cases h3
  obtain ⟨a, C, dx, fs, ea, hH, hc, rk⟩ := (show Top A1 H1 (.ref q) (.dict (oMark c :: es)) from .inr ⟨q, rfl, ho, fun _ _ => trivial⟩).obj
  cases ea
  have kw : Kp M1 H1 (upd H1 q (.ins C dx (putF x v fs))) := Kp.wr hm hH trivial
  obtain ⟨r3, k3⟩ := r1.write (d' := .dict (oMark c :: putE x d es)) hu hσ (fun _ => nofun) (.inr (.inr (.inr (.inr ⟨C, dx, _, _, c, rfl, upd_same, hc, (putE_rel b1 rk).keep r1.sub kw⟩))))
  have hC := List.mem_of_getElem? hc
  have hlen : fs.length = es.length := by
    have := rk.length
    rw [kvF, List.length_map] at this
    exact this
  exact ⟨.ref q, hσ, q, C, dx, fs, rfl, hH, hK ▸ (EK.ok C hC).cls, hn C hC, by omega, g _ _ ⟨A1, M1, s1.chg, k1.comp s1 k3, r3, Agree.refl _ _⟩⟩
/-- the parts of f".." -/
structure Fp (X : Cx) (F : Fns) (es : List Expr) (m : ME) : Prop where
  ex : ∃ ts, PJ X es ts ∧ ∀ (acc : Str) (σ : L2.St) (H : Hp) (Q : Str → Hp → Prop) (A M : AS) (ρ : Rho) (ds : List PyData) (ρ1 : Rho) (z : Str), RE A M H ρ σ → evA F m ρ = some (ds, ρ1) → fstD acc ds = some z →
    (∀ H' A' M', Shr A M A' M' → Kp M H H' → RE A' M' H' ρ1 σ → Q z H') → tJs ts acc σ H Q
theorem fp_nil : Fp X F [] .nil := ⟨[], .nil, fun acc σ H Q A M ρ ds ρ1 z r ev hz q => by
  cases ev
  cases hz
  exact q H A M (Shr.refl _ _) (Kp.refl _ _) r⟩
theorem fp_step {t : TE} {f : Expr} (hf : PE X f t) (ht : ∀ σ H Q, (tE F m σ H fun v H1 => (∃ y : Str, v = .str y ∧ y.length ≤ sizeLine ∧ Q (.str y) H1) ∨ ∃ i : Int, v = .int i ∧ i.natAbs.log2 < 1920 ∧ Q (.str (toString i)) H1) → t σ H Q) (hr : Fp X F es mb) : Fp X F (f :: es) (.cons m mb) := by
  obtain ⟨ts, h1, h2⟩ := hr.ex
  refine ⟨t :: ts, .cons hf h1, fun acc σ H Q A M ρ ds ρ1 z r ev hz q => ht _ _ _ ?_⟩
  simp only [evA, Option.bind_eq_some_iff, Option.map_eq_some_iff] at ev
  obtain ⟨⟨d, fr, ρ2⟩, e1, ⟨ds', ρ3⟩, e2, e3⟩ := ev
  cases e3
  refine ⟨A, M, ρ, d, fr, ρ2, r, e1, fun v H1 p => ?_⟩
  obtain ⟨A1, M1, s1, k1, r1, b1⟩ := p.std r.live
  cases b1 with
  | str y =>
    simp only [fstD] at hz
    split at hz
    · rename_i hl
      exact .inl ⟨y, rfl, hl.1, y, rfl, hl.2, h2 _ _ _ _ _ _ _ _ _ _ r1 e2 hz fun H' A' M' s k r => q H' A' M' (s1.trans s) (k1.comp s1 k) r⟩
    · cases hz
  | int j =>
    simp only [fstD] at hz
    split at hz
    · rename_i hl
      exact .inr ⟨j, rfl, hl.1, _, rfl, hl.2, h2 _ _ _ _ _ _ _ _ _ _ r1 e2 hz fun H' A' M' s k r => q H' A' M' (s1.trans s) (k1.comp s1 k) r⟩
    · cases hz
  | _ => simp [fstD] at hz
theorem fp_fmt (he : Eb X F e m) (hr : Fp X F es mb) : Fp X F (.FormattedValue e (-1) none p :: es) (.cons m mb) := fp_step (pe_fmt he.ev) (fun σ H Q h => h) hr
theorem fp_lit {z : Str} {j : Nat} (hr : Fp X F es mb) : Fp X F (.Constant (.str z) j p :: es) (.cons (.lit (.str z)) mb) := by
  refine fp_step (m := .lit (.str z)) pe_str (fun σ H Q h => ?_) hr
  obtain ⟨A, M, ρ, d, fr, ρ', r, ev, q⟩ := h
  cases ev
  rcases q (.str z) H ((NewV.val (.str z)).pst r) with ⟨y, e, _, g⟩ | ⟨i, e, _⟩
  · cases e; exact g
  · cases e
theorem e_fst {v1 v2 : Expr} (h : Fp X F (v1 :: v2 :: es) m) : Eb X F (.JoinedStr (v1 :: v2 :: es) pos) (.fst m) := by
  obtain ⟨ts, h1, h2⟩ := h.ex
  refine Eb.of ((pe_joined h1).imp fun σ H Q ⟨A, M, ρ, d, fr, ρ', r, ev, q⟩ => ?_) fun _ => nofun
  simp only [evE, Option.bind_eq_some_iff, Option.map_eq_some_iff] at ev
  obtain ⟨⟨ds, ρ1⟩, e1, z, e2, e3⟩ := ev
  cases e3
  exact h2 _ _ _ _ _ _ _ _ _ _ r e1 e2 fun H' A' M' s k r' => q _ _ (((NewV.val (.str z)).pst r').after s k)
end
theorem few_of {pos : Pos} {env : Env} {es : List Expr} (ns : es.all noStar = true) (hl : es.length < 29) : methodCallForm (es.length + ([] : List Keyword).length) (backTo pos (starEach es env)) (backToKw pos (keywordEach [] env)) = true := by
  have h1 : ∀ {es : List Expr}, es.all noStar = true → (backTo pos (starEach es env)).all (fun x => !x.1) = true := by
    intro es
    induction es with
    | nil => intro _; rfl
    | cons e es ih =>
      intro h
      rw [List.all_cons, Bool.and_eq_true] at h
      rw [star_no h.1]
      exact ih h.2
  unfold methodCallForm
  rw [h1 ns]
  show (true && true && decide (es.length + 0 + (if true then 0 else 1) < 30)) = true
  simp only [Bool.and_self, Bool.true_and, if_true, decide_eq_true_eq]
  omega
theorem ht_of {o : Expr} {x : Str} {apos pos : Pos} {es : List Expr} {env : Env} (hb : attributeBase o x env (eval o env) = eval o env) (ns : es.all noStar = true) (hn : es.length < 29) (hl : (apos.endLine == pos.line) = true) :
    eval (.Call (.Attribute o x apos) es [] pos) env = (do
      let ov ← eval o env
      standAt apos.atName
      let (f, first) ← holding [ov] (getMethod ov x (do return (← importBound o env).getD true))
      callWith pos f first (backTo pos (starEach es env)) (backToKw pos (keywordEach [] env))) := by
  rw [arm_eval_Call, hb]
  unfold methodCall calleeOf methodCallPos
  rw [few_of ns hn]
  simp only [hl, Bool.not_true, Bool.false_or, if_true, pure_bind]
/-- where the attribute's base is only evaluated -/
noncomputable def abOk : Expr → Bool
  | .Name .. => true
  | .Attribute .. => true
  | .Subscript .. => true
  | .Call (.Name ..) (_ :: _) _ _ => true
  | _ => false
theorem ab_ok {o : Expr} {x : Str} {env : Env} (h : abOk o = true) : attributeBase o x env (eval o env) = eval o env := by
  unfold abOk at h
  split at h <;> first | rfl | cases h
theorem DefsAt.imp {X : Cx} {F : Fns} {k : Nat} {l : List Nat} {p q : Addr → Addr → Prop} (D : DefsAt X F k l p) (h : ∀ C f, p C f → q C f) : DefsAt X F k l q := fun c C id h1 h2 => let ⟨f, fd, ps, a, b, g⟩ := D c C id h1 h2; ⟨f, fd, ps, h C f a, b, g⟩
end MI
namespace MI
open PySem PySem.Spec PyProof.Rows L2 LamX
variable [EK] [GR]
/-! ### what a lambda over objects says -/
/-- what is raised, as a reading -/
noncomputable def tXE (F : Fns) (CA : CAs) (xm : ME) (E : XK) : TE := fun σ H _ => ∃ A M ρ cv fr ρ', RE A M H ρ σ ∧ evE F xm ρ = some (cv, fr, ρ') ∧ xD cv = true ∧ ∀ cls dd A' M' H', ExcR CA cv cls dd H' → Shr A M A' M' → Kp M H H' → RE A' M' H' ρ' σ → E cls dd H'
/-- the defs that raise, by class -/
noncomputable def DefsX (X : Cx) (F : Fns) (CA : CAs) (k : Nat) (l : List Nat) (at_ : Addr → Addr → Prop) : Prop := ∀ (c : Nat) C id, EK.c[c]? = some C → l[c]? = some id → ∃ f fd ps, at_ C f ∧ Binds X.K fd ps [] ∧ FnX X.prog X.w X.K X.mg X.base k f fd ps (spX F CA id)
section
variable {X : Cx} {F : Fns} {CA : CAs} {k : Nat} {y : Str} {ts : List Str} {par : Arguments} {bd : Expr} {sc : Scope} {xm m : ME} {p lp pos : Pos}
theorem e_toldE (T : ToldAt X CA (k + 1) y ts) (hgd : X.A.guards = some []) (hg : Gl X y) (hdb : (y == ("__debug__" : Str)) = false) (L : LamS X.env.scope sc) (hdef : defaultsOf par X.env = ([], []))
    (hbind : ∀ (q : Str) (cl : List (Str × Addr)) (pm cv ctv : Value), bindArgs (PySem.W.kla_fn "<lambda>" q par bd sc cl pm cv ctv) ⟨[], []⟩ = pure [])
    (hx : ∀ (A : Around) (outer : List Env) (s : Shared) (H : Hp) (E : XK) (f c : Addr), A.guards = some [] → Room (k + 1) (A.deeper (lamEnv X sc s.heap.objs.size f c)) → PE (lamCx X A outer s H E sc f c) bd (tXE F CA xm E))
    (hv : ∀ (A : Around) (outer : List Env) (s : Shared) (H : Hp) (E : XK) (f c : Addr), A.guards = some [] → Room (k + 1) (A.deeper (lamEnv X sc s.heap.objs.size f c)) → PE (lamCx X A outer s H E sc f c) bd (tE F m)) :
    Eb X F (.Call (.Name y p) [.Lambda par bd sc lp] [] pos) (.toldE ts xm m) := by
  obtain ⟨g, pg, bg, sg, dV, kV, doc, pm, cdv, ct, oc, an, od, osl, Ng, a, g1, g2, g3, g4, g5, g6, g7, g8, g9, g10, g11⟩ := T.ok
  obtain ⟨c0, P, t1, t2, t3, t4⟩ := T.tab
  have pl := pe_lam (p := p) (lpos := lp) (pos := pos) (k := k + 1) (t := fun E σ H Q => tXE F CA xm E σ H Q ∨ tE F m σ H Q) hgd hg g1 g2 g3 g4 g5 g6 g7 g8 (g11 X _ rfl rfl rfl rfl rfl hgd T.room) t2 t1 t3 t4 T.room L hdef hbind (fun A outer s H E f' c' hA hr => (hx A outer s H E f' c' hA hr).or (hv A outer s H E f' c' hA hr)) hdb g9 g10
  refine Eb.of (pl.imp fun σ H Q ⟨A, M, ρ, d, fr, ρ', r, ev, q⟩ => ?_) fun _ => nofun
  simp only [evE, Option.bind_eq_some_iff] at ev
  obtain ⟨⟨d1, fr1, ρx⟩, h3, h4⟩ := ev
  dsimp only at h4
  refine ⟨r.tab.1, fun H1 eN al T1 => ?_⟩
  have k1 : Kp No H H1 := kp_ext eN al T1
  have r1 : RE A M H1 ρ σ := r.keep k1
  split at h4
  · simp only [Option.bind_eq_some_iff] at h4
    obtain ⟨⟨d2, fr2, ρ1⟩, h5, h6⟩ := h4
    dsimp only at h6
    split at h6
    · rename_i hs
      cases h6
      refine ⟨fun _ _ _ => False, .inr ⟨A, M, ρ, d2, fr2, _, r1, h5, fun v H3 pst => ?_⟩, fun _ _ _ z => z.elim⟩
      obtain ⟨⟨A3, M3, s3, k3, r3, p1, p2⟩, nt⟩ := pst
      have fin : Q (.str d2.shown) H3 := q _ _ ⟨⟨A3, M3, s3, k1.of.trans k3, r3, fun _ => .str _, nofun⟩, nofun⟩
      cases fr2 with
      | false => exact ⟨A3, d2, .inl (p1 rfl), hs, fin⟩
      | true =>
        obtain ⟨p, rfl, _, _, ho⟩ := p2 rfl
        exact ⟨_, d2, .inr ⟨p, rfl, ho, fun _ _ => trivial⟩, hs, fin⟩
    · cases h6
  · split at h4
    case isFalse => cases h4
    rename_i hx
    simp only [Option.map_eq_some_iff] at h4
    obtain ⟨t, ht, e4⟩ := h4
    cases e4
    refine ⟨fun cls d H' => ExcR CA d1 cls d H' ∧ Tabs EK.t H' ∧ ∀ H'', Kp No H' H'' → Q (.str t) H'', .inl ⟨A, M, ρ, d1, _, _, r1, h3, hx, fun cls dd A' M' H2 hC s2 k2 r2 => ?_⟩, fun cls d H' ⟨e1, e3, e4⟩ => ⟨d1, t, e1, hx, ht, e3, e4⟩⟩
    refine ⟨hC, r2.tab.1, fun H4 k4 => q _ _ ?_⟩
    exact ⟨⟨A', M', s2, (k1.of.trans k2).trans k4.of, r2.keep k4, fun _ => .str t, nofun⟩, nofun⟩
/-- nothing is raised -/
theorem x_none {d : PyData} (hd : xD d = false) {E : XK} {e : Expr} : PE X e (tXE F CA (.lit d) E) := ⟨fun pins s σ H Q I ⟨A, M, ρ, c, fr, ρ', r, ev, hx, _⟩ => by
  cases ev
  rw [hd] at hx
  cases hx⟩
theorem x_ifE {c a b : Expr} {mc xa xb : ME} {E : XK} (hc : PT X c (tT F mc)) (ha : PE X a (tXE F CA xa E)) (hb : PE X b (tXE F CA xb E)) : PE X (.IfExp c a b pos) (tXE F CA (.ite mc xa xb) E) := by
  refine (pe_ifExp hc ha hb).imp fun σ H Q ⟨A, M, ρ, c', fr, ρ', r, ev, hx, q⟩ => ?_
  simp only [evE, Option.bind_eq_some_iff] at ev
  obtain ⟨⟨t, ρ1⟩, h1, h2⟩ := ev
  refine ⟨A, M, ρ, t, ρ1, r, h1, fun H1 A1 M1 s1 k1 r1 => ?_⟩
  have fin : ∀ cls dd A' M' H', ExcR CA c' cls dd H' → Shr A1 M1 A' M' → Kp M1 H1 H' → RE A' M' H' ρ' σ → E cls dd H' := fun cls dd A' M' H' hC s k r' => q cls dd A' M' H' hC (s1.trans s) (k1.comp s1 k) r'
  cases t with
  | true => exact ⟨A1, M1, ρ1, c', fr, ρ', r1, h2, hx, fin⟩
  | false => exact ⟨A1, M1, ρ1, c', fr, ρ', r1, h2, hx, fin⟩
/-- what a def of the class raises -/
theorem methX_read {x : Str} {l : List Nat} {ma : ME} {E : XK} {σ : L2.St} {H : Hp} {Q : VK} (h : tXE F CA (.methV x l ma m) E σ H Q) : tB F ma σ H fun v H1 => ∃ (a C dx : Addr) (fs : List (Str × V)) (c id : Nat), v = .ref a ∧ H1 a = some (.ins C dx fs) ∧ fs.lookup x = none ∧ EK.c[c]? = some C ∧ l[c]? = some id ∧
    tL F m σ H1 fun vs H2 => (∃ dx' fs', H2 a = some (.ins C dx' fs')) ∧ spX F CA id (v :: vs) H2 E := by
  obtain ⟨A, M, ρ, c', fr, ρ', r, ev, hx, q⟩ := h
  simp only [evE, Option.bind_eq_some_iff] at ev
  obtain ⟨⟨b, ρ0⟩, h0, o, ho, ev⟩ := ev
  split at ev
  · cases ev
  · rename_i hno
    simp only [Option.bind_eq_some_iff] at ev
    obtain ⟨c, hc, f, hf, ⟨bs, ρ1⟩, h1, ds, h2, ev⟩ := ev
    dsimp only at h2 ev
    split at ev
    case isFalse => cases ev
    rename_i hcl
    simp only [Option.bind_eq_some_iff] at ev
    obtain ⟨⟨d1, fr1, ss⟩, h3, h4⟩ := ev
    dsimp only at h4
    split at h4
    · cases h4
      refine ⟨A, M, ρ, b, ρ0, r, h0, fun v H1 A1 M1 s1 k1 r1 b1 => ?_⟩
      obtain ⟨es, rfl⟩ := clsD_of hc
      obtain ⟨a, C, dx, fs, rfl, hH, hcC, rk⟩ := (b1.top r1 ho).obj
      have nl : fs.lookup x = none := by
        rcases fld_get (x := x) rk with ⟨g, _⟩ | ⟨v', d', _, g, _⟩
        · exact g
        · rw [fldD_no hno] at g; cases g
      refine ⟨a, C, dx, fs, c, f, rfl, hH, nl, hcC, hf, A1, M1, ρ0, bs, ρ', r1, h1, fun vs H2 A2 M2 s2 k2 r2 b2 => ?_⟩
      have tops : TopAll A2 H2 (.ref a :: vs) ds := BRs.top (bs := b :: bs) r2 ⟨b1.keep r1.sub s2 k2, b2⟩ h2
      constructor
      · cases tops with
        | @cons _ _ d0 ds0 t0 tr =>
        have hcl : clsD d0 = some c := by
          obtain ⟨z, z1, z2⟩ := hcl
          cases z1
          exact z2
        obtain ⟨es', rfl⟩ := clsD_of hcl
        obtain ⟨a', C', dx', fs', e1, hH', hc', _⟩ := t0.obj
        cases e1
        rw [hcC] at hc'
        cases hc'
        exact ⟨dx', fs', hH'⟩
      · exact ⟨No, No, _, c', _, _, look_re r2.tab tops, h3, hx, fun cls dd H3 hC k3 => q cls dd A2 M2 H3 hC (s1.trans s2) ((k1.comp s1 k2).trans k3.of) (r2.keep k3)⟩
    · cases h4
theorem codeX {f : Addr} {fd : FuncData} {ps : List Str} {sp : List V → Hp → XK → Prop} {pins : List (Addr × Obj)} {σ : L2.St} {H : Hp} {s : Shared} {Q : VK} {E : XK} {us : List Value} {vs : List V} (G : FnX X.prog X.w X.K X.mg X.base k f fd ps sp) (hg : X.A.guards = some []) (hr : Room k X.A) (hb : Binds X.K fd ps [])
    (hx : PassesAt (L2.CX X.prog X.w) X σ E) (I : L2.Inv X pins σ H s) (rv : Vals vs us) (h : sp vs H E) : codeAny (model X.prog X.w) X.A (.call (.ref f) ⟨us, []⟩) (fun r s' => match r with | .ok (.ret v) => EP X pins σ Q v s' | .ok _ => False | .error e => X.xe e s') s := by
  have hl : us.length = ps.length := rv.length.symm.trans (G.len _ _ _ h)
  have bb : BindsTo s fd ⟨us, []⟩ (ps.zip us) := by
    have q := hb s us I.kIn (by rw [List.append_nil]; exact hl)
    rw [List.append_nil] at q
    exact q
  refine codeAny_mono (G.run X.A X.stack s H ⟨us, []⟩ us vs E hg hr I.env0 bb rv h) fun res s' hq => ?_
  cases res with
  | error e => exact hx pins H s e s' I hq
  | ok fl =>
    cases fl with
    | ret u =>
      obtain ⟨v, H', _, _, _, _, _, q⟩ := hq
      exact q.elim
    | next => exact False.elim hq
    | brk => exact False.elim hq
    | cont => exact False.elim hq
theorem codeX1 {f : Addr} {fd : FuncData} {ps : List Str} {sp : List V → Hp → XK → Prop} {pins : List (Addr × Obj)} {σ : L2.St} {H : Hp} {s : Shared} {Q : VK} {E : XK} {us : List Value} {vs : List V} (G : FnX X.prog X.w X.K X.mg X.base k f fd ps sp) (hg : X.A.guards = some []) (hr : Room (k + 1) X.A) (hb : Binds X.K fd ps [])
    (hx : PassesAt (L2.CX X.prog X.w) X σ E) (I : L2.Inv X pins σ H s) (rv : Vals vs us) (h : sp vs H E) : codeAny (model X.prog X.w) X.A.in1 (.call (.ref f) ⟨us, []⟩) (fun r s' => match r with | .ok (.ret v) => EP X pins σ Q v s' | .ok _ => False | .error e => X.xe e s') s := by
  have hl : us.length = ps.length := rv.length.symm.trans (G.len _ _ _ h)
  have bb : BindsTo s fd ⟨us, []⟩ (ps.zip us) := by
    have q := hb s us I.kIn (by rw [List.append_nil]; exact hl)
    rw [List.append_nil] at q
    exact q
  refine codeAny_mono (G.run X.A.in1 X.stack s H ⟨us, []⟩ us vs E hg hr.in1 I.env0.in1 bb rv h) fun res s' hq => ?_
  cases res with
  | error e => exact hx pins H s e s' I hq
  | ok fl =>
    cases fl with
    | ret u =>
      obtain ⟨v, H', _, _, _, _, _, q⟩ := hq
      exact q.elim
    | next => exact False.elim hq
    | brk => exact False.elim hq
    | cont => exact False.elim hq
section
variable {o e a b : Expr} {es : List Expr} {ma mb : ME} {x : Str} {l : List Nat} {apos : Pos} {E : XK}
/-- o.m(e, ..) raises -/
theorem x_meth {pl : Sem Bool} (hK : X.K = EK.k) (hgd : X.A.guards = some []) (hr : Room k X.A) (D : DefsX X F CA k l (fun C f => Meth X.K C x f)) (hp : ∀ σ, PassesAt (L2.CX X.prog X.w) X σ E) (ho : Eb X F o ma) (ha : PA X (e :: es) (tL F m)) (ns : (e :: es).all noStar = true)
    (ht : eval (.Call (.Attribute o x apos) (e :: es) [] pos) X.env = (do
      let ov ← eval o X.env
      standAt apos.atName
      let (f, first) ← holding [ov] (getMethod ov x pl)
      callWith pos f first (backTo pos (starEach (e :: es) X.env)) (backToKw pos (keywordEach [] X.env)))) :
    PE X (.Call (.Attribute o x apos) (e :: es) [] pos) (tXE F CA (.methV x l ma m) E) := by
  rw [List.all_cons, Bool.and_eq_true] at ns
  refine ⟨fun pins s σ H Q I h => ?_⟩
  refine PySem.W.methodCall_KW (pl := pl) (thn (ho.bo.run pins s σ H _ I (methX_read (Q := Q) h)) fun u s1 ⟨v, H1, I1, rx, a, C, dx, fs, c, id, ev, ea, nl, hc, hid, q⟩ => ?_) ht
  subst ev
  obtain rfl : u = Value.ref a := rx
  obtain ⟨f, fd, ps, hm, hb, G⟩ := D c C id hc hid
  have oc := EK.ok C (List.mem_of_getElem? hc)
  refine getmeth_ok I1 ea (hK ▸ oc.cls) hm nl ?_
  refine PySem.W.callWith_K (first := [.ref a]) (h₀ := X.base) I.ok.mod.kin hm.kp (thn (ha.run pos pins s1 σ H1 _ I1 q) fun us s2 ⟨vs, H2, I2, r, _, q2⟩ => ⟨I2.kIn, ?_⟩) (star_no ns.1) (star_any ns.2)
  exact wpAny_call (codeX (us := .ref a :: us) (vs := .ref a :: vs) G hgd hr hb (hp σ) I2 (.cons rfl r) q2)
/-- a call by keywords that raises -/
theorem pe_callXK {x : Str} {f : Addr} {fd : FuncData} {ps ks : List Str} {l : List Nat} {sp : List V → Hp → XK → Prop} {kws : List Keyword} {tk : TA} {p pos : Pos} (G : FnX X.prog X.w X.K X.mg X.base k f fd ps sp) (hgd : X.A.guards = some []) (hr : Room k X.A) (hg : Gl X x) (hm : X.mg x = some (.ref f)) (hk : PySem.W.keepIn X.K (.ref f) = true)
    (hb : ∀ (s : Shared) (ws : List Value), ws.length = ks.length → BindsTo s fd ⟨[], ks.zip ws⟩ (ps.zip (permL l ws))) (hx : ∀ σ, PassesAt (L2.CX X.prog X.w) X σ E)
    (hkw : PK X kws tk) (hdb : (x == ("__debug__" : Str)) = false) (hall : (backToKw pos (keywordEach kws X.env)).all (·.1.isSome) = true) (hks : (backToKw pos (keywordEach kws X.env)).filterMap (·.1) = ks)
    (hpl : ((backTo pos (starEach [] X.env)).any (·.1) || (backToKw pos (keywordEach kws X.env)).any (·.1.isNone)) = false) :
    PE X (.Call (.Name x p) [] kws pos) (fun σ H Q => tk σ H fun zs H1 => zs.length = ks.length ∧ sp (permL l zs) H1 E) := by
  refine ⟨fun pins s σ H Q I h => wpAny_Call_Name_kw (ld_glob I hg hm ?_ hdb)⟩
  refine PySem.W.callWith_KW0 (h₀ := X.base) I.ok.mod.kin hk hall (thn (hkw.run pos pins s σ H _ I h) fun ws s2 ⟨zs, H2, I2, rz, hl, q2⟩ => ⟨I2.kIn, ?_⟩) hpl
  rw [hks]
  refine wpAny_call (codeAny_mono (G.run X.A X.stack s2 H2 ⟨[], ks.zip ws⟩ (permL l ws) (permL l zs) E hgd hr I2.env0 (hb s2 ws (rz.length.symm.trans hl)) (vals_perm rz l) q2) fun res s' hq => ?_)
  cases res with
  | error e => exact hx σ pins H2 s2 e s' I2 hq
  | ok fl =>
    cases fl with
    | ret u =>
      obtain ⟨v, H', _, _, _, _, _, q⟩ := hq
      exact q.elim
    | next => exact False.elim hq
    | brk => exact False.elim hq
    | cont => exact False.elim hq
theorem callXK_read {id : Nat} {l : List Nat} {ks : List Str} {σ : L2.St} {H : Hp} {Q : VK} (hl : l.length = ks.length) (h : tXE F CA (.callK id l m) E σ H Q) : tA F m σ H fun zs H1 => zs.length = ks.length ∧ spX F CA id (permL l zs) H1 E := by
  obtain ⟨A, M, ρ, c, fr, ρ', r, ev, hx, q⟩ := h
  simp only [evE, Option.bind_eq_some_iff] at ev
  obtain ⟨⟨ds, ρ1⟩, h1, ev⟩ := ev
  dsimp only at ev
  split at ev
  · rename_i hlen
    simp only [Option.bind_eq_some_iff] at ev
    obtain ⟨⟨d1, fr1, ss⟩, h3, h4⟩ := ev
    dsimp only at h4
    split at h4
    · cases h4
    · cases h4
      refine ⟨A, M, ρ, ds, _, r, h1, fun vs H1 A1 M1 s1 k1 r1 ra => ⟨by rw [ra.length, hlen, hl], ?_⟩⟩
      exact ⟨A1, No, _, c, _, ss, dats_re r1.live r1.tab (relAll_perm ra l), h3, hx, fun cls dd H' hC kk => q cls dd A1 M1 H' hC s1 (k1.comp s1 kk.of) (r1.keep kk)⟩
  · cases ev
theorem x_callK {x : Str} {f : Addr} {fd : FuncData} {ps ks : List Str} {id : Nat} {l : List Nat} {kws : List Keyword} {p pos : Pos} (G : FnX X.prog X.w X.K X.mg X.base k f fd ps (spX F CA id)) (hgd : X.A.guards = some []) (hr : Room k X.A) (hg : Gl X x) (hm : X.mg x = some (.ref f)) (hk : PySem.W.keepIn X.K (.ref f) = true)
    (hb : ∀ (s : Shared) (ws : List Value), ws.length = ks.length → BindsTo s fd ⟨[], ks.zip ws⟩ (ps.zip (permL l ws))) (hl : l.length = ks.length) (hn : kwNames kws = some ks) (hx : ∀ σ, PassesAt (L2.CX X.prog X.w) X σ E)
    (hkw : PK X kws (tA F m)) (hdb : (x == ("__debug__" : Str)) = false) : PE X (.Call (.Name x p) [] kws pos) (tXE F CA (.callK id l m) E) := by
  obtain ⟨a, b, c⟩ := kw_facts (pos := pos) (env := X.env) hn
  exact (pe_callXK (l := l) (p := p) (pos := pos) G hgd hr hg hm hk hb hx hkw hdb a b (by rw [c]; rfl)).imp fun σ H Q h => callXK_read hl h
/-- o.m() raises -/
theorem x_meth0 {pl : Sem Bool} (hK : X.K = EK.k) (hgd : X.A.guards = some []) (hr : Room k X.A) (D : DefsX X F CA k l (fun C f => Meth X.K C x f)) (hp : ∀ σ, PassesAt (L2.CX X.prog X.w) X σ E) (ho : Eb X F o ma)
    (ht : eval (.Call (.Attribute o x apos) [] [] pos) X.env = (do
      let ov ← eval o X.env
      standAt apos.atName
      let (f, first) ← holding [ov] (getMethod ov x pl)
      callWith pos f first (backTo pos (starEach [] X.env)) (backToKw pos (keywordEach [] X.env)))) :
    PE X (.Call (.Attribute o x apos) [] [] pos) (tXE F CA (.methV x l ma .nil) E) := by
  refine ⟨fun pins s σ H Q I h => ?_⟩
  refine PySem.W.methodCall_KW (pl := pl) (thn (ho.bo.run pins s σ H _ I (methX_read (Q := Q) h)) fun u s1 ⟨v, H1, I1, rx, a, C, dx, fs, c, id, ev, ea, nl, hc, hid, q⟩ => ?_) ht
  subst ev
  obtain rfl : u = Value.ref a := rx
  obtain ⟨f, fd, ps, hm, hb, G⟩ := D c C id hc hid
  have oc := EK.ok C (List.mem_of_getElem? hc)
  refine getmeth_ok I1 ea (hK ▸ oc.cls) hm nl ?_
  exact PySem.W.callWith_K0 (first := [.ref a]) I1.kIn hm.kp (wpAny_call (codeX (us := [.ref a]) (vs := [.ref a]) G hgd hr hb (hp σ) I1 (.cons rfl .nil) (nil_read q).2))
theorem one_read {σ : L2.St} {H : Hp} {Q : List V → Hp → Prop} (h : tL F (.cons mb .nil) σ H Q) : tB F mb σ H fun y H2 => Q [y] H2 := by
  obtain ⟨A, M, ρ, bs, ρ', r, ev, q⟩ := h
  simp only [evL, Option.bind_eq_some_iff, Option.map_eq_some_iff] at ev
  obtain ⟨⟨w, ρ1⟩, h1, ⟨xs, ρ2⟩, h2, h3⟩ := ev
  cases h3
  cases h2
  exact ⟨A, M, ρ, w, _, r, h1, fun v H1 A1 M1 s1 k1 r1 b1 => q [v] H1 A1 M1 s1 k1 r1 ⟨b1, trivial⟩⟩
/-- o[i] raises -/
theorem x_item (hgd : X.A.guards = some []) (hr : Room (k + 1) X.A) (D : DefsX X F CA k l (Spec X.K "__getitem__")) (hp : ∀ σ, PassesAt (L2.CX X.prog X.w) X σ E) (ha : Eb X F a ma) (hb : Eb X F b mb) (hs : ∀ o i, subscripted b true o i = runValue (.builtin "lifetime.subscript" ⟨[o, i], []⟩)) :
    PE X (.Subscript a b pos) (tXE F CA (.methV "__getitem__" l ma (.cons mb .nil)) E) := by
  refine ⟨fun pins s σ H Q I h => ?_⟩
  have h' : tB F ma σ H fun v H1 => tB F mb σ H1 fun y H2 => ∃ (a C dx : Addr) (fs : List (Str × V)) (c id : Nat), v = .ref a ∧ H2 a = some (.ins C dx fs) ∧ EK.c[c]? = some C ∧ l[c]? = some id ∧ spX F CA id [v, y] H2 E := by
    obtain ⟨A, M, ρ, b, ρ', r, h0, g⟩ := methX_read (Q := Q) h
    refine ⟨A, M, ρ, b, ρ', r, h0, fun v H1 A1 M1 s1 k1 r1 b1 => ?_⟩
    obtain ⟨a, C, dx, fs, c, id, ev, ea, _, hc, hid, q⟩ := g v H1 A1 M1 s1 k1 r1 b1
    subst ev
    obtain ⟨A, M, ρ, b, ρ', r, h0, g⟩ := one_read q
    exact ⟨A, M, ρ, b, ρ', r, h0, fun y H2 A2 M2 s2 k2 r2 b2 => let ⟨⟨dx', fs', e2⟩, q2⟩ := g y H2 A2 M2 s2 k2 r2 b2; ⟨a, C, dx', fs', c, id, rfl, e2, hc, hid, q2⟩⟩
  refine Subscript_ (binT ha.bo hb.bo I h' fun v u s2 x y H2 I2 rx ry q => ?_)
  obtain ⟨a', C, dx, fs, c, id, ex, ea, hc, hid, q⟩ := q
  subst ex
  obtain rfl : v = Value.ref a' := rx
  obtain ⟨f, fd, ps, hs', hb', G⟩ := D c C id hc hid
  obtain ⟨od, J⟩ := get_inst I2 ea
  obtain ⟨m, hF⟩ := I2.fr
  exact PySem.W.sub_K hF I2.ok.mod.kin J hs'.at_ hs'.fi hs'.fn (wpAny_call (codeX1 (us := [.ref a', u]) (vs := [.ref a', y]) G hgd hr hb' (hp σ) I2 (.cons rfl (.cons ry .nil)) q)) (hs _ _)
/-- o(e) raises -/
theorem x_callO {fe : Expr} (hgd : X.A.guards = some []) (hr : Room k X.A) (D : DefsX X F CA k l (Spec X.K "__call__")) (hp : ∀ σ, PassesAt (L2.CX X.prog X.w) X σ E) (hf : Eb X F fe ma) (ha : Eb X F e mb) (ns : noStar e = true)
    (ht : eval (.Call fe [e] [] pos) X.env = (do callWith pos (← eval fe X.env) [] (backTo pos (starEach [e] X.env)) (backToKw pos (keywordEach [] X.env)))) : PE X (.Call fe [e] [] pos) (tXE F CA (.methV "__call__" l ma (.cons mb .nil)) E) := by
  refine ⟨fun pins s σ H Q I h => ?_⟩
  have pa : PA X [e] (tCons (tB F mb) tNil) := pa_cons ha.bo pa_nil (star_no ns)
  refine Call_ (thn (hf.bo.run pins s σ H _ I (methX_read (Q := Q) h)) fun u s1 ⟨y, H1, I1, ry, a, C, dx, fs, c, id, ey, ea, _, hc, hid, q⟩ => ?_) ht
  subst ey
  obtain rfl : u = Value.ref a := ry
  refine StX.callO_with (thn (pa.run pos pins s1 σ H1 _ I1 (one_read q)) fun us s2 ⟨vs, H2, I2, rv, ⟨dx', fs', e2⟩, q2⟩ => ?_) (star_no ns) rfl
  obtain ⟨f, fd, ps, hs', hb', G⟩ := D c C id hc hid
  obtain ⟨od, J⟩ := get_inst I2 e2
  refine ⟨⟨C, _, _, J, rfl⟩, ?_⟩
  exact wpAny_call (PySem.W.kco_code I2.kIn J rfl hs'.at_ hs'.fn hs'.fi (codeX (us := .ref a :: us) (vs := .ref a :: vs) G hgd hr hb' (hp σ) I2 (.cons rfl rv) q2))
end
end
end MI
/-! MXE: == and != where an object whose class has an __eq__ of its own stands on a side. -/
namespace MI
open PySem PySem.Spec PyProof.Rows L2
section
variable {prog : Program} {w : World} {A : Around} {E : Value → Shared → Prop} {s : Shared} {K : PySem.W.Frag} {l y D : Addr} {oy : Obj} {oe : Option Obj}
/-- an operator of a built-in type that knows nothing of the object at y -/
abbrev Off (s : Shared) (v : Value) (nm : Str) (y : Addr) : Prop := ∀ (prog : Program) (w : World) (A : Around) (E : Value → Shared → Prop), wpAny (model prog w) A (tryCompare v nm (.ref y)) (fun z t => z = none ∧ t = s) E s
theorem inst_not {T : String} {M : Model} {A : Around} {R : Bool → Shared → Prop} (KX : K.In s.heap) (J : PySem.W.InstAt s.heap y oy D oe) (hs : PySem.W.subIn K (.ref D) (.type T) = some false) (q : R false s) : wpAny M A (isInstance (.ref y) (.type T)) R E s :=
  (show PySem.W.Looks M s.heap (isInstance (.ref y) (.type T)) false from J.type.andThen (PySem.W.looks_subIn KX hs)).here q
theorem off_int_eq {i : Int} {u : Tok} (hy : s.heap.get? y = some oy) (hp : oy.data = .plain) : Off s (.int i u) "__eq__" y := fun prog w A E => by
  refine wpAny_tryCompare_declines (show s.TypeIs (.int i u) "int" from rfl) F.slot_int_eq (GQ.call_here F.slot_int_eq rfl F.entry_int_eq (F.args_int_eq_2 _ _) ?_)
  obtain ⟨c, dd, dt, sl⟩ := oy
  cases hp
  obtain ⟨hh, g, d, tk, os⟩ := s
  wp_walk using wpAny_loadPart' hy, wpAny_load hy
  exact ⟨rfl, rfl, rfl⟩
theorem off_bool_eq {t : Bool} (hy : s.heap.get? y = some oy) (hp : oy.data = .plain) : Off s (.bool t) "__eq__" y := fun prog w A E => by
  refine wpAny_tryCompare_declines (show s.TypeIs (.bool t) "bool" from rfl) F.slot_bool_eq (GQ.call_here F.slot_bool_eq rfl F.entry_int_eq (F.args_int_eq_2 _ _) ?_)
  obtain ⟨c, dd, dt, sl⟩ := oy
  cases hp
  obtain ⟨hh, g, d, tk, os⟩ := s
  wp_walk using wpAny_loadPart' hy, wpAny_load hy
  exact ⟨rfl, rfl, rfl⟩
theorem off_str_eq {z : Str} {u : Tok} (hy : s.heap.get? y = some oy) (hp : oy.data = .plain) : Off s (.str z u) "__eq__" y := fun prog w A E => by
  refine wpAny_tryCompare_declines (show s.TypeIs (.str z u) "str" from rfl) F.slot_str_eq (GQ.call_here F.slot_str_eq rfl F.entry_str_eq (F.args_str_eq_2 _ _) ?_)
  obtain ⟨c, dd, dt, sl⟩ := oy
  cases hp
  obtain ⟨hh, g, d, tk, os⟩ := s
  wp_walk using wpAny_loadPart' hy, wpAny_load hy
  exact ⟨rfl, rfl, rfl⟩
theorem off_none_eq : Off s .none "__eq__" y := fun prog w A E => by
  refine wpAny_tryCompare_declines (show s.TypeIs .none "NoneType" from rfl) F.slot_NoneType_eq (GQ.call_here F.slot_NoneType_eq rfl F.entry_NoneType_eq (F.args_NoneType_eq_2 _ _) ?_)
  obtain ⟨hh, g, d, tk, os⟩ := s
  wp_walk
  exact ⟨rfl, rfl, rfl⟩
theorem off_list_eq (ht : s.TypeIs (.ref l) "list") (KX : K.In s.heap) (J : PySem.W.InstAt s.heap y oy D oe) (hs : PySem.W.subIn K (.ref D) (.type "list") = some false) : Off s (.ref l) "__eq__" y := fun prog w A E => by
  refine wpAny_tryCompare_declines ht F.slot_list_eq (GQ.call_here F.slot_list_eq ht F.entry_list_eq (F.args_list_eq_2 _ _) ?_)
  have li : ∀ {M : Model} {A : Around} {E : Value → Shared → Prop} {R : Bool → Shared → Prop}, R false s → wpAny M A (isInstance (.ref y) (.type "list")) R E s := fun q => inst_not KX J hs q
  obtain ⟨hh, g, d, tk, os⟩ := s
  wp_walk using li
  exact ⟨rfl, rfl, rfl⟩
theorem off_tuple_eq (ht : s.TypeIs (.ref l) "tuple") (KX : K.In s.heap) (J : PySem.W.InstAt s.heap y oy D oe) (hs : PySem.W.subIn K (.ref D) (.type "tuple") = some false) : Off s (.ref l) "__eq__" y := fun prog w A E => by
  refine wpAny_tryCompare_declines ht F.slot_tuple_eq (GQ.call_here F.slot_tuple_eq ht F.entry_tuple_eq (F.args_tuple_eq_2 _ _) ?_)
  have li : ∀ {M : Model} {A : Around} {E : Value → Shared → Prop} {R : Bool → Shared → Prop}, R false s → wpAny M A (isInstance (.ref y) (.type "tuple")) R E s := fun q => inst_not KX J hs q
  obtain ⟨hh, g, d, tk, os⟩ := s
  wp_walk using li
  exact ⟨rfl, rfl, rfl⟩
theorem off_dict_eq (ht : s.TypeIs (.ref l) "dict") (KX : K.In s.heap) (J : PySem.W.InstAt s.heap y oy D oe) (hs : PySem.W.subIn K (.ref D) (.type "dict") = some false) : Off s (.ref l) "__eq__" y := fun prog w A E => by
  refine wpAny_tryCompare_declines ht F.slot_dict_eq (GQ.call_here F.slot_dict_eq ht F.entry_dict_eq (F.args_dict_eq_2 _ _) ?_)
  have li : ∀ {M : Model} {A : Around} {E : Value → Shared → Prop} {R : Bool → Shared → Prop}, R false s → wpAny M A (isInstance (.ref y) (.type "dict")) R E s := fun q => inst_not KX J hs q
  obtain ⟨hh, g, d, tk, os⟩ := s
  wp_walk using li
  exact ⟨rfl, rfl, rfl⟩
theorem off_int_ne {i : Int} {u : Tok} (hy : s.heap.get? y = some oy) (hp : oy.data = .plain) : Off s (.int i u) "__ne__" y := fun prog w A E => by
  refine wpAny_tryCompare_declines (show s.TypeIs (.int i u) "int" from rfl) F.slot_int_ne (GQ.call_here F.slot_int_ne rfl F.entry_int_ne (F.args_int_ne_2 _ _) ?_)
  obtain ⟨c, dd, dt, sl⟩ := oy
  cases hp
  obtain ⟨hh, g, d, tk, os⟩ := s
  wp_walk using wpAny_loadPart' hy, wpAny_load hy
  exact ⟨rfl, rfl, rfl⟩
theorem off_bool_ne {t : Bool} (hy : s.heap.get? y = some oy) (hp : oy.data = .plain) : Off s (.bool t) "__ne__" y := fun prog w A E => by
  refine wpAny_tryCompare_declines (show s.TypeIs (.bool t) "bool" from rfl) F.slot_bool_ne (GQ.call_here F.slot_bool_ne rfl F.entry_int_ne (F.args_int_ne_2 _ _) ?_)
  obtain ⟨c, dd, dt, sl⟩ := oy
  cases hp
  obtain ⟨hh, g, d, tk, os⟩ := s
  wp_walk using wpAny_loadPart' hy, wpAny_load hy
  exact ⟨rfl, rfl, rfl⟩
theorem off_str_ne {z : Str} {u : Tok} (hy : s.heap.get? y = some oy) (hp : oy.data = .plain) : Off s (.str z u) "__ne__" y := fun prog w A E => by
  refine wpAny_tryCompare_declines (show s.TypeIs (.str z u) "str" from rfl) F.slot_str_ne (GQ.call_here F.slot_str_ne rfl F.entry_str_ne (F.args_str_ne_2 _ _) ?_)
  obtain ⟨c, dd, dt, sl⟩ := oy
  cases hp
  obtain ⟨hh, g, d, tk, os⟩ := s
  wp_walk using wpAny_loadPart' hy, wpAny_load hy
  exact ⟨rfl, rfl, rfl⟩
theorem off_none_ne : Off s .none "__ne__" y := fun prog w A E => by
  refine wpAny_tryCompare_declines (show s.TypeIs .none "NoneType" from rfl) F.slot_NoneType_ne (GQ.call_here F.slot_NoneType_ne rfl F.entry_NoneType_ne (F.args_NoneType_ne_2 _ _) ?_)
  obtain ⟨hh, g, d, tk, os⟩ := s
  wp_walk
  exact ⟨rfl, rfl, rfl⟩
theorem off_list_ne (ht : s.TypeIs (.ref l) "list") (KX : K.In s.heap) (J : PySem.W.InstAt s.heap y oy D oe) (hs : PySem.W.subIn K (.ref D) (.type "list") = some false) : Off s (.ref l) "__ne__" y := fun prog w A E => by
  refine wpAny_tryCompare_declines ht F.slot_list_ne (GQ.call_here F.slot_list_ne ht F.entry_list_ne (F.args_list_ne_2 _ _) ?_)
  have li : ∀ {M : Model} {A : Around} {E : Value → Shared → Prop} {R : Bool → Shared → Prop}, R false s → wpAny M A (isInstance (.ref y) (.type "list")) R E s := fun q => inst_not KX J hs q
  obtain ⟨hh, g, d, tk, os⟩ := s
  wp_walk using li
  exact ⟨rfl, rfl, rfl⟩
theorem off_tuple_ne (ht : s.TypeIs (.ref l) "tuple") (KX : K.In s.heap) (J : PySem.W.InstAt s.heap y oy D oe) (hs : PySem.W.subIn K (.ref D) (.type "tuple") = some false) : Off s (.ref l) "__ne__" y := fun prog w A E => by
  refine wpAny_tryCompare_declines ht F.slot_tuple_ne (GQ.call_here F.slot_tuple_ne ht F.entry_tuple_ne (F.args_tuple_ne_2 _ _) ?_)
  have li : ∀ {M : Model} {A : Around} {E : Value → Shared → Prop} {R : Bool → Shared → Prop}, R false s → wpAny M A (isInstance (.ref y) (.type "tuple")) R E s := fun q => inst_not KX J hs q
  obtain ⟨hh, g, d, tk, os⟩ := s
  wp_walk using li
  exact ⟨rfl, rfl, rfl⟩
theorem off_dict_ne (ht : s.TypeIs (.ref l) "dict") (KX : K.In s.heap) (J : PySem.W.InstAt s.heap y oy D oe) (hs : PySem.W.subIn K (.ref D) (.type "dict") = some false) : Off s (.ref l) "__ne__" y := fun prog w A E => by
  refine wpAny_tryCompare_declines ht F.slot_dict_ne (GQ.call_here F.slot_dict_ne ht F.entry_dict_ne (F.args_dict_ne_2 _ _) ?_)
  have li : ∀ {M : Model} {A : Around} {E : Value → Shared → Prop} {R : Bool → Shared → Prop}, R false s → wpAny M A (isInstance (.ref y) (.type "dict")) R E s := fun q => inst_not KX J hs q
  obtain ⟨hh, g, d, tk, os⟩ := s
  wp_walk using li
  exact ⟨rfl, rfl, rfl⟩
end
/-- what kind of plain value it is -/
inductive Knd (s : Shared) : Value → Prop
  | non : Knd s .none
  | bl (t : Bool) : Knd s (.bool t)
  | int (i : Int) (u : Tok) : Knd s (.int i u)
  | str (z : Str) (u : Tok) : Knd s (.str z u)
  | seq {l : Addr} {T : String} {o : Obj} : T = "list" ∨ T = "tuple" ∨ T = "dict" → s.heap.get? l = some o → o.cls = .type T → Knd s (.ref l)
noncomputable def tys7 : List String := ["NoneType", "bool", "int", "str", "list", "tuple", "dict"]
/-- the type of such a value, and that its operators know nothing of an object -/
structure KndT (s : Shared) (v : Value) (y : Addr) (T : String) : Prop where
  mem : T ∈ tys7
  one : ∀ op, oneThing? op v (.ref y) = none
  look : ∀ M : Model, PySem.W.Looks M s.heap (typeOf v) (.type T)
  eq : Off s v "__eq__" y
  ne : Off s v "__ne__" y
theorem Knd.type {s : Shared} {v : Value} {y D : Addr} {oy : Obj} {oe : Option Obj} {K : PySem.W.Frag} (h : Knd s v) (KX : K.In s.heap) (J : PySem.W.InstAt s.heap y oy D oe) (hp : oy.data = .plain) (hs : ∀ T ∈ tys7, PySem.W.subIn K (.ref D) (.type T) = some false) : ∃ T, KndT s v y T := by
  have hy := J.at_
  cases h with
  | non => exact ⟨"NoneType", by simp [tys7], fun op => (show s.TypeIs .none "NoneType" from rfl).oneThing_none op _, fun M => .of_pure rfl, off_none_eq, off_none_ne⟩
  | bl t => exact ⟨"bool", by simp [tys7], fun op => (show s.TypeIs (.bool t) "bool" from rfl).oneThing_none op _, fun M => .of_pure rfl, off_bool_eq hy hp, off_bool_ne hy hp⟩
  | int i u => exact ⟨"int", by simp [tys7], fun op => (show s.TypeIs (.int i u) "int" from rfl).oneThing_none op _, fun M => .of_pure rfl, off_int_eq hy hp, off_int_ne hy hp⟩
  | str z u => exact ⟨"str", by simp [tys7], fun op => (show s.TypeIs (.str z u) "str" from rfl).oneThing_none op _, fun M => .of_pure rfl, off_str_eq hy hp, off_str_ne hy hp⟩
  | @seq l T o hT ho hc =>
    have ty : s.TypeIs (.ref l) T := ⟨o, ho, hc⟩
    have lk : ∀ M : Model, PySem.W.Looks M s.heap (typeOf (.ref l)) (.type T) := fun M => hc ▸ (PySem.W.Looks.ld ho).andThen .now
    rcases hT with rfl | rfl | rfl
    · exact ⟨_, by simp [tys7], fun op => oneThing_ref op l _, lk, off_list_eq ty KX J (hs _ (by simp [tys7])), off_list_ne ty KX J (hs _ (by simp [tys7]))⟩
    · exact ⟨_, by simp [tys7], fun op => oneThing_ref op l _, lk, off_tuple_eq ty KX J (hs _ (by simp [tys7])), off_tuple_ne ty KX J (hs _ (by simp [tys7]))⟩
    · exact ⟨_, by simp [tys7], fun op => oneThing_ref op l _, lk, off_dict_eq ty KX J (hs _ (by simp [tys7])), off_dict_ne ty KX J (hs _ (by simp [tys7]))⟩
variable [EK] [GR]
/-- what == and != ask of the classes -/
structure EqK (K : PySem.W.Frag) (cl : List Addr) (nf : List (List Bool)) : Prop where
  ne : ∀ C ∈ cl, PySem.W.findIn K (.ref C) "__ne__" = some (some (.builtin "object.__ne__")) ∧ PySem.W.mroIn K C (.type "object") = some true
  ty : ∀ C ∈ cl, ∀ T ∈ tys7, PySem.W.subIn K (.ref C) (.type T) = some false
  nf : ∀ (c c2 : Nat) (C C2 : Addr) (b : Bool), cl[c]? = some C → cl[c2]? = some C2 → ((nf[c]?).bind (·[c2]?)) = some b → if b then PySem.W.notFirst K C (.ref C2) = true else ((Value.ref C != Value.ref C2) = true ∧ PySem.W.subIn K (.ref C2) (.ref C) = some true)
section
variable {X : Cx} {k : Nat} {F : Fns} {a b : Expr} {ma mb : ME} {l : List Nat} {nf : List (List Bool)} {pos : Pos} {n : Bool}
theorem e_eqO (hK : X.K = EK.k) (hgd : GOk X.A) (hr : Room (k + 1) X.A) (D : DefsAt X F k l (Spec X.K "__eq__")) (hE : EqK X.K EK.c nf) (ha : Eb X F a ma) (hb : Eb X F b mb) (hm : ∀ op, behindInMarks op b = false) : Eb X F (.Compare a [if n then .NotEq else .Eq] [b] pos) (.eqO n l nf ma mb) := Eb.of ⟨fun _ _ _ _ _ _ ⟨_, _, _, _, _, _, _, ev, _⟩ => by simp [evE] at ev⟩ fun _ => nofun
theorem t_eqO (hK : X.K = EK.k) (hgd : GOk X.A) (hr : Room (k + 1) X.A) (D : DefsAt X F k l (Spec X.K "__eq__")) (hE : EqK X.K EK.c nf) (ha : Eb X F a ma) (hb : Eb X F b mb) (hm : ∀ op, behindInMarks op b = false) : PT X (.Compare a [if n then .NotEq else .Eq] [b] pos) (tT F (.tst (.eqO n l nf ma mb))) := ⟨fun _ _ _ _ _ _ ⟨_, _, _, _, _, _, ev, _⟩ => by obtain ⟨_, _, ev, _⟩ := tst_inv (by intro _ z; cases z) ev; simp [evE] at ev⟩
end
end MI
/-! MIM: repr of tuples that hold objects. -/
namespace MI
open PySem PySem.Spec PyProof.Rows L2 L2H
section
variable {prog : Program} {w : World} {A : Around} {J : Shared → Prop}
/-- an item's text, told in any state that is in sight, and such a state behind it -/
noncomputable def Tells (prog : Program) (w : World) (A : Around) (J : Shared → Prop) (x : Value) (t : Str) : Prop :=
  ∀ (b : Nat) (E : Value → Shared → Prop) (s : Shared) (Q : Str → Shared → Prop), b + t.length ≤ sizeLine → J s → (∀ s', J s' → Q t s') → wpAny (model prog w) A (pyReprUnder b x) Q E s
noncomputable def TellsAll (prog : Program) (w : World) (A : Around) (J : Shared → Prop) : List Value → List Str → Prop
  | [], [] => True
  | x :: xs, t :: ts => Tells prog w A J x t ∧ TellsAll prog w A J xs ts
  | _, _ => False
theorem TellsAll.len : ∀ {xs : List Value} {ts : List Str}, TellsAll prog w A J xs ts → ts.length = xs.length
  | [], [], _ => rfl
  | _ :: _, _ :: _, h => congrArg (· + 1) (TellsAll.len h.2)
  | [], _ :: _, h => h.elim
  | _ :: _, [], h => h.elim
theorem tells_fold {E : Value → Shared → Prop} : ∀ (xs : List Value) (ts : List Str) (got : Array Str) (n : Nat) (s : Shared) (Q : Array Str × Nat → Shared → Prop), TellsAll prog w A J xs ts → n + piled ts ≤ sizeLine → J s →
    (∀ s', J s' → Q (got ++ ts.toArray, n + piled ts) s') → wpAny (model prog w) A (forIn xs ((got, n) : Array Str × Nat) tupBody) Q E s
  | [], [], got, n, s, Q, _, _, hJ, hQ => by
    have q := hQ s hJ
    rw [List.forIn_nil]
    exact wpAny_pure (by simpa [piled] using q)
  | x :: xs, t :: ts, got, n, s, Q, hT, hz, hJ, hQ => by
    have hp : piled (t :: ts) = t.length + 2 + piled ts := piled_cons t ts
    rw [List.forIn_cons]
    refine wpAny_bind (wpAny_bind (hT.1 (n + 1) E s _ (by omega) hJ fun s1 h1 => wpAny_pure ?_))
    refine tells_fold xs ts (got.push t) (n + (t.length + 2)) s1 Q hT.2 (by omega) h1 fun s2 h2 => ?_
    have q := hQ s2 h2
    have ez : n + (t.length + 2) + piled ts = n + piled (t :: ts) := by omega
    rw [ez]
    simpa using q
  | [], _ :: _, _, _, _, _, h, _, _, _ => h.elim
  | _ :: _, [], _, _, _, _, h, _, _, _ => h.elim
/-- a tuple's repr, item by item -/
theorem tells_tup {a : Addr} {its : Array Value} {ts : List Str} {s : Shared} {R : Result → Shared → Prop} (ha : IsTup s.heap a its) (hg : A.guards = some [])
    (hT : TellsAll prog w (A.under (.builtin "tuple.__repr__" ⟨[.ref a], []⟩)) J its.toList ts) (hJ : J s) (hz : (tupleText ts).length ≤ sizeLine)
    (hR : ∀ s' u tk, J s' → R (.ok (.ret (.str (tupleText ts) u))) { s' with toks := tk }) :
    wpOwn (model prog w) A (.builtin "tuple.__repr__" ⟨[.ref a], []⟩) (Builtin.tupleReprAt 0 ⟨[.ref a], []⟩)
      (fun fin s' => match fin with | .done f => R (.ok f) s' | .again c' => c'.quiet = true ∧ codeAny (model prog w) A c' R s') (fun e s' => R (.error e) s') s := by
  obtain ⟨o, ho, hc, n, hd⟩ := ha
  have hl : ts.length = its.size := by simpa using hT.len
  have hp : piled ts ≤ (tupleText ts).length := piled_le_tupleText ts
  rw [tuple_repr_tree, tupleReprUnderWay_eq]
  refine wpOwn_bind (wpOwn_stackTailAny hg (tupGuardF_off _) (tupGuardF_pos _) ?_)
  refine wpOwn_of_wpAny ?_
  show wpAny _ _ (tupleReprRest 0 (.ref a)) _ _ s
  unfold tupleReprRest Builtin.Tuple.tupleItemsOf
  refine wpAny_bind (wpAny_bind (wpAny_seqItems ho hd (wpAny_pure ?_)))
  rw [← Array.forIn_toList]
  refine wpAny_bind (tells_fold its.toList ts #[] 0 s _ hT (by omega) hJ fun s1 h1 => ?_)
  have hz2 : (tupleText ts).length ≤ sizeLine := hz
  refine wpAny_bind (wpAny_mkStr (wpAny_pure ?_) (by simpa [tupleText, hl] using hz2))
  have q := hR s1 s1.toks (s1.toks + 1) h1
  simpa [tupleText, hl] using q
theorem call_tells {a : Addr} {its : Array Value} {ts : List Str} {s : Shared} {Q E : Value → Shared → Prop} (ha : IsTup s.heap a its) (hg : A.guards = some [])
    (hT : TellsAll prog w (A.under (.builtin "tuple.__repr__" ⟨[.ref a], []⟩)) J its.toList ts) (hJ : J s) (hz : (tupleText ts).length ≤ sizeLine)
    (hQ : ∀ s' u tk, J s' → Q (.str (tupleText ts) u) { s' with toks := tk }) : wpAny (model prog w) A (call (.builtin "tuple.__repr__") [.ref a]) Q E s := by
  have ty : s.TypeIs (.ref a) "tuple" := by
    obtain ⟨o, ho, hc, _⟩ := ha
    exact ⟨o, ho, hc⟩
  refine wpAny_call (codeAny_call_builtin_own (Code.quiet_builtin _ (by decide +kernel)) F.entry_tuple_repr ?_)
  exact F.slot_tuple_repr.check _ _ _ _ _ _ _ _ ty (F.args_tuple_repr_1 _) (tells_tup (R := callEnd Q E) ha hg hT hJ hz hQ)
end
/-! ### where a tuple's repr is under way -/
theorem rp_depth {A : Around} {a : Addr} : (A.under (.builtin "tuple.__repr__" ⟨[.ref a], []⟩)).depth ≤ A.depth + 1 := by
  have g := isGuard_tuple_repr ⟨[.ref a], []⟩
  simp [Around.under, Code.weight, Code.isCreation, Code.isCaller, Code.frames, Code.isFrame, g]
theorem Room.rp {k : Nat} {A : Around} (r : Room (k + 1) A) (a : Addr) : Room k (A.under (.builtin "tuple.__repr__" ⟨[.ref a], []⟩)) :=
  ⟨r.hd, by have := r.dp; have := @rp_depth A a; omega, by have := r.un; rw [units_under_tuple_repr]; omega⟩
theorem env0_rp {P : Program} {w : World} {K : PySem.W.Frag} {mg : Str → Option Value} {base : Heap} {A : Around} {outer : List Env} {s : Shared} {H : Hp} (e : Env0 P w K mg base A outer s H) (a : Addr) :
    Env0 P w K mg base (A.under (.builtin "tuple.__repr__" ⟨[.ref a], []⟩)) outer s H :=
  ⟨by first | exact e.frames | (simpa [Around.under, Code.envs, Code.isFrame, pushEnvs] using e.frames), e.mod, e.bs, e.bsz, e.funs, e.frf, e.hok, e.bare⟩
theorem rp_guards {A : Around} (hg : A.guards = some []) (a : Addr) : (A.under (.builtin "tuple.__repr__" ⟨[.ref a], []⟩)).guards = some [.builtin "tuple.__repr__" ⟨[.ref a], []⟩] :=
  guards_under_guard (isGuard_tuple_repr _) hg
theorem reads_mem {h : Heap} : ∀ {vs : List Value} {ds : List PyData} {as : List Addr}, ReadsAll h vs ds as → ∀ v ∈ vs, ∃ d bs, Reads h v d bs
  | _, _, _, .nil, v, hv => by cases hv
  | _, _, _, .cons a r, v, hv => (List.mem_cons.mp hv).elim (fun e => e ▸ ⟨_, _, a⟩) fun hv => reads_mem r v hv
theorem no_reads {h : Heap} {a b C : Addr} {ob : Obj} {its : Array Value} (ha : IsTup h a its) (hm : Value.ref b ∈ its.toList) (hb : h.get? b = some ob) (hC : ob.cls = .ref C) : ∀ d as, ¬ Reads h (.ref a) d as := by
  intro d as r
  obtain ⟨o, ho, hc, n, hd⟩ := ha
  have self : ∀ d' as', ¬ Reads h (.ref b) d' as' := fun d' as' r' => by
    cases r' with
    | list e1 e2 _ _ => rw [hb] at e1; cases e1; rw [hC] at e2; cases e2
    | tuple e1 e2 _ _ => rw [hb] at e1; cases e1; rw [hC] at e2; cases e2
    | dict e1 e2 _ _ _ => rw [hb] at e1; cases e1; rw [hC] at e2; cases e2
  cases r with
  | list e1 e2 e3 e4 => rw [ho] at e1; cases e1; rw [hc] at e2; simp at e2
  | dict e1 e2 e3 e4 e5 => rw [ho] at e1; cases e1; rw [hc] at e2; simp at e2
  | tuple e1 e2 e3 e4 =>
    rw [ho] at e1
    cases e1
    rw [hd] at e3
    cases e3
    obtain ⟨d', bs, r'⟩ := reads_mem e4 _ hm
    exact self _ _ r'
section
variable [EK]
variable {X : Cx} {pins : List (Addr × Obj)} {σ : L2.St} {H : Hp}
/-- the states between the items -/
noncomputable def Btw (X : Cx) (pins : List (Addr × Obj)) (σ : L2.St) (H : Hp) (s : Shared) : Prop := ∃ H', L2.Inv X pins σ H' s ∧ Kp No H H'
theorem vals_mem {b : Addr} : ∀ {vs : List V} {us : List Value}, Vals vs us → V.ref b ∈ vs → Value.ref b ∈ us
  | _, _, .nil, h => by cases h
  | _, _, .cons a r, h => (List.mem_cons.mp h).elim (fun e => by subst e; obtain rfl : _ = Value.ref b := a; exact .head _) fun h => .tail _ (vals_mem r h)
theorem tells_data {a b C dx : Addr} {fs : List (Str × V)} {xs : List V} {v : V} {u : Value} {d : PyData} (hg : X.A.in1.guards = some []) (hu : X.A.in1.units + 100 < cLine) (hb : H b = some (.ins C dx fs)) (hm : V.ref b ∈ xs) (hi : TupAt H a xs)
    (rv : RelV v u) (rel : Rel No H v d) (hs : shows d = true) : Tells X.prog X.w (X.A.in1.under (.builtin "tuple.__repr__" ⟨[.ref a], []⟩)) (Btw X pins σ H) u d.shown := by
  intro n E s Q hn hJ hQ
  obtain ⟨H', I, kp⟩ := hJ
  obtain ⟨its, rvs, hit, _⟩ := I.tuple (hi.keep kp).sq
  have rel' : Rel No H' v d := rel.keep (fun _ z => z) kp
  unfold shows at hs
  simp only [Bool.and_eq_true, decide_eq_true_iff, Bool.or_eq_true, Bool.not_eq_true'] at hs
  obtain ⟨⟨⟨h1, h2⟩, h3⟩, h4⟩ := hs
  obtain ⟨as, rd, hsm⟩ : ∃ as, Reads s.heap u d as ∧ (d.hasDict = true → sysModules ∉ as) := by
    rcases h2 with h2 | h2
    · obtain ⟨as, rd⟩ := Dp.reads I d v _ (Top.dp (.inl rel') h2) rv
      exact ⟨as, rd, PyData.noDict_hsm h2⟩
    · obtain ⟨as, rd, n⟩ := Rel.reads I rel' rv h2
      exact ⟨as, rd, fun _ => n⟩
  obtain ⟨bs, hbs, rk⟩ := ReprK.of_reads (prog := X.prog) (w := X.w) rd h1 hsm h4
  have hb' : H' b = some (.ins C dx fs) := kp.same b _ hb fun z => z.elim
  obtain ⟨od, J⟩ := get_inst I hb'
  refine rk n hn _ _ E s Q (rp_guards hg a) (fun c hc => (Clear.nil c).cons fun e => ?_) (by rw [units_under_tuple_repr]; omega) (fun _ _ e => e) fun h' tk hk => hQ _ ⟨H', I.kept (t' := tk) hk, kp⟩
  subst e
  obtain ⟨d', as', r', _⟩ := hbs a hc
  exact no_reads hit (by simpa using vals_mem rvs hm) J.at_ J.cls d' as' r'
theorem tells_obj [GR] (hgr : GR.r = true) {k : Nat} {a b C dx f : Addr} {fd : FuncData} {ps : List Str} {F : Fns} {id : Nat} {fs : List (Str × V)} {d : PyData} {z : Str} {ss : List Slot} (hr : Room (k + 1) X.A.in1) (hb : H b = some (.ins C dx fs)) (rel : Rel No H (.ref b) d)
    (hs : Spec X.K "__repr__" C f) (hbd : Binds X.K fd ps []) (G : FnG X.prog X.w X.K X.mg X.base k f fd ps (spF F id)) (tab : TabX H) (hF : F id [(d, false)] = some (.str z, false, ss)) (hz : z.length ≤ sizeLine) :
    Tells X.prog X.w (X.A.in1.under (.builtin "tuple.__repr__" ⟨[.ref a], []⟩)) (Btw X pins σ H) (.ref b) z := by
  intro n E s Q hn hJ hQ
  obtain ⟨H', I, kp⟩ := hJ
  have hb' : H' b = some (.ins C dx fs) := kp.same b _ hb fun z => z.elim
  have rel' : Rel No H' (.ref b) d := rel.keep (fun _ z => z) kp
  obtain ⟨od, J⟩ := get_inst I hb'
  obtain ⟨m, hF'⟩ := I.fr
  have rm := Room.rp hr a
  refine wpAny_pyReprUnder_ref (by omega) ?_
  unfold pyReprObjUnder pyReprObjBy
  refine wpAny_bind (wpAny_cRoomFor rm.units0 ?_)
  refine wpAny_bind (wpAny_bind (J.type.here ((PySem.W.looks_findIn I.kIn hs.at_).here ?_)))
  show wpAny _ _ (if (some (Value.ref f)).isNone = true then _ else _) _ _ _
  rw [if_neg (by simp)]
  have hsp : spF F id [V.ref b] H' (fun v H2 => v = .str z ∧ Kp No H' H2) E0 := by
    have top : TopAll No H' [V.ref b] [d] := .cons (.inl rel') .nil
    refine ⟨No, No, _, _, _, ss, look_re (kp.tabX tab) top, hF, fun v H2 pst => ?_⟩
    obtain ⟨A', M', sh, k', r', p1, _⟩ := pst
    have rz := p1 rfl
    cases rz
    exact ⟨rfl, k'⟩
  have bb : BindsTo s fd ⟨[.ref b], []⟩ (ps.zip [.ref b]) := by
    have q := hbd s [.ref b] I.kIn (by simpa using G.len _ _ _ hsp)
    rw [List.append_nil] at q
    exact q
  have go : wpAny (model X.prog X.w) (X.A.in1.under (.builtin "tuple.__repr__" ⟨[.ref a], []⟩)) (call (.ref f) [.ref b]) (fun u s' => (∃ t, u = .str z t) ∧ Btw X pins σ H s') E s := by
    refine wpAny_call (codeAny_mono (G.run _ X.stack s H' ⟨[.ref b], []⟩ [.ref b] [V.ref b] _ (.inl hgr) rm (env0_rp I.env0.in1 a) bb (.cons rfl .nil) hsp) fun res s' hq => ?_)
    match res, hq with
    | .error _, y => exact y.elim
    | .ok (.ret u), y =>
      obtain ⟨v, H2, I2, rv, ev, k2⟩ := I.after y
      subst ev
      obtain ⟨t, rfl⟩ := rv
      exact ⟨⟨t, rfl⟩, H2, I2, kp.trans k2⟩
  simp only [callSpecialIfBoundBy?, bindSpecialIfBound?]
  refine wpAny_bind (wpAny_holding (wpAny_bind (wpAny_bind (wpAny_bind (J.type.here ((PySem.W.looks_findIn I.kIn hs.at_).here ?_))))))
  refine wpAny_bind (wpAny_askSetting (wpAny_ite ?_))
  have ft : PySem.W.typeIn X.K (.ref f) = some (.type "function") := beq_iff_eq.mp hs.fn
  have fin : ∀ R : Option Value → Shared → Prop, (∀ t s', Btw X pins σ H s' → R (some (.str z t)) s') → wpAny (model X.prog X.w) (X.A.in1.under (.builtin "tuple.__repr__" ⟨[.ref a], []⟩)) (call (.ref f) ([.ref b] ++ []) >>= fun v => pure (some v)) R E s := fun R hR => by
    refine wpAny_bind (wpAny_mono go (fun u s' hu => ?_) fun _ _ y => y)
    obtain ⟨⟨t, rfl⟩, j⟩ := hu
    exact wpAny_pure (hR t s' j)
  split
  · refine wpAny_bind ((PySem.W.bind_fn I.kIn _ ft).here (wpAny_pure ?_))
    exact fin _ fun t s' j => wpAny_bind (wpAny_isInstance (T := "str") (b := true) rfl isSubtype_str_str (wpAny_pure ⟨z, t, rfl, hQ s' j⟩))
  · refine wpAny_tryCatch (wpAny_bind ((PySem.W.bind_fn I.kIn _ ft).here (wpAny_pure ?_)))
    exact fin _ fun t s' j => wpAny_bind (wpAny_isInstance (T := "str") (b := true) rfl isSubtype_str_str (wpAny_pure ⟨z, t, rfl, hQ s' j⟩))
theorem tells_all [GR] (hgr : GR.r = true) {k : Nat} {a b C dx : Addr} {fs : List (Str × V)} {xs : List V} {F : Fns} {l : List Nat} (hg : X.A.guards = some []) (hr : Room (k + 2) X.A) (D : DefsAt X F k l (Spec X.K "__repr__")) (tab : TabX H) (hb : H b = some (.ins C dx fs)) (hm : V.ref b ∈ xs) (hi : TupAt H a xs) :
    ∀ {vs : List V} {ds : List PyData} {us : List Value} {ts : List Str}, RelAll No H vs ds → Vals vs us → shAll F l ds = some ts → TellsAll X.prog X.w (X.A.in1.under (.builtin "tuple.__repr__" ⟨[.ref a], []⟩)) (Btw X pins σ H) us ts
  | _, _, _, ts, .nil, .nil, h => by cases h; trivial
  | _, _, _, ts, .cons (v := v) (d := d) r rr, .cons rv rvs, h => by
    simp only [shAll, Option.bind_eq_some_iff, Option.map_eq_some_iff] at h
    obtain ⟨z, h1, zs, h2, rfl⟩ := h
    refine ⟨?_, tells_all hgr hg hr D tab hb hm hi rr rvs h2⟩
    unfold shOne at h1
    split at h1
    · rename_i hs
      cases h1
      exact tells_data hg (by have := hr.in1.un; omega) hb hm hi rv r hs
    · simp only [Option.bind_eq_some_iff] at h1
      obtain ⟨c, hc, id, hid, ⟨w, fr, ss⟩, hF, h3⟩ := h1
      dsimp only at h3
      split at h3
      · cases h3
      rename_i hfr
      split at h3
      · split at h3
        · rename_i z' hz
          cases h3
          obtain ⟨es, rfl⟩ := clsD_of hc
          obtain ⟨b', C', dx', fs', rfl, hH, hcC, rk⟩ := (Top.obj (.inl r))
          obtain ⟨f, fd, ps, hs, hbd, G⟩ := D c C' id hcC hid
          obtain rfl : _ = Value.ref b' := rv
          have e : fr = false := by simpa using hfr
          subst e
          exact tells_obj hgr hr.in1 hH r hs hbd G tab hF hz
        · cases h3
      · cases h3
/-- repr of data, of an object, of a tuple with objects -/
noncomputable def rRep (F : Fns) (l : List Nat) : List V → Hp → VK → Prop := fun vs H Q => ∃ v d z, vs = [v] ∧ Top No H v d ∧ TabX H ∧ shO F l d = some z ∧ ∀ H', Kp No H H' → Q (.str z) H'
theorem rep_ok [GR] (hgr : GR.r = true) {k : Nat} {F : Fns} {l : List Nat} (hg : X.A.guards = some []) (hr : Room (k + 2) X.A) (D : DefsAt X F k l (Spec X.K "__repr__")) : CallR X (.builtin "repr") (rRep F l) := by
  intro pins s σ H xs us Q I r ⟨v, d, z, e, top, tab, hz, q⟩
  subst e
  have hu : X.A.units + 100 < cLine := by have := hr.un; omega
  have data : shows d = true → z = d.shown → wpAny (model X.prog X.w) X.A (call (.builtin "repr") us) (EP X pins σ Q) X.xe s := fun hs e => by
    subst e
    exact repr_ok hg hu pins s σ H _ us Q I r ⟨No, d, v, rfl, top, hs, q H (Kp.refl _ _)⟩
  have one : shOne F l d = some z → wpAny (model X.prog X.w) X.A (call (.builtin "repr") us) (EP X pins σ Q) X.xe s := fun h1 => by
    unfold shOne at h1
    split at h1
    · rename_i hs
      cases h1
      exact data hs rfl
    · simp only [Option.bind_eq_some_iff] at h1
      obtain ⟨c, hc, id, hid, ⟨w, fr, ss⟩, hF, h3⟩ := h1
      dsimp only at h3
      split at h3
      · cases h3
      rename_i hfr
      split at h3
      · split at h3
        · rename_i z' hz'
          cases h3
          obtain ⟨es, rfl⟩ := clsD_of hc
          obtain ⟨b', C', dx', fs', rfl, hH, hcC, rk⟩ := top.obj
          have e : fr = false := by simpa using hfr
          subst e
          refine reprO_ok (.inr hg) (hr.mono (by omega)) D pins s σ H _ us Q I r ⟨b', C', dx', fs', c, id, rfl, hH, hcC, hid, No, No, _, _, _, ss, look_re tab (.cons top .nil), hF, fun w H2 pst => ?_⟩
          obtain ⟨A', M', sh, k', r', p1, _⟩ := pst
          have rz := p1 rfl
          cases rz
          exact ⟨_, rfl, q H2 k'⟩
        · cases h3
      · cases h3
  unfold shO at hz
  split at hz
  · rename_i hs
    cases hz
    exact data hs rfl
  · split at hz
    · rename_i ds _
      split at hz
      · rename_i ha
        simp only [Option.bind_eq_some_iff] at hz
        obtain ⟨ts, h1, h2⟩ := hz
        split at h2
        · rename_i hl
          cases h2
          obtain ⟨a, xs, rfl, hT, rr⟩ := top.tup
          obtain ⟨u1, rfl, r1⟩ := vals1 r
          obtain rfl : u1 = Value.ref a := r1
          obtain ⟨its, rvs, hI, _⟩ := I.tuple hT.sq
          obtain ⟨b, C, dx, fs, hb, hm⟩ : ∃ b C dx fs, H b = some (.ins C dx fs) ∧ V.ref b ∈ xs := by
            obtain ⟨d0, hd, hc⟩ := List.any_eq_true.mp ha
            obtain ⟨c, hc⟩ := Option.isSome_iff_exists.mp hc
            obtain ⟨i, hi⟩ := List.getElem?_of_mem hd
            obtain ⟨v, hv, rel⟩ := rr.get hi
            obtain ⟨es, rfl⟩ := clsD_of hc
            obtain ⟨b', C', dx', fs', rfl, hH, _⟩ := (Top.obj (.inl rel))
            exact ⟨b', C', dx', fs', hH, List.mem_of_getElem? hv⟩
          have ty : s.TypeIs (.ref a) "tuple" := by
            obtain ⟨o, ho, hc, _⟩ := hI
            exact ⟨o, ho, hc⟩
          refine call_repr_slot (by omega) ty PySem.F.slot_tuple_repr (call_tells (J := Btw X pins σ H) hI hg (tells_all hgr hg hr D tab hb hm hT rr (by simpa using rvs) h1) ⟨H, I, Kp.refl _ _⟩ hl fun s' u tk hs => ?_)
          obtain ⟨H', I', kp⟩ := hs
          exact ⟨_, _, rfl, .str _, H', I'.tok _, ⟨_, rfl⟩, q H' kp⟩
        · cases h2
      · cases hz
    · exact one hz
section
variable {F : Fns} {ma : ME} {l : List Nat}
theorem rep_read {σ : L2.St} {H : Hp} {Q : VK} (h : tE F (.rep l ma) σ H Q) : tCB (rRep F l) (tCons (tB F ma) tNil) σ H Q := by
  obtain ⟨A, M, ρ, d, fr, ρ', r, ev, q⟩ := h
  simp only [evE, Option.bind_eq_some_iff, Option.map_eq_some_iff] at ev
  obtain ⟨⟨b, ρ0⟩, h0, o, ho, z, hz, e⟩ := ev
  cases e
  exact ⟨A, M, ρ, b, _, r, h0, fun v H1 A1 M1 s1 k1 r1 b1 => ⟨v, o, z, rfl, .inl (b1.top r1 ho).relN, r1.tab, hz, fun H' kp => q _ _ ⟨⟨A1, M1, s1, k1.comp s1 kp.of, r1.keep kp, fun _ => .str _, nofun⟩, nofun⟩⟩⟩
theorem e_rep [GR] (hgr : GR.r = true) {k : Nat} {a : Expr} {p pos : Pos} (hg : X.A.guards = some []) (hr : Room (k + 2) X.A) (D : DefsAt X F k l (Spec X.K "__repr__")) (hgl : Gl X "repr") (hm : X.mg "repr" = none) (ha : Eb X F a ma) (ns : noStar a = true) :
    Eb X F (.Call (.Name "repr" p) [a] [] pos) (.rep l ma) :=
  Eb.of ((pe_callB (rep_ok hgr hg hr D) hgl hm (by decide +kernel) (pa_cons ha.bo pa_nil (star_no ns)) (by decide) (by decide) (star_no ns) rfl).imp fun σ H Q h => rep_read h) fun _ => nofun
end
end
end MI
/-! MIB: from the model's syntax to the interpreter's: expressions. -/
namespace MI
open PySem PySem.Spec PyProof.Rows L2
variable [EK] [GR]
/-- what is known of classes: their names with number and making; which objects are of one; attributes, constants, properties, defs by class; the variables that hold objects -/
structure ObSig where
  cls : List (Str × Nat × Nat) := []
  iso : List (Str × List Bool) := []
  flds : List Str := []
  cons : List (Str × List PyData) := []
  prp : List (Str × List Nat) := []
  mth : List (Str × List Nat) := []
  vars : List Str := []
  /-- what defs raise, by class -/
  xm : List (Str × List Nat) := []
  /-- the defs behind repr by class, where things that hold objects are shown -/
  rep : List Nat := []
  /-- who is asked first by == and !=, class by class -/
  eqs : List (List Bool) := []
  /-- defs that give out a new object -/
  bx : List Str := []
  /-- names whose values never change -/
  stl : List Str := []
  /-- by def, names that are no objects there -/
  off : List (Str × Str) := []
/-- what is known within a def -/
noncomputable def ObSig.hide (O : ObSig) (n : Str) : ObSig := { O with vars := O.vars.filter fun x => !O.off.contains (n, x) }
noncomputable def obV (O : ObSig) : Expr → Bool
  | .Name y _ => O.vars.contains y
  | _ => false
noncomputable def cAt (O : ObSig) (x : Str) (m : ME) : Option ME := if O.flds.contains x then some (.fld x m) else match O.cons.lookup x with
  | some l => some (.con x l m)
  | none => (O.prp.lookup x).map fun l => .meth 0 x l m .nil
structure Sig where
  fns : List (Str × Nat)
  cst : List (Str × PyData)
  blt : List Str
  own : Bool := false
  dT : Bool := false
  strong : List (Str × Nat) := []
  look : List Str := []
  kws : List (Str × List Str × Nat × List Nat) := []
  gds : List (Str × List (Int × Str)) := []
  /-- defs that tell what a lambda of theirs says, with the words by class -/
  told : List (Str × List Str) := []
  /-- defs with their number and that of what they raise -/
  xfn : List (Str × Nat × Nat) := []
  ob : ObSig := {}
noncomputable def posOf : List Str → Str → Option Nat
  | [], _ => none
  | y :: r, x => if y = x then some 0 else (posOf r x).map (· + 1)
theorem posOf_ok : ∀ {N : List Str} {x : Str} {i : Nat}, posOf N x = some i → N[i]? = some x
  | [], _, _, h => by cases h
  | y :: r, x, i, h => by
    unfold posOf at h
    split at h
    · rename_i e
      cases h
      exact congrArg some e
    · simp only [Option.map_eq_some_iff] at h
      obtain ⟨j, h1, rfl⟩ := h
      have z := posOf_ok h1
      exact z
noncomputable def vis (sc : Scope) (x : Str) : Bool := match sc.names.lookup x with
  | some .local => true
  | some .cell => true
  | some .free => true
  | _ => false
noncomputable def glb (sc : Scope) (x : Str) : Bool := match sc.names.lookup x with
  | some .globalImplicit => true
  | _ => false
noncomputable def fine (x : Str) : Bool := !(x == ("__debug__" : Str)) && !(x == ("__classdict__" : Str)) && !(x == ("__name__" : Str))
theorem vis_ok {sc : Scope} {x : Str} (h : vis sc x = true) : Vis sc x := by
  unfold vis at h
  split at h
  · rename_i e; exact .inl e
  · rename_i e; exact .inr (.inl e)
  · rename_i e; exact .inr (.inr e)
  · cases h
theorem glb_ok {sc : Scope} {x : Str} (h : glb sc x = true) : sc.names.lookup x = some .globalImplicit := by
  unfold glb at h
  split at h
  · rename_i e; exact e
  · cases h
theorem fine_ok {x : Str} (h : fine x = true) : (x == ("__debug__" : Str)) = false ∧ (x == ("__classdict__" : Str)) = false ∧ x ≠ "__name__" := by
  unfold fine at h
  simp only [Bool.and_eq_true, Bool.not_eq_true'] at h
  refine ⟨h.1.1, h.1.2, fun e => ?_⟩
  have := h.2
  rw [e] at this
  simp at this
noncomputable def bopOf : Operator → Option Bop
  | .Add => some .add | .Sub => some .sub | .Mult => some .mul | .FloorDiv => some .fdiv | .Mod => some .mod | .Pow => some .pow | .RShift => some .shr | .BitAnd => some .band
  | _ => none
theorem bopOf_ok {o : Operator} {b : Bop} (h : bopOf o = some b) : o = opOf b := by
  cases o <;> cases h <;> rfl
noncomputable def cmpOf : CmpOp → Option Cop
  | .Eq => some .eq | .NotEq => some .ne | .Lt => some .lt | .LtE => some .le | .Gt => some .gt | .GtE => some .ge | .In => some .isin | .NotIn => some .notin
  | _ => none
theorem cmpOf_ok {o : CmpOp} {b : Cop} (h : cmpOf o = some b) : o = copOf b := by
  cases o <;> cases h <;> rfl
noncomputable def litOf : Const → Option ME
  | .int i => some (.lit (.int i))
  | .bool b => some (.lit (.bool b))
  | .none => some (.lit .none)
  | .str x => some (.lit (.str x))
  | _ => none
noncomputable def biTab : List (Str × Nat × Bi) := [("len", 1, .len), ("all", 1, .all), ("any", 1, .any), ("tuple", 1, .tuple), ("list", 1, .list), ("sorted", 1, .sorted), ("sum", 1, .sum), ("max", 1, .max1), ("min", 1, .min1), ("max", 2, .max2), ("min", 2, .min2), ("repr", 1, .repr), ("int", 1, .int), ("str", 1, .str)]
noncomputable def isTab : List (Str × Bi) := [("int", .isInt), ("bool", .isBool), ("tuple", .isTuple), ("str", .isStr), ("list", .isList)]
noncomputable def biOf (x : Str) (n : Nat) : Option Bi := (biTab.find? fun p => p.1 == x && p.2.1 == n).map (·.2.2)
noncomputable def isOf (x : Str) : Option Bi := (isTab.find? fun p => p.1 == x).map (·.2)
noncomputable def BiFact (x : Str) (b : Bi) : Prop := tyOf b = none ∧ ((∃ id, fnBi b = .builtin id ∧ bootBuiltins x = some (.builtin id)) ∨ ∃ id, fnBi b = .type id ∧ bootBuiltins x = some (.type id))
theorem biTab_ok : ∀ p ∈ biTab, BiFact p.1 p.2.2 := by
  intro p hp
  simp only [biTab, List.mem_cons, List.not_mem_nil, or_false] at hp
  rcases hp with rfl | rfl | rfl | rfl | rfl | rfl | rfl | rfl | rfl | rfl | rfl | rfl | rfl | rfl <;> first
    | exact ⟨rfl, .inl ⟨_, rfl, by decide +kernel⟩⟩
    | exact ⟨rfl, .inr ⟨_, rfl, by decide +kernel⟩⟩
theorem isTab_ok : ∀ p ∈ isTab, ∃ nm, tyOf p.2 = some nm ∧ bootBuiltins p.1 = some (.type nm) := by
  intro p hp
  simp only [isTab, List.mem_cons, List.not_mem_nil, or_false] at hp
  rcases hp with rfl | rfl | rfl | rfl | rfl <;> exact ⟨_, rfl, by decide +kernel⟩
theorem biOf_ok {x : Str} {n : Nat} {b : Bi} (h : biOf x n = some b) : BiFact x b := by
  unfold biOf at h
  simp only [Option.map_eq_some_iff] at h
  obtain ⟨p, h1, rfl⟩ := h
  have e := List.find?_some h1
  simp only [Bool.and_eq_true, beq_iff_eq] at e
  rw [← e.1]
  exact biTab_ok p (List.mem_of_find?_eq_some h1)
theorem biOf_rs {x : Str} {n : Nat} {b : Bi} (h : biOf x n = some b) (hb : b = .repr ∨ b = .str) : x = "repr" ∨ x = "str" := by
  unfold biOf at h
  simp only [Option.map_eq_some_iff] at h
  obtain ⟨p, h1, h2⟩ := h
  have e := List.find?_some h1
  have m := List.mem_of_find?_eq_some h1
  simp only [Bool.and_eq_true, beq_iff_eq] at e
  rw [← h2] at hb
  rw [← e.1]
  simp only [biTab, List.mem_cons, List.not_mem_nil, or_false] at m
  rcases m with rfl | rfl | rfl | rfl | rfl | rfl | rfl | rfl | rfl | rfl | rfl | rfl | rfl | rfl <;> first
    | exact .inl rfl
    | exact .inr rfl
    | (rcases hb with hb | hb <;> cases hb)
theorem isOf_ok {x : Str} {b : Bi} (h : isOf x = some b) : ∃ nm, tyOf b = some nm ∧ bootBuiltins x = some (.type nm) := by
  unfold isOf at h
  simp only [Option.map_eq_some_iff] at h
  obtain ⟨p, h1, rfl⟩ := h
  have e := List.find?_some h1
  simp only [beq_iff_eq] at e
  rw [← e]
  exact isTab_ok p (List.mem_of_find?_eq_some h1)
noncomputable def isTupE : Expr → Bool
  | .Tuple .. => true
  | _ => false
/-- a list that is made for this call alone -/
noncomputable def isPen : Expr → Bool
  | .Call (.Name f _) _ _ _ => f == ("_law_pen" : Str)
  | _ => false
/-- an object that is made for this call alone -/
noncomputable def isMkE (O : ObSig) : Expr → Bool
  | .Call (.Name f _) _ _ _ => (O.cls.lookup f).isSome || O.bx.contains f
  | _ => false
/-- the second is made for this call alone, the first is a variable that holds no object -/
noncomputable def newSnd (O : ObSig) (sc : Scope) : List Expr → Bool
  | .Name x0 _ :: eb :: _ => isMkE O eb && fine x0 && vis sc x0 && x0 == ("_law_pen_here" : Str)
  | _ => false
noncomputable def mkArg (O : ObSig) : List Expr → Bool
  | [e] => isMkE O e
  | _ => false
/-- plainly a text -/
noncomputable def isTxtE : Expr → Bool
  | .Constant (.str _) _ _ => true
  | .Call (.Name f _) _ _ _ => f == ("str" : Str)
  | _ => false
noncomputable def isSetE : Expr → Bool
  | .Set .. => true
  | _ => false
noncomputable def isSlE : Expr → Bool
  | .Slice .. => true
  | _ => false
/-- a comprehension's own names by their slots -/
noncomputable def ownOf (N : List Str) (scope : Scope) : List (Str × Nat) := scope.names.filterMap fun (x, k) => match k with
  | .local => (posOf N x).map fun i => (x, i)
  | .cell => (posOf N x).map fun i => (x, i)
  | _ => none
/-- may this name be stored: pm tells the comprehension's scope, if one stands in one -/
noncomputable def stOk (sc : Scope) (pm : Option Scope) (x : Str) : Bool := match sc.names.lookup x with
  | some .local => true
  | some .cell => (match pm with | none => true | some s => s.names.lookup x == some .cell)
  | _ => false
mutual
noncomputable def cG (N : List Str) (sc : Scope) (pm : Option Scope) : Nat → Expr → Option MT
  | n + 1, .Name x _ => if stOk sc pm x then (posOf N x).map .nm else none
  | n + 1, .Tuple es _ _ => (cGs N sc pm n es).map .tp
  | _, _ => none
noncomputable def cGs (N : List Str) (sc : Scope) (pm : Option Scope) : Nat → List Expr → Option MT
  | _, [] => some .nil
  | n + 1, e :: es => if noStar e then (cG N sc pm n e).bind fun t => (cGs N sc pm n es).map fun u => .cons t u else none
  | _, _ => none
end
noncomputable def inS (l vs : List Nat) : Bool := l.all fun i => vs.contains i
theorem inS_ok {l vs : List Nat} (h : inS l vs = true) : ∀ i ∈ l, i ∈ vs := fun i hi => by
  unfold inS at h
  exact List.contains_iff_mem.mp (List.all_eq_true.mp h i hi)
abbrev fuel0 : Nat := 60
mutual
/-- what stands in the place of an argument of a lambda's call -/
noncomputable def laE (N : List Str) (sc : Scope) : Nat → Expr → Option ME
  | _ + 1, .Name x _ => if fine x && vis sc x then (posOf N x).map .var else none
  | _ + 1, .Constant c _ _ => litOf c
  | n + 1, .UnaryOp .USub a _ => (laE N sc n a).map .neg
  | n + 1, .Tuple es _ _ => (laA N sc n es).map .tup
  | n + 1, .Subscript a (.Constant c _ _) _ => (laE N sc n a).bind fun ma => (litOf c).map fun mi => .idx ma mi
  | _, _ => none
noncomputable def laA (N : List Str) (sc : Scope) : Nat → List Expr → Option ME
  | _ + 1, [] => some .nil
  | n + 1, e :: es => if noStar e then (laE N sc n e).bind fun m => (laA N sc n es).map fun r => .cons m r else none
  | _, _ => none
end
noncomputable def laL (N : List Str) (sc : Scope) : Nat → List Expr → Option ME
  | _ + 1, [] => some .nil
  | n + 1, e :: es => if noStar e then (laE N sc n e).bind fun m => (laL N sc n es).map fun r => .cons m r else none
  | _, _ => none
noncomputable def laK (N : List Str) (sc : Scope) : Nat → List Keyword → Option ME
  | _ + 1, [] => some .nil
  | n + 1, ⟨some _, e, _⟩ :: ks => (laE N sc n e).bind fun m => (laK N sc n ks).map fun r => .cons m r
  | _, _ => none
/-- a lambda's body over an object: what it raises, what it gives -/
noncomputable def laB0 (S : Sig) (N : List Str) (sc : Scope) : Expr → Option (ME × ME)
  | .Call (.Attribute (.Name y _) f ap) args [] cp => if S.ob.vars.contains y && fine y && vis sc y && ap.endLine == cp.line && args.all noStar && decide (args.length < 29) then
      (posOf N y).bind fun i => (S.ob.mth.lookup f).bind fun l => (laL N sc fuel0 args).map fun m => (match S.ob.xm.lookup f with | some xl => .methV f xl (.var i) m | none => .lit .none, .meth 0 f l (.var i) m) else none
  | .Subscript (.Name y _) b _ => if S.ob.vars.contains y && fine y && vis sc y && !isSlE b then
      (posOf N y).bind fun i => (S.ob.mth.lookup ("__getitem__" : Str)).bind fun l => (S.ob.xm.lookup ("__getitem__" : Str)).bind fun xl => (laE N sc fuel0 b).map fun mb => (.methV "__getitem__" xl (.var i) (.cons mb .nil), .opO 0 l (.var i) mb) else none
  | .Call (.Name y _) [e] [] _ => if S.ob.vars.contains y && fine y && vis sc y && noStar e then
      (posOf N y).bind fun i => (S.ob.mth.lookup ("__call__" : Str)).bind fun l => (S.ob.xm.lookup ("__call__" : Str)).bind fun xl => (laE N sc fuel0 e).map fun mb => (.methV "__call__" xl (.var i) (.cons mb .nil), .opO 0 l (.var i) mb) else none
  | .Call (.Name y _) [] (k0 :: ks) _ => if glb sc y && fine y && !S.ob.mth.isEmpty then (kwNames (k0 :: ks)).bind fun ns => (S.kws.find? fun q => q.1 == y && q.2.1 == ns).bind fun q => (S.xfn.lookup y).bind fun z =>
      if q.2.2.2.length = ns.length then (laK N sc fuel0 (k0 :: ks)).map fun m => (.callK z.2 q.2.2.2 m, .callK q.2.2.1 q.2.2.2 m) else none else none
  | _ => none
noncomputable def laB (S : Sig) (N : List Str) (sc : Scope) : Expr → Option (ME × ME)
  | .IfExp (.Compare a [.Eq] [.Constant c _ _] _) x y _ => (laE N sc fuel0 a).bind fun ma => (litOf c).bind fun mc => (laB0 S N sc x).bind fun p => (laB0 S N sc y).map fun q => (.ite (.tst (.cmp .eq ma mc)) p.1 q.1, .ite (.tst (.cmp .eq ma mc)) p.2 q.2)
  | e => laB0 S N sc e
/-- x(lambda: f(..)) -/
noncomputable def cTold (S : Sig) (N : List Str) (sc : Scope) (y : Str) : List Expr → Option ME
  | [.Lambda ⟨[], [], none, [], [], none, []⟩ bd sc2 _] => match bd with
    | .Call (.Name fn fp) (e :: es) [] cp => if LamX.lamSB sc sc2 && glb sc2 fn && fine fn && (e :: es).all noStar then
        (S.told.lookup y).bind fun ts => (S.xfn.lookup fn).bind fun q => (laL N sc2 fuel0 (e :: es)).map fun m => .told q.1 q.2 ts m
        else if LamX.lamSB sc sc2 && vis sc2 fn then (S.told.lookup y).bind fun ts => (laB S N sc2 (.Call (.Name fn fp) (e :: es) [] cp)).map fun p => .toldE ts p.1 p.2 else none
    | bd => if LamX.lamSB sc sc2 then (S.told.lookup y).bind fun ts => (laB S N sc2 bd).map fun p => .toldE ts p.1 p.2 else none
  | _ => none
/-- keys of a display that are ints -/
noncomputable def intKey : Option Expr → Option Int
  | some (.Constant (.int k) _ _) => some k
  | some (.UnaryOp .USub (.Constant (.int k) _ _) _) => some (-k)
  | _ => none
noncomputable def intKeys : List (Option Expr) → Option (List Int)
  | [] => some []
  | k :: r => (intKey k).bind fun i => (intKeys r).map (i :: ·)
mutual
noncomputable def cE (S : Sig) (N : List Str) : Nat → Scope → Expr → Option ME
  | 0, _, _ => none
  | n + 1, sc, .Constant c _ _ => litOf c
  | n + 1, sc, .Name x _ => if fine x then (if vis sc x then (posOf N x).map .var else if glb sc x then (S.cst.lookup x).map .lit else none) else none
  | n + 1, sc, .BinOp a op b _ => (bopOf op).bind fun o => (cE S N n sc a).bind fun ma => (cE S N n sc b).map fun mb => .bin o ma mb
  | n + 1, sc, .UnaryOp op a _ => match op with
    | .USub => (cE S N n sc a).map .neg
    | .Not => (cE S N n sc a).map .not
    | _ => none
  | n + 1, sc, .BoolOp op es _ => match op, es with
    | .And, a :: b :: r => (cE S N n sc a).bind fun ma => (cB S N n sc .And (b :: r)).map fun mb => .and ma mb
    | .Or, a :: b :: r => (cE S N n sc a).bind fun ma => (cB S N n sc .Or (b :: r)).map fun mb => .or ma mb
    | _, _ => none
  | n + 1, sc, .Compare a ops cs _ => cCmp S N n sc a ops cs
  | n + 1, sc, .IfExp c a b _ => (cT S N n sc c).bind fun mc => (cE S N n sc a).bind fun ma => (cE S N n sc b).map fun mb => .ite mc ma mb
  | n + 1, sc, .Call g args kws cp => match g, args, kws with
    | .Name f _, args, [] => cCall S N n sc f args
    | .Name f _, [], k0 :: ks => if glb sc f && fine f then (kwNames (k0 :: ks)).bind fun ns => (S.kws.find? fun q => q.1 == f && q.2.1 == ns).bind fun q =>
        if q.2.2.2.length = ns.length then (cK S N n sc (k0 :: ks)).map fun m => .callK q.2.2.1 q.2.2.2 m else none else none
    | .Attribute (.Constant (.str z) _ _) f ap, [e], [] => if f = "join" && noStar e && ap.endLine == cp.line then (cE S N n sc e).map (.join z) else if f = "find" && noStar e && ap.endLine == cp.line then (cE S N n sc e).map (.met .find (.lit (.str z))) else none
    | .Attribute (.Dict ks vs dp) f ap, [e, e'], [] => if f = "get" && noStar e && noStar e' && ap.endLine == cp.line then (cE S N n sc (.Dict ks vs dp)).bind fun mo => (cE S N n sc e).bind fun mk => (cE S N n sc e').map fun mf => .dget mo mk mf else none
    | .Attribute (.Name x _) f ap, args, [] => cMet S N n sc x f args ap cp
    | .Attribute (.Call (.Name g gp) [a] [] p2) f ap, [e], [] => if g = "list" && f = "count" && noStar e && ap.endLine == cp.line then (cE S N n sc (.Call (.Name g gp) [a] [] p2)).bind fun mo => (cE S N n sc e).map fun m => .cntL mo m else none
    | _, _, _ => none
  | n + 1, sc, .Subscript a s _ => match s with
    | .Slice none none (some (.UnaryOp .USub (.Constant (.int 1) _ _) _)) _ => (cE S N n sc a).map .rev
    | .Slice lo hi none _ => (cE S N n sc a).bind fun ma => (cO S N n sc lo).bind fun ml => (cO S N n sc hi).map fun mh => .sl ma ml mh
    | i => if isSlE i then none else (cE S N n sc a).bind fun ma => (cE S N n sc i).bind fun mi => if obV S.ob a then (S.ob.mth.lookup ("__getitem__" : Str)).map fun l => .opO 0 l ma mi else some (.idx ma mi)
  | n + 1, sc, .Attribute e x _ => if abOk e then (cE S N n sc e).bind (cAt S.ob x) else none
  | n + 1, sc, .JoinedStr l _ => match l with
    | v1 :: v2 :: vs => (cF S N n sc (v1 :: v2 :: vs)).map .fst
    | _ => none
  | n + 1, sc, .Tuple es _ _ => (cA S N n sc es).map .tup
  | n + 1, sc, .List es _ => (cA S N n sc es).map .lst
  | n + 1, sc, .Dict ks vs _ => match ks, vs with
    | [], [] => some (if S.dT then .dicT else .dic)
    | k0 :: ks, v0 :: vs => (intKeys (k0 :: ks)).bind fun is => if (k0 :: ks).length = (v0 :: vs).length ∧ (k0 :: ks).length ≤ 15 then (cD S N n sc (v0 :: vs)).map fun m => .disp is m else none
    | _, _ => none
  | n + 1, sc, .ListComp elt gens scope _ => cComp S N n sc elt gens scope
  | _, _, _ => none
/-- the values of a display -/
noncomputable def cD (S : Sig) (N : List Str) : Nat → Scope → List Expr → Option ME
  | n + 1, _, [] => some .nil
  | n + 1, sc, e :: es => (cE S N n sc e).bind fun m => (cD S N n sc es).map fun r => .cons m r
  | _, _, _ => none
/-- the parts of f".." -/
noncomputable def cF (S : Sig) (N : List Str) : Nat → Scope → List Expr → Option ME
  | n + 1, _, [] => some .nil
  | n + 1, sc, .Constant (.str z) _ _ :: r => (cF S N n sc r).map (.cons (.lit (.str z)))
  | n + 1, sc, .FormattedValue e (.negSucc 0) none _ :: r => (cE S N n sc e).bind fun m => (cF S N n sc r).map fun u => .cons m u
  | _, _, _ => none
/-- the values of keywords -/
noncomputable def cK (S : Sig) (N : List Str) : Nat → Scope → List Keyword → Option ME
  | n + 1, _, [] => some .nil
  | n + 1, sc, ⟨_, e, _⟩ :: r => (cE S N n sc e).bind fun m => (cK S N n sc r).map fun u => .cons m u
  | _, _, _ => none
/-- and, or, as values -/
noncomputable def cB (S : Sig) (N : List Str) : Nat → Scope → BoolOp → List Expr → Option ME
  | n + 1, sc, _, [a] => cE S N n sc a
  | n + 1, sc, .And, a :: b :: r => (cE S N n sc a).bind fun ma => (cB S N n sc .And (b :: r)).map fun mb => .and ma mb
  | n + 1, sc, .Or, a :: b :: r => (cE S N n sc a).bind fun ma => (cB S N n sc .Or (b :: r)).map fun mb => .or ma mb
  | _, _, _, _ => none
/-- tests -/
noncomputable def cT (S : Sig) (N : List Str) : Nat → Scope → Expr → Option ME
  | 0, _, _ => none
  | n + 1, sc, .UnaryOp .Not a _ => (cT S N n sc a).map .not
  | n + 1, sc, .BoolOp .And (a :: b :: r) _ => (cT S N n sc a).bind fun ma => (cBT S N n sc .And (b :: r)).map fun mb => .and ma mb
  | n + 1, sc, .BoolOp .Or (a :: b :: r) _ => (cT S N n sc a).bind fun ma => (cBT S N n sc .Or (b :: r)).map fun mb => .or ma mb
  | n + 1, sc, .Compare a ops cs _ => (cCmp S N n sc a ops cs).map .tst
  | n + 1, sc, e => if plainT e then (cE S N n sc e).map .tst else none
noncomputable def cBT (S : Sig) (N : List Str) : Nat → Scope → BoolOp → List Expr → Option ME
  | n + 1, sc, _, [a] => cT S N n sc a
  | n + 1, sc, .And, a :: b :: r => (cT S N n sc a).bind fun ma => (cBT S N n sc .And (b :: r)).map fun mb => .and ma mb
  | n + 1, sc, .Or, a :: b :: r => (cT S N n sc a).bind fun ma => (cBT S N n sc .Or (b :: r)).map fun mb => .or ma mb
  | _, _, _, _ => none
noncomputable def cCmp (S : Sig) (N : List Str) : Nat → Scope → Expr → List CmpOp → List Expr → Option ME
  | n + 1, sc, a, [op], [b] => match op, b with
    | .Is, .Constant .none _ _ => (cE S N n sc a).map .isN
    | .IsNot, .Constant .none _ _ => (cE S N n sc a).map .notN
    | .Is, .Constant (.bool k) _ _ => (cE S N n sc a).map (.isB k)
    | .IsNot, .Constant (.bool k) _ _ => (cE S N n sc a).map (.nisB k)
    | op, b => (cmpOf op).bind fun o => if isSetE b then none else if obV S.ob b && (o == .isin || o == .notin) then (S.ob.mth.lookup ("__contains__" : Str)).bind fun l => (cE S N n sc a).bind fun ma => (cE S N n sc b).map fun mb => .inO (o == .notin) l ma mb
      else if !S.ob.eqs.isEmpty && (o == .eq || o == .ne) && (obV S.ob a || obV S.ob b || isMkE S.ob b) then (S.ob.mth.lookup ("__eq__" : Str)).bind fun l => (cE S N n sc a).bind fun ma => (cE S N n sc b).map fun mb => .eqO (o == .ne) l S.ob.eqs ma mb
      else (cE S N n sc a).bind fun ma => (cE S N n sc b).map fun mb => .cmp o ma mb
  | n + 1, sc, a, [op, op'], [b, c] => (cmpOf op).bind fun o => (cmpOf op').bind fun o' => if isSetE c then none else (cE S N n sc a).bind fun ma => (cE S N n sc b).bind fun mb => (cE S N n sc c).map fun mc => .cmp2 o o' ma mb mc
  | _, _, _, _, _ => none
noncomputable def cCall (S : Sig) (N : List Str) : Nat → Scope → Str → List Expr → Option ME
  | 0, _, _, _ => none
  | n + 1, sc, f, args => if glb sc f && fine f then
      match S.fns.lookup f with
      | some id => if args.all noStar then (match args with
          | e :: es => if newSnd S.ob sc (e :: es) then (match e, es with
              | .Name x0 _, eb :: es => (posOf N x0).bind fun i => (cE S N n sc eb).bind fun mb => (cL S N n sc es).map fun m => .callG id i mb m
              | _, _ => none)
            else if isPen e || isMkE S.ob e then (cE S N n sc e).bind fun ma => (cL S N n sc es).map fun m => .callF id ma m else if S.look.contains f then (cL S N n sc (e :: es)).map fun m => .callV id m else (cL S N n sc (e :: es)).map fun m => .call ((S.strong.lookup f).getD id) m
          | [] => (cL S N n sc []).map fun m => .call id m) else none
      | none => if S.blt.contains f then
          (if f = "isinstance" then (match args with
            | [a, .Name t _] => if glb sc t && fine t && S.blt.contains t && noStar a then (isOf t).bind fun b => (cE S N n sc a).map fun ma => .bi b (.cons ma .nil) else if glb sc t && fine t && noStar a then (S.ob.iso.lookup t).bind fun l => (cE S N n sc a).map (.isO l) else none
            | _ => none)
          else if f = "repr" && !S.ob.rep.isEmpty then (match args with
            | [e] => if noStar e then (cE S N n sc e).map fun m => .rep S.ob.rep m else none
            | _ => none)
          else if f = "repr" && mkArg S.ob args then (match args with
            | [e] => if noStar e then (S.ob.mth.lookup ("__repr__" : Str)).bind fun l => (cE S N n sc e).map fun m => .meth 2 "__repr__" l m .nil else none
            | _ => none)
          else match args with
            | [] => none
            | [.Call (.Name g p) [a] [] pos] => if g = "set" && f = "sorted" && glb sc g && S.blt.contains g && noStar a then (cE S N n sc a).map .sset
                else if g = "set" && f = "len" && glb sc g && S.blt.contains g && noStar a then (cE S N n sc a).map .lset
                else if g = "range" && (f = "tuple" || f = "list") && glb sc g && S.blt.contains g && noStar a then (cE S N n sc a).map fun ma => .cv (decide (f = "tuple")) (.rng1 ma)
                else (biOf f 1).bind fun b => (cL S N n sc [.Call (.Name g p) [a] [] pos]).map fun m => .bi b m
            | [.Call (.Name g p) [a, a'] [] pos] => if g = "range" && (f = "tuple" || f = "list") && glb sc g && S.blt.contains g && noStar a && noStar a' then (cE S N n sc a).bind fun ma => (cE S N n sc a').map fun mb => .cv (decide (f = "tuple")) (.rng2 ma mb)
                else (biOf f 1).bind fun b => (cL S N n sc [.Call (.Name g p) [a, a'] [] pos]).map fun m => .bi b m
            | [.Call (.Name g p) [a, a', a''] [] pos] => if g = "range" && f = "tuple" && glb sc g && S.blt.contains g && noStar a && noStar a' && noStar a'' then (cE S N n sc a).bind fun ma => (cE S N n sc a').bind fun mb => (cE S N n sc a'').map fun mc => .cv true (.rng3 ma mb mc)
                else (biOf f 1).bind fun b => (cL S N n sc [.Call (.Name g p) [a, a', a''] [] pos]).map fun m => .bi b m
            | e :: es => if (e :: es).all noStar then (if obV S.ob e && es.isEmpty && f = "len" then (S.ob.mth.lookup ("__len__" : Str)).bind fun l => (cE S N n sc e).map fun m => .meth 1 "__len__" l m .nil
                else if obV S.ob e && es.isEmpty && f = "repr" then (S.ob.mth.lookup ("__repr__" : Str)).bind fun l => (cE S N n sc e).map fun m => .meth 2 "__repr__" l m .nil
                else (biOf f (e :: es).length).bind fun b => (cL S N n sc (e :: es)).map fun m => .bi b m) else none)
        else match S.ob.cls.lookup f with
          | some q => (match args with
            | e :: es => if (e :: es).all noStar then (cA S N n sc (e :: es)).map (.mk q.1 q.2) else none
            | [] => none)
          | none => cTold S N sc f args
    else if vis sc f && fine f && S.ob.vars.contains f then (match args with
      | [e] => if noStar e then (posOf N f).bind fun i => (S.ob.mth.lookup ("__call__" : Str)).bind fun l => (cE S N n sc e).map fun m => .opO 0 l (.var i) m else none
      | _ => none)
    else none
/-- methods that are asked for a value, of a variable -/
noncomputable def cMet (S : Sig) (N : List Str) : Nat → Scope → Str → Str → List Expr → Pos → Pos → Option ME
  | n + 1, sc, x, f, args, ap, cp => if fine x && vis sc x && ap.endLine == cp.line then (posOf N x).bind fun i => if S.ob.vars.contains x then (S.ob.mth.lookup f).bind fun l => (match args with
        | [] => some (.meth 0 f l (.var i) .nil)
        | e :: es => if (e :: es).all noStar && decide ((e :: es).length < 29) then (cL S N n sc (e :: es)).map fun m => .meth 0 f l (.var i) m else none)
      else match args with
      | [] => if f = "pop" then some (.pop i) else none
      | [e] => if noStar e then (if f = "count" then (if isTxtE e then (cE S N n sc e).map (.met .count (.var i)) else (cE S N n sc e).map (.cnt i)) else if f = "pop" then (cE S N n sc e).map (.popAt i) else if f = "index" then (cE S N n sc e).map (.ix i)
          else if f = "split" then (cE S N n sc e).map (.met .split (.var i)) else if f = "partition" then (cE S N n sc e).map (.met .part (.var i)) else if f = "find" then (cE S N n sc e).map (.met .find (.var i)) else none) else none
      | _ => none
    else if fine x && glb sc x && ap.endLine == cp.line then (match args with
      | [e, e'] => if f = "get" && noStar e && noStar e' then (S.gds.lookup x).bind fun es => (cE S N n sc e).bind fun mk => (cE S N n sc e').map fun mf => .gget es mk mf else none
      | _ => none)
    else none
  | _, _, _, _, _, _, _ => none
noncomputable def cL (S : Sig) (N : List Str) : Nat → Scope → List Expr → Option ME
  | n + 1, _, [] => some .nil
  | n + 1, sc, e :: es => if noStar e then (cE S N n sc e).bind fun m => (cL S N n sc es).map fun r => .cons m r else none
  | _, _, _ => none
noncomputable def cA (S : Sig) (N : List Str) : Nat → Scope → List Expr → Option ME
  | n + 1, _, [] => some .nil
  | n + 1, sc, .Starred e _ :: es => (cE S N n sc e).bind fun m => (cA S N n sc es).map fun r => .star m r
  | n + 1, sc, e :: es => if noStar e then (cE S N n sc e).bind fun m => (cA S N n sc es).map fun r => .cons m r else none
  | _, _, _ => none
noncomputable def cO (S : Sig) (N : List Str) : Nat → Scope → Option Expr → Option ME
  | n + 1, _, none => some .nil
  | n + 1, sc, some e => (cE S N n sc e).map fun m => .cons m .nil
  | _, _, _ => none
/-- what is walked over, for a target -/
noncomputable def cI (S : Sig) (N : List Str) : Nat → Scope → Expr → Expr → Option ME
  | 0, _, _, _ => none
  | n + 1, sc, tg, .Call (.Name f p) args [] pos =>
      if f = "range" then (if glb sc f && S.blt.contains f then (match args with
        | [a] => if noStar a then (cE S N n sc a).map .rng1 else none
        | [a, b] => if noStar a && noStar b then (cE S N n sc a).bind fun ma => (cE S N n sc b).map fun mb => .rng2 ma mb else none
        | [a, b, c] => if noStar a && noStar b && noStar c then (cE S N n sc a).bind fun ma => (cE S N n sc b).bind fun mb => (cE S N n sc c).map fun mc => .rng3 ma mb mc else none
        | _ => none) else none)
      else if f = "zip" then (if glb sc f && S.blt.contains f && isTupE tg then (match args with
        | [a, b] => if noStar a && noStar b then (cE S N n sc a).bind fun ma => (cE S N n sc b).map fun mb => .zp ma mb else none
        | [a, b, c] => if noStar a && noStar b && noStar c then (cE S N n sc a).bind fun ma => (cE S N n sc b).bind fun mb => (cE S N n sc c).map fun mc => .zp3 ma mb mc else none
        | _ => none) else none)
      else if f = "enumerate" then (if glb sc f && S.blt.contains f && isTupE tg then (match args with
        | [a] => if noStar a then (cE S N n sc a).map .enm else none
        | _ => none) else none)
      else (cE S N n sc (.Call (.Name f p) args [] pos)).map .it
  | n + 1, sc, _, e => if isSetE e then none else (cE S N n sc e).map .it
noncomputable def cIfs (S : Sig) (N : List Str) : Nat → Scope → List Expr → Option ME
  | n + 1, _, [] => some .nil
  | n + 1, sc, [c] => cT S N n sc c
  | _, _, _ => none
noncomputable def cComp (S : Sig) (N : List Str) : Nat → Scope → Expr → List Comprehension → Scope → Option ME
  | n + 1, sc, elt, [⟨tg, it, ifs, 0⟩], scope => if blkC N sc scope (ownOf N scope) then
      (cI S N n sc tg it).bind fun mi => (cG N (relS scope sc) (some scope) n tg).bind fun t => (cIfs S N n (relS scope sc) ifs).bind fun mc => (cE S N n (relS scope sc) elt).bind fun me =>
        if inS (slotsT t) ((ownOf N scope).map (·.2)) then some (.comp ((ownOf N scope).map (·.2)) t mi mc me) else none
    else none
  | n + 1, sc, elt, [⟨tg, it, ifs, 0⟩, ⟨tg1, it1, ifs1, 0⟩], scope => if blkC N sc scope (ownOf N scope) then
      (cI S N n sc tg it).bind fun mi => (cG N (relS scope sc) (some scope) n tg).bind fun t => (cIfs S N n (relS scope sc) ifs).bind fun mc =>
      (cI S N n (relS scope sc) tg1 it1).bind fun mi1 => (cG N (relS scope sc) (some scope) n tg1).bind fun t1 => (cIfs S N n (relS scope sc) ifs1).bind fun mc1 => (cE S N n (relS scope sc) elt).bind fun me =>
        if inS (slotsT t) ((ownOf N scope).map (·.2)) && inS (slotsT t1) ((ownOf N scope).map (·.2)) then some (.comp2 ((ownOf N scope).map (·.2)) (slotsT t1) t mi mc t1 mi1 mc1 me) else none
    else none
  | _, _, _, _, _ => none
end
/-! ### the context -/
/-- what is known of the classes -/
structure ObX (S : Sig) (F : Fns) (k : Nat) (X : Cx) : Prop where
  fld : ∀ x, S.ob.flds.contains x = true → ∀ C ∈ EK.c, NoAttr X.K C x
  con : ∀ x l, S.ob.cons.lookup x = some l → ∀ (c : Nat) C z, EK.c[c]? = some C → l[c]? = some z → ∃ v u, Con X.K C x v u ∧ ∀ A H, Rel A H v z
  prp : ∀ x l, S.ob.prp.lookup x = some l → Room (k + 1) X.A ∧ DefsAt X F k l (fun C f => ∃ p, PropOf X.K C x p f)
  mth : ∀ x l, S.ob.mth.lookup x = some l → Room (k + 1) X.A ∧ DefsAt X F k l (fun C f => Meth X.K C x f ∧ PySem.W.fnIn X.K f = true)
  cls : ∀ x q, S.ob.cls.lookup x = some q → Room (k + 1) X.A ∧ ∃ C f, EK.c[q.1]? = some C ∧ Mk X.K C f ∧ X.mg x = some (.ref C) ∧ FnI X.prog X.w X.K X.mg X.base k f (spI F q.2)
  iso : ∀ x l, S.ob.iso.lookup x = some l → ∃ C, X.mg x = some (.ref C) ∧ IsoAt EK.k C l
  rep : S.ob.rep ≠ [] → Room (k + 2) X.A ∧ @DefsAt _ gr1 X F k S.ob.rep (Spec X.K "__repr__")
  eqo : S.ob.eqs.isEmpty = false → EqK X.K EK.c S.ob.eqs
theorem ObX.none {S : Sig} {F : Fns} {k : Nat} {X : Cx} (h : S.ob = {}) : ObX S F k X := by
  refine ⟨fun x hx => ?_, fun x l hx => ?_, fun x l hx => ?_, fun x l hx => ?_, fun x l hx => ?_, fun x l hx => ?_, fun hx => ?_, fun hx => ?_⟩ <;> rw [h] at hx <;> simp at hx
theorem ObX.blk {S : Sig} {F : Fns} {k : Nat} {X : Cx} {scope : Scope} {s : Shared} {H : Hp} {C : Addr} {cl : List (Str × Addr)} {fp : List Addr} (O : ObX S F k X) : ObX S F k (X.blk s H scope (compEnvC scope cl C X.env) fp) := ⟨O.fld, O.con, O.prp, O.mth, O.cls, O.iso, O.rep, O.eqo⟩
theorem ObX.spec {S : Sig} {F : Fns} {k : Nat} {X : Cx} {x : Str} {l : List Nat} (O : ObX S F k X) (h : S.ob.mth.lookup x = some l) : Room (k + 1) X.A ∧ DefsAt X F k l (Spec X.K x) :=
  ⟨(O.mth x l h).1, (O.mth x l h).2.imp fun C f q => ⟨q.1.at_, q.1.fn, q.2⟩⟩
structure CxG (S : Sig) (F : Fns) (k : Nat) (N : List Str) (pm : Option Scope) (X : Cx) : Prop where
  hK : X.K = EK.k
  hN : X.N = N
  nd : N.Nodup
  calm : X.calm = true
  gd : GOk X.A
  gdr : S.blt.contains "repr" = true ∨ S.blt.contains "str" = true → X.A.guards = some []
  gdt : ∀ y ts, S.told.lookup y = some ts → X.A.guards = some []
  room : Room k X.A
  xe : X.xe = fun _ _ => False
  st : ∀ x, stOk X.env.scope pm x = true → X.fn x = true ∨ X.env.scope.names.lookup x = some .local
  fns : ∀ x id, S.fns.lookup x = some id → ∃ f fd ps, X.mg x = some (.ref f) ∧ PySem.W.keepIn X.K (.ref f) = true ∧ Binds X.K fd ps [] ∧ FnG X.prog X.w X.K X.mg X.base k f fd ps (spF F id)
  str : ∀ x id, S.strong.lookup x = some id → ∃ f fd ps, X.mg x = some (.ref f) ∧ PySem.W.keepIn X.K (.ref f) = true ∧ Binds X.K fd ps [] ∧ FnG X.prog X.w X.K X.mg X.base k f fd ps (spF F id)
  kw : ∀ x ks id l, (x, ks, id, l) ∈ S.kws → ∃ f fd ps, X.mg x = some (.ref f) ∧ PySem.W.keepIn X.K (.ref f) = true ∧ (∀ (s : Shared) (ws : List Value), ws.length = ks.length → BindsTo s fd ⟨[], ks.zip ws⟩ (ps.zip (permL l ws))) ∧ FnG X.prog X.w X.K X.mg X.base k f fd ps (spF F id)
  cst : ∀ x d, S.cst.lookup x = some d → ∃ v u, X.mg x = some u ∧ RelV v u ∧ ∀ A H, Rel A H v d
  blt : ∀ x, S.blt.contains x = true → X.mg x = none
  ndt : S.dT = false ∨ fzB = false
  gds : ∀ x es, S.gds.lookup x = some es → ∃ a, X.mg x = some (.ref a) ∧ GdAt X.K a es
  tld : ∀ y ts, S.told.lookup y = some ts → ∃ CA, ToldAt X CA k y ts ∧ ∀ fn q, S.xfn.lookup fn = some q → ∃ f fd ps, X.mg fn = some (.ref f) ∧ PySem.W.keepIn X.K (.ref f) = true ∧ Binds X.K fd ps [] ∧ FnG X.prog X.w X.K X.mg X.base k f fd ps (spF F q.1) ∧ FnX X.prog X.w X.K X.mg X.base k f fd ps (spX F CA q.2)
  ob : ObX S F k X
  tlo : ∀ y ts, S.told.lookup y = some ts → (S.ob.xm ≠ [] ∨ S.ob.mth ≠ []) → ∃ CA, ToldAt X CA (k + 1) y ts ∧ (∀ x l, S.ob.xm.lookup x = some l → DefsX X F CA k l (fun C f => Meth X.K C x f ∧ PySem.W.fnIn X.K f = true)) ∧
    ∀ x ks id l q, (x, ks, id, l) ∈ S.kws → S.xfn.lookup x = some q → ∃ f fd ps, X.mg x = some (.ref f) ∧ PySem.W.keepIn X.K (.ref f) = true ∧ (∀ (s : Shared) (ws : List Value), ws.length = ks.length → BindsTo s fd ⟨[], ks.zip ws⟩ (ps.zip (permL l ws))) ∧ FnX X.prog X.w X.K X.mg X.base k f fd ps (spX F CA q.2)
section
variable {S : Sig} {F : Fns} {k : Nat} {N : List Str} {pm : Option Scope} {X : Cx}
theorem CxG.units (c : CxG S F k N pm X) : X.A.units + 64 < cLine := c.room.units
theorem CxG.units2 (c : CxG S F k N pm X) : X.A.units + 100 < cLine := by have := c.room.un; omega
theorem CxG.blk (c : CxG S F k N pm X) (scope : Scope) (s : Shared) (H : Hp) (C : Addr) (cl : List (Str × Addr)) (fp : List Addr) : CxG S F k N (some scope) (X.blk s H scope (compEnvC scope cl C X.env) fp) := by
  refine ⟨c.hK, c.hN, c.nd, c.calm, c.gd, c.gdr, c.gdt, c.room, rfl, fun x h => ?_, c.fns, c.str, c.kw, c.cst, c.blt, c.ndt, c.gds, fun y ts h => let ⟨CA, T, q⟩ := c.tld y ts h; ⟨CA, T.blk, q⟩, c.ob.blk, fun y ts h ho => let ⟨CA, T, q⟩ := c.tlo y ts h ho; ⟨CA, T.blk, q⟩⟩
  unfold stOk at h
  split at h
  · rename_i e; exact .inr e
  · exact .inl h
  · cases h
end
end MI
/-! MIC: what is compiled runs alike: expressions. -/
namespace MI
open PySem PySem.Spec PyProof.Rows L2
variable [EK] [GR]
section
variable {S : Sig} {F : Fns} {k : Nat} {N : List Str} {pm : Option Scope} {X : Cx}
theorem assign_no {e : Expr} {es : List Expr} {env : Env} (h : noStar e = true) : assignEach (e :: es) env = (false, assign e env) :: assignEach es env := by
  cases e <;> first | rfl | cases h
theorem loc_of {sc : Scope} {x : Str} (h : stOk sc pm x = true) : Loc sc x := by
  unfold stOk at h
  split at h
  · rename_i e; exact .inl e
  · rename_i e; exact .inr e
  · cases h
theorem g_nm (c : CxG S F k N pm X) {x : Str} {i : Nat} {p : Pos} (h : stOk X.env.scope pm x = true) (hi : posOf N x = some i) : PG X (.Name x p) (gName i) :=
  pg_name (by rw [c.hN]; exact c.nd) (by rw [c.hN]; exact posOf_ok hi) (loc_of h) (c.st x h)
mutual
theorem cG_ok (c : CxG S F k N pm X) : ∀ {n : Nat} {e : Expr} {t : MT}, cG N X.env.scope pm n e = some t → PG X e (gM t)
  | 0, e, t, h => by cases e <;> simp [cG] at h
  | n + 1, .Name x p, t, h => by
    simp only [cG] at h
    split at h
    · rename_i hs
      simp only [Option.map_eq_some_iff] at h
      obtain ⟨i, h1, rfl⟩ := h
      exact g_name (g_nm c hs h1)
    · cases h
  | n + 1, .Tuple es q p, t, h => by
    simp only [cG, Option.map_eq_some_iff] at h
    obtain ⟨u, h1, rfl⟩ := h
    obtain ⟨q1, q2, q3⟩ := cGs_ok c h1
    exact g_tup c.calm q1 q2 q3
  | n + 1, .BoolOp .., t, h => by simp [cG] at h
  | n + 1, .NamedExpr .., t, h => by simp [cG] at h
  | n + 1, .BinOp .., t, h => by simp [cG] at h
  | n + 1, .UnaryOp .., t, h => by simp [cG] at h
  | n + 1, .Lambda .., t, h => by simp [cG] at h
  | n + 1, .IfExp .., t, h => by simp [cG] at h
  | n + 1, .Dict .., t, h => by simp [cG] at h
  | n + 1, .Set .., t, h => by simp [cG] at h
  | n + 1, .ListComp .., t, h => by simp [cG] at h
  | n + 1, .SetComp .., t, h => by simp [cG] at h
  | n + 1, .DictComp .., t, h => by simp [cG] at h
  | n + 1, .GeneratorExp .., t, h => by simp [cG] at h
  | n + 1, .Await .., t, h => by simp [cG] at h
  | n + 1, .Yield .., t, h => by simp [cG] at h
  | n + 1, .YieldFrom .., t, h => by simp [cG] at h
  | n + 1, .Compare .., t, h => by simp [cG] at h
  | n + 1, .Call .., t, h => by simp [cG] at h
  | n + 1, .FormattedValue .., t, h => by simp [cG] at h
  | n + 1, .JoinedStr .., t, h => by simp [cG] at h
  | n + 1, .Constant .., t, h => by simp [cG] at h
  | n + 1, .Attribute .., t, h => by simp [cG] at h
  | n + 1, .Subscript .., t, h => by simp [cG] at h
  | n + 1, .Starred .., t, h => by simp [cG] at h
  | n + 1, .List .., t, h => by simp [cG] at h
  | n + 1, .Slice .., t, h => by simp [cG] at h
theorem cGs_ok (c : CxG S F k N pm X) : ∀ {n : Nat} {es : List Expr} {t : MT}, cGs N X.env.scope pm n es = some t → PGs X es (gMs t) ∧ (assignEach es X.env).length = lenT t ∧ (assignEach es X.env).findIdx? (·.1) = none
  | n, [], t, h => by
    have h' : some MT.nil = some t := by cases n <;> simpa [cGs] using h
    cases h'
    exact ⟨gs_nil, rfl, rfl⟩
  | 0, e :: es, t, h => by simp [cGs] at h
  | n + 1, e :: es, t, h => by
    simp only [cGs] at h
    split at h
    · rename_i ns
      simp only [Option.bind_eq_some_iff, Option.map_eq_some_iff] at h
      obtain ⟨t1, h1, u, h2, rfl⟩ := h
      obtain ⟨q1, q2, q3⟩ := cGs_ok c h2
      refine ⟨gs_cons (cG_ok c h1) q1 (by rw [assign_no ns]; rfl), by rw [assign_no ns]; exact congrArg (· + 1) q2, ?_⟩
      rw [assign_no ns, List.findIdx?_cons, q3]
      rfl
    · cases h
end
theorem nmark {b : Expr} (h : isSetE b = false) (op : CmpOp) : behindInMarks op b = false := by
  cases b <;> first | rfl | cases h
theorem noFold {e : Expr} (h : isSetE e = false) (env : Env) (x : Value) : foldedSetIterable e env x = pure x := by
  cases e <;> first | rfl | cases h
theorem plainIx {b : Expr} (h : isSlE b = false) : PlainIx b := by
  intro o i
  cases b <;> first | rfl | cases h
theorem trueIx {b : Expr} (h : isSlE b = false) : ∀ o i, subscripted b true o i = runValue (.builtin "lifetime.subscript" ⟨[o, i], []⟩) := by
  intro o i
  cases b <;> first | rfl | cases h
structure Sn (S : Sig) (F : Fns) (k : Nat) (N : List Str) (n : Nat) : Prop where
  e : ∀ {X pm e m}, CxG S F k N pm X → cE S N n X.env.scope e = some m → Eb X F e m
  b : ∀ {X pm op vs m} (pos : Pos), CxG S F k N pm X → cB S N n X.env.scope op vs = some m → PE X (.BoolOp op vs pos) (tE F m)
  t : ∀ {X pm e m}, CxG S F k N pm X → cT S N n X.env.scope e = some m → PT X e (tT F m)
  bt : ∀ {X pm op vs m} (pos : Pos), CxG S F k N pm X → cBT S N n X.env.scope op vs = some m → PW X (.BoolOp op vs pos) (tT F m)
  cmp : ∀ {X pm a ops cs m} (pos : Pos), CxG S F k N pm X → cCmp S N n X.env.scope a ops cs = some m → Eb X F (.Compare a ops cs pos) m ∧ PT X (.Compare a ops cs pos) (tT F (.tst m))
  call : ∀ {X pm f args m} (p pos : Pos), CxG S F k N pm X → cCall S N n X.env.scope f args = some m → Eb X F (.Call (.Name f p) args [] pos) m
  l : ∀ {X pm es m}, CxG S F k N pm X → cL S N n X.env.scope es = some m → PA X es (tL F m) ∧ (es = [] → m = .nil)
  a : ∀ {X pm es m}, CxG S F k N pm X → cA S N n X.env.scope es = some m → PA X es (tA F m)
  o : ∀ {X pm e m}, CxG S F k N pm X → cO S N n X.env.scope e = some m → PO X e (tO F m)
  i : ∀ {X pm tg e m}, CxG S F k N pm X → cI S N n X.env.scope tg e = some m → PI X tg e (tI F m) ∧ isSetE e = false
  ifs : ∀ {X pm es m}, CxG S F k N pm X → cIfs S N n X.env.scope es = some m → PTs X es (tT F m)
  met : ∀ {X pm x f args ap cp m} (px : Pos), CxG S F k N pm X → cMet S N n X.env.scope x f args ap cp = some m → Eb X F (.Call (.Attribute (.Name x px) f ap) args [] cp) m
  d : ∀ {X pm es m keys is} (pos : Pos), CxG S F k N pm X → cD S N n X.env.scope es = some m → intKeys keys = some is → keys.length = es.length → Dz X F pos keys es is m
  f : ∀ {X pm es m}, CxG S F k N pm X → cF S N n X.env.scope es = some m → Fp X F es m
  kw : ∀ {X pm kws m}, CxG S F k N pm X → cK S N n X.env.scope kws = some m → PK X kws (tA F m)
  comp : ∀ {X pm elt gens scope m} (pos : Pos), CxG S F k N pm X → cComp S N n X.env.scope elt gens scope = some m → Eb X F (.ListComp elt gens scope pos) m
variable {n : Nat}
theorem sn_l (I : Sn S F k N n) {es : List Expr} {m : ME} (c : CxG S F k N pm X) (h : cL S N (n + 1) X.env.scope es = some m) : PA X es (tL F m) ∧ (es = [] → m = .nil) := by
  cases es with
  | nil =>
    simp only [cL, Option.some.injEq] at h
    subst h
    exact ⟨l_nil, fun _ => rfl⟩
  | cons e es =>
    simp only [cL] at h
    split at h
    · rename_i ns
      simp only [Option.bind_eq_some_iff, Option.map_eq_some_iff] at h
      obtain ⟨m1, h1, r, h2, rfl⟩ := h
      exact ⟨l_cons (I.e c h1) (I.l c h2).1 ns, fun z => nomatch z⟩
    · cases h
theorem sn_a (I : Sn S F k N n) {es : List Expr} {m : ME} (c : CxG S F k N pm X) (h : cA S N (n + 1) X.env.scope es = some m) : PA X es (tA F m) := by
  unfold cA at h
  split at h
  · cases h
    exact a_nil
  · simp only [Option.bind_eq_some_iff, Option.map_eq_some_iff] at h
    rename_i q
    cases q
    obtain ⟨m1, h1, r, h2, rfl⟩ := h
    exact a_star (I.e c h1) (I.a c h2)
  · rename_i q
    cases q
    split at h
    · rename_i ns
      simp only [Option.bind_eq_some_iff, Option.map_eq_some_iff] at h
      obtain ⟨m1, h1, r, h2, rfl⟩ := h
      exact a_cons (I.e c h1) (I.a c h2) ns
    · cases h
  · cases h
theorem key_pe {k : Option Expr} {i : Int} (h : intKey k = some i) : ∃ e, k = some e ∧ PE X e (tC (.int i)) := by
  unfold intKey at h
  split at h
  · cases h; exact ⟨_, rfl, pe_int⟩
  · cases h
    exact ⟨_, rfl, (pe_un un_neg pe_int).imp fun σ H Q q => ⟨_, rfl, q⟩⟩
  · cases h
theorem keys_some : ∀ {keys : List (Option Expr)} {is : List Int}, intKeys keys = some is → keys.all (·.isSome) = true ∧ is.length = keys.length
  | [], _, h => by cases h; exact ⟨rfl, rfl⟩
  | k :: r, _, h => by
    simp only [intKeys, Option.bind_eq_some_iff, Option.map_eq_some_iff] at h
    obtain ⟨i, h1, is, h2, rfl⟩ := h
    obtain ⟨q1, q2⟩ := keys_some h2
    have h3 : k.isSome = true := by
      unfold intKey at h1
      split at h1
      · rfl
      · rfl
      · cases h1
    exact ⟨by rw [List.all_cons, h3, q1]; rfl, congrArg (· + 1) q2⟩
theorem sn_d (I : Sn S F k N n) {es : List Expr} {m : ME} {keys : List (Option Expr)} {is : List Int} (pos : Pos) (c : CxG S F k N pm X) (h : cD S N (n + 1) X.env.scope es = some m) (hk : intKeys keys = some is) (hl : keys.length = es.length) : Dz X F pos keys es is m := by
  match es, keys, h, hk, hl with
  | [], [], h, hk, _ =>
    simp only [cD, Option.some.injEq] at h
    subst h
    cases hk
    exact d_nil
  | e :: es, k0 :: keys, h, hk, hl =>
    simp only [cD, Option.bind_eq_some_iff, Option.map_eq_some_iff] at h
    obtain ⟨m1, h1, r, h2, rfl⟩ := h
    simp only [intKeys, Option.bind_eq_some_iff, Option.map_eq_some_iff] at hk
    obtain ⟨i, h3, is, h4, rfl⟩ := hk
    obtain ⟨ke, rfl, pk⟩ := key_pe (X := X) h3
    exact d_cons pk (I.e c h1) (I.d pos c h2 h4 (by simpa using hl))
theorem sn_f (I : Sn S F k N n) {es : List Expr} {m : ME} (c : CxG S F k N pm X) (h : cF S N (n + 1) X.env.scope es = some m) : Fp X F es m := by
  unfold cF at h
  split at h
  · cases h
    exact fp_nil
  · rename_i q; cases q
    simp only [Option.map_eq_some_iff] at h
    obtain ⟨u, h1, rfl⟩ := h
    exact fp_lit (I.f c h1)
  · rename_i q; cases q
    simp only [Option.bind_eq_some_iff, Option.map_eq_some_iff] at h
    obtain ⟨m1, h1, u, h2, rfl⟩ := h
    exact fp_fmt (I.e c h1) (I.f c h2)
  · cases h
theorem sn_k (I : Sn S F k N n) {kws : List Keyword} {m : ME} (c : CxG S F k N pm X) (h : cK S N (n + 1) X.env.scope kws = some m) : PK X kws (tA F m) := by
  cases kws with
  | nil =>
    simp only [cK, Option.some.injEq] at h
    subst h
    exact k_nil
  | cons q r =>
    obtain ⟨nm, e, kp⟩ := q
    simp only [cK, Option.bind_eq_some_iff, Option.map_eq_some_iff] at h
    obtain ⟨m1, h1, r, h2, rfl⟩ := h
    exact k_cons (I.e c h1) (I.kw c h2)
theorem sn_o (I : Sn S F k N n) {e : Option Expr} {m : ME} (c : CxG S F k N pm X) (h : cO S N (n + 1) X.env.scope e = some m) : PO X e (tO F m) := by
  cases e with
  | none =>
    simp only [cO, Option.some.injEq] at h
    subst h
    exact o_none
  | some e =>
    simp only [cO, Option.map_eq_some_iff] at h
    obtain ⟨m1, h1, rfl⟩ := h
    exact o_some (I.e c h1)
theorem sn_ifs (I : Sn S F k N n) {es : List Expr} {m : ME} (c : CxG S F k N pm X) (h : cIfs S N (n + 1) X.env.scope es = some m) : PTs X es (tT F m) := by
  match es, h with
  | [], h =>
    simp only [cIfs, Option.some.injEq] at h
    subst h
    exact ⟨fun pins s σ H Q J ⟨A, M, ρ, b, ρ', r, ev, q⟩ => pts_nil.run pins s σ H Q J (by
      cases ev
      exact q H A M (Shr.refl _ _) (Kp.refl _ _) r)⟩
  | [e], h =>
    simp only [cIfs] at h
    exact pts_one (I.t c h)
  | _ :: _ :: _, h => simp [cIfs] at h
theorem sn_b (I : Sn S F k N n) {op : BoolOp} {vs : List Expr} {m : ME} (pos : Pos) (c : CxG S F k N pm X) (h : cB S N (n + 1) X.env.scope op vs = some m) : PE X (.BoolOp op vs pos) (tE F m) := by
  match op, vs, h with
  | _, [], h => simp [cB] at h
  | op, [a], h => exact pe_one (I.e c (by simpa [cB] using h)).ev
  | .And, a :: b :: r, h =>
    simp only [cB, Option.bind_eq_some_iff, Option.map_eq_some_iff] at h
    obtain ⟨ma, h1, mb, h2, rfl⟩ := h
    exact (e_and (I.e c h1) (I.b pos c h2)).ev
  | .Or, a :: b :: r, h =>
    simp only [cB, Option.bind_eq_some_iff, Option.map_eq_some_iff] at h
    obtain ⟨ma, h1, mb, h2, rfl⟩ := h
    exact (e_or (I.e c h1) (I.b pos c h2)).ev
theorem sn_bt (I : Sn S F k N n) {op : BoolOp} {vs : List Expr} {m : ME} (pos : Pos) (c : CxG S F k N pm X) (h : cBT S N (n + 1) X.env.scope op vs = some m) : PW X (.BoolOp op vs pos) (tT F m) := by
  match op, vs, h with
  | _, [], h => simp [cBT] at h
  | .And, [a], h => exact pw_and1 (I.t c (by simpa [cBT] using h))
  | .Or, [a], h => exact pw_or1 (I.t c (by simpa [cBT] using h))
  | .And, a :: b :: r, h =>
    simp only [cBT, Option.bind_eq_some_iff, Option.map_eq_some_iff] at h
    obtain ⟨ma, h1, mb, h2, rfl⟩ := h
    exact w_and (I.t c h1) (I.bt pos c h2)
  | .Or, a :: b :: r, h =>
    simp only [cBT, Option.bind_eq_some_iff, Option.map_eq_some_iff] at h
    obtain ⟨ma, h1, mb, h2, rfl⟩ := h
    exact w_or (I.t c h1) (I.bt pos c h2)
theorem sn_t (I : Sn S F k N n) {e : Expr} {m : ME} (c : CxG S F k N pm X) (h : cT S N (n + 1) X.env.scope e = some m) : PT X e (tT F m) := by
  unfold cT at h
  split at h
  · rename_i e1
    cases e1
  · rename_i e1; cases e1
    simp only [Option.map_eq_some_iff] at h
    obtain ⟨m1, h1, rfl⟩ := h
    exact t_not (I.t c h1)
  · rename_i e1; cases e1
    simp only [Option.bind_eq_some_iff, Option.map_eq_some_iff] at h
    obtain ⟨ma, h1, mb, h2, rfl⟩ := h
    exact (w_and (I.t c h1) (I.bt _ c h2)).pt
  · rename_i e1; cases e1
    simp only [Option.bind_eq_some_iff, Option.map_eq_some_iff] at h
    obtain ⟨ma, h1, mb, h2, rfl⟩ := h
    exact (w_or (I.t c h1) (I.bt _ c h2)).pt
  · rename_i e1; cases e1
    simp only [Option.map_eq_some_iff] at h
    obtain ⟨m1, h1, rfl⟩ := h
    exact (I.cmp _ c h1).2
  · cases ‹n + 1 = _›
    split at h
    · rename_i hp
      simp only [Option.map_eq_some_iff] at h
      obtain ⟨m1, h1, rfl⟩ := h
      exact t_val (I.e c h1) hp
    · cases h
theorem sn_cmp (I : Sn S F k N n) {a : Expr} {ops : List CmpOp} {cs : List Expr} {m : ME} (pos : Pos) (c : CxG S F k N pm X) (h : cCmp S N (n + 1) X.env.scope a ops cs = some m) :
    Eb X F (.Compare a ops cs pos) m ∧ PT X (.Compare a ops cs pos) (tT F (.tst m)) := by
  unfold cCmp at h
  split at h
  · rename_i e1; cases e1
    split at h
    · simp only [Option.map_eq_some_iff] at h
      obtain ⟨m1, h1, rfl⟩ := h
      exact ⟨e_isN (I.e c h1), t_isN (I.e c h1)⟩
    · simp only [Option.map_eq_some_iff] at h
      obtain ⟨m1, h1, rfl⟩ := h
      exact ⟨e_notN (I.e c h1), t_notN (I.e c h1)⟩
    · simp only [Option.map_eq_some_iff] at h
      obtain ⟨m1, h1, rfl⟩ := h
      exact ⟨e_isB (I.e c h1), t_isB (I.e c h1)⟩
    · simp only [Option.map_eq_some_iff] at h
      obtain ⟨m1, h1, rfl⟩ := h
      exact ⟨e_nisB (I.e c h1), t_nisB (I.e c h1)⟩
    · simp only [Option.bind_eq_some_iff] at h
      obtain ⟨o, h0, h⟩ := h
      split at h
      · cases h
      · rename_i hs
        split at h
        · rename_i hob
          rw [Bool.and_eq_true, Bool.or_eq_true] at hob
          simp only [Option.bind_eq_some_iff, Option.map_eq_some_iff] at h
          obtain ⟨l, h3, ma, h1, mb, h2, rfl⟩ := h
          rw [cmpOf_ok h0]
          obtain ⟨hr, D⟩ := c.ob.spec h3
          have nm := nmark (Bool.eq_false_iff.mpr hs)
          rcases hob.2 with q | q
          · rw [show o = Cop.isin from beq_iff_eq.mp q]
            exact ⟨e_inO (n := false) c.gd c.room D (I.e c h1) (I.e c h2) nm, t_inO (n := false) c.gd c.room D (I.e c h1) (I.e c h2) nm⟩
          · rw [show o = Cop.notin from beq_iff_eq.mp q]
            exact ⟨e_inO (n := true) c.gd c.room D (I.e c h1) (I.e c h2) nm, t_inO (n := true) c.gd c.room D (I.e c h1) (I.e c h2) nm⟩
        split at h
        · rename_i hob
          rw [Bool.and_eq_true, Bool.and_eq_true, Bool.or_eq_true] at hob
          simp only [Option.bind_eq_some_iff, Option.map_eq_some_iff] at h
          obtain ⟨l, h3, ma, h1, mb, h2, rfl⟩ := h
          rw [cmpOf_ok h0]
          obtain ⟨hr, D⟩ := c.ob.spec h3
          have hE := c.ob.eqo (by simpa using hob.1.1)
          have nm := nmark (Bool.eq_false_iff.mpr hs)
          rcases hob.1.2 with q | q
          · rw [show o = Cop.eq from beq_iff_eq.mp q]
            exact ⟨e_eqO (n := false) c.hK c.gd hr D hE (I.e c h1) (I.e c h2) nm, t_eqO (n := false) c.hK c.gd hr D hE (I.e c h1) (I.e c h2) nm⟩
          · rw [show o = Cop.ne from beq_iff_eq.mp q]
            exact ⟨e_eqO (n := true) c.hK c.gd hr D hE (I.e c h1) (I.e c h2) nm, t_eqO (n := true) c.hK c.gd hr D hE (I.e c h1) (I.e c h2) nm⟩
        simp only [Option.bind_eq_some_iff, Option.map_eq_some_iff] at h
        obtain ⟨ma, h1, mb, h2, rfl⟩ := h
        rw [cmpOf_ok h0]
        have nm := nmark (by simpa using hs) (copOf o)
        exact ⟨e_cmp c.units (I.e c h1) (I.e c h2) nm, t_cmp c.units (I.e c h1) (I.e c h2) nm⟩
  · rename_i e1; cases e1
    simp only [Option.bind_eq_some_iff] at h
    obtain ⟨o, h0, o', h0', h⟩ := h
    split at h
    · cases h
    · rename_i hs
      simp only [Option.bind_eq_some_iff, Option.map_eq_some_iff] at h
      obtain ⟨ma, h1, mb, h2, mc, h3, rfl⟩ := h
      rw [cmpOf_ok h0, cmpOf_ok h0']
      have nm := nmark (by simpa using hs) (copOf o')
      exact ⟨e_cmp2 c.units (I.e c h1) (I.e c h2) (I.e c h3) nm, t_cmp2 c.units (I.e c h1) (I.e c h2) (I.e c h3) nm⟩
  · cases h
theorem lit_ok {q : Const} {m : ME} {j : Nat} {p : Pos} (h : litOf q = some m) : Eb X F (.Constant q j p) m := by
  cases q <;> cases h
  · exact e_const pe_non fun _ _ => .non
  · exact e_const pe_bl fun _ _ => .bl _
  · exact e_const pe_int fun _ _ => .int _
  · exact e_const pe_str fun _ _ => .str _
mutual
theorem la_e {Z : Cx} : ∀ {n : Nat} {e : Expr} {m : ME}, Z.K = EK.k → Z.N = N → laE N Z.env.scope n e = some m → Eb Z F e m
  | 0, e, m, hK, _, h => by cases e <;> simp [laE] at h
  | n + 1, .Name x p, m, hK, hN, h => by
    simp only [laE] at h
    split at h
    · rename_i hc
      rw [Bool.and_eq_true] at hc
      obtain ⟨f1, f2, f3⟩ := fine_ok hc.1
      simp only [Option.map_eq_some_iff] at h
      obtain ⟨i, h1, rfl⟩ := h
      exact e_var (pe_var (by rw [hN]; exact posOf_ok h1) (vis_ok hc.2) f1 f2)
    · cases h
  | n + 1, .Constant c j p, m, hK, _, h => by
    simp only [laE] at h
    exact lit_ok h
  | n + 1, .UnaryOp .USub a p, m, hK, hN, h => by
    simp only [laE, Option.map_eq_some_iff] at h
    obtain ⟨m1, h1, rfl⟩ := h
    exact e_neg (la_e hK hN h1)
  | n + 1, .UnaryOp .Not a p, m, hK, hN, h => by simp [laE] at h
  | n + 1, .UnaryOp .UAdd a p, m, hK, hN, h => by simp [laE] at h
  | n + 1, .UnaryOp .Invert a p, m, hK, hN, h => by simp [laE] at h
  | n + 1, .Tuple es q p, m, hK, hN, h => by
    simp only [laE, Option.map_eq_some_iff] at h
    obtain ⟨m1, h1, rfl⟩ := h
    exact e_tup (la_a hK hN h1)
  | n + 1, .BoolOp .., m, hK, _, h => by simp [laE] at h
  | n + 1, .NamedExpr .., m, hK, _, h => by simp [laE] at h
  | n + 1, .BinOp .., m, hK, _, h => by simp [laE] at h
  | n + 1, .Lambda .., m, hK, _, h => by simp [laE] at h
  | n + 1, .IfExp .., m, hK, _, h => by simp [laE] at h
  | n + 1, .Dict .., m, hK, _, h => by simp [laE] at h
  | n + 1, .Set .., m, hK, _, h => by simp [laE] at h
  | n + 1, .ListComp .., m, hK, _, h => by simp [laE] at h
  | n + 1, .SetComp .., m, hK, _, h => by simp [laE] at h
  | n + 1, .DictComp .., m, hK, _, h => by simp [laE] at h
  | n + 1, .GeneratorExp .., m, hK, _, h => by simp [laE] at h
  | n + 1, .Await .., m, hK, _, h => by simp [laE] at h
  | n + 1, .Yield .., m, hK, _, h => by simp [laE] at h
  | n + 1, .YieldFrom .., m, hK, _, h => by simp [laE] at h
  | n + 1, .Compare .., m, hK, _, h => by simp [laE] at h
  | n + 1, .Call .., m, hK, _, h => by simp [laE] at h
  | n + 1, .FormattedValue .., m, hK, _, h => by simp [laE] at h
  | n + 1, .JoinedStr .., m, hK, _, h => by simp [laE] at h
  | n + 1, .Attribute .., m, hK, _, h => by simp [laE] at h
  | n + 1, .Subscript a i p, m, hK, hN, h => by
    cases i with
    | Constant c j q =>
      simp only [laE, Option.bind_eq_some_iff, Option.map_eq_some_iff] at h
      obtain ⟨ma, h1, mi, h2, rfl⟩ := h
      exact e_idx hK (la_e hK hN h1) (lit_ok h2) (plainIx rfl)
    | _ => simp [laE] at h
  | n + 1, .Starred .., m, hK, _, h => by simp [laE] at h
  | n + 1, .List .., m, hK, _, h => by simp [laE] at h
  | n + 1, .Slice .., m, hK, _, h => by simp [laE] at h
theorem la_a {Z : Cx} : ∀ {n : Nat} {es : List Expr} {m : ME}, Z.K = EK.k → Z.N = N → laA N Z.env.scope n es = some m → PA Z es (tA F m)
  | 0, es, m, hK, _, h => by cases es <;> simp [laA] at h
  | n + 1, [], m, hK, _, h => by
    simp only [laA, Option.some.injEq] at h
    subst h
    exact a_nil
  | n + 1, e :: es, m, hK, hN, h => by
    simp only [laA] at h
    split at h
    · rename_i ns
      simp only [Option.bind_eq_some_iff, Option.map_eq_some_iff] at h
      obtain ⟨m1, h1, r, h2, rfl⟩ := h
      exact a_cons (la_e hK hN h1) (la_a hK hN h2) ns
    · cases h
end
theorem la_l {Z : Cx} : ∀ {n : Nat} {es : List Expr} {m : ME}, Z.K = EK.k → Z.N = N → laL N Z.env.scope n es = some m → PA Z es (tL F m)
  | 0, es, m, hK, _, h => by cases es <;> simp [laL] at h
  | n + 1, [], m, hK, _, h => by
    simp only [laL, Option.some.injEq] at h
    subst h
    exact l_nil
  | n + 1, e :: es, m, hK, hN, h => by
    simp only [laL] at h
    split at h
    · rename_i ns
      simp only [Option.bind_eq_some_iff, Option.map_eq_some_iff] at h
      obtain ⟨m1, h1, r, h2, rfl⟩ := h
      exact l_cons (la_e hK hN h1) (la_l hK hN h2) ns
    · cases h
theorem la_k {Z : Cx} : ∀ {n : Nat} {ks : List Keyword} {m : ME}, Z.K = EK.k → Z.N = N → laK N Z.env.scope n ks = some m → PK Z ks (tA F m)
  | 0, ks, m, hK, _, h => by cases ks <;> simp [laK] at h
  | n + 1, [], m, hK, _, h => by
    simp only [laK, Option.some.injEq] at h
    subst h
    exact k_nil
  | n + 1, ⟨some nm, e, kp⟩ :: ks, m, hK, hN, h => by
    simp only [laK, Option.bind_eq_some_iff, Option.map_eq_some_iff] at h
    obtain ⟨m1, h1, r, h2, rfl⟩ := h
    exact k_cons (la_e hK hN h1) (la_k hK hN h2)
  | n + 1, ⟨none, e, kp⟩ :: ks, m, hK, hN, h => by simp [laK] at h
/-- a lambda's body over an object -/
structure LbOk (X : Cx) (F : Fns) (CA : CAs) (k : Nat) (sc : Scope) (e : Expr) (p : ME × ME) : Prop where
  x : ∀ (A : Around) (outer : List Env) (s : Shared) (H : Hp) (E : XK) (f c : Addr), A.guards = some [] → Room (k + 1) (A.deeper (LamX.lamEnv X sc s.heap.objs.size f c)) → PE (LamX.lamCx X A outer s H E sc f c) e (tXE F CA p.1 E)
  v : ∀ (A : Around) (outer : List Env) (s : Shared) (H : Hp) (E : XK) (f c : Addr), A.guards = some [] → Room (k + 1) (A.deeper (LamX.lamEnv X sc s.heap.objs.size f c)) → PE (LamX.lamCx X A outer s H E sc f c) e (tE F p.2)
theorem lb_pass {X : Cx} {A : Around} {outer : List Env} {s : Shared} {H : Hp} {E : XK} {sc : Scope} {f c : Addr} : ∀ σ, PassesAt (L2.CX (LamX.lamCx X A outer s H E sc f c).prog (LamX.lamCx X A outer s H E sc f c).w) (LamX.lamCx X A outer s H E sc f c) σ E := fun σ => by
  have tk : Takes (LamX.lamCx X A outer s H E sc f c) (fun cls d _ H => E cls d H) := takes_of rfl rfl rfl rfl
  exact passAt tk σ
theorem laB0_ok (c : CxG S F k N pm X) {CA : CAs} {sc : Scope} {e : Expr} {p : ME × ME} (hD : ∀ x l, S.ob.xm.lookup x = some l → DefsX X F CA k l (fun C f => Meth X.K C x f ∧ PySem.W.fnIn X.K f = true)) (hXK : ∀ x ks id l q, (x, ks, id, l) ∈ S.kws → S.xfn.lookup x = some q → ∃ f fd ps, X.mg x = some (.ref f) ∧ PySem.W.keepIn X.K (.ref f) = true ∧ (∀ (s : Shared) (ws : List Value), ws.length = ks.length → BindsTo s fd ⟨[], ks.zip ws⟩ (ps.zip (permL l ws))) ∧ FnX X.prog X.w X.K X.mg X.base k f fd ps (spX F CA q.2)) (h : laB0 S N sc e = some p) : LbOk X F CA k sc e p ∧ S.ob.mth ≠ [] := by
  have ne : ∀ {x : Str} {l : List Nat}, S.ob.mth.lookup x = some l → S.ob.mth ≠ [] := fun {x l} h e => by rw [e] at h; cases h
  unfold laB0 at h
  split at h
  · split at h
    · rename_i hc
      simp only [Bool.and_eq_true, decide_eq_true_eq] at hc
      obtain ⟨⟨⟨⟨⟨c0, c1⟩, c2⟩, c3⟩, c4⟩, c5⟩ := hc
      obtain ⟨f1, f2, f3⟩ := fine_ok c1
      simp only [Option.bind_eq_some_iff, Option.map_eq_some_iff] at h
      obtain ⟨i, h0, l, h1, m, h2, rfl⟩ := h
      obtain ⟨_, D⟩ := c.ob.mth _ _ h1
      refine ⟨⟨fun A outer s H E f' c' hA hr => ?_, fun A outer s H E f' c' hA hr => ?_⟩, ne h1⟩
      · have pv : ∀ px : Pos, Eb (LamX.lamCx X A outer s H E sc f' c') F (.Name _ px) (.var i) := fun px => e_var (pe_var (by show X.N[i]? = _; rw [c.hN]; exact posOf_ok h0) (vis_ok c2) f1 f2)
        have pa := la_l (F := F) (Z := LamX.lamCx X A outer s H E sc f' c') c.hK c.hN h2
        dsimp only
        split
        · rename_i xl hx
          rename_i args _ _ _
          cases args with
          | nil =>
            simp only [laL, Option.some.injEq] at h2
            subst h2
            exact x_meth0 (X := LamX.lamCx X A outer s H E sc f' c') c.hK hA (hr.mono (by omega)) (fun cc C id q1 q2 => let ⟨f, fd, ps, a, b, g⟩ := hD _ _ hx cc C id q1 q2; ⟨f, fd, ps, a.1, b, g⟩) lb_pass (pv _) (ht_of (ab_ok rfl) rfl (by simp) c3)
          | cons e0 es0 => exact x_meth (X := LamX.lamCx X A outer s H E sc f' c') c.hK hA (hr.mono (by omega)) (fun cc C id q1 q2 => let ⟨f, fd, ps, a, b, g⟩ := hD _ _ hx cc C id q1 q2; ⟨f, fd, ps, a.1, b, g⟩) lb_pass (pv _) pa c4 (ht_of (ab_ok rfl) c4 c5 c3)
        · exact x_none rfl
      · have pv : ∀ px : Pos, Eb (LamX.lamCx X A outer s H E sc f' c') F (.Name _ px) (.var i) := fun px => e_var (pe_var (by show X.N[i]? = _; rw [c.hN]; exact posOf_ok h0) (vis_ok c2) f1 f2)
        have pa := la_l (F := F) (Z := LamX.lamCx X A outer s H E sc f' c') c.hK c.hN h2
        rename_i args _ _
        cases args with
        | nil =>
          simp only [laL, Option.some.injEq] at h2
          subst h2
          exact (e_meth0 (X := LamX.lamCx X A outer s H E sc f' c') (k := k) c.hK (.inr hA) (hr.mono (by omega)) (D.imp fun C f q => q.1) (pv _) (ht_of (ab_ok rfl) rfl (by simp) c3)).ev
        | cons e0 es0 => exact (e_meth (X := LamX.lamCx X A outer s H E sc f' c') (k := k) c.hK (.inr hA) (hr.mono (by omega)) (D.imp fun C f q => q.1) (pv _) pa c4 (ht_of (ab_ok rfl) c4 c5 c3)).ev
    · cases h
  · split at h
    · rename_i hc
      simp only [Bool.and_eq_true, Bool.not_eq_true'] at hc
      obtain ⟨⟨⟨c0, c1⟩, c2⟩, c3⟩ := hc
      obtain ⟨f1, f2, f3⟩ := fine_ok c1
      simp only [Option.bind_eq_some_iff, Option.map_eq_some_iff] at h
      obtain ⟨i, h0, l, h1, xl, hx, mb, h2, rfl⟩ := h
      obtain ⟨_, D⟩ := c.ob.spec h1
      refine ⟨⟨fun A outer s H E f' c' hA hr => ?_, fun A outer s H E f' c' hA hr => ?_⟩, ne h1⟩
      · have pv : ∀ px : Pos, Eb (LamX.lamCx X A outer s H E sc f' c') F (.Name _ px) (.var i) := fun px => e_var (pe_var (by show X.N[i]? = _; rw [c.hN]; exact posOf_ok h0) (vis_ok c2) f1 f2)
        have pb := la_e (F := F) (Z := LamX.lamCx X A outer s H E sc f' c') c.hK c.hN h2
        exact x_item (X := LamX.lamCx X A outer s H E sc f' c') hA hr (fun cc C id q1 q2 => let ⟨f, fd, ps, a, b, g⟩ := hD _ _ hx cc C id q1 q2; ⟨f, fd, ps, ⟨a.1.at_, a.1.fn, a.2⟩, b, g⟩) lb_pass (pv _) pb (trueIx c3)
      · have pv : ∀ px : Pos, Eb (LamX.lamCx X A outer s H E sc f' c') F (.Name _ px) (.var i) := fun px => e_var (pe_var (by show X.N[i]? = _; rw [c.hN]; exact posOf_ok h0) (vis_ok c2) f1 f2)
        have pb := la_e (F := F) (Z := LamX.lamCx X A outer s H E sc f' c') c.hK c.hN h2
        exact (e_itemO (X := LamX.lamCx X A outer s H E sc f' c') (k := k) (.inr hA) hr D (pv _) pb (trueIx c3)).ev
    · cases h
  · split at h
    · rename_i hc
      simp only [Bool.and_eq_true] at hc
      obtain ⟨⟨⟨c0, c1⟩, c2⟩, c3⟩ := hc
      obtain ⟨f1, f2, f3⟩ := fine_ok c1
      simp only [Option.bind_eq_some_iff, Option.map_eq_some_iff] at h
      obtain ⟨i, h0, l, h1, xl, hx, mb, h2, rfl⟩ := h
      obtain ⟨_, D⟩ := c.ob.spec h1
      refine ⟨⟨fun A outer s H E f' c' hA hr => ?_, fun A outer s H E f' c' hA hr => ?_⟩, ne h1⟩
      · have pv : ∀ px : Pos, Eb (LamX.lamCx X A outer s H E sc f' c') F (.Name _ px) (.var i) := fun px => e_var (pe_var (by show X.N[i]? = _; rw [c.hN]; exact posOf_ok h0) (vis_ok c2) f1 f2)
        have pb := la_e (F := F) (Z := LamX.lamCx X A outer s H E sc f' c') c.hK c.hN h2
        exact x_callO (X := LamX.lamCx X A outer s H E sc f' c') hA (hr.mono (by omega)) (fun cc C id q1 q2 => let ⟨f, fd, ps, a, b, g⟩ := hD _ _ hx cc C id q1 q2; ⟨f, fd, ps, ⟨a.1.at_, a.1.fn, a.2⟩, b, g⟩) lb_pass (pv _) pb c3 rfl
      · have pv : ∀ px : Pos, Eb (LamX.lamCx X A outer s H E sc f' c') F (.Name _ px) (.var i) := fun px => e_var (pe_var (by show X.N[i]? = _; rw [c.hN]; exact posOf_ok h0) (vis_ok c2) f1 f2)
        have pb := la_e (F := F) (Z := LamX.lamCx X A outer s H E sc f' c') c.hK c.hN h2
        exact (e_callO (X := LamX.lamCx X A outer s H E sc f' c') (k := k) (.inr hA) (hr.mono (by omega)) D (pv _) pb c3 rfl).ev
    · cases h
  · split at h
    · rename_i y0 p0 k0 ks0 pos0 hc
      simp only [Bool.and_eq_true, Bool.not_eq_true'] at hc
      obtain ⟨⟨c1, c2⟩, c3⟩ := hc
      obtain ⟨f1, f2, f3⟩ := fine_ok c2
      simp only [Option.bind_eq_some_iff] at h
      obtain ⟨ns, h1, q, h2, z, h3, h⟩ := h
      split at h
      rotate_left
      · cases h
      rename_i hlen
      simp only [Option.map_eq_some_iff] at h
      obtain ⟨m, h4, rfl⟩ := h
      have hm := List.mem_of_find?_eq_some h2
      have hp := List.find?_some h2
      simp only [Bool.and_eq_true, beq_iff_eq] at hp
      obtain ⟨e1, e2⟩ := hp
      obtain ⟨qx, qn, qi, ql⟩ := q
      dsimp only at e1 e2 hlen
      subst e1 e2
      have ne0 : S.ob.mth ≠ [] := fun e => by rw [e] at c3; cases c3
      obtain ⟨f, fd, ps, g1, g2, g3, G⟩ := c.kw _ _ _ _ hm
      obtain ⟨fx, fdx, psx, x1, x2, x3, GX⟩ := hXK _ _ _ _ _ hm h3
      refine ⟨⟨fun A outer s H E f' c' hA hr => ?_, fun A outer s H E f' c' hA hr => ?_⟩, ne0⟩
      · exact x_callK (X := LamX.lamCx X A outer s H E sc f' c') GX hA (hr.mono (by omega)) (glb_ok c1) x1 x2 x3 hlen h1 lb_pass (la_k (F := F) (Z := LamX.lamCx X A outer s H E sc f' c') c.hK c.hN h4) f1
      · exact (e_callK (X := LamX.lamCx X A outer s H E sc f' c') (k := k) G (.inr hA) (hr.mono (by omega)) (glb_ok c1) g1 g2 g3 hlen h1 (la_k (F := F) (Z := LamX.lamCx X A outer s H E sc f' c') c.hK c.hN h4) f1).ev
    · cases h
  · cases h
theorem laB_ok (c : CxG S F k N pm X) {CA : CAs} {sc : Scope} {e : Expr} {p : ME × ME} (hD : ∀ x l, S.ob.xm.lookup x = some l → DefsX X F CA k l (fun C f => Meth X.K C x f ∧ PySem.W.fnIn X.K f = true)) (hXK : ∀ x ks id l q, (x, ks, id, l) ∈ S.kws → S.xfn.lookup x = some q → ∃ f fd ps, X.mg x = some (.ref f) ∧ PySem.W.keepIn X.K (.ref f) = true ∧ (∀ (s : Shared) (ws : List Value), ws.length = ks.length → BindsTo s fd ⟨[], ks.zip ws⟩ (ps.zip (permL l ws))) ∧ FnX X.prog X.w X.K X.mg X.base k f fd ps (spX F CA q.2)) (h : laB S N sc e = some p) : LbOk X F CA k sc e p := by
  unfold laB at h
  split at h
  · simp only [Option.bind_eq_some_iff, Option.map_eq_some_iff] at h
    obtain ⟨ma, h1, mc, h2, q1, h3, q2, h4, rfl⟩ := h
    obtain ⟨l1, _⟩ := laB0_ok c hD hXK h3
    obtain ⟨l2, _⟩ := laB0_ok c hD hXK h4
    have ts : ∀ (A : Around) (outer : List Env) (s : Shared) (H : Hp) (E : XK) (f' c' : Addr) (j0 : Nat) (q1 q2 : Pos), Room (k + 1) (A.deeper (LamX.lamEnv X sc s.heap.objs.size f' c')) → PT (LamX.lamCx X A outer s H E sc f' c') (.Compare _ [.Eq] [.Constant _ j0 q1] q2) (tT F (.tst (.cmp .eq ma mc))) := fun A outer s H E f' c' j0 q1 q2 hr =>
      t_cmp (X := LamX.lamCx X A outer s H E sc f' c') (op := .eq) hr.units (la_e (F := F) (Z := LamX.lamCx X A outer s H E sc f' c') c.hK c.hN h1) (lit_ok h2) rfl
    refine ⟨fun A outer s H E f' c' hA hr => x_ifE (ts A outer s H E f' c' _ _ _ hr) (l1.x A outer s H E f' c' hA hr) (l2.x A outer s H E f' c' hA hr), fun A outer s H E f' c' hA hr => ?_⟩
    exact (pe_ifExp (ts A outer s H E f' c' _ _ _ hr) (l1.v A outer s H E f' c' hA hr) (l2.v A outer s H E f' c' hA hr)).imp fun σ H Q ⟨A, M, ρ, d, fr, ρ', r, ev, q⟩ => by
      simp only [evE, Option.bind_eq_some_iff] at ev
      obtain ⟨⟨t, ρ1⟩, g1, g2⟩ := ev
      refine ⟨A, M, ρ, t, ρ1, r, g1, fun H1 A1 M1 s1 k1 r1 => ?_⟩
      cases t with
      | true => exact ⟨A1, M1, ρ1, d, fr, ρ', r1, g2, fun v H' p => q v H' (p.after s1 k1)⟩
      | false => exact ⟨A1, M1, ρ1, d, fr, ρ', r1, g2, fun v H' p => q v H' (p.after s1 k1)⟩
  · exact (laB0_ok c hD hXK h).1
theorem laB_ne {sc : Scope} {e : Expr} {p : ME × ME} (h : laB S N sc e = some p) : S.ob.mth ≠ [] := by
  have ne : ∀ {x : Str} {l : List Nat}, S.ob.mth.lookup x = some l → S.ob.mth ≠ [] := fun {x l} h e => by rw [e] at h; cases h
  have z : ∀ {e : Expr} {p : ME × ME}, laB0 S N sc e = some p → S.ob.mth ≠ [] := fun {e p} h => by
    unfold laB0 at h
    split at h
    · split at h
      · simp only [Option.bind_eq_some_iff, Option.map_eq_some_iff] at h
        obtain ⟨i, h0, l, h1, _⟩ := h
        exact ne h1
      · cases h
    · split at h
      · simp only [Option.bind_eq_some_iff, Option.map_eq_some_iff] at h
        obtain ⟨i, h0, l, h1, _⟩ := h
        exact ne h1
      · cases h
    · split at h
      · simp only [Option.bind_eq_some_iff, Option.map_eq_some_iff] at h
        obtain ⟨i, h0, l, h1, _⟩ := h
        exact ne h1
      · cases h
    · split at h
      · rename_i hc
        simp only [Bool.and_eq_true, Bool.not_eq_true'] at hc
        exact fun e => by have := hc.2; rw [e] at this; cases this
      · cases h
    · cases h
  unfold laB at h
  split at h
  · simp only [Option.bind_eq_some_iff, Option.map_eq_some_iff] at h
    obtain ⟨ma, h1, mc, h2, q1, h3, _⟩ := h
    exact z h3
  · exact z h
theorem sn_told {y : Str} {args : List Expr} {m : ME} (p pos : Pos) (c : CxG S F k N pm X) (hg : Gl X y) (hd : (y == ("__debug__" : Str)) = false) (h : cTold S N X.env.scope y args = some m) : Eb X F (.Call (.Name y p) args [] pos) m := by
  unfold cTold at h
  split at h
  · split at h
    · split at h
      · rename_i hc
        simp only [Bool.and_eq_true] at hc
        obtain ⟨⟨⟨c1, c2⟩, c3⟩, c4⟩ := hc
        simp only [Option.bind_eq_some_iff, Option.map_eq_some_iff] at h
        obtain ⟨ts, h1, q, h2, m1, h3, rfl⟩ := h
        obtain ⟨CA, T, hx⟩ := c.tld _ _ h1
        exact e_told T (c.gdt _ _ h1) hg hd (hx _ _ h2) (glb_ok c2) (fine_ok c3).1 (LamX.lamS_by c1) rfl (fun _ _ _ _ _ => rfl) (fun Z e1 e2 e3 => la_l (by rw [e3]; exact c.hK) (by rw [e1, c.hN]) (by rw [e2]; exact h3)) (by simpa [List.all_cons, Bool.and_eq_true] using c4)
      · split at h
        · rename_i hc
          rw [Bool.and_eq_true] at hc
          simp only [Option.bind_eq_some_iff, Option.map_eq_some_iff] at h
          obtain ⟨ts, h1, q, h2, rfl⟩ := h
          obtain ⟨CA, T, hD, hXK⟩ := c.tlo _ _ h1 (.inr (laB_ne h2))
          have L := laB_ok c hD hXK h2
          exact e_toldE T (c.gdt _ _ h1) hg hd (LamX.lamS_by hc.1) rfl (fun _ _ _ _ _ => rfl) L.x L.v
        · cases h
    · split at h
      · rename_i hc
        simp only [Option.bind_eq_some_iff, Option.map_eq_some_iff] at h
        obtain ⟨ts, h1, q, h2, rfl⟩ := h
        obtain ⟨CA, T, hD, hXK⟩ := c.tlo _ _ h1 (.inr (laB_ne h2))
        have L := laB_ok c hD hXK h2
        exact e_toldE T (c.gdt _ _ h1) hg hd (LamX.lamS_by hc) rfl (fun _ _ _ _ _ => rfl) L.x L.v
      · cases h
  · cases h
theorem sn_call (I : Sn S F k N n) {f : Str} {args : List Expr} {m : ME} (p pos : Pos) (c : CxG S F k N pm X) (h : cCall S N (n + 1) X.env.scope f args = some m) : Eb X F (.Call (.Name f p) args [] pos) m := by
  simp only [cCall] at h
  split at h
  · rename_i hg
    rw [Bool.and_eq_true] at hg
    have hgl : Gl X f := glb_ok hg.1
    obtain ⟨f1, f2, f3⟩ := fine_ok hg.2
    split at h
    · rename_i id hid
      obtain ⟨fa, fd, ps, g1, g2, g3, g4⟩ := c.fns f id hid
      split at h
      · rename_i ns
        split at h
        · split at h
          · rename_i hn
            split at h
            · simp only [newSnd, Bool.and_eq_true] at hn
              obtain ⟨⟨⟨_, n1⟩, n2⟩, _⟩ := hn
              obtain ⟨k1, k2, _⟩ := fine_ok n1
              simp only [Option.bind_eq_some_iff, Option.map_eq_some_iff] at h
              obtain ⟨i, h0, mb, h1, m1, h2, rfl⟩ := h
              exact e_callG g4 c.gd c.room hgl g1 g2 g3 (pe_var (by rw [c.hN]; exact posOf_ok h0) (vis_ok n2) k1 k2) (I.e c h1) (I.l c h2).1 f1 ns
            · cases h
          split at h
          · simp only [Option.bind_eq_some_iff, Option.map_eq_some_iff] at h
            obtain ⟨ma, h0, m1, h1, rfl⟩ := h
            exact e_callF g4 c.gd c.room hgl g1 g2 g3 (I.e c h0) (I.l c h1).1 f1 ns
          · split at h
            · simp only [Option.map_eq_some_iff] at h
              obtain ⟨m1, h1, rfl⟩ := h
              exact e_callV g4 c.gd c.room hgl g1 g2 g3 (I.l c h1).1 f1 ns
            simp only [Option.map_eq_some_iff] at h
            obtain ⟨m1, h1, rfl⟩ := h
            cases hs : S.strong.lookup f with
            | none => exact e_call g4 c.gd c.room hgl g1 g2 g3 (I.l c h1).1 f1 ns
            | some sid =>
              obtain ⟨fa', fd', ps', k1, k2, k3, k4⟩ := c.str f sid hs
              exact e_call k4 c.gd c.room hgl k1 k2 k3 (I.l c h1).1 f1 ns
        · simp only [Option.map_eq_some_iff] at h
          obtain ⟨m1, h1, rfl⟩ := h
          rw [(I.l c h1).2 rfl]
          exact e_call0 g4 c.gd c.room hgl g1 g2 g3 f1
      · cases h
    · split at h
      · rename_i hb
        have hm := c.blt f hb
        split at h
        · rename_i hi
          subst hi
          split at h
          · split at h
            · rename_i hc
              simp only [Bool.and_eq_true] at hc
              obtain ⟨⟨⟨c1, c2⟩, c3⟩, c4⟩ := hc
              simp only [Option.bind_eq_some_iff, Option.map_eq_some_iff] at h
              obtain ⟨b, h0, ma, h1, rfl⟩ := h
              obtain ⟨nm, t1, t2⟩ := isOf_ok h0
              obtain ⟨k1, k2, k3⟩ := fine_ok c2
              exact e_is c.hK t1 hgl hm (by decide +kernel) (glb_ok c1) (c.blt _ c3) t2 k3 k1 (I.e c h1) c4
            · split at h
              · rename_i hc
                simp only [Bool.and_eq_true] at hc
                obtain ⟨⟨c1, c2⟩, c4⟩ := hc
                simp only [Option.bind_eq_some_iff, Option.map_eq_some_iff] at h
                obtain ⟨l, h0, ma, h1, rfl⟩ := h
                obtain ⟨C, g1, g2⟩ := c.ob.iso _ _ h0
                exact e_isO c.hK hgl hm (glb_ok c1) g1 (fine_ok c2).1 g2 (I.e c h1) c4
              · cases h
          · cases h
        · split at h
          · rename_i hr
            simp only [Bool.and_eq_true, decide_eq_true_eq] at hr
            obtain ⟨rfl, hne⟩ := hr
            split at h
            · split at h
              · rename_i ns
                simp only [Option.map_eq_some_iff] at h
                obtain ⟨m1, h1, rfl⟩ := h
                obtain ⟨hr, D⟩ := c.ob.rep (by intro e; rw [e] at hne; simp at hne)
                exact @e_rep _ X F m1 S.ob.rep gr1 rfl k _ p pos (c.gdr (.inl hb)) hr D hgl hm (I.e c h1) ns
              · cases h
            · cases h
          split at h
          · rename_i hr
            simp only [Bool.and_eq_true, decide_eq_true_eq] at hr
            obtain ⟨rfl, _⟩ := hr
            split at h
            · split at h
              · rename_i ns
                simp only [Option.bind_eq_some_iff, Option.map_eq_some_iff] at h
                obtain ⟨l, h0, m1, h1, rfl⟩ := h
                obtain ⟨hr, D⟩ := c.ob.spec h0
                exact e_reprO c.gd hr D hgl hm (I.e c h1) ns
              · cases h
            · cases h
          · have bi : ∀ {e : Expr} {es : List Expr} {b : Bi} {m1 : ME}, (e :: es).all noStar = true → biOf f (e :: es).length = some b → cL S N n X.env.scope (e :: es) = some m1 → Eb X F (.Call (.Name f p) (e :: es) [] pos) (.bi b m1) := fun ns h0 h1 => by
              obtain ⟨t1, t2⟩ := biOf_ok h0
              rcases t2 with ⟨id, t2, t3⟩ | ⟨id, t2, t3⟩
              · exact e_biB c.hK c.calm (fun z => c.gdr ((biOf_rs h0 z).imp (fun e => by rw [← e]; exact hb) fun e => by rw [← e]; exact hb)) c.units2 t1 t2 hgl hm t3 (I.l c h1).1 ns f3 f1
              · exact e_biT c.hK c.calm (fun z => c.gdr ((biOf_rs h0 z).imp (fun e => by rw [← e]; exact hb) fun e => by rw [← e]; exact hb)) c.units2 t1 t2 hgl hm t3 (I.l c h1).1 ns f3 f1
            split at h
            · cases h
            · split at h
              · rename_i hc
                simp only [Bool.and_eq_true, decide_eq_true_eq] at hc
                obtain ⟨⟨⟨⟨c1, c2⟩, c3⟩, c4⟩, c5⟩ := hc
                subst c1
                subst c2
                simp only [Option.map_eq_some_iff] at h
                obtain ⟨ma, h1, rfl⟩ := h
                exact e_sset c.calm c.units2 hgl hm (glb_ok c3) (c.blt _ c4) (I.e c h1) c5
              · split at h
                · rename_i hc
                  simp only [Bool.and_eq_true, decide_eq_true_eq] at hc
                  obtain ⟨⟨⟨⟨c1, c2⟩, c3⟩, c4⟩, c5⟩ := hc
                  subst c1
                  subst c2
                  simp only [Option.map_eq_some_iff] at h
                  obtain ⟨ma, h1, rfl⟩ := h
                  exact e_lset c.calm hgl hm (glb_ok c3) (c.blt _ c4) (I.e c h1) c5
                · split at h
                  · rename_i hc
                    simp only [Bool.and_eq_true, Bool.or_eq_true, decide_eq_true_eq] at hc
                    obtain ⟨⟨⟨⟨c1, c2⟩, c3⟩, c4⟩, c5⟩ := hc
                    subst c1
                    simp only [Option.map_eq_some_iff] at h
                    obtain ⟨ma, h1, rfl⟩ := h
                    rcases c2 with c2 | c2
                    · subst c2
                      exact e_cvT c.calm hgl hm (rg_1 (glb_ok c3) (c.blt _ c4) (I.e c h1) c5) rfl
                    · subst c2
                      exact e_cvL c.calm hgl hm (rg_1 (glb_ok c3) (c.blt _ c4) (I.e c h1) c5) rfl
                  · simp only [Option.bind_eq_some_iff, Option.map_eq_some_iff] at h
                    obtain ⟨b, h0, m1, h1, rfl⟩ := h
                    exact bi rfl h0 h1
            · split at h
              · rename_i hc
                simp only [Bool.and_eq_true, Bool.or_eq_true, decide_eq_true_eq] at hc
                obtain ⟨⟨⟨⟨⟨c1, c2⟩, c3⟩, c4⟩, c5⟩, c6⟩ := hc
                subst c1
                simp only [Option.bind_eq_some_iff, Option.map_eq_some_iff] at h
                obtain ⟨ma, h1, mb, h2, rfl⟩ := h
                rcases c2 with c2 | c2
                · subst c2
                  exact e_cvT c.calm hgl hm (rg_2 (glb_ok c3) (c.blt _ c4) (I.e c h1) (I.e c h2) c5 c6) rfl
                · subst c2
                  exact e_cvL c.calm hgl hm (rg_2 (glb_ok c3) (c.blt _ c4) (I.e c h1) (I.e c h2) c5 c6) rfl
              · simp only [Option.bind_eq_some_iff, Option.map_eq_some_iff] at h
                obtain ⟨b, h0, m1, h1, rfl⟩ := h
                exact bi rfl h0 h1
            · split at h
              · rename_i hc
                simp only [Bool.and_eq_true, decide_eq_true_eq] at hc
                obtain ⟨⟨⟨⟨⟨⟨c1, c2⟩, c3⟩, c4⟩, c5⟩, c6⟩, c7⟩ := hc
                subst c1
                subst c2
                simp only [Option.bind_eq_some_iff, Option.map_eq_some_iff] at h
                obtain ⟨ma, h1, mb, h2, mc, h3, rfl⟩ := h
                exact e_cvT3 c.calm hgl hm (glb_ok c3) (c.blt _ c4) (I.e c h1) (I.e c h2) (I.e c h3) c5 c6 c7
              · simp only [Option.bind_eq_some_iff, Option.map_eq_some_iff] at h
                obtain ⟨b, h0, m1, h1, rfl⟩ := h
                exact bi rfl h0 h1
            · split at h
              · rename_i ns
                split at h
                · rename_i hc
                  simp only [Bool.and_eq_true, decide_eq_true_eq, List.isEmpty_iff] at hc
                  obtain ⟨⟨c1, c2⟩, c3⟩ := hc
                  subst c2
                  subst c3
                  simp only [Option.bind_eq_some_iff, Option.map_eq_some_iff] at h
                  obtain ⟨l, h0, m1, h1, rfl⟩ := h
                  obtain ⟨hr, D⟩ := c.ob.spec h0
                  exact e_lenO c.gd hr D hgl hm (I.e c h1) (by simpa using ns)
                · split at h
                  · rename_i hc
                    simp only [Bool.and_eq_true, decide_eq_true_eq, List.isEmpty_iff] at hc
                    obtain ⟨⟨c1, c2⟩, c3⟩ := hc
                    subst c2
                    subst c3
                    simp only [Option.bind_eq_some_iff, Option.map_eq_some_iff] at h
                    obtain ⟨l, h0, m1, h1, rfl⟩ := h
                    obtain ⟨hr, D⟩ := c.ob.spec h0
                    exact e_reprO c.gd hr D hgl hm (I.e c h1) (by simpa using ns)
                  · simp only [Option.bind_eq_some_iff, Option.map_eq_some_iff] at h
                    obtain ⟨b, h0, m1, h1, rfl⟩ := h
                    exact bi ns h0 h1
              · cases h
      · split at h
        · rename_i q hq
          split at h
          · split at h
            · rename_i ns
              simp only [Option.map_eq_some_iff] at h
              obtain ⟨m1, h1, rfl⟩ := h
              obtain ⟨hr, C, g, q1, q2, q3, q4⟩ := c.ob.cls _ _ hq
              exact e_mk q2 q1 q4 c.gd hr hgl q3 (I.a c h1) f1 ns
            · cases h
          · cases h
        · exact sn_told p pos c hgl f1 h
  · split at h
    · rename_i hv
      simp only [Bool.and_eq_true] at hv
      obtain ⟨f1, f2, f3⟩ := fine_ok hv.1.2
      split at h
      · split at h
        · rename_i ns
          simp only [Option.bind_eq_some_iff, Option.map_eq_some_iff] at h
          obtain ⟨i, h0, l, h1, m1, h2, rfl⟩ := h
          obtain ⟨hr, D⟩ := c.ob.spec h1
          exact e_callO c.gd c.room D (e_var (pe_var (by rw [c.hN]; exact posOf_ok h0) (vis_ok hv.1.1) f1 f2)) (I.e c h2) ns rfl
        · cases h
      · cases h
    · cases h
theorem sn_met (I : Sn S F k N n) {x f : Str} {args : List Expr} {ap cp : Pos} {m : ME} (px : Pos) (c : CxG S F k N pm X) (h : cMet S N (n + 1) X.env.scope x f args ap cp = some m) : Eb X F (.Call (.Attribute (.Name x px) f ap) args [] cp) m := by
  simp only [cMet] at h
  split at h
  · rename_i hc
    simp only [Bool.and_eq_true] at hc
    obtain ⟨⟨c1, c2⟩, c3⟩ := hc
    obtain ⟨f1, f2, f3⟩ := fine_ok c1
    simp only [Option.bind_eq_some_iff] at h
    obtain ⟨i, h0, h⟩ := h
    have pv : PE X (.Name x px) (tVar i) := pe_var (by rw [c.hN]; exact posOf_ok h0) (vis_ok c2) f1 f2
    split at h
    · simp only [Option.bind_eq_some_iff] at h
      obtain ⟨l, hl, h⟩ := h
      obtain ⟨hr, D⟩ := c.ob.mth _ _ hl
      split at h
      · cases h
        exact e_meth0 c.hK c.gd c.room (D.imp fun C f q => q.1) (e_var pv) (ht_of (ab_ok rfl) rfl (by simp) c3)
      · split at h
        · rename_i ns
          rw [Bool.and_eq_true, decide_eq_true_eq] at ns
          simp only [Option.map_eq_some_iff] at h
          obtain ⟨m1, h1, rfl⟩ := h
          exact e_meth c.hK c.gd c.room (D.imp fun C f q => q.1) (e_var pv) (I.l c h1).1 ns.1 (ht_of (ab_ok rfl) ns.1 ns.2 c3)
        · cases h
    split at h
    · split at h
      · rename_i hf
        subst hf
        cases h
        exact e_pop pv c3
      · cases h
    · split at h
      · rename_i ns
        split at h
        · rename_i hf
          subst hf
          split at h
          · simp only [Option.map_eq_some_iff] at h
            obtain ⟨m1, h1, rfl⟩ := h
            exact e_tcount (e_var pv) (I.e c h1) ns rfl c3
          · simp only [Option.map_eq_some_iff] at h
            obtain ⟨m1, h1, rfl⟩ := h
            exact e_cnt c.units pv (I.e c h1) ns c3
        · split at h
          · rename_i hf
            subst hf
            simp only [Option.map_eq_some_iff] at h
            obtain ⟨m1, h1, rfl⟩ := h
            exact e_popAt pv (I.e c h1) ns c3
          · split at h
            · rename_i hf
              subst hf
              simp only [Option.map_eq_some_iff] at h
              obtain ⟨m1, h1, rfl⟩ := h
              exact e_ix pv (I.e c h1) ns c3
            · split at h
              · rename_i hf
                subst hf
                simp only [Option.map_eq_some_iff] at h
                obtain ⟨m1, h1, rfl⟩ := h
                exact e_split (e_var pv) (I.e c h1) ns rfl c3
              · split at h
                · rename_i hf
                  subst hf
                  simp only [Option.map_eq_some_iff] at h
                  obtain ⟨m1, h1, rfl⟩ := h
                  exact e_part (e_var pv) (I.e c h1) ns rfl c3
                · split at h
                  · rename_i hf
                    subst hf
                    simp only [Option.map_eq_some_iff] at h
                    obtain ⟨m1, h1, rfl⟩ := h
                    exact e_tfind (e_var pv) (I.e c h1) ns rfl c3
                  · cases h
      · cases h
    · cases h
  · split at h
    · rename_i hc
      simp only [Bool.and_eq_true] at hc
      obtain ⟨⟨c1, c2⟩, c3⟩ := hc
      obtain ⟨f1, f2, f3⟩ := fine_ok c1
      split at h
      · split at h
        · rename_i hh
          simp only [Bool.and_eq_true, decide_eq_true_eq] at hh
          obtain ⟨⟨hf, ns⟩, ns'⟩ := hh
          subst hf
          simp only [Option.bind_eq_some_iff, Option.map_eq_some_iff] at h
          obtain ⟨es, h0, mk, h1, mf, h2, rfl⟩ := h
          obtain ⟨a, g1, g2⟩ := c.gds x es h0
          exact e_gget (glb_ok c2) g1 f1 g2 (I.e c h1) (I.e c h2) ns ns' c3
        · cases h
      · cases h
    · cases h
theorem tup_of {e : Expr} (h : isTupE e = true) : ∃ es kk tp, e = .Tuple es kk tp := by
  cases e <;> first | exact ⟨_, _, _, rfl⟩ | cases h
theorem sn_i (I : Sn S F k N n) {tg e : Expr} {m : ME} (c : CxG S F k N pm X) (h : cI S N (n + 1) X.env.scope tg e = some m) : PI X tg e (tI F m) ∧ isSetE e = false := by
  unfold cI at h
  split at h
  · rename_i q; cases q
  · rename_i q; cases q
    refine ⟨?_, rfl⟩
    split at h
    · rename_i hf
      subst hf
      split at h
      · rename_i hg
        rw [Bool.and_eq_true] at hg
        have hgl : Gl X "range" := glb_ok hg.1
        have hm := c.blt _ hg.2
        split at h
        · split at h
          · rename_i ns
            simp only [Option.map_eq_some_iff] at h
            obtain ⟨m1, h1, rfl⟩ := h
            exact i_rng1 hgl hm (I.e c h1) ns
          · cases h
        · split at h
          · rename_i ns
            rw [Bool.and_eq_true] at ns
            simp only [Option.bind_eq_some_iff, Option.map_eq_some_iff] at h
            obtain ⟨ma, h1, mb, h2, rfl⟩ := h
            exact i_rng2 hgl hm (I.e c h1) (I.e c h2) ns.1 ns.2
          · cases h
        · split at h
          · rename_i ns
            simp only [Bool.and_eq_true] at ns
            simp only [Option.bind_eq_some_iff, Option.map_eq_some_iff] at h
            obtain ⟨ma, h1, mb, h2, mc, h3, rfl⟩ := h
            exact i_rng3 hgl hm (I.e c h1) (I.e c h2) (I.e c h3) ns.1.1 ns.1.2 ns.2
          · cases h
        · cases h
      · cases h
    · split at h
      · rename_i hf
        subst hf
        split at h
        · rename_i hg
          simp only [Bool.and_eq_true] at hg
          have hgl : Gl X "zip" := glb_ok hg.1.1
          have hm := c.blt _ hg.1.2
          split at h
          · split at h
            · rename_i ns
              rw [Bool.and_eq_true] at ns
              simp only [Option.bind_eq_some_iff, Option.map_eq_some_iff] at h
              obtain ⟨ma, h1, mb, h2, rfl⟩ := h
              obtain ⟨es, kk, tp, rfl⟩ := tup_of hg.2
              exact i_zp hgl hm (I.e c h1) (I.e c h2) ns.1 ns.2
            · cases h
          · split at h
            · rename_i ns
              simp only [Bool.and_eq_true] at ns
              simp only [Option.bind_eq_some_iff, Option.map_eq_some_iff] at h
              obtain ⟨ma, h1, mb, h2, mc, h3, rfl⟩ := h
              obtain ⟨es, kk, tp, rfl⟩ := tup_of hg.2
              exact i_zp3 hgl hm (I.e c h1) (I.e c h2) (I.e c h3) ns.1.1 ns.1.2 ns.2
            · cases h
          · cases h
        · cases h
      · split at h
        · rename_i hf
          subst hf
          split at h
          · rename_i hg
            simp only [Bool.and_eq_true] at hg
            have hgl : Gl X "enumerate" := glb_ok hg.1.1
            have hm := c.blt _ hg.1.2
            split at h
            · split at h
              · rename_i ns
                simp only [Option.map_eq_some_iff] at h
                obtain ⟨m1, h1, rfl⟩ := h
                obtain ⟨es, kk, tp, rfl⟩ := tup_of hg.2
                exact i_enm hgl hm (I.e c h1) ns
              · cases h
            · cases h
          · cases h
        · simp only [Option.map_eq_some_iff] at h
          obtain ⟨m1, h1, rfl⟩ := h
          exact i_it (I.e c h1)
  · cases ‹n + 1 = _›
    split at h
    · cases h
    · rename_i hs
      simp only [Option.map_eq_some_iff] at h
      obtain ⟨m1, h1, rfl⟩ := h
      exact ⟨i_it (I.e c h1), by simpa using hs⟩
/-- the parts of a comprehension -/
theorem sn_comp (I : Sn S F k N n) {elt : Expr} {gens : List Comprehension} {scope : Scope} {m : ME} (pos : Pos) (c : CxG S F k N pm X) (h : cComp S N (n + 1) X.env.scope elt gens scope = some m) : Eb X F (.ListComp elt gens scope pos) m := by
  unfold cComp at h
  split at h
  · rename_i q; cases q
    split at h
    · rename_i hb
      simp only [Option.bind_eq_some_iff] at h
      obtain ⟨mi, h1, t, h2, mc, h3, me, h4, h⟩ := h
      split at h
      · rename_i hi
        cases h
        have hN := c.hN
        subst hN
        have hb' := blkOk_by hb
        obtain ⟨pi, ns⟩ := I.i c h1
        exact Eb.of (e_comp c.calm c.nd pi hb' (inS_ok hi) (fun s H C cl fp => cG_ok (c.blk _ s H C cl fp) h2) (fun s H C cl fp => I.ifs (c.blk _ s H C cl fp) h3) (fun s H C cl fp => (I.e (c.blk _ s H C cl fp) h4).ev) (noFold ns _)) fun _ => nofun
      · cases h
    · cases h
  · rename_i q; cases q
    split at h
    · rename_i hb
      simp only [Option.bind_eq_some_iff] at h
      obtain ⟨mi, h1, t, h2, mc, h3, mi1, h5, t1, h6, mc1, h7, me, h4, h⟩ := h
      split at h
      · rename_i hi
        rw [Bool.and_eq_true] at hi
        cases h
        have hN := c.hN
        subst hN
        have hb' := blkOk_by hb
        obtain ⟨pi, ns⟩ := I.i c h1
        have ns1 := fun (s : Shared) (H : Hp) (C : Addr) (cl : List (Str × Addr)) (fp : List Addr) => (I.i (c.blk _ s H C cl fp) h5)
        have ns2 := (ns1 X.s_0 (fun _ => none) 0 [] []).2
        exact Eb.of (e_comp2 c.calm c.nd pi hb' (inS_ok hi.1) (inS_ok hi.2) (fun i z => z) (fun s H C cl fp => cG_ok (c.blk _ s H C cl fp) h2) (fun s H C cl fp => I.ifs (c.blk _ s H C cl fp) h3)
          (fun s H C cl fp => (ns1 s H C cl fp).1) (fun s H C cl fp => cG_ok (c.blk _ s H C cl fp) h6) (fun s H C cl fp => I.ifs (c.blk _ s H C cl fp) h7) (fun s H C cl fp => (I.e (c.blk _ s H C cl fp) h4).ev) (noFold ns _) (fun env x => noFold ns2 env x)) fun _ => nofun
      · cases h
    · cases h
  · cases h
theorem sn_e (I : Sn S F k N n) {e : Expr} {m : ME} (c : CxG S F k N pm X) (h : cE S N (n + 1) X.env.scope e = some m) : Eb X F e m := by
  unfold cE at h
  split at h
  · rename_i q; cases q
  · rename_i q; cases q
    exact lit_ok h
  · rename_i q; cases q
    split at h
    · rename_i hf
      obtain ⟨f1, f2, f3⟩ := fine_ok hf
      split at h
      · rename_i hv
        simp only [Option.map_eq_some_iff] at h
        obtain ⟨i, h1, rfl⟩ := h
        exact e_var (pe_var (by rw [c.hN]; exact posOf_ok h1) (vis_ok hv) f1 f2)
      · split at h
        · rename_i hg
          simp only [Option.map_eq_some_iff] at h
          obtain ⟨d, h1, rfl⟩ := h
          obtain ⟨v, u, g1, g2, g3⟩ := c.cst _ d h1
          exact e_const (pe_glob (glb_ok hg) g1 g2 f1) g3
        · cases h
    · cases h
  · rename_i q; cases q
    simp only [Option.bind_eq_some_iff, Option.map_eq_some_iff] at h
    obtain ⟨o, h0, ma, h1, mb, h2, rfl⟩ := h
    rw [bopOf_ok h0]
    exact e_bin (I.e c h1) (I.e c h2)
  · rename_i q; cases q
    split at h
    · simp only [Option.map_eq_some_iff] at h
      obtain ⟨ma, h1, rfl⟩ := h
      exact e_neg (I.e c h1)
    · simp only [Option.map_eq_some_iff] at h
      obtain ⟨ma, h1, rfl⟩ := h
      exact e_not (I.e c h1)
    · cases h
  · rename_i q; cases q
    split at h
    · simp only [Option.bind_eq_some_iff, Option.map_eq_some_iff] at h
      obtain ⟨ma, h1, mb, h2, rfl⟩ := h
      exact e_and (I.e c h1) (I.b _ c h2)
    · simp only [Option.bind_eq_some_iff, Option.map_eq_some_iff] at h
      obtain ⟨ma, h1, mb, h2, rfl⟩ := h
      exact e_or (I.e c h1) (I.b _ c h2)
    · cases h
  · rename_i q; cases q
    exact (I.cmp _ c h).1
  · rename_i q; cases q
    simp only [Option.bind_eq_some_iff, Option.map_eq_some_iff] at h
    obtain ⟨mc, h1, ma, h2, mb, h3, rfl⟩ := h
    exact e_ite (I.t c h1) (I.e c h2) (I.e c h3)
  · rename_i q; cases q
    split at h
    · exact I.call _ _ c h
    · split at h
      · rename_i hg
        rw [Bool.and_eq_true] at hg
        obtain ⟨f1, f2, f3⟩ := fine_ok hg.2
        simp only [Option.bind_eq_some_iff] at h
        obtain ⟨ns, h0, q, h1, h⟩ := h
        split at h
        · rename_i hl
          simp only [Option.map_eq_some_iff] at h
          obtain ⟨m1, h2, rfl⟩ := h
          have hq := List.find?_some h1
          simp only [Bool.and_eq_true, beq_iff_eq] at hq
          obtain ⟨x', ks', id', l'⟩ := q
          obtain ⟨hq1, hq2⟩ := hq
          dsimp only at hq1 hq2 hl
          subst hq1
          subst hq2
          obtain ⟨fa, fd, ps, g1, g2, g3, g4⟩ := c.kw _ _ _ _ (List.mem_of_find?_eq_some h1)
          exact e_callK g4 c.gd c.room (glb_ok hg.1) g1 g2 g3 hl h0 (I.kw c h2) f1
        · cases h
      · cases h
    · split at h
      · rename_i hg
        simp only [Bool.and_eq_true, decide_eq_true_eq] at hg
        obtain ⟨⟨c1, c2⟩, c3⟩ := hg
        subst c1
        simp only [Option.map_eq_some_iff] at h
        obtain ⟨m1, h1, rfl⟩ := h
        exact e_join (I.e c h1) c2 c3
      · split at h
        · rename_i hg
          simp only [Bool.and_eq_true, decide_eq_true_eq] at hg
          obtain ⟨⟨c1, c2⟩, c3⟩ := hg
          subst c1
          simp only [Option.map_eq_some_iff] at h
          obtain ⟨m1, h1, rfl⟩ := h
          exact e_tfind (lit_ok rfl) (I.e c h1) c2 rfl c3
        · cases h
    · split at h
      · rename_i hg
        simp only [Bool.and_eq_true, decide_eq_true_eq] at hg
        obtain ⟨⟨⟨c1, c2⟩, c3⟩, c4⟩ := hg
        subst c1
        simp only [Option.bind_eq_some_iff, Option.map_eq_some_iff] at h
        obtain ⟨mo, h1, mk, h2, mf, h3, rfl⟩ := h
        refine e_dget c.units (I.e c h1) (I.e c h2) (I.e c h3) ⟨rfl, ?_, c4, ?_⟩
        · rw [star_no c2, star_no c3]; rfl
        · rw [star_no c2, star_no c3]; rfl
      · cases h
    · exact I.met _ c h
    · split at h
      · rename_i hg
        simp only [Bool.and_eq_true, decide_eq_true_eq] at hg
        obtain ⟨⟨⟨_, c2⟩, c3⟩, c4⟩ := hg
        subst c2
        simp only [Option.bind_eq_some_iff, Option.map_eq_some_iff] at h
        obtain ⟨mo, h1, m1, h2, rfl⟩ := h
        exact e_cntL c.units (I.e c h1) (I.e c h2) rfl c3 c4
      · cases h
    · cases h
  · rename_i q; cases q
    split at h
    · simp only [Option.map_eq_some_iff] at h
      obtain ⟨ma, h1, rfl⟩ := h
      exact e_rev (I.e c h1)
    · simp only [Option.bind_eq_some_iff, Option.map_eq_some_iff] at h
      obtain ⟨ma, h1, ml, h2, mh, h3, rfl⟩ := h
      exact e_sl c.hK (I.e c h1) (I.o c h2) (I.o c h3)
    · split at h
      · cases h
      · rename_i hs
        simp only [Option.bind_eq_some_iff] at h
        obtain ⟨ma, h1, mi, h2, h⟩ := h
        split at h
        · simp only [Option.map_eq_some_iff] at h
          obtain ⟨l, h3, rfl⟩ := h
          obtain ⟨hr, D⟩ := c.ob.spec h3
          exact e_itemO c.gd hr D (I.e c h1) (I.e c h2) (trueIx (by simpa using hs))
        · cases h
          exact e_idx c.hK (I.e c h1) (I.e c h2) (plainIx (by simpa using hs))
  · rename_i q; cases q
    split at h
    · rename_i ha
      simp only [Option.bind_eq_some_iff] at h
      obtain ⟨m1, h1, h⟩ := h
      unfold cAt at h
      split at h
      · rename_i hx
        cases h
        exact e_fld c.hK (c.ob.fld _ hx) (I.e c h1) (ab_ok ha)
      · split at h
        · rename_i l hl
          cases h
          exact e_con c.hK (c.ob.con _ _ hl) (I.e c h1) (ab_ok ha)
        · simp only [Option.map_eq_some_iff] at h
          obtain ⟨l, hl, rfl⟩ := h
          obtain ⟨hr, D⟩ := c.ob.prp _ _ hl
          exact e_prop c.hK c.gd hr D (I.e c h1) (ab_ok ha)
    · cases h
  · rename_i q; cases q
    split at h
    · simp only [Option.map_eq_some_iff] at h
      obtain ⟨m1, h1, rfl⟩ := h
      exact e_fst (I.f c h1)
    · cases h
  · rename_i q; cases q
    simp only [Option.map_eq_some_iff] at h
    obtain ⟨ma, h1, rfl⟩ := h
    exact e_tup (I.a c h1)
  · rename_i q; cases q
    simp only [Option.map_eq_some_iff] at h
    obtain ⟨ma, h1, rfl⟩ := h
    exact e_lst (I.a c h1)
  · rename_i q; cases q
    split at h
    · cases h
      split
      · rename_i hd
        exact e_dicT (c.ndt.elim (fun z => by rw [z] at hd; cases hd) id)
      · exact e_dic
    · simp only [Option.bind_eq_some_iff] at h
      obtain ⟨is, h1, h⟩ := h
      split at h
      · rename_i hl
        simp only [Option.map_eq_some_iff] at h
        obtain ⟨m1, h2, rfl⟩ := h
        obtain ⟨q1, q2⟩ := keys_some h1
        exact e_disp (I.d _ c h2 h1 hl.1) q1 hl.1 (fun z => nomatch z) hl.2 (by rw [q2]; exact hl.2)
      · cases h
    · cases h
  · rename_i q; cases q
    exact I.comp _ c h
  · cases h
theorem sn_all (S : Sig) (F : Fns) (k : Nat) (N : List Str) : ∀ n, Sn S F k N n
  | 0 => ⟨fun _ h => by simp [cE] at h, fun _ _ h => by simp [cB] at h, fun _ h => by simp [cT] at h, fun _ _ h => by simp [cBT] at h, fun _ _ h => by simp [cCmp] at h, fun _ _ _ h => by simp [cCall] at h, fun _ h => by simp [cL] at h, fun _ h => by simp [cA] at h,
      fun _ h => by simp [cO] at h, fun _ h => by simp [cI] at h, fun _ h => by simp [cIfs] at h, fun _ _ h => by simp [cMet] at h, fun _ _ h => by simp [cD] at h, fun _ h => by simp [cF] at h, fun _ h => by simp [cK] at h, fun _ _ h => by simp [cComp] at h⟩
  | n + 1 =>
    have I := sn_all S F k N n
    ⟨sn_e I, sn_b I, sn_t I, sn_bt I, sn_cmp I, sn_call I, sn_l I, sn_a I, sn_o I, sn_i I, sn_ifs I, sn_met I, sn_d I, sn_f I, sn_k I, sn_comp I⟩
end
end MI
/-! MID: from the model's syntax to the interpreter's: statements, defs, the program. -/
namespace MI
open PySem PySem.Spec PyProof.Rows L2
variable [EK] [GR]
noncomputable def notComp : Expr → Bool
  | .ListComp .. => false
  | .SetComp .. => false
  | .DictComp .. => false
  | _ => true
noncomputable def blkK (sc : Scope) : ScopeKind := if sc.kind.isAnnotationScope then .function else sc.kind
noncomputable def swL (sc scope : Scope) (x : Str) (px p : Pos) : Bool :=
  blkK sc == .function && sc.names.lookup x == some .local && px.line == p.line && !(scope.names.any fun (n, k) => n == x && (k == .local || k == .cell))
theorem sw_name {e : Expr} {x : Str} {p : Pos} {l : Nat} {env : Env} (h : notComp e = true) : swapsWith e (some (.Name x p)) l env = pure false := by
  cases e <;> first | rfl | cases h
theorem sw_none {e : Expr} {l : Nat} {env : Env} (h : notComp e = true) : swapsWith e none l env = pure false := by
  cases e <;> first | rfl | cases h
theorem sw_sub {e o i : Expr} {p : Pos} {l : Nat} {env : Env} : swapsWith e (some (.Subscript o i p)) l env = pure false := by
  cases e <;> rfl
theorem sw_att {e o : Expr} {x : Str} {p : Pos} {l : Nat} {env : Env} : swapsWith e (some (.Attribute o x p)) l env = pure false := by
  cases e <;> rfl
theorem sw_tup {e : Expr} {ts : List Expr} {q : Nat} {p : Pos} {l : Nat} {env : Env} : swapsWith e (some (.Tuple ts q p)) l env = pure false := by
  cases e <;> rfl
theorem sw_comp {elt : Expr} {gens : List Comprehension} {scope : Scope} {p px : Pos} {x : Str} {l : Nat} {env : Env} : swapsWith (.ListComp elt gens scope p) (some (.Name x px)) l env = pure (swL env.scope scope x px p) := rfl
theorem st_sub {e o i : Expr} {p : Pos} {env : Env} : swappedStores [.Subscript o i p] e env = pure none := by
  cases e <;> rfl
theorem st_tup {e : Expr} {ts : List Expr} {q : Nat} {p : Pos} {env : Env} (h : isTupE e = false) : swappedStores [.Tuple ts q p] e env = pure none := by
  cases e <;> first | rfl | cases h
/-- how the model stores the parts of one tuple into another -/
inductive Sw where
  | no | yes (names : List Str) | bad
noncomputable def isStE : Expr → Bool
  | .Starred .. => true
  | _ => false
noncomputable def swNames (sc : Scope) (ts : List Expr) : List Str := ts.filterMap fun
  | .Name id pos => if sc.names.lookup id == some .local && pos.line == (ts.head?.map (·.pos.line)).getD 0 then some id else none
  | _ => none
noncomputable def swC (sc : Scope) (ts vs : List Expr) : Sw :=
  if !(ts.length == 2 || ts.length == 3) || vs.length != ts.length || blkK sc != .function then .no
  else if vs.any isStE then .no
  else if (swNames sc ts).length != ts.length || (swNames sc ts).eraseDups.length != (swNames sc ts).length then .no
  else if vs.all (foldedForSure 8) then .no
  else if vs.all (constantsAlone 8) then .bad
  else .yes (swNames sc ts)
theorem swC_eq {ts vs : List Expr} {q q2 : Nat} {p p2 : Pos} {env : Env} (nb : swC env.scope ts vs ≠ .bad) : swappedStores [.Tuple ts q p] (.Tuple vs q2 p2) env = (match swC env.scope ts vs with
    | .yes ns => pure (some ns)
    | _ => pure none) := by
  show (if (!(ts.length == 2 || ts.length == 3) || vs.length != ts.length || blkK env.scope != .function) = true then pure none
    else if vs.any isStE = true then pure none
    else if ((swNames env.scope ts).length != ts.length || (swNames env.scope ts).eraseDups.length != (swNames env.scope ts).length) = true then pure none
    else if vs.all (foldedForSure 8) = true then pure none
    else if vs.all (constantsAlone 8) = true then _ else pure (some (swNames env.scope ts))) = _
  unfold swC at nb ⊢
  by_cases h1 : (!(ts.length == 2 || ts.length == 3) || vs.length != ts.length || blkK env.scope != .function) = true
  · rw [if_pos h1, if_pos h1]
  · rw [if_neg h1] at nb
    rw [if_neg h1, if_neg h1]
    by_cases h2 : vs.any isStE = true
    · rw [if_pos h2, if_pos h2]
    · rw [if_neg h2] at nb
      rw [if_neg h2, if_neg h2]
      by_cases h3 : ((swNames env.scope ts).length != ts.length || (swNames env.scope ts).eraseDups.length != (swNames env.scope ts).length) = true
      · rw [if_pos h3, if_pos h3]
      · rw [if_neg h3] at nb
        rw [if_neg h3, if_neg h3]
        by_cases h4 : vs.all (foldedForSure 8) = true
        · rw [if_pos h4, if_pos h4]
        · rw [if_neg h4] at nb
          rw [if_neg h4, if_neg h4]
          by_cases h5 : vs.all (constantsAlone 8) = true
          · rw [if_pos h5] at nb
            exact absurd rfl nb
          · rw [if_neg h5, if_neg h5]
/-! ### statements -/
noncomputable def fuel : Nat := 60
noncomputable def cP (S : Sig) (N : List Str) (sc : Scope) : List Expr → Option ME
  | [] => some .nil
  | e :: es => if noStar e then (cE S N fuel sc e).bind fun m => (cP S N sc es).map fun r => .cons m r else none
noncomputable def lenE : ME → Nat
  | .cons _ r => lenE r + 1
  | _ => 0
theorem evP_len {F : Fns} : ∀ {m : ME} {ρ : Rho} {ds : List (PyData × Bool)} {ρ' : Rho}, evP F m ρ = some (ds, ρ') → ds.length = lenE m
  | .nil, ρ, ds, ρ', h => by cases h; rfl
  | .cons a r, ρ, ds, ρ', h => by
    simp only [evP, Option.bind_eq_some_iff, Option.map_eq_some_iff] at h
    obtain ⟨⟨d, fr, ρ1⟩, h1, ⟨ds1, ρ2⟩, h2, h3⟩ := h
    cases h3
    exact congrArg (· + 1) (evP_len h2)
  | .lit _, _, _, _, h => by simp [evP] at h
  | .var _, _, _, _, h => by simp [evP] at h
  | .bin _ _ _, _, _, _, h => by simp [evP] at h
  | .neg _, _, _, _, h => by simp [evP] at h
  | .not _, _, _, _, h => by simp [evP] at h
  | .and _ _, _, _, _, h => by simp [evP] at h
  | .or _ _, _, _, _, h => by simp [evP] at h
  | .cmp _ _ _, _, _, _, h => by simp [evP] at h
  | .cmp2 _ _ _ _ _, _, _, _, h => by simp [evP] at h
  | .isN _, _, _, _, h => by simp [evP] at h
  | .notN _, _, _, _, h => by simp [evP] at h
  | .ite _ _ _, _, _, _, h => by simp [evP] at h
  | .call _ _, _, _, _, h => by simp [evP] at h
  | .bi _ _, _, _, _, h => by simp [evP] at h
  | .idx _ _, _, _, _, h => by simp [evP] at h
  | .sl _ _ _, _, _, _, h => by simp [evP] at h
  | .tup _, _, _, _, h => by simp [evP] at h
  | .lst _, _, _, _, h => by simp [evP] at h
  | .dic, _, _, _, h => by simp [evP] at h
  | .comp _ _ _ _ _, _, _, _, h => by simp [evP] at h
  | .comp2 _ _ _ _ _ _ _ _ _, _, _, _, h => by simp [evP] at h
  | .rng1 _, _, _, _, h => by simp [evP] at h
  | .rng2 _ _, _, _, _, h => by simp [evP] at h
  | .rng3 _ _ _, _, _, _, h => by simp [evP] at h
  | .enm _, _, _, _, h => by simp [evP] at h
  | .zp _ _, _, _, _, h => by simp [evP] at h
  | .it _, _, _, _, h => by simp [evP] at h
  | .tst _, _, _, _, h => by simp [evP] at h
  | .star _ _, _, _, _, h => by simp [evP] at h
/-- targets of a written tuple -/
noncomputable def cGP (N : List Str) (sc : Scope) : List Expr → Option MT
  | [] => some .nil
  | .Name x _ :: es => if stOk sc none x then (posOf N x).bind fun i => (cGP N sc es).map fun u => .cons (.nm i) u else none
  | .Tuple ts _ _ :: es => (cGs N sc none fuel ts).bind fun t => (cGP N sc es).map fun u => .cons (.tp t) u
  | _ => none
/-- a call whose value may be a tuple of one's own -/
noncomputable def cStr (S : Sig) (N : List Str) (sc : Scope) : Expr → Option (Nat × ME)
  | .Call (.Name f _) (a :: as) [] _ => if glb sc f && fine f && (a :: as).all noStar then (S.strong.lookup f).bind fun id => (cL S N fuel sc (a :: as)).map fun m => (id, m) else none
  | _ => none
/-- an item of two: a call whose value may be a tuple of one's own, or any other value -/
noncomputable def cItm (S : Sig) (N : List Str) (sc : Scope) (e : Expr) : Option (Option Nat × ME) := match cStr S N sc e with
  | some (id, m) => some (some id, m)
  | none => if noStar e then (cE S N fuel sc e).map fun m => (none, m) else none
noncomputable def cParS (S : Sig) (N : List Str) (sc : Scope) (i j : Nat) (a b : Expr) : Option MS :=
  if (cStr S N sc a).isSome || (cStr S N sc b).isSome then (cItm S N sc a).bind fun p => (cItm S N sc b).map fun q => .parS i p.1 p.2 j q.1 q.2 else none
/-- return tuple(xs) -/
noncomputable def cTupO (S : Sig) (N : List Str) (sc : Scope) : Expr → Option ME
  | .Call (.Name f _) [e] [] _ => if fzB && S.own && f = "tuple" && glb sc f && S.blt.contains f && noStar e then cE S N fuel sc e else none
  | _ => none
/-- x[k], y = e, f -/
noncomputable def cPut2 (S : Sig) (N : List Str) (sc : Scope) : List Expr → List Expr → Option MS
  | [.Subscript (.Name x _) k _, .Name y _], vs => if fine x && vis sc x && !(isSlE k) && stOk sc none y then (posOf N x).bind fun i => (posOf N y).bind fun j => (cE S N fuel sc k).bind fun mk => (cP S N sc vs).map fun m => .put2 i mk j m else none
  | _, _ => none
noncomputable def cAsg (S : Sig) (N : List Str) (sc : Scope) : Expr → Expr → Option MS
  | .Name x px, .ListComp elt gens scope p => if stOk sc none x then (posOf N x).bind fun i => (cComp S N fuel sc elt gens scope).map fun m => .asg (.nm i) (if S.ob.stl.contains x then .still m else m) else none
  | .Name x px, e => if notComp e && stOk sc none x then (posOf N x).bind fun i => (match cStr S N sc e with
      | some (id, m) => some (.asgO i id m)
      | none => (cE S N fuel sc e).map fun m => .asg (.nm i) (if S.ob.stl.contains x then .still m else m)) else none
  | .Tuple ts _ _, .Tuple vs _ _ => match swC sc ts vs with
    | .bad => none
    | .yes _ => (match ts with
      | [.Name x _, .Name y _] => (posOf N x).bind fun i => (posOf N y).bind fun j => if i = j then none else if sc.names.lookup x == some .local && sc.names.lookup y == some .local then (match vs with
        | [a, b] => (match cParS S N sc i j a b with
          | some m => some m
          | none => (cP S N sc [a, b]).map fun m => .par (nmT [i, j]) m)
        | _ => none) else none
      | [.Name x _, .Name y _, .Name z _] => (posOf N x).bind fun i => (posOf N y).bind fun j => (posOf N z).bind fun l => if i = j ∨ i = l ∨ j = l then none else if sc.names.lookup x == some .local && sc.names.lookup y == some .local && sc.names.lookup z == some .local then (match vs with
        | [a, b, c] => (cP S N sc [a, b, c]).map fun m => .par (nmT [i, j, l]) m
        | _ => none) else none
      | _ => none)
    | .no => match cPut2 S N sc ts vs with
      | some m => some m
      | none => (cGP N sc ts).bind fun t => (cP S N sc vs).bind fun m => if lenE m ≤ 1000 then some (.par t m) else none
  | .Tuple ts _ _, e => if isTupE e then none else (cGs N sc none fuel ts).bind fun t => (cE S N fuel sc e).map fun m => .asg (.tp t) m
  | .Subscript (.Name x _) k _, e => if fine x && vis sc x && !(isSlE k) then (posOf N x).bind fun i => (cE S N fuel sc k).bind fun mk => (cE S N fuel sc e).map fun m => .put i mk m else none
  | .Attribute (.Name y _) x _, e => if fine y && vis sc y && S.ob.flds.contains x then (posOf N y).bind fun i => (cE S N fuel sc e).map fun m => .putA i x m else none
  | _, _ => none
noncomputable def cMeth (S : Sig) (N : List Str) (sc : Scope) (x f : Str) (e : Expr) (ap cp : Pos) : Option MS :=
  if fine x && vis sc x && noStar e && ap.endLine == cp.line then (posOf N x).bind fun i => (cE S N fuel sc e).bind fun m =>
      if f = "append" then some (.app i m) else if f = "extend" then some (.ext i m) else none
    else none
/-- the places of variables that hold objects -/
noncomputable def posAll (O : ObSig) (N : List Str) (sc : Scope) : List Expr → Option (List Nat)
  | [] => some []
  | .Name y _ :: es => if fine y && vis sc y && O.vars.contains y then (posOf N y).bind fun j => (posAll O N sc es).map fun js => j :: js else none
  | _ => none
/-- for x in (C(..), ..): .. -/
noncomputable def cForO (S : Sig) (N : List Str) (sc : Scope) : Expr → Expr → Option (Nat × ME)
  | .Name x _, .Tuple (e :: es) _ _ => if (e :: es).all (isMkE S.ob) && stOk sc none x then (posOf N x).bind fun i => (cP S N sc (e :: es)).map fun m => (i, m) else none
  | _, _ => none
noncomputable def cForV (S : Sig) (N : List Str) (sc : Scope) : Expr → Expr → Option (Nat × List Nat)
  | .Name x _, .Tuple (e :: es) _ _ => if stOk sc none x && decide (es.length < 100) then (posOf N x).bind fun i => (posAll S.ob N sc (e :: es)).map fun js => (i, js) else none
  | _, _ => none
mutual
noncomputable def cS (S : Sig) (N : List Str) (sc : Scope) : Nat → Stmt → MS
  | n + 1, .Pass _ => .skip
  | n + 1, .Break _ => .brk
  | n + 1, .Continue _ => .cont
  | n + 1, .Return v _ => match v with
    | none => .ret (.lit .none)
    | some e => match cTupO S N sc e with
      | some m => .retT m
      | none => match cStr S N sc e with
        | some (id, m) => .retO id m
        | none => ((cE S N fuel sc e).map .ret).getD .stuck
  | n + 1, .If c a b _ => ((cT S N fuel sc c).map fun mc => .ite mc (cSs S N sc n a) (cSs S N sc n b)).getD .stuck
  | n + 1, .For tg it body els _ => match els with
    | [] => match cForO S N sc tg it with
      | some (i, m) => .loopO i m (cSs S N sc n body)
      | none => match cForV S N sc tg it with
        | some (i, js) => if js.all (fun j => j != i && !(asgd (cSs S N sc n body)).contains j) && !(asgd (cSs S N sc n body)).contains i then .loopV i js (cSs S N sc n body) else .stuck
        | none => ((cI S N fuel sc tg it).bind fun mi => (cG N sc none fuel tg).map fun t => .loop t mi (cSs S N sc n body)).getD .stuck
    | _ => .stuck
  | n + 1, .While c body els _ => match els with
    | [] => ((cT S N fuel sc c).map fun mc => .while mc (cSs S N sc n body)).getD .stuck
    | _ => .stuck
  | n + 1, .Assign tgs e _ => match tgs with
    | [tg] => (cAsg S N sc tg e).getD .stuck
    | _ => .stuck
  | n + 1, .Expr v _ => match v with
    | .Call (.Attribute (.Name x xp) f ap) [e] [] cp => if S.ob.vars.contains x then ((cE S N fuel sc (.Call (.Attribute (.Name x xp) f ap) [e] [] cp)).map .expr).getD .stuck else (cMeth S N sc x f e ap cp).getD .stuck
    | e => if notComp e then ((cE S N fuel sc e).map .expr).getD .stuck else .stuck
  | _, _ => .stuck
noncomputable def cSs (S : Sig) (N : List Str) (sc : Scope) : Nat → List Stmt → MS
  | _, [] => .skip
  | n + 1, [s] => cS S N sc n s
  | n + 1, s :: r => .seq (cS S N sc n s) (cSs S N sc n r)
  | _, _ => .stuck
end
section
variable {S : Sig} {F : Fns} {k W : Nat} {N : List Str} {X : Cx}
theorem cP_ok (c : CxG S F k N none X) : ∀ {es : List Expr} {m : ME}, cP S N X.env.scope es = some m → PA X es (tP F m)
  | [], m, h => by
    simp only [cP, Option.some.injEq] at h
    subst h
    exact p_nil
  | e :: es, m, h => by
    simp only [cP] at h
    split at h
    · rename_i ns
      simp only [Option.bind_eq_some_iff, Option.map_eq_some_iff] at h
      obtain ⟨m1, h1, r, h2, rfl⟩ := h
      exact p_cons ((sn_all S F k N fuel).e c h1) (cP_ok c h2) ns
    · cases h
theorem cGP_ok (c : CxG S F k N none X) : ∀ {es : List Expr} {t : MT}, cGP N X.env.scope es = some t → PGs X es (gPs t) ∧ (assignEach es X.env).length = lenT t ∧ (assignEach es X.env).findIdx? (·.1) = none := by
  intro es t h
  induction es generalizing t with
  | nil =>
    simp only [cGP, Option.some.injEq] at h
    subst h
    exact ⟨gp_nil, rfl, rfl⟩
  | cons e es ih =>
    have tail : ∀ {u : MT} {t' : MT}, noStar e = true → cGP N X.env.scope es = some u → (∀ q : PGs X es (gPs u), PGs X (e :: es) (gPs t')) → lenT t' = lenT u + 1 → PGs X (e :: es) (gPs t') ∧ (assignEach (e :: es) X.env).length = lenT t' ∧ (assignEach (e :: es) X.env).findIdx? (·.1) = none := fun {u t'} ns hu f hl => by
      obtain ⟨q1, q2, q3⟩ := ih hu
      refine ⟨f q1, ?_, ?_⟩
      · rw [assign_no ns, List.length_cons, q2, hl]
      · rw [assign_no ns, List.findIdx?_cons, q3]
        rfl
    unfold cGP at h
    split at h
    · rename_i q; cases q
    · rename_i q; cases q
      split at h
      · rename_i hs
        simp only [Option.bind_eq_some_iff, Option.map_eq_some_iff] at h
        obtain ⟨i, h1, u, h2, rfl⟩ := h
        exact tail rfl h2 (fun q => gp_name (g_nm c hs h1) q rfl) rfl
      · cases h
    · rename_i q; cases q
      simp only [Option.bind_eq_some_iff, Option.map_eq_some_iff] at h
      obtain ⟨t1, h1, u, h2, rfl⟩ := h
      obtain ⟨q1, q2, q3⟩ := cGs_ok c h1
      exact tail rfl h2 (fun q => gp_tup (g_tup c.calm q1 q2 q3) q rfl) rfl
    · cases h
theorem lk {sc : Scope} {x : Str} (h : (sc.names.lookup x == some .local) = true) : sc.names.lookup x = some .local := by simpa using h
theorem swL_loc {sc scope : Scope} {x : Str} {px p : Pos} (h : swL sc scope x px p = true) : sc.names.lookup x = some .local := by
  unfold swL at h
  simp only [Bool.and_eq_true] at h
  exact lk h.1.1.2
theorem setComp (c : CxG S F k N none X) {elt : Expr} {gens : List Comprehension} {scope : Scope} {m : ME} {x : Str} {px p pos : Pos} {i : Nat} (hs : stOk X.env.scope none x = true) (hi : posOf N x = some i) (h : cComp S N fuel X.env.scope elt gens scope = some m) :
    PS X (.Assign [.Name x px] (.ListComp elt gens scope p) pos) (tAsg (tE F m) (gName i)) := by
  have hN := c.hN
  subst hN
  cases hsw : swL X.env.scope scope x px p with
  | false =>
    have e : swapsWith (.ListComp elt gens scope p) (some (.Name x px)) pos.line X.env = pure false := by rw [sw_comp, hsw]
    exact ps_set c.nd (posOf_ok hi) (loc_of hs) ((sn_all S F k X.N fuel).comp p c h).ev e (c.st x hs)
  | true =>
    have e : swapsWith (.ListComp elt gens scope p) (some (.Name x px)) pos.line X.env = pure true := by rw [sw_comp, hsw]
    have I := sn_all S F k X.N 59
    have hl := swL_loc hsw
    unfold fuel cComp at h
    split at h
    · rename_i q; cases q
      split at h
      · rename_i hb
        simp only [Option.bind_eq_some_iff] at h
        obtain ⟨mi, h1, t, h2, mc, h3, me, h4, h⟩ := h
        split at h
        · rename_i hin
          cases h
          obtain ⟨pi, ns⟩ := I.i c h1
          exact (ps_setLc c.calm c.nd (posOf_ok hi) hl e pi (blkOk_by hb) (fun s H C cl fp => cG_ok (c.blk _ s H C cl fp) h2) (fun s H C cl fp => I.ifs (c.blk _ s H C cl fp) h3) (fun s H C cl fp => (I.e (c.blk _ s H C cl fp) h4).ev) (noFold ns _)).imp
            fun D σ H q => e_comp.comp_read (inS_ok hin) q
        · cases h
      · cases h
    · rename_i q; cases q
      split at h
      · rename_i hb
        simp only [Option.bind_eq_some_iff] at h
        obtain ⟨mi, h1, t, h2, mc, h3, mi1, h5, t1, h6, mc1, h7, me, h4, h⟩ := h
        split at h
        · rename_i hin
          rw [Bool.and_eq_true] at hin
          cases h
          obtain ⟨pi, ns⟩ := I.i c h1
          have ns1 := fun (s : Shared) (H : Hp) (C : Addr) (cl : List (Str × Addr)) (fp : List Addr) => (I.i (c.blk _ s H C cl fp) h5)
          have ns2 := (ns1 X.s_0 (fun _ => none) 0 [] []).2
          exact (ps_setLc2 c.calm c.nd (posOf_ok hi) hl e pi (blkOk_by hb) (inS_ok hin.2) (fun s H C cl fp => cG_ok (c.blk _ s H C cl fp) h2) (fun s H C cl fp => I.ifs (c.blk _ s H C cl fp) h3) (fun s H C cl fp => (ns1 s H C cl fp).1)
            (fun s H C cl fp => cG_ok (c.blk _ s H C cl fp) h6) (fun s H C cl fp => I.ifs (c.blk _ s H C cl fp) h7) (fun s H C cl fp => (I.e (c.blk _ s H C cl fp) h4).ev) (noFold ns _) (fun env x => noFold ns2 env x)).imp
            fun D σ H q => e_comp2.comp2_read (inS_ok hin.1) (inS_ok hin.2) (fun i z => z) q
        · cases h
      · cases h
    · cases h
theorem sole {t e : Expr} {l : Nat} {env : Env} : swapsWithSole [t] e l env = swapsWith e (some t) l env := rfl
theorem sw_yes {ts vs : List Expr} {q q2 : Nat} {p p2 : Pos} {ns : List Str} {env : Env} (h : swC env.scope ts vs = .yes ns) : swappedStores [.Tuple ts q p] (.Tuple vs q2 p2) env = pure (some ns) :=
  (swC_eq (by rw [h]; exact fun z => nomatch z)).trans (by rw [h])
theorem sw_no {ts vs : List Expr} {q q2 : Nat} {p p2 : Pos} {env : Env} (h : swC env.scope ts vs = .no) : swappedStores [.Tuple ts q p] (.Tuple vs q2 p2) env = pure none :=
  (swC_eq (by rw [h]; exact fun z => nomatch z)).trans (by rw [h])
theorem sw_ns {sc : Scope} {ts vs : List Expr} {ns : List Str} (h : swC sc ts vs = .yes ns) : ns = swNames sc ts ∧ ns.length = ts.length := by
  unfold swC at h
  split at h
  · cases h
  · split at h
    · cases h
    · split at h
      · cases h
      · rename_i h3
        split at h
        · cases h
        · split at h
          · cases h
          · cases h
            simp only [Bool.or_eq_true, not_or, bne_iff_ne, ne_eq, Decidable.not_not] at h3
            exact ⟨rfl, h3.1⟩
theorem names_len2 {sc : Scope} {x y : Str} {px py : Pos} {ns : List Str} (e : ns = swNames sc [.Name x px, .Name y py]) (l : ns.length = 2) : ns = [x, y] := by
  subst e
  unfold swNames at l ⊢
  simp only [List.filterMap_cons, List.filterMap_nil] at l ⊢
  split at l <;> split at l <;> simp_all
theorem names_len3 {sc : Scope} {x y z : Str} {px py pz : Pos} {ns : List Str} (e : ns = swNames sc [.Name x px, .Name y py, .Name z pz]) (l : ns.length = 3) : ns = [x, y, z] := by
  subst e
  unfold swNames at l ⊢
  simp only [List.filterMap_cons, List.filterMap_nil] at l ⊢
  split at l <;> split at l <;> split at l <;> simp_all
theorem asg_sub {x : Str} {px sp : Pos} {b : Expr} {env : Env} (h : isSlE b = false) (v : Value) : assign (.Subscript (.Name x px) b sp) env v = (do
      let ov ← holding [v] (eval (.Name x px) env)
      let iv ← holding [v, ov] (eval b env)
      standAt sp
      holding [v, ov, iv] (setItem ov iv v)
      release [v, ov, iv] []) := by
  cases b <;> first | rfl | cases h
theorem cStr_ok (c : CxG S F k N none X) {e : Expr} {id : Nat} {m : ME} (h : cStr S N X.env.scope e = some (id, m)) : PE X e (tC0 F id m) := by
  unfold cStr at h
  split at h
  · split at h
    · rename_i hc
      simp only [Bool.and_eq_true] at hc
      simp only [Option.bind_eq_some_iff, Option.map_eq_some_iff] at h
      obtain ⟨id', h0, m1, h1, h2⟩ := h
      cases h2
      obtain ⟨f1, f2, f3⟩ := fine_ok hc.1.2
      obtain ⟨fa, fd, ps, g1, g2, g3, g4⟩ := c.str _ _ h0
      exact e_call0s g4 c.gd c.room (glb_ok hc.1.1) g1 g2 g3 ((sn_all S F k N fuel).l c h1).1 f1 hc.2
    · cases h
  · cases h
theorem cItm_ok (c : CxG S F k N none X) {e : Expr} {p : Option Nat × ME} (h : cItm S N X.env.scope e = some p) : PE X e (tU F p.1 p.2) ∧ noStar e = true := by
  unfold cItm at h
  split at h
  · rename_i id m h2
    cases h
    refine ⟨cStr_ok c h2, ?_⟩
    unfold cStr at h2
    split at h2
    · rfl
    · cases h2
  · split at h
    · rename_i hn
      simp only [Option.map_eq_some_iff] at h
      obtain ⟨m, h1, rfl⟩ := h
      exact ⟨((sn_all S F k N fuel).e c h1).ev, hn⟩
    · cases h
theorem tE_still {F : Fns} {m : ME} {σ : L2.St} {H : Hp} {Q : VK} (h : tE F (.still m) σ H Q) : tE F m σ H Q := by
  obtain ⟨A, M, ρ, d, fr, ρ', r, ev, q⟩ := h
  simp only [evE, Option.map_eq_some_iff] at ev
  obtain ⟨⟨d1, fr1, ρ1⟩, h1, h2⟩ := ev
  cases h2
  exact ⟨A, M, ρ, _, fr1, _, r, h1, fun v H1 p => by
    obtain ⟨A1, M1, s1, k1, r1, b1⟩ := p.std r.live
    exact q _ _ ⟨⟨A1, M1, s1, k1, r1, fun _ => b1, nofun⟩, nofun⟩⟩
theorem cAsg_ok (c : CxG S F k N none X) {tg e : Expr} {m : MS} {pos : Pos} (h : cAsg S N X.env.scope tg e = some m) : PS X (.Assign [tg] e pos) (tS F W m) := by
  have I := sn_all S F k N fuel
  unfold cAsg at h
  split at h
  · split at h
    · rename_i hs
      simp only [Option.bind_eq_some_iff, Option.map_eq_some_iff] at h
      obtain ⟨i, h1, m1, h2, rfl⟩ := h
      refine s_asgN ?_
      split
      · exact (setComp c hs h1 h2).imp fun D σ H q => tE_still q
      · exact setComp c hs h1 h2
    · cases h
  · split at h
    · rename_i hs
      rw [Bool.and_eq_true] at hs
      simp only [Option.bind_eq_some_iff] at h
      obtain ⟨i, h1, h⟩ := h
      split at h
      · rename_i id m1 h2
        cases h
        exact s_asgO (by rw [c.hN]; exact c.nd) (by rw [c.hN]; exact posOf_ok h1) (loc_of hs.2) (cStr_ok c h2) (sw_name hs.1) (c.st _ hs.2)
      · simp only [Option.map_eq_some_iff] at h
        obtain ⟨m1, h2, rfl⟩ := h
        refine s_asgN (ps_set (by rw [c.hN]; exact c.nd) (by rw [c.hN]; exact posOf_ok h1) (loc_of hs.2) ?_ (sw_name hs.1) (c.st _ hs.2))
        split
        · exact (e_still (I.e c h2)).ev
        · exact (I.e c h2).ev
    · cases h
  · split at h
    · cases h
    · rename_i hsw
      obtain ⟨n1, n2⟩ := sw_ns hsw
      split at h
      · simp only [Option.bind_eq_some_iff] at h
        obtain ⟨i, h1, j, h2, h⟩ := h
        split at h
        · cases h
        · rename_i hij
          split at h
          · rename_i hl
            rw [Bool.and_eq_true] at hl
            split at h
            · have n3 := names_len2 n1 n2
              subst n3
              split at h
              · rename_i m0 h0
                cases h
                unfold cParS at h0
                split at h0
                · simp only [Option.bind_eq_some_iff, Option.map_eq_some_iff] at h0
                  obtain ⟨p, h3, q, h4, rfl⟩ := h0
                  obtain ⟨p1, p2⟩ := cItm_ok c h3
                  obtain ⟨q1, q2⟩ := cItm_ok c h4
                  exact s_parS (ps_par c.calm (by rw [c.hN]; exact c.nd) (by rw [c.hN]; exact posOf_ok h1) (by rw [c.hN]; exact posOf_ok h2) hij (lk hl.1) (lk hl.2) (p_two p1 q1 p2 q2) (sw_yes hsw) (sole.trans sw_tup))
                · cases h0
              · simp only [Option.map_eq_some_iff] at h
                obtain ⟨m1, h3, rfl⟩ := h
                exact s_par2 (ps_par c.calm (by rw [c.hN]; exact c.nd) (by rw [c.hN]; exact posOf_ok h1) (by rw [c.hN]; exact posOf_ok h2) hij (lk hl.1) (lk hl.2) (cP_ok c h3) (sw_yes hsw) (sole.trans sw_tup))
            · cases h
          · cases h
      · simp only [Option.bind_eq_some_iff] at h
        obtain ⟨i, h1, j, h2, l, h0, h⟩ := h
        split at h
        · cases h
        · rename_i hij
          simp only [not_or] at hij
          split at h
          · rename_i hl
            simp only [Bool.and_eq_true] at hl
            split at h
            · simp only [Option.map_eq_some_iff] at h
              obtain ⟨m1, h3, rfl⟩ := h
              have n3 := names_len3 n1 n2
              subst n3
              exact s_par3 (ps_par3 c.calm (by rw [c.hN]; exact c.nd) (by rw [c.hN]; exact posOf_ok h1) (by rw [c.hN]; exact posOf_ok h2) (by rw [c.hN]; exact posOf_ok h0) hij.1 hij.2.1 hij.2.2 (lk hl.1.1) (lk hl.1.2) (lk hl.2) (cP_ok c h3) (sw_yes hsw) (sole.trans sw_tup))
            · cases h
          · cases h
      · cases h
    · rename_i hsw
      split at h
      · rename_i m0 h0
        cases h
        unfold cPut2 at h0
        split at h0
        · split at h0
          · rename_i hc
            simp only [Bool.and_eq_true, Bool.not_eq_true'] at hc
            simp only [Option.bind_eq_some_iff, Option.map_eq_some_iff] at h0
            obtain ⟨i, h1, j, h2, mk, h3, m1, h4, rfl⟩ := h0
            obtain ⟨f1, f2, f3⟩ := fine_ok hc.1.1.1
            exact s_put2 c.calm (pe_var (by rw [c.hN]; exact posOf_ok h1) (vis_ok hc.1.1.2) f1 f2) (g_nm c hc.2 h2) (I.e c h3) (cP_ok c h4) (sole.trans sw_tup) (sw_no hsw) (asg_sub hc.1.2)
          · cases h0
        · cases h0
      · simp only [Option.bind_eq_some_iff] at h
        obtain ⟨t, h1, m1, h2, h⟩ := h
        split at h
        · rename_i hle
          cases h
          obtain ⟨q1, q2, q3⟩ := cGP_ok c h1
          exact s_parG c.calm (cP_ok c h2) q1 q2 q3 (sole.trans sw_tup) (sw_no hsw) fun ρ ds ρ' hh => by rw [evP_len hh]; exact Nat.le_trans hle (by decide)
        · cases h
  · split at h
    · cases h
    · rename_i ht
      simp only [Option.bind_eq_some_iff, Option.map_eq_some_iff] at h
      obtain ⟨t, h1, m1, h2, rfl⟩ := h
      obtain ⟨q1, q2, q3⟩ := cGs_ok c h1
      exact s_asgT (ps_asg (I.e c h2).ev (g_tup c.calm q1 q2 q3) (sole.trans sw_tup) (st_tup (by simpa using ht)))
  · split at h
    · rename_i hc
      simp only [Bool.and_eq_true, Bool.not_eq_true'] at hc
      simp only [Option.bind_eq_some_iff, Option.map_eq_some_iff] at h
      obtain ⟨i, h1, mk, h2, m1, h3, rfl⟩ := h
      obtain ⟨f1, f2, f3⟩ := fine_ok hc.1.1
      exact s_put (by have := c.units; omega) (pe_var (by rw [c.hN]; exact posOf_ok h1) (vis_ok hc.1.2) f1 f2) (I.e c h2) (I.e c h3) sw_sub st_sub (asg_sub hc.2)
    · cases h
  · split at h
    · rename_i hc
      simp only [Bool.and_eq_true] at hc
      simp only [Option.bind_eq_some_iff, Option.map_eq_some_iff] at h
      obtain ⟨i, h1, m1, h2, rfl⟩ := h
      obtain ⟨f1, f2, f3⟩ := fine_ok hc.1.1
      exact s_putA c.hK (c.ob.fld _ hc.2) (pe_var (by rw [c.hN]; exact posOf_ok h1) (vis_ok hc.1.2) f1 f2) (I.e c h2) sw_att
    · cases h
  · cases h
theorem cMeth_ok (c : CxG S F k N none X) {x f : Str} {e : Expr} {ap cp px pos : Pos} {m : MS} (h : cMeth S N X.env.scope x f e ap cp = some m) : PS X (.Expr (.Call (.Attribute (.Name x px) f ap) [e] [] cp) pos) (tS F W m) := by
  have I := sn_all S F k N fuel
  unfold cMeth at h
  split at h
  · rename_i hc
    simp only [Bool.and_eq_true] at hc
    obtain ⟨⟨⟨c1, c2⟩, c3⟩, c4⟩ := hc
    obtain ⟨f1, f2, f3⟩ := fine_ok c1
    simp only [Option.bind_eq_some_iff] at h
    obtain ⟨i, h1, m1, h2, h⟩ := h
    have pv : PE X (.Name x px) (tVar i) := pe_var (by rw [c.hN]; exact posOf_ok h1) (vis_ok c2) f1 f2
    split at h
    · rename_i hf
      subst hf
      cases h
      exact s_app pv (I.e c h2) c3 c4
    · split at h
      · rename_i hf
        subst hf
        cases h
        exact s_ext pv (I.e c h2) c3 c4
      · cases h
  · cases h
theorem getD_ok {o : Option MS} {st : Stmt} (h : ∀ m, o = some m → PS X st (tS F W m)) : PS X st (tS F W (o.getD .stuck)) := by
  cases o with
  | none => exact s_stuck
  | some m => exact h m rfl
theorem posAll_ok (c : CxG S F k N none X) : ∀ {es : List Expr} {js : List Nat}, posAll S.ob N X.env.scope es = some js → PA X es (tL F (varsM js)) ∧ js.length = es.length
  | [], js, h => by
    simp only [posAll, Option.some.injEq] at h
    subst h
    exact ⟨l_nil, rfl⟩
  | e :: es, js, h => by
    unfold posAll at h
    split at h
    · rename_i q; cases q
    · rename_i q; cases q
      split at h
      · rename_i hc
        simp only [Bool.and_eq_true] at hc
        simp only [Option.bind_eq_some_iff, Option.map_eq_some_iff] at h
        obtain ⟨j, h1, js1, h2, rfl⟩ := h
        obtain ⟨q1, q2⟩ := posAll_ok c h2
        obtain ⟨f1, f2, _⟩ := fine_ok hc.1.1
        exact ⟨l_cons (e_var (pe_var (by rw [c.hN]; exact posOf_ok h1) (vis_ok hc.1.2) f1 f2)) q1 rfl, congrArg (· + 1) q2⟩
      · cases h
    · cases h
theorem cForO_ok (c : CxG S F k N none X) (hp : PassesOwn (model X.prog X.w) X.A X.env X.xe) {tg it : Expr} {i : Nat} {m : ME} {sts : List Stmt} {n : MS} {pos : Pos} (h : cForO S N X.env.scope tg it = some (i, m)) (hb : PSs X sts (tS F W n)) : PS X (.For tg it sts [] pos) (tS F W (.loopO i m n)) := by
  unfold cForO at h
  split at h
  · split at h
    · rename_i hc
      rw [Bool.and_eq_true] at hc
      simp only [Option.bind_eq_some_iff, Option.map_eq_some_iff] at h
      obtain ⟨i', h1, m', h2, h3⟩ := h
      cases h3
      exact s_loopO hp c.calm (cP_ok c h2) (g_nm c hc.2 h1) hb (noFold rfl _)
    · cases h
  · cases h
theorem cForV_ok (c : CxG S F k N none X) (hp : PassesOwn (model X.prog X.w) X.A X.env X.xe) {tg it : Expr} {i : Nat} {js : List Nat} {sts : List Stmt} {n : MS} {pos : Pos} (h : cForV S N X.env.scope tg it = some (i, js)) (hb : PSs X sts (tS F W n))
    (hj : (js.all (fun j => j != i && !(asgd n).contains j) && !(asgd n).contains i) = true) : PS X (.For tg it sts [] pos) (tS F W (.loopV i js n)) := by
  rw [Bool.and_eq_true, List.all_eq_true] at hj
  unfold cForV at h
  split at h
  · split at h
    · rename_i hc
      rw [Bool.and_eq_true] at hc
      simp only [Option.bind_eq_some_iff, Option.map_eq_some_iff] at h
      obtain ⟨i', h1, m', h2, h3⟩ := h
      cases h3
      exact s_loopV hp c.calm (posAll_ok c h2).1 (g_nm c hc.1 h1) hb (noFold rfl _) (fun j hm => by
        have z := hj.1 j hm
        rw [Bool.and_eq_true, bne_iff_ne, Bool.not_eq_true', List.contains_eq_mem, decide_eq_false_iff_not] at z
        exact z) (by simpa using hj.2)
    · cases h
  · cases h
mutual
theorem cS_ok (c : CxG S F k N none X) (hp : PassesOwn (model X.prog X.w) X.A X.env X.xe) : ∀ (n : Nat) (st : Stmt), PS X st (tS F W (cS S N X.env.scope n st))
  | 0, st => by
    have e : cS S N X.env.scope 0 st = .stuck := by cases st <;> rfl
    rw [e]
    exact s_stuck
  | n + 1, st => by
    have I := sn_all S F k N fuel
    unfold cS
    split
    · exact s_pass
    · exact s_break
    · exact s_continue
    · split
      · exact s_retN
      · split
        · rename_i m1 h1
          unfold cTupO at h1
          split at h1
          · split at h1
            · rename_i hc
              simp only [Bool.and_eq_true, decide_eq_true_eq] at hc
              obtain ⟨⟨⟨⟨⟨c0, _⟩, c2⟩, c3⟩, c4⟩, c5⟩ := hc
              subst c2
              exact s_retT c0 (glb_ok c3) (c.blt _ c4) (I.e c h1) c5
            · cases h1
          · cases h1
        · split
          · rename_i id m1 h1
            exact s_retO (cStr_ok c h1)
          · refine getD_ok fun m h => ?_
            simp only [Option.map_eq_some_iff] at h
            obtain ⟨m1, h1, rfl⟩ := h
            exact s_ret (I.e c h1)
    · refine getD_ok fun m h => ?_
      simp only [Option.map_eq_some_iff] at h
      obtain ⟨m1, h1, rfl⟩ := h
      exact s_ite (I.t c h1) (cSs_ok c hp _ _) (cSs_ok c hp _ _)
    · split
      · split
        · rename_i i m h1
          exact cForO_ok c hp h1 (cSs_ok c hp _ _)
        · split
          · rename_i i js h1
            split
            · rename_i hj
              exact cForV_ok c hp h1 (cSs_ok c hp _ _) hj
            · exact s_stuck
          · refine getD_ok fun m h => ?_
            simp only [Option.bind_eq_some_iff, Option.map_eq_some_iff] at h
            obtain ⟨m1, h1, t, h2, rfl⟩ := h
            obtain ⟨pi, ns⟩ := I.i c h1
            exact s_loop hp c.calm pi (cG_ok c h2) (cSs_ok c hp _ _) (noFold ns _)
      · exact s_stuck
    · split
      · refine getD_ok fun m h => ?_
        simp only [Option.map_eq_some_iff] at h
        obtain ⟨m1, h1, rfl⟩ := h
        exact s_while hp (I.t c h1) (cSs_ok c hp _ _)
      · exact s_stuck
    · split
      · exact getD_ok fun m h => cAsg_ok c h
      · exact s_stuck
    · split
      · split
        · refine getD_ok fun m h => ?_
          simp only [Option.map_eq_some_iff] at h
          obtain ⟨m1, h1, rfl⟩ := h
          exact s_expr (I.e c h1) (sw_none rfl)
        · exact getD_ok fun m h => cMeth_ok c h
      · split
        · rename_i hn
          refine getD_ok fun m h => ?_
          simp only [Option.map_eq_some_iff] at h
          obtain ⟨m1, h1, rfl⟩ := h
          exact s_expr (I.e c h1) (sw_none hn)
        · exact s_stuck
    · exact s_stuck
theorem cSs_ok (c : CxG S F k N none X) (hp : PassesOwn (model X.prog X.w) X.A X.env X.xe) : ∀ (n : Nat) (sts : List Stmt), PSs X sts (tS F W (cSs S N X.env.scope n sts))
  | n, [] => by
    have e : cSs S N X.env.scope n [] = .skip := by cases n <;> rfl
    rw [e]
    exact ss_nil
  | 0, s :: r => by
    have e : cSs S N X.env.scope 0 (s :: r) = .stuck := by cases r <;> rfl
    rw [e]
    exact pss_never.imp fun D σ H ⟨A, M, ρ, o, _, ev, _⟩ => by cases ev
  | n + 1, [s] => by
    have e : cSs S N X.env.scope (n + 1) [s] = cS S N X.env.scope n s := rfl
    rw [e]
    exact ss_one (cS_ok c hp n s)
  | n + 1, s :: s' :: r => by
    have e : cSs S N X.env.scope (n + 1) (s :: s' :: r) = .seq (cS S N X.env.scope n s) (cSs S N X.env.scope n (s' :: r)) := rfl
    rw [e]
    exact ss_cons (cS_ok c hp n s) (cSs_ok c hp n (s' :: r))
end
end
end MI
/-! MIE: a whole program. -/
namespace MI
open PySem PySem.Spec PyProof.Rows L2
/-- a def of the program: its name, its number, its statement, its names by slot, its parameters -/
structure Ent where
  name : Str
  id : Nat
  st : Stmt
  N : List Str
  ps : List Str
  own : Bool := false
  dT : Bool := false
  use : List (Str × Nat) := []
  kws : List (List Str × List Nat) := []
  /-- whether it makes lambdas -/
  lam : Bool := false
noncomputable def Ent.sig (S : Sig) (e : Ent) : Sig := { S with own := e.own, dT := e.dT, strong := e.use, told := if e.lam then S.told else [], ob := S.ob.hide e.name }
noncomputable def Ent.fn (S : Sig) (e : Ent) : Fn := ⟨e.ps.length, e.N.length, cSs (e.sig S) e.N (defScope e.st) 400 (defBody e.st)⟩
structure EntAt (K : PySem.W.Frag) (mg : Str → Option Value) (e : Ent) (f : Addr) (fd : FuncData) : Prop where
  fn : L2.Fun K e.name e.name e.st f fd
  at_ : mg e.name = some (.ref f)
  bind : ∀ us : List Value, us.length = e.ps.length → bindArgs fd ⟨us, []⟩ = pure (e.ps.zip us)
  kb : ∀ q ∈ e.kws, ∀ ws : List Value, ws.length = q.1.length → bindArgs fd ⟨[], q.1.zip ws⟩ = pure (e.ps.zip (permL q.2 ws))
  sc : FnScope e.N e.ps (defScope e.st)
noncomputable def EntOk (K : PySem.W.Frag) (mg : Str → Option Value) (e : Ent) : Prop := ∃ f fd, EntAt K mg e f fd
noncomputable def CstOk (mg : Str → Option Value) : Str × PyData → Prop
  | (x, .int i) => ∃ t, mg x = some (.int i t)
  | (x, .str z) => ∃ t, mg x = some (.str z t)
  | _ => False
/-- a dict of the module -/
noncomputable def GdOk (K : PySem.W.Frag) (mg : Str → Option Value) (p : Str × List (Int × Str)) : Prop := ∃ a, mg p.1 = some (.ref a) ∧ GdAt K a p.2
theorem lookup_mem {α : Type} : ∀ {l : List (Str × α)} {x : Str} {a : α}, l.lookup x = some a → (x, a) ∈ l
  | [], _, _, h => by cases h
  | (y, b) :: r, x, a, h => by
    rw [List.lookup_cons] at h
    split at h
    · rename_i e
      cases h
      rw [beq_iff_eq.mp e]
      exact List.mem_cons_self
    · exact List.mem_cons_of_mem _ (lookup_mem h)
section
variable {P : Program} {w : World} {mg : Str → Option Value} {base : Heap}
theorem prog_ok [EK] {S : Sig} {tab : List Ent} {T : Nat → Option Fn} {W : Nat} (hOb : S.ob = {}) (hTold : S.told = []) (hS : S.fns = tab.map fun e => (e.name, e.id)) (hT : ∀ e ∈ tab, T e.id = some (e.fn S)) (hU : ∀ e ∈ tab, ∀ p ∈ e.use, ∃ e' ∈ tab, p = (e'.name, e'.id)) (hW : ∀ q ∈ S.kws, ∃ e ∈ tab, q.1 = e.name ∧ q.2.2.1 = e.id ∧ (q.2.1, q.2.2.2) ∈ e.kws) (hE : ∀ e ∈ tab, EntOk EK.k mg e) (hC : ∀ p ∈ S.cst, CstOk mg p) (hB : ∀ x, S.blt.contains x = true → mg x = none) (hD : ∀ p ∈ S.gds, GdOk EK.k mg p) (hN : ∀ e ∈ tab, (e.dT = false ∨ fzB = false)) :
    ∀ (k : Nat), ∀ e ∈ tab, ∀ f fd, EntAt EK.k mg e f fd → FnG P w EK.k mg base k f fd e.ps (spF (evF T W k) e.id)
  | 0, e, he, f, fd, U => ⟨fun vs H Q ⟨_, _, _, _, _, _, _, z, _⟩ => (nomatch z), fun A outer s H args us vs Q _ _ _ _ _ ⟨_, _, _, _, _, _, _, z, _⟩ => (nomatch z)⟩
  | k + 1, e, he, f, fd, U => by
    have ih := prog_ok (W := W) hOb hTold hS hT hU hW hE hC hB hD hN k
    have sc := U.sc
    refine fn_g (F := evF T W k) (W := W) (fn := e.fn S) U.fn sc rfl rfl (fun as => ?_) fun cdv A outer s H _ hg hr => ?_
    · show (T e.id).bind _ = _
      rw [hT e he]
      rfl
    · have c : CxG (e.sig S) (evF T W k) k e.N none (cxOf CX0 P w EK.k mg base e.N e.name (defScope e.st) f cdv A outer s H E0).nox :=
        { hK := rfl, hN := rfl, nd := sc.nd, calm := rfl, gd := hg, gdr := fun _ => hg.gs, gdt := fun _ _ _ => hg.gs, room := hr, xe := rfl, st := fun x _ => .inl rfl, blt := hB, ndt := hN e he, gds := fun x es hx => hD _ (lookup_mem hx)
          ob := ObX.none (show S.ob.hide e.name = {} by rw [hOb]; rfl)
          tld := fun y ts h => absurd (show (if e.lam then S.told else []).lookup y = some ts from h) (by rw [hTold]; simp)
          tlo := fun y ts h _ => absurd (show (if e.lam then S.told else []).lookup y = some ts from h) (by rw [hTold]; simp)
          fns := fun x id hx => by
            have hm := lookup_mem (show S.fns.lookup x = some id from hx)
            rw [hS, List.mem_map] at hm
            obtain ⟨e', he', q⟩ := hm
            cases q
            obtain ⟨f', fd', U'⟩ := hE e' he'
            exact ⟨f', fd', e'.ps, U'.at_, U'.fn.kp, Binds.all U'.bind, ih e' he' f' fd' U'⟩
          str := fun x id hx => by
            obtain ⟨e', he', q⟩ := hU e he _ (lookup_mem hx)
            cases q
            obtain ⟨f', fd', U'⟩ := hE e' he'
            exact ⟨f', fd', e'.ps, U'.at_, U'.fn.kp, Binds.all U'.bind, ih e' he' f' fd' U'⟩
          kw := fun x ks id l hx => by
            obtain ⟨e', he', q1, q2, q3⟩ := hW _ hx
            dsimp only at q1 q2 q3
            subst q1
            subst q2
            obtain ⟨f', fd', U'⟩ := hE e' he'
            exact ⟨f', fd', e'.ps, U'.at_, U'.fn.kp, fun s ws hl => .of_eq (U'.kb _ q3 ws hl), ih e' he' f' fd' U'⟩
          cst := fun x d hx => by
            have q := hC _ (lookup_mem hx)
            unfold CstOk at q
            split at q
            · rename_i e1; cases e1
              obtain ⟨t, q⟩ := q
              exact ⟨.int _, _, q, ⟨t, rfl⟩, fun _ _ => .int _⟩
            · rename_i e1; cases e1
              obtain ⟨t, q⟩ := q
              exact ⟨.str _, _, q, ⟨t, rfl⟩, fun _ _ => .str _⟩
            · exact q.elim }
      exact cSs_ok c PassesOwn.never 400 (defBody e.st)
/-- what the top has left of a def -/
theorem ent_ok {K : PySem.W.Frag} {h : Heap} {e : Ent} (X : K.In h) (G : h.Ns mainGlobals mg) {f : Addr} {oc kV doc pm cdv ct : Value} {od an : Option Addr} {osl : Array (Option Value)}
    (a : PySem.W.nsIn K mainGlobals e.name = some (some (.ref f))) (l : K.lookup f = some ⟨oc, od, .func (PySem.W.fnOf e.name e.name (defArgs e.st) (defBody e.st) (defScope e.st) .none kV doc pm an cdv ct), osl⟩) (cd : PySem.W.codeIn K cdv e.name = true) (kp : PySem.W.keepIn K (.ref f) = true)
    (hb : ∀ us : List Value, us.length = e.ps.length → bindArgs (PySem.W.fnOf e.name e.name (defArgs e.st) (defBody e.st) (defScope e.st) .none kV doc pm an cdv ct) ⟨us, []⟩ = pure (e.ps.zip us))
    (hk : ∀ q ∈ e.kws, ∀ ws : List Value, ws.length = q.1.length → bindArgs (PySem.W.fnOf e.name e.name (defArgs e.st) (defBody e.st) (defScope e.st) .none kV doc pm an cdv ct) ⟨[], q.1.zip ws⟩ = pure (e.ps.zip (permL q.2 ws))) (sc : FnScope e.N e.ps (defScope e.st)) : EntOk K mg e :=
  ⟨f, _, fun_mk (st := e.st) l cd kp, PySem.W.mg_of X G a, hb, hk, sc⟩
/-- the law's def -/
theorem law_ok {K : PySem.W.Frag} {S : Sig} {tab : List Ent} {T : Nat → Option Fn} {W k : Nat} {e : Ent} {fa : Addr} {x : Str} (he : e ∈ tab) (hx : e.ps = [x]) (hfa : mg e.name = some (.ref fa)) (hS : S.fns = tab.map fun e => (e.name, e.id)) (hT : ∀ e ∈ tab, T e.id = some (e.fn S)) (hU : ∀ e ∈ tab, ∀ p ∈ e.use, ∃ e' ∈ tab, p = (e'.name, e'.id)) (hW : ∀ q ∈ S.kws, ∃ e ∈ tab, q.1 = e.name ∧ q.2.2.1 = e.id ∧ (q.2.1, q.2.2.2) ∈ e.kws)
    (hE : ∀ e ∈ tab, EntOk K mg e) (hC : ∀ p ∈ S.cst, CstOk mg p) (hB : ∀ x, S.blt.contains x = true → mg x = none) (hD : ∀ p ∈ S.gds, GdOk K mg p := by exact fun p hp => absurd hp List.not_mem_nil) (hN : ∀ e ∈ tab, (e.dT = false ∨ fzB = false) := by decide +kernel) (hTold : S.told = [] := by rfl) (hOb : S.ob = {} := by rfl) :
    ∃ fd : FuncData, (∀ (s : Shared) (u : Value), BindsTo s fd ⟨[u], []⟩ [(x, u)]) ∧ ∀ base : Heap, K.In base → base.Ns mainGlobals mg → FnG P w K mg base k fa fd [x] (@spF ⟨K, [], none, [], fun _ h => absurd h List.not_mem_nil⟩ (evF T W k) e.id) := by
  obtain ⟨f, fd, U⟩ := hE e he
  have z := U.at_
  rw [hfa] at z
  cases z
  refine ⟨fd, fun s u => .of_eq ?_, fun base _ _ => ?_⟩
  · have q := U.bind [u] (by rw [hx]; rfl)
    rw [hx] at q
    exact q
  · have q := @prog_ok P w mg base ⟨K, [], none, [], fun _ h => absurd h List.not_mem_nil⟩ S tab T W hOb hTold hS hT hU hW hE hC hB hD hN k e he fa fd U
    rw [hx] at q
    exact q
/-- from the interpreter's answer to the row -/
theorem walk_go {l : PySem.W.OpenLaw} {n k id : Nat} {q : Program} {loose : List Str} {XP : (Str → Option Value) → Heap → Prop} {YP : World → Heap → Prop} {d : DefRec} {KK : Params → PySem.W.Frag} {x : Str} {F : Fns} {OC : Params → List Addr} {OK : ∀ p, ∀ C ∈ OC p, ObCls (KK p) C}
    (hn : l.most = some n) (hn2 : n ≤ sizeLine) (hdf : d.params.defaults = []) (room : Room k callerA) (hY : ∀ (w : World) (h : Heap), YP w h → (KK w.params).In h)
    (hG : ∀ (w : World) (mg : Str → Option Value) (fa : Addr) (h : Heap), (KK w.params).In h → h.Ns mainGlobals mg → mg d.name = some (.ref fa) →
      ∃ fd : FuncData, (∀ (s : Shared) (u : Value), BindsTo s fd ⟨[u], []⟩ [(x, u)]) ∧ ∀ base : Heap, (KK w.params).In base → base.Ns mainGlobals mg → @FnG gr0 l.prog w (KK w.params) mg base k fa fd [x] (@spF ⟨KK w.params, [], none, OC w.params, OK w.params⟩ F id))
    (hev : ∀ ns : List Int, ns.length ≤ n → ∃ fr ss, F id [(scr (ns.map PyData.int), false)] = some (.bool true, fr, ss)) :
    PySem.W.WalkO q loose XP YP l.row.toRowW d [] (fun f vs => PySem.call f vs) := by
  refine Att.attach_call hn hdf fun w s₀ s₁ mg mb fa o pm cd doc a vs ns G Y ho hd hcd hmg hobj hints hlen hg => ?_
  obtain ⟨fd, hb, hF⟩ := hG w mg fa _ (hY w _ Y) G.T.g hmg
  obtain ⟨fr, ss, ev⟩ := hev ns hlen
  exact @law_g ⟨KK w.params, [], none, OC w.params, OK w.params⟩ gr0 l.prog w (KK w.params) mg mb k id fa a fd x F s₁ vs ns fr ss rfl rfl rfl (hY w _ Y) G.T.g G.T.b G.T.builtins G.T.nolimit hg hobj hints (Nat.le_trans hlen hn2) room hF hb ev
/-- from the interpreter's answer to the row -/
theorem walk_g {l : PySem.W.OpenLaw} {n k id : Nat} {q : Program} {loose : List Str} {XP : (Str → Option Value) → Heap → Prop} {YP : World → Heap → Prop} {d : DefRec} {KK : Params → PySem.W.Frag} {x : Str} {F : Fns}
    (hn : l.most = some n) (hn2 : n ≤ sizeLine) (hdf : d.params.defaults = []) (room : Room k callerA) (hY : ∀ (w : World) (h : Heap), YP w h → (KK w.params).In h)
    (hG : ∀ (w : World) (mg : Str → Option Value) (fa : Addr) (h : Heap), (KK w.params).In h → h.Ns mainGlobals mg → mg d.name = some (.ref fa) →
      ∃ fd : FuncData, (∀ (s : Shared) (u : Value), BindsTo s fd ⟨[u], []⟩ [(x, u)]) ∧ ∀ base : Heap, (KK w.params).In base → base.Ns mainGlobals mg → @FnG gr0 l.prog w (KK w.params) mg base k fa fd [x] (@spF ⟨KK w.params, [], none, [], fun _ h => absurd h List.not_mem_nil⟩ F id))
    (hev : ∀ ns : List Int, ns.length ≤ n → ∃ fr ss, F id [(scr (ns.map PyData.int), false)] = some (.bool true, fr, ss)) :
    PySem.W.WalkO q loose XP YP l.row.toRowW d [] (fun f vs => PySem.call f vs) :=
  walk_go (OC := fun _ => []) (OK := fun _ _ h => absurd h List.not_mem_nil) hn hn2 hdf room hY hG hev
theorem cst_i {K : PySem.W.Frag} {h : Heap} {x : Str} {i : Int} {t : Tok} (X : K.In h) (G : h.Ns mainGlobals mg) (a : PySem.W.nsIn K mainGlobals x = some (some (.int i t))) : CstOk mg (x, .int i) := ⟨t, PySem.W.mg_of X G a⟩
theorem blt_all {l : List Str} (h : ∀ x ∈ l, mg x = none) : ∀ x, l.contains x = true → mg x = none := fun x hx => h x (List.contains_iff_mem.mp hx)
end
end MI
namespace MI
/-- a table has a def at a number -/
class Has (T : Nat → Option Fn) (i : Nat) (f : Fn) : Prop where
  h : T i = some f
theorem evF_has {T : Nat → Option Fn} {W k i : Nat} {f : Fn} [q : Has T i f] (as : List Arg) : evF T W (k + 1) i as = runFn (evF T W k) W f as := by
  show (T i).bind _ = _
  rw [q.h]
  rfl
end MI
/-! MIF: reasoning about runs: Wp and its rules. -/
namespace MI
open PySem
/-- it answers, and the answer is such -/
inductive Tg {α : Sort u} (a : α) : Type
  | mk
noncomputable def Wp {α : Type} (o : Option α) (Q : α → Prop) (u : Tg Q := Tg.mk) : Prop := ∃ a, o = some a ∧ Q a
noncomputable def Wp0 {α : Type} (o : Option α) (Q : α → Prop) : Prop := ∃ a, o = some a ∧ Q a
noncomputable def Wif0 (c A B : Prop) : Prop := (c → A) ∧ (¬ c → B)
theorem pw {α : Type} {o : Option α} {Q : α → Prop} {u : Tg Q} : Wp o Q u = Wp0 o Q := rfl
section
variable {α β : Type} {Q : α → Prop}
theorem Wp0_some {a : α} : Wp0 (some a) Q = Q a := by simp [Wp0]
theorem Wp0_none : Wp0 (none : Option α) Q = False := by simp [Wp0]
theorem Wp0_bind {o : Option β} {f : β → Option α} : Wp0 (o.bind f) Q = Wp0 o (fun b => Wp0 (f b) Q) := by
  cases o <;> simp [Wp0]
theorem Wp0_map {o : Option β} {f : β → α} : Wp0 (o.map f) Q = Wp0 o (fun b => Q (f b)) := by
  cases o <;> simp [Wp0]
theorem Wp0_ite {c : Prop} [Decidable c] {x y : Option α} : Wp0 (if c then x else y) Q = Wif0 c (Wp0 x Q) (Wp0 y Q) := by
  by_cases h : c <;> simp [h, Wif0]
end
noncomputable def W2 {α β : Type} (o : Option (α × β)) (Q : α → β → Prop) (u : Tg Q := Tg.mk) : Prop := ∃ a, o = some a ∧ Q a.1 a.2
noncomputable def W3 {α β γ : Type} (o : Option (α × β × γ)) (Q : α → β → γ → Prop) (u : Tg Q := Tg.mk) : Prop := ∃ a, o = some a ∧ Q a.1 a.2.1 a.2.2
theorem p2 {α β : Type} {o : Option (α × β)} {Q : α → β → Prop} {u : Tg Q} : W2 o Q u = Wp0 o (fun a => Q a.1 a.2) := rfl
theorem p3 {α β γ : Type} {o : Option (α × β × γ)} {Q : α → β → γ → Prop} {u : Tg Q} : W3 o Q u = Wp0 o (fun a => Q a.1 a.2.1 a.2.2) := rfl
/-- two ways, by a condition -/
noncomputable def Wif (c A B : Prop) (u : Tg A := Tg.mk) (v : Tg B := Tg.mk) : Prop := (c → A) ∧ (¬ c → B)
@[simp] theorem Wif_true {A B : Prop} : Wif True A B = A := by simp [Wif]
@[simp] theorem Wif_false {A B : Prop} : Wif False A B = B := by simp [Wif]
theorem pif {c A B : Prop} {u : Tg A} {v : Tg B} : Wif c A B u v = Wif0 c A B := rfl
theorem Wif_i {c A B : Prop} (h : c → A) (h' : ¬ c → B) : Wif c A B := ⟨h, h'⟩
theorem Wif_t {c A B : Prop} (h : c) (h' : A) : Wif c A B := ⟨fun _ => h', fun n => (n h).elim⟩
theorem Wp_mono {α : Type} {o : Option α} {Q Q' : α → Prop} (h : Wp o Q) (g : ∀ a, Q a → Q' a) : Wp o Q' := by
  obtain ⟨a, h1, h2⟩ := h; exact ⟨a, h1, g a h2⟩
@[simp ↓] theorem W2_some {α β : Type} {a : α} {b : β} {Q : α → β → Prop} : W2 (some (a, b)) Q = Q a b := by simp [W2]
@[simp ↓] theorem W3_some {α β γ : Type} {a : α} {b : β} {c : γ} {Q : α → β → γ → Prop} : W3 (some (a, b, c)) Q = Q a b c := by simp [W3]
theorem W2_mono {α β : Type} {o : Option (α × β)} {Q Q' : α → β → Prop} (h : W2 o Q) (g : ∀ a b, Q a b → Q' a b) : W2 o Q' := by
  obtain ⟨a, h1, h2⟩ := h; exact ⟨a, h1, g _ _ h2⟩
theorem W3_eq {α β γ : Type} {o : Option (α × β × γ)} {a : α} {b : β} {c : γ} {Q : α → β → γ → Prop} (h : o = some (a, b, c)) (g : Q a b c) : W3 o Q := ⟨_, h, g⟩
theorem W3_of {α β γ : Type} {o : Option (α × β × γ)} {a : α} {b : β} {c : γ} (h : W3 o (fun x y z => x = a ∧ y = b ∧ z = c)) : o = some (a, b, c) := by
  obtain ⟨⟨x, y, z⟩, h1, h2, h3, h4⟩ := h; subst h2; subst h3; subst h4; exact h1
section
variable {α β : Type} {Q : α → Prop}
@[simp ↓] theorem Wp_some {a : α} : Wp (some a) Q = Q a := by simp [Wp]
@[simp ↓] theorem Wp_none : Wp (none : Option α) Q = False := by simp [Wp]
@[simp ↓] theorem Wp_bind {o : Option β} {f : β → Option α} : Wp (o.bind f) Q = Wp o (fun b => Wp (f b) Q) := by
  cases o <;> simp [Wp]
@[simp ↓] theorem Wp_map {o : Option β} {f : β → α} : Wp (o.map f) Q = Wp o (fun b => Q (f b)) := by
  cases o <;> simp [Wp]
@[simp ↓] theorem Wp_ite {c : Prop} [Decidable c] {x y : Option α} : Wp (if c then x else y) Q = Wif c (Wp x Q) (Wp y Q) := by
  by_cases h : c <;> simp [h, Wif]
end
/-! ### operands -/
noncomputable def isV : ME → Bool
  | .var _ => true
  | _ => false
noncomputable def borV (ρ : Rho) (i : Nat) : Option (Bor × Rho) :=
  match ρ[i]? with
  | some (.own (.tuple xs)) => some (.v (.tuple xs), ρ)
  | some (.own _) => some (.r i, ρ)
  | some (.dat d) => some (.v d, ρ)
  | _ => none
noncomputable def intK (d : PyData) (k : Int → Prop) (u : Tg k := Tg.mk) : Prop :=
  match d with
  | .int i => k i
  | _ => False
noncomputable def boolK (d : PyData) (k : Bool → Prop) (u : Tg k := Tg.mk) : Prop :=
  match d with
  | .bool b => k b
  | _ => False
@[simp] theorem intK_int {i : Int} {k} : intK (.int i) k = k i := rfl
@[simp] theorem boolK_bool {b : Bool} {k} : boolK (.bool b) k = k b := rfl
noncomputable def slotK (o : Option Slot) (A B : PyData → Prop) (u : Tg A := Tg.mk) (v : Tg B := Tg.mk) : Prop :=
  match o with
  | some (.dat d) => A d
  | some (.own (.tuple xs)) => A (.tuple xs)
  | some (.own d) => B d
  | _ => False
@[simp] theorem slotK_dat {d A B} : slotK (some (.dat d)) A B = A d := rfl
@[simp] theorem slotK_ownT {d A B} : slotK (some (.own (.tuple d))) A B = A (.tuple d) := rfl
@[simp] theorem slotK_ownL {d A B} : slotK (some (.own (.list d))) A B = B (.list d) := rfl
@[simp] theorem slotK_ownD {d A B} : slotK (some (.own (.dict d))) A B = B (.dict d) := rfl
/-- as slotK, where a tuple of one's own will do -/
noncomputable def slotL (o : Option Slot) (A B : PyData → Prop) (u : Tg A := Tg.mk) (v : Tg B := Tg.mk) : Prop :=
  match o with
  | some (.dat d) => A d
  | some (.own d) => B d
  | _ => False
@[simp] theorem slotL_dat {d A B} : slotL (some (.dat d)) A B = A d := rfl
@[simp] theorem slotL_own {d A B} : slotL (some (.own d)) A B = B d := rfl
@[simp ↓] theorem w_borV {ρ : Rho} {i : Nat} {Q} : W2 (borV ρ i) Q = slotK ρ[i]? (fun d => Q (.v d) ρ) (fun _ => Q (.r i) ρ) := by
  rcases h : ρ[i]? with _ | (_ | d | d) <;> (try cases d) <;> simp only [p2, borV, h, slotK, Wp0_some, Wp0_none]
@[simp ↓] theorem w_rdVar {ρ : Rho} {i : Nat} {Q} : W3 (rdVar ρ i) Q = slotK ρ[i]? (fun d => Q d false ρ) (fun d => Q d false (ρ.set i (.dat d))) := by
  rcases h : ρ[i]? with _ | (_ | d | d) <;> (try cases d) <;> simp only [p3, rdVar, h, slotK, Wp0_some, Wp0_none]
section
variable {F : Fns} {ρ : Rho} {Q : Bor → Rho → Prop} {ev : Rho → Option (PyData × Bool × Rho)}
@[simp ↓] theorem wB_var {i : Nat} : W2 (bor ev (.var i) ρ) Q = W2 (borV ρ i) Q := rfl
theorem wB_nv {m : ME} (h : isV m = false) : W2 (bor ev m ρ) Q = W3 (ev ρ) (fun xa xb xc => Q (.v xa) xc) := by
  cases m <;> first | (simp [isV] at h; done) | (simp only [pw, p2, p3, bor, Wp0_map])
@[simp ↓] theorem wB_lit {d} : W2 (bor ev (ME.lit d) ρ) Q = W3 (ev ρ) (fun xa xb xc => Q (.v xa) xc) := wB_nv rfl
@[simp ↓] theorem wB_bin {o a b} : W2 (bor ev (ME.bin o a b) ρ) Q = W3 (ev ρ) (fun xa xb xc => Q (.v xa) xc) := wB_nv rfl
@[simp ↓] theorem wB_neg {a} : W2 (bor ev (ME.neg a) ρ) Q = W3 (ev ρ) (fun xa xb xc => Q (.v xa) xc) := wB_nv rfl
@[simp ↓] theorem wB_cmp {o a b} : W2 (bor ev (ME.cmp o a b) ρ) Q = W3 (ev ρ) (fun xa xb xc => Q (.v xa) xc) := wB_nv rfl
@[simp ↓] theorem wB_cmp2 {o o2 a b c} : W2 (bor ev (ME.cmp2 o o2 a b c) ρ) Q = W3 (ev ρ) (fun xa xb xc => Q (.v xa) xc) := wB_nv rfl
@[simp ↓] theorem wB_isN {a} : W2 (bor ev (ME.isN a) ρ) Q = W3 (ev ρ) (fun xa xb xc => Q (.v xa) xc) := wB_nv rfl
@[simp ↓] theorem wB_notN {a} : W2 (bor ev (ME.notN a) ρ) Q = W3 (ev ρ) (fun xa xb xc => Q (.v xa) xc) := wB_nv rfl
@[simp ↓] theorem wB_ite {c a b} : W2 (bor ev (ME.ite c a b) ρ) Q = W3 (ev ρ) (fun xa xb xc => Q (.v xa) xc) := wB_nv rfl
@[simp ↓] theorem wB_call {f a} : W2 (bor ev (ME.call f a) ρ) Q = W3 (ev ρ) (fun xa xb xc => Q (.v xa) xc) := wB_nv rfl
@[simp ↓] theorem wB_bi {f a} : W2 (bor ev (ME.bi f a) ρ) Q = W3 (ev ρ) (fun xa xb xc => Q (.v xa) xc) := wB_nv rfl
@[simp ↓] theorem wB_idx {a b} : W2 (bor ev (ME.idx a b) ρ) Q = W3 (ev ρ) (fun xa xb xc => Q (.v xa) xc) := wB_nv rfl
@[simp ↓] theorem wB_sl {a b c} : W2 (bor ev (ME.sl a b c) ρ) Q = W3 (ev ρ) (fun xa xb xc => Q (.v xa) xc) := wB_nv rfl
@[simp ↓] theorem wB_tup {a} : W2 (bor ev (ME.tup a) ρ) Q = W3 (ev ρ) (fun xa xb xc => Q (.v xa) xc) := wB_nv rfl
@[simp ↓] theorem wB_lst {a} : W2 (bor ev (ME.lst a) ρ) Q = W3 (ev ρ) (fun xa xb xc => Q (.v xa) xc) := wB_nv rfl
@[simp ↓] theorem wB_dic : W2 (bor ev (ME.dic) ρ) Q = W3 (ev ρ) (fun xa xb xc => Q (.v xa) xc) := wB_nv rfl
@[simp ↓] theorem wB_comp {vs tg it c e} : W2 (bor ev (ME.comp vs tg it c e) ρ) Q = W3 (ev ρ) (fun xa xb xc => Q (.v xa) xc) := wB_nv rfl
@[simp ↓] theorem wB_comp2 {vs vs1 tg it c tg1 it1 c1 e} : W2 (bor ev (ME.comp2 vs vs1 tg it c tg1 it1 c1 e) ρ) Q = W3 (ev ρ) (fun xa xb xc => Q (.v xa) xc) := wB_nv rfl
@[simp ↓] theorem wB_callF {f a b} : W2 (bor ev (ME.callF f a b) ρ) Q = W3 (ev ρ) (fun xa xb xc => Q (.v xa) xc) := wB_nv rfl
@[simp ↓] theorem wB_callV {f a} : W2 (bor ev (ME.callV f a) ρ) Q = W3 (ev ρ) (fun xa xb xc => Q (.v xa) xc) := wB_nv rfl
@[simp ↓] theorem wB_callK {f l a} : W2 (bor ev (ME.callK f l a) ρ) Q = W3 (ev ρ) (fun xa xb xc => Q (.v xa) xc) := wB_nv rfl
@[simp ↓] theorem wB_met {m a e} : W2 (bor ev (ME.met m a e) ρ) Q = W3 (ev ρ) (fun xa xb xc => Q (.v xa) xc) := wB_nv rfl
@[simp ↓] theorem wB_gget {m a e} : W2 (bor ev (ME.gget m a e) ρ) Q = W3 (ev ρ) (fun xa xb xc => Q (.v xa) xc) := wB_nv rfl
@[simp ↓] theorem wB_join {z a} : W2 (bor ev (ME.join z a) ρ) Q = W3 (ev ρ) (fun xa xb xc => Q (.v xa) xc) := wB_nv rfl
@[simp ↓] theorem wB_dicT : W2 (bor ev (ME.dicT) ρ) Q = W3 (ev ρ) (fun xa xb xc => Q (.v xa) xc) := wB_nv rfl
@[simp ↓] theorem wB_sset {a} : W2 (bor ev (ME.sset a) ρ) Q = W3 (ev ρ) (fun xa xb xc => Q (.v xa) xc) := wB_nv rfl
@[simp ↓] theorem wB_callG {a b c d} : W2 (bor ev (ME.callG a b c d) ρ) Q = W3 (ev ρ) (fun xa xb xc => Q (.v xa) xc) := wB_nv rfl
@[simp ↓] theorem wB_cntL {a b} : W2 (bor ev (ME.cntL a b) ρ) Q = W3 (ev ρ) (fun xa xb xc => Q (.v xa) xc) := wB_nv rfl
@[simp ↓] theorem wB_cnt {a b} : W2 (bor ev (ME.cnt a b) ρ) Q = W3 (ev ρ) (fun xa xb xc => Q (.v xa) xc) := wB_nv rfl
@[simp ↓] theorem wB_pop {a} : W2 (bor ev (ME.pop a) ρ) Q = W3 (ev ρ) (fun xa xb xc => Q (.v xa) xc) := wB_nv rfl
@[simp ↓] theorem wB_popAt {a b} : W2 (bor ev (ME.popAt a b) ρ) Q = W3 (ev ρ) (fun xa xb xc => Q (.v xa) xc) := wB_nv rfl
@[simp ↓] theorem wB_isB {a b} : W2 (bor ev (ME.isB a b) ρ) Q = W3 (ev ρ) (fun xa xb xc => Q (.v xa) xc) := wB_nv rfl
@[simp ↓] theorem wB_ix {a b} : W2 (bor ev (ME.ix a b) ρ) Q = W3 (ev ρ) (fun xa xb xc => Q (.v xa) xc) := wB_nv rfl
@[simp ↓] theorem wB_nisB {a b} : W2 (bor ev (ME.nisB a b) ρ) Q = W3 (ev ρ) (fun xa xb xc => Q (.v xa) xc) := wB_nv rfl
@[simp ↓] theorem wB_disp {ks a} : W2 (bor ev (ME.disp ks a) ρ) Q = W3 (ev ρ) (fun xa xb xc => Q (.v xa) xc) := wB_nv rfl
@[simp ↓] theorem wB_dget {a b c} : W2 (bor ev (ME.dget a b c) ρ) Q = W3 (ev ρ) (fun xa xb xc => Q (.v xa) xc) := wB_nv rfl
@[simp ↓] theorem wB_lset {a} : W2 (bor ev (ME.lset a) ρ) Q = W3 (ev ρ) (fun xa xb xc => Q (.v xa) xc) := wB_nv rfl
@[simp ↓] theorem wB_rev {a} : W2 (bor ev (ME.rev a) ρ) Q = W3 (ev ρ) (fun xa xb xc => Q (.v xa) xc) := wB_nv rfl
@[simp ↓] theorem wB_cv {a b} : W2 (bor ev (ME.cv a b) ρ) Q = W3 (ev ρ) (fun xa xb xc => Q (.v xa) xc) := wB_nv rfl
@[simp ↓] theorem wB_not {a} : W2 (bor ev (ME.not a) ρ) Q = W3 (ev ρ) (fun xa xb xc => Q (.v xa) xc) := wB_nv rfl
@[simp ↓] theorem wB_and {a b} : W2 (bor ev (ME.and a b) ρ) Q = W3 (ev ρ) (fun xa xb xc => Q (.v xa) xc) := wB_nv rfl
@[simp ↓] theorem wB_or {a b} : W2 (bor ev (ME.or a b) ρ) Q = W3 (ev ρ) (fun xa xb xc => Q (.v xa) xc) := wB_nv rfl
end
@[simp ↓] theorem wG_v {ρ : Rho} {d : PyData} {Q : PyData → Prop} : Wp (Bor.get ρ (.v d)) Q = Q d := by simp [Bor.get]
@[simp ↓] theorem wG_r {ρ : Rho} {i : Nat} {Q : PyData → Prop} : Wp (Bor.get ρ (.r i)) Q = slotK ρ[i]? Q Q := by
  rcases h : ρ[i]? with _ | (_ | d | d) <;> (try cases d) <;> simp only [pw, Bor.get, getR, h, slotK, Slot.get, Option.bind_some, Option.bind_none, Wp0_some, Wp0_none]
@[simp] theorem sget_dat {d : PyData} : Slot.get (.dat d) = some d := rfl
@[simp] theorem sget_ownL {d} : Slot.get (.own (.list d)) = some (.list d) := rfl
@[simp] theorem sget_ownD {d} : Slot.get (.own (.dict d)) = some (.dict d) := rfl
section
variable {F : Fns} {ρ : Rho} {Q : PyData → Bool → Rho → Prop}
@[simp ↓] theorem wE_lit {d : PyData} : W3 (evE F (.lit d) ρ) Q = Q d false ρ := by simp only [p3, evE, Wp0_some]
@[simp ↓] theorem wE_var {i : Nat} : W3 (evE F (.var i) ρ) Q = W3 (rdVar ρ i) Q := by simp only [p3, evE]
@[simp ↓] theorem wE_bin {op a b} : W3 (evE F (.bin op a b) ρ) Q = W2 (bor (evE F a) a ρ) fun xa xb => W2 (bor (evE F b) b xb) fun ya yb =>
    Wp (xa.get yb) fun d => Wp (ya.get yb) fun e => W2 (binD op d e) fun za zb => Q za zb yb := by simp only [pw, p2, p3, pif, evE, Wp0_bind, Wp0_map, Wp0_ite, Wp0_some, Wp0_none]
@[simp ↓] theorem wE_neg {a} : W3 (evE F (.neg a) ρ) Q = W3 (evE F a ρ) fun xa xb xc => intK xa fun i => Q (.int (-i)) false xc := by
  simp only [pw, p2, p3, pif, evE, Wp0_bind]; refine congrArg _ (funext fun x => ?_); rcases x with ⟨d, b, r⟩; cases d <;> simp only [pw, p2, p3, pif, intK, Wp0_ite, Wp0_some, Wp0_none, Wp0_map, Wp0_bind, Bool.or_eq_true, Bool.and_eq_true, Bool.not_eq_true']
@[simp ↓] theorem wE_not {a} : W3 (evE F (.not a) ρ) Q = W3 (evE F a ρ) fun xa xb xc => boolK xa fun b => Q (.bool (!b)) false xc := by
  simp only [pw, p2, p3, pif, evE, Wp0_bind]; refine congrArg _ (funext fun x => ?_); rcases x with ⟨d, b, r⟩; cases d <;> simp only [boolK, Wp0_some, Wp0_none]
@[simp ↓] theorem wE_and {a b} : W3 (evE F (.and a b) ρ) Q = W3 (evE F a ρ) fun xa xb xc => boolK xa fun t => Wif (t = true) (W3 (evE F b xc) Q) (Q (.bool false) false xc) := by
  simp only [pw, p2, p3, pif, evE, Wp0_bind]; refine congrArg _ (funext fun x => ?_); rcases x with ⟨d, c, r⟩; cases d <;> simp only [boolK, Wp0_none]
  rename_i t; cases t <;> simp [Wif0, Wp0_some]
@[simp ↓] theorem wE_or {a b} : W3 (evE F (.or a b) ρ) Q = W3 (evE F a ρ) fun xa xb xc => boolK xa fun t => Wif (t = true) (Q (.bool true) false xc) (W3 (evE F b xc) Q) := by
  simp only [pw, p2, p3, pif, evE, Wp0_bind]; refine congrArg _ (funext fun x => ?_); rcases x with ⟨d, c, r⟩; cases d <;> simp only [boolK, Wp0_none]
  rename_i t; cases t <;> simp [Wif0, Wp0_some]
@[simp ↓] theorem wE_cmp {op a b} : W3 (evE F (.cmp op a b) ρ) Q = W2 (bor (evE F a) a ρ) fun xa xb => W2 (bor (evE F b) b xb) fun ya yb =>
    Wp (xa.get yb) fun d => Wp (ya.get yb) fun e => Wp (cmpD op d e) fun z => Q (.bool z) false yb := by simp only [pw, p2, p3, pif, evE, Wp0_bind, Wp0_map, Wp0_ite, Wp0_some, Wp0_none]
@[simp ↓] theorem wE_cmp2 {op op' a b c} : W3 (evE F (.cmp2 op op' a b c) ρ) Q = W2 (bor (evE F a) a ρ) fun xa xb => W2 (bor (evE F b) b xb) fun ya yb =>
    Wp (xa.get yb) fun d => Wp (ya.get yb) fun e => Wp (cmpD op d e) fun z => Wif (z = true) (W2 (bor (evE F c) c yb) fun wa wb =>
      Wp (ya.get wb) fun e3 => Wp (wa.get wb) fun f => Wp (cmpD op' e3 f) fun z' => Q (.bool z') false wb) (Q (.bool false) false yb) := by
  simp only [pw, p2, p3, pif, evE, Wp0_bind, Wp0_map, Wp0_ite, Wp0_some, Wp0_none]
@[simp ↓] theorem wE_isN {a} : W3 (evE F (.isN a) ρ) Q = W2 (bor (evE F a) a ρ) fun xa xb => Wp (xa.get xb) fun d => Q (.bool (isNone d)) false xb := by
  simp only [pw, p2, p3, pif, evE, Wp0_bind, Wp0_map, Wp0_ite, Wp0_some, Wp0_none]
@[simp ↓] theorem wE_notN {a} : W3 (evE F (.notN a) ρ) Q = W2 (bor (evE F a) a ρ) fun xa xb => Wp (xa.get xb) fun d => Q (.bool (!isNone d)) false xb := by
  simp only [pw, p2, p3, pif, evE, Wp0_bind, Wp0_map, Wp0_ite, Wp0_some, Wp0_none]
@[simp ↓] theorem wE_ite {c a b} : W3 (evE F (.ite c a b) ρ) Q = W2 (evT F c ρ) fun xa xb => Wif (xa = true) (W3 (evE F a xb) Q) (W3 (evE F b xb) Q) := by
  simp only [pw, p2, p3, pif, evE, Wp0_bind, Wp0_map, Wp0_ite, Wp0_some, Wp0_none]
noncomputable def lookV (d : PyData) (fr : Bool) : Bool := flat d && !fr
@[simp] theorem lookV_i {i} : lookV (.int i) false = true := rfl
@[simp] theorem lookV_b {i} : lookV (.bool i) false = true := rfl
@[simp] theorem lookV_n : lookV .none false = true := rfl
noncomputable def strongV (d : PyData) (fr : Bool) : Bool := fr && isTup d
@[simp] theorem strongV_f {d} : strongV d false = false := rfl
@[simp] theorem strongV_l {d fr} : strongV (.list d) fr = false := by cases fr <;> rfl
@[simp] theorem strongV_d {d fr} : strongV (.dict d) fr = false := by cases fr <;> rfl
@[simp ↓] theorem wE_call {f as} : W3 (evE F (.call f as) ρ) Q = W2 (evL F as ρ) fun xa xb => W2 (lend xb xa) fun ya yb => W3 (F f ya) fun za zb zc => Wp (back yb xa ya zc) fun r => Q za zb r := by
  simp only [pw, p2, p3, pif, evE, strongV, Wp0_bind, Wp0_map, Wp0_ite, Wp0_some, Wp0_none]
@[simp ↓] theorem wE_callV {f as} : W3 (evE F (.callV f as) ρ) Q = W2 (evL F as ρ) fun xa xb => Wp (getAll xb xa) fun ds => W3 (F f (ds.map fun d => (d, false))) fun za zb zc => Wif (lookV za zb = true) (Q za false xb) False := by
  simp only [pw, p2, p3, pif, evE, lookV, Wp0_bind, Wp0_map, Wp0_ite, Wp0_some, Wp0_none]
@[simp ↓] theorem wE_callK {f l as} : W3 (evE F (.callK f l as) ρ) Q = W2 (evA F as ρ) fun xa xb => Wif (xa.length = l.length) (W3 (F f ((permL l xa).map fun d => (d, false))) fun za zb zc => Wif (zb = true) False (Q za false xb)) False := by
  simp only [pw, p2, p3, pif, evE, Wp0_bind, Wp0_map, Wp0_ite, Wp0_some, Wp0_none]
@[simp ↓] theorem wE_bi {b as} : W3 (evE F (.bi b as) ρ) Q = W2 (evL F as ρ) fun xa xb => Wp (getAll xb xa) fun ds => W2 (biD b ds) fun za zb => Q za zb xb := by
  simp only [pw, p2, p3, pif, evE, Wp0_bind, Wp0_map, Wp0_ite, Wp0_some, Wp0_none]
@[simp ↓] theorem wE_idx {a i} : W3 (evE F (.idx a i) ρ) Q = W2 (bor (evE F a) a ρ) fun xa xb => W3 (evE F i xb) fun ya yb yc => Wp (xa.get yc) fun d => Wp (idxD d ya) fun z => Q z false yc := by
  simp only [pw, p2, p3, pif, evE, Wp0_bind, Wp0_map, Wp0_ite, Wp0_some, Wp0_none]
@[simp ↓] theorem wE_sl {a lo hi} : W3 (evE F (.sl a lo hi) ρ) Q = W2 (bor (evE F a) a ρ) fun xa xb => W2 (evO F lo xb) fun ya yb => W2 (evO F hi yb) fun wa wb => Wp (xa.get wb) fun d => W2 (slD d ya wa) fun za zb => Q za zb wb := by
  simp only [pw, p2, p3, pif, evE, Wp0_bind, Wp0_map, Wp0_ite, Wp0_some, Wp0_none]
@[simp ↓] theorem wE_tup {as} : W3 (evE F (.tup as) ρ) Q = W2 (evA F as ρ) fun xa xb => Wif (xa.length ≤ sizeLine) (Q (.tuple xa) false xb) False := by
  simp only [pw, p2, p3, pif, evE, Wp0_bind, Wp0_map, Wp0_ite, Wp0_some, Wp0_none]
@[simp ↓] theorem wE_lst {as} : W3 (evE F (.lst as) ρ) Q = W2 (evA F as ρ) fun xa xb => Wif (xa.length ≤ sizeLine) (Q (.list xa) true xb) False := by
  simp only [pw, p2, p3, pif, evE, Wp0_bind, Wp0_map, Wp0_ite, Wp0_some, Wp0_none]
@[simp ↓] theorem wE_dicT : W3 (evE F .dicT ρ) Q = Q (.dict [tMark]) true ρ := by simp only [pw, p2, p3, pif, evE, Wp0_bind, Wp0_map, Wp0_ite, Wp0_some, Wp0_none]
@[simp ↓] theorem wE_dic : W3 (evE F .dic ρ) Q = Q (.dict []) true ρ := by simp only [pw, p2, p3, pif, evE, Wp0_bind, Wp0_map, Wp0_ite, Wp0_some, Wp0_none]
noncomputable def popK (o : Option Slot) (k : List PyData → Prop) (u : Tg k := Tg.mk) : Prop :=
  match o with
  | some (.own (.list xs)) => k xs
  | _ => False
@[simp] theorem popK_own {xs k} : popK (some (.own (.list xs))) k = k xs := rfl
@[simp] theorem cntK_ol {xs} : cntK (some (.own (.list xs))) = some true := rfl
@[simp] theorem cntK_ot {xs} : cntK (some (.own (.tuple xs))) = some false := rfl
@[simp] theorem cntK_dl {xs} : cntK (some (.dat (.list xs))) = some true := rfl
@[simp] theorem seqS_ol {xs} : seqS (some (.own (.list xs))) = some xs := rfl
@[simp] theorem seqS_ot {xs} : seqS (some (.own (.tuple xs))) = some xs := rfl
@[simp] theorem seqS_dl {xs} : seqS (some (.dat (.list xs))) = some xs := rfl
@[simp ↓] theorem wE_cnt {i e} : W3 (evE F (.cnt i e) ρ) Q = Wp (cntK ρ[i]?) fun k => W3 (evE F e ρ) fun xa xb xc => Wif (cntK xc[i]? = some k) (Wp (seqS xc[i]?) fun xs => Wp (cntD xs xa) fun z => Q z false xc) False := by
  simp only [pw, p2, p3, pif, evE, Wp0_bind, Wp0_map, Wp0_ite, Wp0_some, Wp0_none]
@[simp ↓] theorem wE_pop {i} : W3 (evE F (.pop i) ρ) Q = popK ρ[i]? fun xs => Wp (xs[xs.length - 1]?) fun d => Q d false (ρ.set i (.own (.list xs.dropLast))) := by
  rcases h : ρ[i]? with _ | (_ | d | d) <;> simp only [pw, p2, p3, pif, evE, h, popK, Wp0_bind, Wp0_map, Wp0_ite, Wp0_some, Wp0_none]
  cases d <;> simp only [pw, p2, p3, pif, evE, popK, Wp0_bind, Wp0_map, Wp0_ite, Wp0_some, Wp0_none]
@[simp ↓] theorem wE_cv {t it} : W3 (evE F (.cv t it) ρ) Q = W2 (evI F it ρ) fun xa xb => Wif (xa.length ≤ 65536) (Wif (t = true) (Q (.tuple xa) false xb) (Q (.list xa) true xb)) False := by
  simp only [pw, p2, p3, pif, evE, Wp0_bind, Wp0_map, Wp0_ite, Wp0_some, Wp0_none]
noncomputable def lstK (d : PyData) (k : List PyData → Prop) (u : Tg k := Tg.mk) : Prop :=
  match d with
  | .list x => k x
  | _ => False
@[simp] theorem lstK_l {x k} : lstK (.list x) k = k x := rfl
/-- sorted(set(xs)), by what stands in xs -/
noncomputable def ssW (xs : List PyData) (Q : PyData → Prop) : Prop := Wp (ssD xs) Q
@[simp] theorem rowTp_ints {l : List Int} : rowTp (l.map .int) = false := by cases l <;> rfl
@[simp] theorem rowTp_ints' {α : Type} {f : α → Int} {l : List α} : rowTp (l.map fun x => .int (f x)) = false := by cases l <;> rfl
@[simp] theorem rowTp_nil : rowTp [] = false := rfl
@[simp] theorem rowTp_int {x : Int} {r : List PyData} : rowTp (.int x :: r) = false := rfl
@[simp ↓] theorem ssW_i {xs : List PyData} {Q : PyData → Prop} (h : rowTp xs = false) : ssW xs Q = Wp (intsOf xs) fun ns => Wif (ns.length < 4000 ∧ (setI ns).length < 64) (Q (.list ((setI ns).map .int))) False := by
  simp only [ssW, ssD, h, Bool.false_eq_true, if_false, pw, pif, Wp0_bind, Wp0_ite, Wp0_some, Wp0_none]
@[simp ↓] theorem wE_disp {ks a} : W3 (evE F (.disp ks a) ρ) Q = W2 (evA F a ρ) fun xa xb => Wif (xa.length = ks.length) (Q (.dict ((ks.zip xa).foldl (fun acc p => dPut acc (.int p.1) p.2) [])) true xb) False := by
  simp only [pw, p2, p3, pif, evE, Wp0_bind, Wp0_map, Wp0_ite, Wp0_some, Wp0_none]
@[simp ↓] theorem wE_ix {i e} : W3 (evE F (.ix i e) ρ) Q = Wif (cntK ρ[i]? = some true) (W3 (evE F e ρ) fun xa xb xc => Wif (cntK xc[i]? = some true) (Wp (seqS xc[i]?) fun xs => Wp (ixD xs xa) fun z => Q z false xc) False) False := by
  simp only [pw, p2, p3, pif, evE, Wp0_bind, Wp0_map, Wp0_ite, Wp0_some, Wp0_none]
/-- the turn of a comprehension -/
noncomputable def cturn (F : Fns) (c e : ME) (ρ : Rho) (acc : List PyData) : Option (Rho × List PyData) :=
  (evT F c ρ).bind fun x => if x.1 then (evE F e x.2).bind fun y => if acc.length < sizeLine then some (y.2.2, acc ++ [y.1]) else none else some (x.2, acc)
@[simp ↓] theorem wE_comp {vs tg it c e} : W3 (evE F (.comp vs tg it c e) ρ) Q = W2 (evI F it ρ) fun xa xb =>
    W2 (turns tg (cturn F c e) vs xa (wipeR xb vs) []) fun ya yb => Q (.list yb) true ya := by
  simp only [pw, p2, p3, pif, evE, Wp0_bind, Wp0_map, Wp0_ite, Wp0_some, Wp0_none]; rfl
@[simp ↓] theorem wturn {c e acc} {Q : Rho → List PyData → Prop} : W2 (cturn F c e ρ acc) Q = W2 (evT F c ρ) fun xa xb => Wif (xa = true) (W3 (evE F e xb) fun ya yb yc => Wif (acc.length < sizeLine) (Q yc (acc ++ [ya])) False) (Q xb acc) := by
  simp only [pw, p2, p3, pif, cturn, Wp0_bind, Wp0_map, Wp0_ite, Wp0_some, Wp0_none]
end
section
variable {F : Fns} {ρ : Rho} {Q : Bool → Rho → Prop}
@[simp ↓] theorem wT_not {a} : W2 (evT F (.not a) ρ) Q = W2 (evT F a ρ) fun xa xb => Q (!xa) xb := by simp only [pw, p2, p3, pif, evT, Wp0_bind, Wp0_map, Wp0_ite, Wp0_some, Wp0_none]
@[simp ↓] theorem wT_and {a b} : W2 (evT F (.and a b) ρ) Q = W2 (evT F a ρ) fun xa xb => Wif (xa = true) (W2 (evT F b xb) Q) (Q false xb) := by
  simp only [pw, p2, p3, pif, evT, Wp0_bind, Wp0_map, Wp0_ite, Wp0_some, Wp0_none]
@[simp ↓] theorem wT_or {a b} : W2 (evT F (.or a b) ρ) Q = W2 (evT F a ρ) fun xa xb => Wif (xa = true) (Q true xb) (W2 (evT F b xb) Q) := by
  simp only [pw, p2, p3, pif, evT, Wp0_bind, Wp0_map, Wp0_ite, Wp0_some, Wp0_none]
@[simp ↓] theorem wT_nil : W2 (evT F .nil ρ) Q = Q true ρ := by simp only [pw, p2, p3, pif, evT, Wp0_bind, Wp0_map, Wp0_ite, Wp0_some, Wp0_none]
@[simp ↓] theorem wT_tst {a} : W2 (evT F (.tst a) ρ) Q = W2 (bor (evE F a) a ρ) fun xa xb => Wp (xa.get xb) fun d => Wp (truthD d) fun b => Q b xb := by
  simp only [pw, p2, p3, pif, evT, Wp0_bind, Wp0_map, Wp0_ite, Wp0_some, Wp0_none]
end
@[simp ↓] theorem wL_nil {F ρ Q} : W2 (evL F .nil ρ) Q = Q [] ρ := by simp only [pw, p2, p3, pif, evL, Wp0_bind, Wp0_map, Wp0_ite, Wp0_some, Wp0_none]
@[simp ↓] theorem wL_cons {F ρ Q a r} : W2 (evL F (.cons a r) ρ) Q = W2 (bor (evE F a) a ρ) fun xa xb => W2 (evL F r xb) fun ya yb => Q (xa :: ya) yb := by
  simp only [pw, p2, p3, pif, evL, Wp0_bind, Wp0_map, Wp0_ite, Wp0_some, Wp0_none]
@[simp ↓] theorem wA_nil {F ρ Q} : W2 (evA F .nil ρ) Q = Q [] ρ := by simp only [pw, p2, p3, pif, evA, Wp0_bind, Wp0_map, Wp0_ite, Wp0_some, Wp0_none]
@[simp ↓] theorem wA_cons {F ρ Q a r} : W2 (evA F (.cons a r) ρ) Q = W3 (evE F a ρ) fun xa xb xc => W2 (evA F r xc) fun ya yb => Q (xa :: ya) yb := by
  simp only [pw, p2, p3, pif, evA, Wp0_bind, Wp0_map, Wp0_ite, Wp0_some, Wp0_none]
@[simp ↓] theorem wA_star {F ρ Q a r} : W2 (evA F (.star a r) ρ) Q = W3 (evE F a ρ) fun xa xb xc => Wp (starOf xa) fun es => W2 (evA F r xc) fun ya yb => Q (es ++ ya) yb := by
  simp only [pw, p2, p3, pif, evA, Wp0_bind, Wp0_map, Wp0_ite, Wp0_some, Wp0_none]
@[simp ↓] theorem wO_nil {F ρ Q} : W2 (evO F .nil ρ) Q = Q none ρ := by simp only [pw, p2, p3, pif, evO, Wp0_bind, Wp0_map, Wp0_ite, Wp0_some, Wp0_none]
@[simp ↓] theorem wO_cons {F ρ Q a r} : W2 (evO F (.cons a r) ρ) Q = W3 (evE F a ρ) fun xa xb xc => intK xa fun i => Q (some i) xc := by
  simp only [pw, p2, p3, pif, evO, Wp0_bind]; refine congrArg _ (funext fun x => ?_); rcases x with ⟨d, b, r⟩; cases d <;> simp only [pw, p2, p3, pif, intK, Wp0_ite, Wp0_some, Wp0_none, Wp0_map, Wp0_bind, Bool.or_eq_true, Bool.and_eq_true, Bool.not_eq_true']
section
variable {F : Fns} {ρ : Rho} {Q : List PyData → Rho → Prop}
@[simp ↓] theorem wI_rng1 {a} : W2 (evI F (.rng1 a) ρ) Q = W3 (evE F a ρ) fun xa xb xc => intK xa fun i => Wif (lineI i = true) (Q (rangeD 0 i) xc) False := by
  simp only [pw, p2, p3, pif, evI, Wp0_bind]; refine congrArg _ (funext fun x => ?_); rcases x with ⟨d, b, r⟩; cases d <;> simp only [pw, p2, p3, pif, intK, Wp0_ite, Wp0_some, Wp0_none, Wp0_map, Wp0_bind, Bool.or_eq_true, Bool.and_eq_true, Bool.not_eq_true']
noncomputable def zipK : PyData → PyData → Option (List PyData)
  | .list xs, .list ys => some ((xs.zip ys).map fun p => .tuple [p.1, p.2])
  | .tuple xs, .tuple ys => some ((xs.zip ys).map fun p => .tuple [p.1, p.2])
  | .tuple xs, .list ys => some ((xs.zip ys).map fun p => .tuple [p.1, p.2])
  | _, _ => none
@[simp ↓] theorem wI_zp {a b} : W2 (evI F (.zp a b) ρ) Q = W3 (evE F a ρ) fun xa xb xc => W3 (evE F b xc) fun ya yb yc => Wp (zipK xa ya) fun zs => Q zs yc := by
  simp only [pw, p2, p3, pif, evI, Wp0_bind]; refine congrArg _ (funext fun x => congrArg _ (funext fun y => ?_)); rcases x with ⟨d, b, r⟩; rcases y with ⟨e, b', r'⟩
  cases d <;> cases e <;> simp only [pw, p2, p3, pif, zipK, Wp0_ite, Wp0_some, Wp0_none, Wp0_map, Wp0_bind, Bool.or_eq_true, Bool.and_eq_true, Bool.not_eq_true']
noncomputable def enmK : PyData → Option (List PyData)
  | .list xs => some (xs.zipIdx.map fun p => .tuple [.int p.2, p.1])
  | .tuple xs => some (xs.zipIdx.map fun p => .tuple [.int p.2, p.1])
  | _ => none
noncomputable def zip3K : PyData → PyData → PyData → Option (List PyData)
  | .tuple xs, .tuple ys, .tuple zs => some (((xs.zip ys).zip zs).map fun p => .tuple [p.1.1, p.1.2, p.2])
  | .list xs, .list ys, .list zs => some (((xs.zip ys).zip zs).map fun p => .tuple [p.1.1, p.1.2, p.2])
  | _, _, _ => none
@[simp ↓] theorem wI_enm {a} : W2 (evI F (.enm a) ρ) Q = W3 (evE F a ρ) fun xa xb xc => Wp (enmK xa) fun zs => Q zs xc := by
  simp only [pw, p2, p3, pif, evI, Wp0_bind]; refine congrArg _ (funext fun x => ?_); rcases x with ⟨d, b, r⟩; cases d <;> simp only [enmK, Wp0_some, Wp0_none]
@[simp ↓] theorem wI_it {a} : W2 (evI F (.it a) ρ) Q = W3 (evE F a ρ) fun xa xb xc => Wp (seqOf xa) fun zs => Q zs xc := by
  simp only [pw, p2, p3, pif, evI, Wp0_bind, Wp0_map, Wp0_ite, Wp0_some, Wp0_none]
end
/-! ### values -/
section
variable {Q : PyData → Bool → Prop} {a b : Int}
@[simp ↓] theorem wD_add : W2 (binD .add (.int a) (.int b)) Q = Q (.int (a + b)) false := by simp only [pw, p2, p3, pif, binD, Wp0_ite, Wp0_some, Wp0_none, Wp0_map, Wp0_bind, Bool.or_eq_true, Bool.and_eq_true, Bool.not_eq_true']
@[simp ↓] theorem wD_sub : W2 (binD .sub (.int a) (.int b)) Q = Q (.int (a - b)) false := by simp only [pw, p2, p3, pif, binD, Wp0_ite, Wp0_some, Wp0_none, Wp0_map, Wp0_bind, Bool.or_eq_true, Bool.and_eq_true, Bool.not_eq_true']
@[simp ↓] theorem wD_mul : W2 (binD .mul (.int a) (.int b)) Q = Wif (small a = true ∨ small b = true) (Q (.int (a * b)) false) False := by simp only [pw, p2, p3, pif, binD, Wp0_ite, Wp0_some, Wp0_none, Wp0_map, Wp0_bind, Bool.or_eq_true, Bool.and_eq_true, Bool.not_eq_true']
@[simp ↓] theorem wD_fdiv : W2 (binD .fdiv (.int a) (.int b)) Q = Wif (0 < b ∧ b < 1073741824) (Q (.int (a / b)) false) False := by simp only [pw, p2, p3, pif, binD, Wp0_ite, Wp0_some, Wp0_none, Wp0_map, Wp0_bind, Bool.or_eq_true, Bool.and_eq_true, Bool.not_eq_true']
@[simp ↓] theorem wD_mod : W2 (binD .mod (.int a) (.int b)) Q = Wif (0 < b) (Q (.int (a % b)) false) False := by simp only [pw, p2, p3, pif, binD, Wp0_ite, Wp0_some, Wp0_none, Wp0_map, Wp0_bind, Bool.or_eq_true, Bool.and_eq_true, Bool.not_eq_true']
@[simp ↓] theorem wD_shr : W2 (binD .shr (.int a) (.int b)) Q = Wif (0 ≤ b) (Q (.int (a / 2 ^ b.toNat)) false) False := by simp only [pw, p2, p3, pif, binD, Wp0_ite, Wp0_some, Wp0_none, Wp0_map, Wp0_bind]
@[simp ↓] theorem wD_band : W2 (binD .band (.int a) (.int b)) Q = Q (.int (Builtin.bitAnd a b)) false := by simp only [pw, p2, p3, pif, binD, Wp0_ite, Wp0_some, Wp0_none, Wp0_map, Wp0_bind]
@[simp ↓] theorem wD_pow : W2 (binD .pow (.int a) (.int b)) Q = Wif (0 ≤ b ∧ b ≤ 1000000 ∧ a.natAbs < 2 ^ 64) (Q (.int (a ^ b.toNat)) false) False := by simp only [pw, p2, p3, pif, binD, Wp0_ite, Wp0_some, Wp0_none, Wp0_map, Wp0_bind, Bool.or_eq_true, Bool.and_eq_true, Bool.not_eq_true']
@[simp ↓] theorem wD_addL {xs ys} : W2 (binD .add (.list xs) (.list ys)) Q = Wif (xs.length + ys.length ≤ sizeLine) (Q (.list (xs ++ ys)) true) False := by simp only [pw, p2, p3, pif, binD, Wp0_ite, Wp0_some, Wp0_none, Wp0_map, Wp0_bind, Bool.or_eq_true, Bool.and_eq_true, Bool.not_eq_true']
@[simp ↓] theorem wD_addT {xs ys} : W2 (binD .add (.tuple xs) (.tuple ys)) Q = Wif (xs.length + ys.length ≤ sizeLine) (Q (.tuple (xs ++ ys)) false) False := by simp only [pw, p2, p3, pif, binD, Wp0_ite, Wp0_some, Wp0_none, Wp0_map, Wp0_bind, Bool.or_eq_true, Bool.and_eq_true, Bool.not_eq_true']
@[simp ↓] theorem wD_mulL {xs} : W2 (binD .mul (.list xs) (.int b)) Q = Wif (-(2 ^ 63) ≤ b ∧ b < 2 ^ 63 ∧ xs.length * b.toNat ≤ sizeLine) (Q (.list (List.replicate b.toNat xs).flatten) true) False := by simp only [pw, p2, p3, pif, binD, Wp0_ite, Wp0_some, Wp0_none, Wp0_map, Wp0_bind, Bool.or_eq_true, Bool.and_eq_true, Bool.not_eq_true']
@[simp ↓] theorem wD_mulT {xs} : W2 (binD .mul (.tuple xs) (.int b)) Q = Wif (xs ≠ [] ∧ 1 ≤ b ∧ b ≤ 4000 ∧ xs.length ≤ 1000) (Q (.tuple (List.replicate b.toNat xs).flatten) false) False := by simp only [pw, p2, p3, pif, binD, Wp0_ite, Wp0_some, Wp0_none, Wp0_map, Wp0_bind, Bool.or_eq_true, Bool.and_eq_true, Bool.not_eq_true']
@[simp ↓] theorem wD_mulS {z : Str} : W2 (binD .mul (.str z) (.int b)) Q = Wif (z.length ≠ 0 ∧ 2 ≤ b ∧ b ≤ 4000 ∧ z.length ≤ 1000) (Q (.str ⟨(List.replicate b.toNat z.cps).foldl (· ++ ·) #[]⟩) false) False := by simp only [pw, p2, p3, pif, binD, Wp0_ite, Wp0_some, Wp0_none, Wp0_map, Wp0_bind]
end
section
variable {Q : Bool → Prop} {a b : Int}
@[simp ↓] theorem wC_eq : Wp (cmpD .eq (.int a) (.int b)) Q = Q (decide (a = b)) := by simp only [pw, p2, p3, pif, cmpD, Wp0_ite, Wp0_some, Wp0_none, Wp0_map, Wp0_bind, Bool.or_eq_true, Bool.and_eq_true, Bool.not_eq_true']
@[simp ↓] theorem wC_ne : Wp (cmpD .ne (.int a) (.int b)) Q = Q (!decide (a = b)) := by simp only [pw, p2, p3, pif, cmpD, Wp0_ite, Wp0_some, Wp0_none, Wp0_map, Wp0_bind, Bool.or_eq_true, Bool.and_eq_true, Bool.not_eq_true']
@[simp ↓] theorem wC_lt : Wp (cmpD .lt (.int a) (.int b)) Q = Q (decide (a < b)) := by simp only [pw, p2, p3, pif, cmpD, Wp0_ite, Wp0_some, Wp0_none, Wp0_map, Wp0_bind, Bool.or_eq_true, Bool.and_eq_true, Bool.not_eq_true']
@[simp ↓] theorem wC_le : Wp (cmpD .le (.int a) (.int b)) Q = Q (decide (a ≤ b)) := by simp only [pw, p2, p3, pif, cmpD, Wp0_ite, Wp0_some, Wp0_none, Wp0_map, Wp0_bind, Bool.or_eq_true, Bool.and_eq_true, Bool.not_eq_true']
@[simp ↓] theorem wC_gt : Wp (cmpD .gt (.int a) (.int b)) Q = Q (decide (b < a)) := by simp only [pw, p2, p3, pif, cmpD, Wp0_ite, Wp0_some, Wp0_none, Wp0_map, Wp0_bind, Bool.or_eq_true, Bool.and_eq_true, Bool.not_eq_true']
@[simp ↓] theorem wC_ge : Wp (cmpD .ge (.int a) (.int b)) Q = Q (decide (b ≤ a)) := by simp only [pw, p2, p3, pif, cmpD, Wp0_ite, Wp0_some, Wp0_none, Wp0_map, Wp0_bind, Bool.or_eq_true, Bool.and_eq_true, Bool.not_eq_true']
@[simp ↓] theorem wC_eqS {s t} : Wp (cmpD .eq (.str s) (.str t)) Q = Q (decide (s = t)) := by simp only [pw, p2, p3, pif, cmpD, Wp0_ite, Wp0_some, Wp0_none, Wp0_map, Wp0_bind, Bool.or_eq_true, Bool.and_eq_true, Bool.not_eq_true']
@[simp ↓] theorem wC_neS {s t} : Wp (cmpD .ne (.str s) (.str t)) Q = Q (!decide (s = t)) := by simp only [pw, p2, p3, pif, cmpD, Wp0_ite, Wp0_some, Wp0_none, Wp0_map, Wp0_bind, Bool.or_eq_true, Bool.and_eq_true, Bool.not_eq_true']
@[simp ↓] theorem wC_eqL {xs ys} : Wp (cmpD .eq (.list xs) (.list ys)) Q = Wif (lay (.list xs) = true ∧ lay (.list ys) = true) (Q (PyData.eqv (.list xs) (.list ys))) False := by simp only [pw, p2, p3, pif, cmpD, Wp0_ite, Wp0_some, Wp0_none, Wp0_map, Wp0_bind, Bool.or_eq_true, Bool.and_eq_true, Bool.not_eq_true']
@[simp ↓] theorem wC_eqT {xs ys} : Wp (cmpD .eq (.tuple xs) (.tuple ys)) Q = Wif (lay (.tuple xs) = true ∧ lay (.tuple ys) = true) (Q (PyData.eqv (.tuple xs) (.tuple ys))) False := by simp only [pw, p2, p3, pif, cmpD, Wp0_ite, Wp0_some, Wp0_none, Wp0_map, Wp0_bind, Bool.or_eq_true, Bool.and_eq_true, Bool.not_eq_true']
@[simp ↓] theorem wC_neL {xs ys} : Wp (cmpD .ne (.list xs) (.list ys)) Q = Wif (lay (.list xs) = true ∧ lay (.list ys) = true) (Q (!PyData.eqv (.list xs) (.list ys))) False := by simp only [pw, p2, p3, pif, cmpD, Wp0_ite, Wp0_some, Wp0_none, Wp0_map, Wp0_bind, Bool.or_eq_true, Bool.and_eq_true, Bool.not_eq_true']
@[simp ↓] theorem wC_neT {xs ys} : Wp (cmpD .ne (.tuple xs) (.tuple ys)) Q = Wif (lay (.tuple xs) = true ∧ lay (.tuple ys) = true) (Q (!PyData.eqv (.tuple xs) (.tuple ys))) False := by simp only [pw, p2, p3, pif, cmpD, Wp0_ite, Wp0_some, Wp0_none, Wp0_map, Wp0_bind, Bool.or_eq_true, Bool.and_eq_true, Bool.not_eq_true']
@[simp ↓] theorem wC_inL {x ys} : Wp (cmpD .isin x (.list ys)) Q = Wp (inD x ys) Q := by simp only [pw, p2, p3, pif, cmpD, Wp0_ite, Wp0_some, Wp0_none, Wp0_map, Wp0_bind, Bool.or_eq_true, Bool.and_eq_true, Bool.not_eq_true']
@[simp ↓] theorem wC_inT {x ys} : Wp (cmpD .isin x (.tuple ys)) Q = Wp (inD x ys) Q := by simp only [pw, p2, p3, pif, cmpD, Wp0_ite, Wp0_some, Wp0_none, Wp0_map, Wp0_bind, Bool.or_eq_true, Bool.and_eq_true, Bool.not_eq_true']
@[simp ↓] theorem wC_niL {x ys} : Wp (cmpD .notin x (.list ys)) Q = Wp (inD x ys) fun b => Q (!b) := by simp only [pw, p2, p3, pif, cmpD, Wp0_ite, Wp0_some, Wp0_none, Wp0_map, Wp0_bind, Bool.or_eq_true, Bool.and_eq_true, Bool.not_eq_true']
@[simp ↓] theorem wC_niT {x ys} : Wp (cmpD .notin x (.tuple ys)) Q = Wp (inD x ys) fun b => Q (!b) := by simp only [pw, p2, p3, pif, cmpD, Wp0_ite, Wp0_some, Wp0_none, Wp0_map, Wp0_bind, Bool.or_eq_true, Bool.and_eq_true, Bool.not_eq_true']
@[simp ↓] theorem wC_inDT {x es} : Wp (cmpD .isin x (.dict (tMark :: es))) Q = Wp (tupI x) fun k => Q (tGet es k).isSome := by simp only [tMark, pw, p2, p3, pif, cmpD, Wp0_ite, Wp0_some, Wp0_none, Wp0_map, Wp0_bind]
@[simp ↓] theorem wC_niDT {x es} : Wp (cmpD .notin x (.dict (tMark :: es))) Q = Wp (tupI x) fun k => Q (!(tGet es k).isSome) := by simp only [tMark, pw, p2, p3, pif, cmpD, Wp0_ite, Wp0_some, Wp0_none, Wp0_map, Wp0_bind]
@[simp ↓] theorem wC_inD {x es} (h : isScr es = false) : Wp (cmpD .isin x (.dict es)) Q = Wif (isKey x = true) (Q ((dGet es x).isSome)) False := by
  cases es with
  | nil => simp only [pw, p2, p3, pif, cmpD, h, Wp0_ite, Wp0_some, Wp0_none, Wp0_map, Wp0_bind, Bool.or_eq_true, Bool.and_eq_true, Bool.not_eq_true', Bool.not_false, and_true]
  | cons p r =>
    obtain ⟨a, b⟩ := p
    cases a <;> first | (simp [isScr] at h; done) | simp only [pw, p2, p3, pif, cmpD, h, Wp0_ite, Wp0_some, Wp0_none, Wp0_map, Wp0_bind, Bool.or_eq_true, Bool.and_eq_true, Bool.not_eq_true', Bool.not_false, and_true]
@[simp ↓] theorem wC_niD {x es} (h : isScr es = false) : Wp (cmpD .notin x (.dict es)) Q = Wif (isKey x = true) (Q (!(dGet es x).isSome)) False := by
  cases es with
  | nil => simp only [pw, p2, p3, pif, cmpD, h, Wp0_ite, Wp0_some, Wp0_none, Wp0_map, Wp0_bind, Bool.or_eq_true, Bool.and_eq_true, Bool.not_eq_true', Bool.not_false, and_true]
  | cons p r =>
    obtain ⟨a, b⟩ := p
    cases a <;> first | (simp [isScr] at h; done) | simp only [pw, p2, p3, pif, cmpD, h, Wp0_ite, Wp0_some, Wp0_none, Wp0_map, Wp0_bind, Bool.or_eq_true, Bool.and_eq_true, Bool.not_eq_true', Bool.not_false, and_true]
end
theorem inD_ints {x : Int} {ys : List Int} : inD (.int x) (ys.map PyData.int) = some (decide (x ∈ ys)) := by
  have h : ((ys.map PyData.int).all flat) = true := by simp [flat]
  simp only [inD, flat, Bool.true_and, h, if_true, Option.some.injEq]
  rw [Bool.eq_iff_iff]
  simp only [List.any_eq_true, List.mem_map, decide_eq_true_eq]
  constructor
  · rintro ⟨z, ⟨y, hy, rfl⟩, hz⟩; simp [eqF] at hz; exact hz ▸ hy
  · intro h1; exact ⟨.int x, ⟨x, h1, rfl⟩, by simp [eqF]⟩
@[simp ↓] theorem wIn_ints {x : Int} {ys : List Int} {Q} : Wp (inD (.int x) (ys.map PyData.int)) Q = Q (decide (x ∈ ys)) := by rw [inD_ints]; simp
/-! ### statements -/
noncomputable def outK (o : Out) (k : Rho → Prop) (Q : Out → Prop) (u : Tg k := Tg.mk) (v : Tg Q := Tg.mk) : Prop :=
  match o with
  | .nx ρ => k ρ
  | o => Q o
@[simp] theorem outK_nx {ρ k Q} : outK (.nx ρ) k Q = k ρ := rfl
@[simp ↓] theorem outK_rt {d fr ρ k Q} : outK (.rt d fr ρ) k Q = Q (.rt d fr ρ) := rfl
@[simp ↓] theorem outK_bk {ρ k Q} : outK (.bk ρ) k Q = Q (.bk ρ) := rfl
@[simp ↓] theorem outK_ct {ρ k Q} : outK (.ct ρ) k Q = Q (.ct ρ) := rfl
noncomputable def ownK (o : Option Slot) (k : PyData → Prop) (u : Tg k := Tg.mk) : Prop :=
  match o with
  | some (.own x) => k x
  | _ => False
@[simp] theorem ownK_own {x k} : ownK (some (.own x)) k = k x := rfl
noncomputable def listK (d : PyData) (k : List PyData → Prop) (u : Tg k := Tg.mk) : Prop :=
  match d with
  | .list x => k x
  | _ => False
@[simp] theorem listK_own {x k} : listK (.list x) k = k x := rfl
/-- the first of what is handed on, if it is lent -/
noncomputable def gK (as : List Arg) (k : PyData → List Arg → Prop) (u : Tg k := Tg.mk) : Prop :=
  match as with
  | (d, true) :: r => k d r
  | _ => False
@[simp] theorem gK_t {d r k} : gK ((d, true) :: r) k = k d r := rfl
noncomputable def gS (ss : List Slot) (k : PyData → Prop) (u : Tg k := Tg.mk) : Prop :=
  match ss with
  | .own d :: _ => k d
  | _ => False
@[simp] theorem gS_o {d r k} : gS (.own d :: r) k = k d := rfl
@[simp ↓] theorem wE_callG {F : Fns} {ρ : Rho} {Q : PyData → Bool → Rho → Prop} {f i b as} : W3 (evE F (.callG f i b as) ρ) Q = Wif (isOwnL ρ[i]? = true) (W3 (evE F b ρ) fun wa wb wc => Wif (wb = true) (W2 (evL F as wc) fun xa xb => W2 (lend xb (.r i :: xa)) fun ya yb => gK ya fun d0 rest =>
    Wif (rest.all (fun x => !x.2) = true) (W3 (F f ((d0, true) :: (wa, true) :: rest)) fun za zb zc => Wif (strongV za zb = true) False (gS zc fun d1 => Q za zb (yb.set i (.own d1)))) False) False) False := by
  simp only [pw, p2, p3, pif, evE, strongV, Wp0_bind, Wp0_map, Wp0_ite, Wp0_some, Wp0_none]
  refine congrArg (fun z => Wif0 _ z _) (congrArg _ (funext fun x => congrArg (fun z => Wif0 _ z _) (congrArg _ (funext fun y => congrArg _ (funext fun z => ?_)))))
  obtain ⟨as, r⟩ := z
  rcases as with _ | ⟨⟨d, _ | _⟩, rest⟩
  · simp only [gK, Wp0_none]
  · simp only [gK, Wp0_none]
  · simp only [gK, pw, p2, p3, pif, Wp0_bind, Wp0_ite, Wp0_none]
    refine congrArg (fun z => Wif0 _ z _) (congrArg _ (funext fun w => congrArg (fun z => Wif0 _ _ z) ?_))
    obtain ⟨a, b, c⟩ := w
    rcases c with _ | ⟨s, t⟩
    · simp only [gS, Wp0_none]
    · cases s <;> simp only [gS, Wp0_none, Wp0_some]
@[simp ↓] theorem wE_cntL {F : Fns} {ρ : Rho} {Q : PyData → Bool → Rho → Prop} {a e} : W3 (evE F (.cntL a e) ρ) Q = W3 (evE F a ρ) fun xa xb xc => listK xa fun xs => W3 (evE F e xc) fun ya yb yc => Wp (cntD xs ya) fun z => Q z false yc := by
  simp only [pw, p2, p3, pif, evE, Wp0_bind, Wp0_map, Wp0_ite, Wp0_some, Wp0_none]
  refine congrArg _ (funext fun x => ?_)
  obtain ⟨d, b, r⟩ := x
  cases d <;> simp only [listK, pw, Wp0_bind, Wp0_map, Wp0_none]
section
variable {F : Fns} {W : Nat} {ρ : Rho} {Q : Out → Prop}
@[simp ↓] theorem wS_skip : Wp (evS F W .skip ρ) Q = Q (.nx ρ) := by simp only [pw, p2, p3, pif, evS, Wp0_bind, Wp0_map, Wp0_ite, Wp0_some, Wp0_none]
@[simp ↓] theorem wS_brk : Wp (evS F W .brk ρ) Q = Q (.bk ρ) := by simp only [pw, p2, p3, pif, evS, Wp0_bind, Wp0_map, Wp0_ite, Wp0_some, Wp0_none]
@[simp ↓] theorem wS_cont : Wp (evS F W .cont ρ) Q = Q (.ct ρ) := by simp only [pw, p2, p3, pif, evS, Wp0_bind, Wp0_map, Wp0_ite, Wp0_some, Wp0_none]
@[simp ↓] theorem wS_seq {s t} : Wp (evS F W (.seq s t) ρ) Q = Wp (evS F W s ρ) fun o => outK o (fun ρ1 => Wp (evS F W t ρ1) Q) Q := by
  simp only [pw, evS, Wp0_bind]; refine congrArg _ (funext fun o => ?_); cases o <;> simp only [outK, pw, Wp0_some]
@[simp ↓] theorem wS_asg {tg e} : Wp (evS F W (.asg tg e) ρ) Q = W3 (evE F e ρ) fun xa xb xc => Wp (setT tg xa xb xc) fun r => Q (.nx r) := by
  simp only [pw, p2, p3, pif, evS, Wp0_bind, Wp0_map, Wp0_ite, Wp0_some, Wp0_none]
@[simp ↓] theorem wS_par {tg e} : Wp (evS F W (.par tg e) ρ) Q = W2 (evP F e ρ) fun xa xb => Wp (bindP tg xa xb) fun r => Q (.nx r) := by
  simp only [pw, p2, p3, pif, evS, Wp0_bind, Wp0_map, Wp0_ite, Wp0_some, Wp0_none]
@[simp ↓] theorem wU_none {e} {Q : PyData → Bool → Rho → Prop} : W3 (evU F none e ρ) Q = W3 (evE F e ρ) Q := rfl
@[simp ↓] theorem wU_some {f as} {Q : PyData → Bool → Rho → Prop} : W3 (evU F (some f) as ρ) Q = W2 (evL F as ρ) fun xa xb => W2 (lend xb xa) fun ya yb => W3 (F f ya) fun za zb zc => Wp (back yb xa ya zc) fun r => Q za zb r := by
  simp only [pw, p2, p3, pif, evU, Wp0_bind, Wp0_map, Wp0_ite, Wp0_some, Wp0_none]
@[simp ↓] theorem wS_put {i k e} : Wp (evS F W (.put i k e) ρ) Q = Wif (isOwn ρ[i]? = true) (W3 (evE F e ρ) fun xa xb xc => W3 (evE F k xc) fun ya yb yc =>
    ownK yc[i]? fun z => Wp (putD z ya xa) fun w => Q (.nx (yc.set i (.own w)))) False := by
  simp only [evS, pw, p2, p3, pif, Wp0_ite, Wp0_some, Wp0_none, Wp0_map, Wp0_bind]; refine congrArg (fun z => Wif0 _ z _) (congrArg _ (funext fun x => congrArg _ (funext fun y => ?_)))
  rcases h : y.2.2[i]? with _ | (_ | d | d) <;> simp only [h, ownK, pw, Wp0_ite, Wp0_some, Wp0_none, Wp0_map, Wp0_bind]
@[simp ↓] theorem wS_app {i e} : Wp (evS F W (.app i e) ρ) Q = Wif (isOwnL ρ[i]? = true) (W3 (evE F e ρ) fun xa xb xc =>
    ownK xc[i]? fun z => listK z fun xs => Wif (xs.length < sizeLine) (Q (.nx (xc.set i (.own (.list (xs ++ [xa])))))) False) False := by
  simp only [evS, pw, p2, p3, pif, Wp0_ite, Wp0_some, Wp0_none, Wp0_map, Wp0_bind]; refine congrArg (fun z => Wif0 _ z _) (congrArg _ (funext fun x => ?_))
  rcases h : x.2.2[i]? with _ | (_ | d | d) <;> simp only [h, ownK, pw, Wp0_ite, Wp0_some, Wp0_none, Wp0_map, Wp0_bind]
  cases d <;> simp only [listK, pif, Wp0_ite, Wp0_some, Wp0_none, Wp0_map, Wp0_bind]
@[simp ↓] theorem wS_expr {e} : Wp (evS F W (.expr e) ρ) Q = W3 (evE F e ρ) fun xa xb xc => Q (.nx xc) := by simp only [pw, p2, p3, pif, evS, Wp0_bind, Wp0_map, Wp0_ite, Wp0_some, Wp0_none]
@[simp ↓] theorem wS_asgO {i f as} : Wp (evS F W (.asgO i f as) ρ) Q = W2 (evL F as ρ) fun xa xb => W2 (lend xb xa) fun ya yb => W3 (F f ya) fun za zb zc => Wp (back yb xa ya zc) fun r => Q (.nx (r.set i (slotOf za zb))) := by
  simp only [pw, p2, p3, pif, evS, Wp0_bind, Wp0_map, Wp0_ite, Wp0_some, Wp0_none]
@[simp ↓] theorem wS_retO {f as} : Wp (evS F W (.retO f as) ρ) Q = W2 (evL F as ρ) fun xa xb => W2 (lend xb xa) fun ya yb => W3 (F f ya) fun za zb zc => Wp (back yb xa ya zc) fun r => Q (.rt za zb r) := by
  simp only [pw, p2, p3, pif, evS, Wp0_bind, Wp0_map, Wp0_ite, Wp0_some, Wp0_none]
@[simp ↓] theorem wS_retT {e} : Wp (evS F W (.retT e) ρ) Q = W3 (evE F e ρ) fun xa xb xc => lstK xa fun xs => Q (.rt (.tuple xs) true xc) := by
  simp only [pw, p2, p3, pif, evS, Wp0_bind]; refine congrArg _ (funext fun x => ?_); rcases x with ⟨d, b, r⟩; cases d <;> simp only [lstK, Wp0_some, Wp0_none]
@[simp ↓] theorem wS_ret {e} : Wp (evS F W (.ret e) ρ) Q = W3 (evE F e ρ) fun xa xb xc => Q (.rt xa xb xc) := by simp only [pw, p2, p3, pif, evS, Wp0_bind, Wp0_map, Wp0_ite, Wp0_some, Wp0_none]
@[simp ↓] theorem wS_ite {c s t} : Wp (evS F W (.ite c s t) ρ) Q = W2 (evT F c ρ) fun xa xb => Wif (xa = true) (Wp (evS F W s xb) Q) (Wp (evS F W t xb) Q) := by
  simp only [pw, p2, p3, pif, evS, Wp0_bind, Wp0_map, Wp0_ite, Wp0_some, Wp0_none]
@[simp ↓] theorem wS_loop {tg it s} : Wp (evS F W (.loop tg it s) ρ) Q = W2 (evI F it ρ) fun xa xb => Wp (loopS tg (evS F W s) xa xb) Q := by
  simp only [pw, p2, p3, pif, evS, Wp0_bind, Wp0_map, Wp0_ite, Wp0_some, Wp0_none]
@[simp ↓] theorem wS_loopO {i m s} : Wp (evS F W (.loopO i m s) ρ) Q = W2 (evP F m ρ) fun xa xb => Wif (xa.length ≤ sizeLine) (Wp (loopOS i (evS F W s) xa xb) Q) False := by
  simp only [pw, p2, p3, pif, evS, Wp0_bind, Wp0_map, Wp0_ite, Wp0_some, Wp0_none]
@[simp ↓] theorem wS_loopV {i js s} : Wp (evS F W (.loopV i js s) ρ) Q = Wif ((js.all (fun j => isObj ρ[j]?) && decide (js.length ≤ sizeLine)) = true) (Wp (loopVS i (evS F W s) js ρ) Q) False := by
  simp only [pw, p2, p3, pif, evS, Wp0_bind, Wp0_map, Wp0_ite, Wp0_some, Wp0_none]
@[simp ↓] theorem wS_while {c s} : Wp (evS F W (.while c s) ρ) Q = Wp (whileS (evT F c) (evS F W s) W ρ) Q := by simp only [pw, p2, p3, pif, evS, Wp0_bind, Wp0_map, Wp0_ite, Wp0_some, Wp0_none]
end
@[simp ↓] theorem wP_nil {F ρ Q} : W2 (evP F .nil ρ) Q = Q [] ρ := by simp only [pw, p2, p3, pif, evP, Wp0_bind, Wp0_map, Wp0_ite, Wp0_some, Wp0_none]
@[simp ↓] theorem wP_cons {F ρ Q a r} : W2 (evP F (.cons a r) ρ) Q = W3 (evE F a ρ) fun xa xb xc => W2 (evP F r xc) fun ya yb => Q ((xa, xb) :: ya) yb := by
  simp only [pw, p2, p3, pif, evP, Wp0_bind, Wp0_map, Wp0_ite, Wp0_some, Wp0_none]
noncomputable def endK (o : Out) (as : List Arg) (Q : PyData → Bool → List Slot → Prop) (u : Tg Q := Tg.mk) : Prop :=
  match o with
  | .nx ρ => Q .none false (finals as ρ)
  | .rt d fr ρ => Q d fr (finals as ρ)
  | _ => False
@[simp] theorem endK_nx {ρ as Q} : endK (.nx ρ) as Q = Q .none false (finals as ρ) := rfl
@[simp] theorem endK_rt {d fr ρ as Q} : endK (.rt d fr ρ) as Q = Q d fr (finals as ρ) := rfl
theorem w_run {F W f as Q} (h : as.length = f.np ∧ lentOk (asgd f.body) 0 as = true) (h' : Wp (evS F W f.body (as.map argSlot ++ List.replicate (f.nv - f.np) .no)) fun o => endK o as Q) : W3 (runFn F W f as) Q := by
  rw [runFn, if_pos h, p3, Wp0_bind]
  obtain ⟨o, h1, h2⟩ := h'
  refine ⟨o, h1, ?_⟩
  cases o <;> simp_all [endK, Wp0]
theorem w_fn {T : Nat → Option Fn} {W k i f as} [Has T i f] {Q} (h : W3 (runFn (evF T W k) W f as) Q) : W3 (evF T W (k + 1) i as) Q := by
  rw [evF_has (f := f)]; exact h
/-- kept as it is -/
noncomputable def Kd (P : Prop) (u : Tg P := Tg.mk) : Prop := P
theorem Kd_i {P : Prop} (h : P) : Kd P := h
/-- loops -/
noncomputable def turnK (I : Rho → Prop) (Q : Out → Prop) : Out → Prop
  | .nx ρ => Kd (I ρ)
  | .ct ρ => Kd (I ρ)
  | .bk ρ => Q (.nx ρ)
  | .rt d fr ρ => Q (.rt d fr ρ)
@[simp ↓] theorem turnK_nx {I Q ρ} : turnK I Q (.nx ρ) = Kd (I ρ) := rfl
@[simp ↓] theorem turnK_ct {I Q ρ} : turnK I Q (.ct ρ) = Kd (I ρ) := rfl
@[simp ↓] theorem turnK_bk {I Q ρ} : turnK I Q (.bk ρ) = Q (.nx ρ) := rfl
@[simp ↓] theorem turnK_rt {I Q d fr ρ} : turnK I Q (.rt d fr ρ) = Q (.rt d fr ρ) := rfl
end MI
/-! MIG: rules for values: places, built-ins, arguments. -/
namespace MI
open PySem
@[simp ↓] theorem w_ixOf {n : Nat} {i : Int} {Q} : Wp (ixOf n i) Q = Wif (0 ≤ i ∧ i < n) (Q i.toNat) (Wif (i < 0 ∧ -(n : Int) ≤ i) (Q (i + n).toNat) False) := by
  simp only [ixOf, Wp_ite, Wp_some, Wp_none, Wif, eq_iff_iff]
  constructor
  · rintro ⟨h1, h2⟩
    refine ⟨fun ⟨a, b⟩ => (h1 a).1 b, fun hn => ⟨fun ⟨a, b⟩ => (h2 (by omega)).1 b, fun hm => ?_⟩⟩
    by_cases h : 0 ≤ i
    · exact (h1 h).2 (fun hb => hn ⟨h, hb⟩)
    · exact (h2 h).2 (fun hb => hm ⟨by omega, hb⟩)
  · rintro ⟨h1, h2⟩
    refine ⟨fun a => ⟨fun b => h1 ⟨a, b⟩, fun hb => (h2 (fun c => hb c.2)).2 (fun c => by omega)⟩, fun a => ⟨fun b => (h2 (fun c => a c.1)).1 ⟨by omega, b⟩, fun b => (h2 (fun c => a c.1)).2 (fun c => b c.2)⟩⟩
/-- the item at a place -/
noncomputable def nthI {α : Type} (xs : List α) (i : Int) : Option α := (ixOf xs.length i).bind (xs[·]?)
section
variable {α : Type} {a b c e : α} {l : List α}
theorem nthI_pos {xs : List α} {i : Int} (h : 0 ≤ i) (h' : i < xs.length) : nthI xs i = xs[i.toNat]? := by
  simp [nthI, ixOf, h, h']
@[simp] theorem nthI_0 : nthI (a :: l) 0 = some a := by rw [nthI_pos (by simp) (by simp)]; rfl
@[simp] theorem nthI_1 : nthI (a :: b :: l) 1 = some b := by rw [nthI_pos (by simp) (by simp; omega)]; rfl
@[simp] theorem nthI_2 : nthI (a :: b :: c :: l) 2 = some c := by rw [nthI_pos (by simp) (by simp; omega)]; rfl
@[simp] theorem nthI_3 : nthI (a :: b :: c :: e :: l) 3 = some e := by rw [nthI_pos (by simp) (by simp; omega)]; rfl
theorem nthI_get {xs : List α} {i : Int} (h : 0 ≤ i) (h' : i < xs.length) : nthI xs i = some (xs[i.toNat]'(by omega)) := by
  rw [nthI_pos h h', List.getElem?_eq_getElem]
end
section
variable {xs : List PyData} {i : Int} {Q : PyData → Prop}
@[simp ↓] theorem wX_list : Wp (idxD (.list xs) (.int i)) Q = Wp (nthI xs i) Q := rfl
@[simp ↓] theorem wX_tup : Wp (idxD (.tuple xs) (.int i)) Q = Wp (nthI xs i) Q := rfl
@[simp ↓] theorem wX_scr : Wp (idxD (scr xs) (.int i)) Q = Wp (nthI xs i) Q := rfl
@[simp ↓] theorem wU_list {d} : Wp (putD (.list xs) (.int i) d) Q = Wp (ixOf xs.length i) fun j => Q (.list (xs.set j d)) := by simp only [putD, Wp_map]
@[simp ↓] theorem wU_dictT {es k d} : Wp (putD (.dict (tMark :: es)) k d) Q = Wp (tupI k) fun ks => Wif (es.length < sizeLine) (Q (.dict (tMark :: tPut es ks d))) False := by
  simp only [tMark, putD, pw, pif, Wp0_ite, Wp0_some, Wp0_none, Wp0_map, Wp0_bind]
@[simp ↓] theorem wU_dict {es k d} (h : isScr es = false) : Wp (putD (.dict es) k d) Q = Wif (isKey k = true ∧ es.length < sizeLine) (Q (.dict (dPut es k d))) False := by
  cases es with
  | nil => simp only [putD, pw, pif, h, and_assoc, Bool.and_eq_true, Bool.not_eq_true', Bool.not_false, true_and, and_true, decide_eq_true_eq, Wp0_ite, Wp0_some, Wp0_none, Wp0_map, Wp0_bind]
  | cons p r =>
    obtain ⟨a, b⟩ := p
    cases a <;> first | (simp [isScr] at h; done) | simp only [putD, pw, pif, h, and_assoc, Bool.and_eq_true, Bool.not_eq_true', Bool.not_false, true_and, and_true, decide_eq_true_eq, Wp0_ite, Wp0_some, Wp0_none, Wp0_map, Wp0_bind]
end
section
variable {xs : List PyData} {lo hi : Option Int} {Q : PyData → Bool → Prop}
@[simp ↓] theorem wSl_list : W2 (slD (.list xs) lo hi) Q = Q (.list (cut xs lo hi)) true := by simp only [p2, slD, Wp0_some]
@[simp ↓] theorem wSl_tup : W2 (slD (.tuple xs) lo hi) Q = Q (.tuple (cut xs lo hi)) false := by simp only [p2, slD, Wp0_some]
@[simp ↓] theorem wSl_scr : W2 (slD (scr xs) lo hi) Q = Q (.list (cut xs lo hi)) true := by simp only [p2, slD, scr, Wp0_some]
variable {a b : Int} {ys : List PyData}
@[simp ↓] theorem wbi_lenL : W2 (biD .len [.list xs]) Q = Q (.int xs.length) false := by simp only [biD, pw, p2, p3, pif, Wp0_ite, Wp0_some, Wp0_none, Wp0_map, Wp0_bind]
@[simp ↓] theorem wbi_lenT : W2 (biD .len [.tuple xs]) Q = Q (.int xs.length) false := by simp only [biD, pw, p2, p3, pif, Wp0_ite, Wp0_some, Wp0_none, Wp0_map, Wp0_bind]
@[simp ↓] theorem wbi_lenS : W2 (biD .len [scr xs]) Q = Q (.int xs.length) false := by simp only [biD, scr, pw, p2, p3, pif, Wp0_ite, Wp0_some, Wp0_none, Wp0_map, Wp0_bind]
@[simp ↓] theorem wbi_all : W2 (biD .all [.list xs]) Q = Wp (boolsOf xs) fun bs => Q (.bool (bs.all id)) false := by simp only [biD, pw, p2, p3, pif, Wp0_ite, Wp0_some, Wp0_none, Wp0_map, Wp0_bind]
@[simp ↓] theorem wbi_any : W2 (biD .any [.list xs]) Q = Wp (boolsOf xs) fun bs => Q (.bool (bs.any id)) false := by simp only [biD, pw, p2, p3, pif, Wp0_ite, Wp0_some, Wp0_none, Wp0_map, Wp0_bind]
@[simp ↓] theorem wbi_tupL : W2 (biD .tuple [.list xs]) Q = Q (.tuple xs) false := by simp only [biD, pw, p2, p3, pif, Wp0_ite, Wp0_some, Wp0_none, Wp0_map, Wp0_bind]
@[simp ↓] theorem wbi_tupT : W2 (biD .tuple [.tuple xs]) Q = Q (.tuple xs) false := by simp only [biD, pw, p2, p3, pif, Wp0_ite, Wp0_some, Wp0_none, Wp0_map, Wp0_bind]
@[simp ↓] theorem wbi_listL : W2 (biD .list [.list xs]) Q = Q (.list xs) true := by simp only [biD, pw, p2, p3, pif, Wp0_ite, Wp0_some, Wp0_none, Wp0_map, Wp0_bind]
@[simp ↓] theorem wbi_listT : W2 (biD .list [.tuple xs]) Q = Q (.list xs) true := by simp only [biD, pw, p2, p3, pif, Wp0_ite, Wp0_some, Wp0_none, Wp0_map, Wp0_bind]
@[simp ↓] theorem wbi_listD {es} : W2 (biD .list [.dict (tMark :: es)]) Q = Q (.list (es.map (·.1))) true := by simp only [tMark, biD, pw, p2, p3, pif, Wp0_ite, Wp0_some, Wp0_none, Wp0_map, Wp0_bind]
@[simp ↓] theorem wbi_sum : W2 (biD .sum [.list xs]) Q = Wp (intsOf xs) fun ns => Q (.int ns.sum) false := by simp only [biD, pw, p2, p3, pif, Wp0_ite, Wp0_some, Wp0_none, Wp0_map, Wp0_bind]
@[simp ↓] theorem wbi_sumT : W2 (biD .sum [.tuple xs]) Q = Wp (intsOf xs) fun ns => Q (.int ns.sum) false := by simp only [biD, pw, p2, p3, pif, Wp0_ite, Wp0_some, Wp0_none, Wp0_map, Wp0_bind]
@[simp ↓] theorem wbi_maxL {x} : W2 (biD .max1 [.list (x :: xs)]) Q = Wif (ordOk (x :: xs) = true) (Q (PySem.W.maxD x xs) false) False := by simp only [biD, pw, p2, p3, pif, Wp0_ite, Wp0_some, Wp0_none, Wp0_map, Wp0_bind]
@[simp ↓] theorem wbi_maxT {x} : W2 (biD .max1 [.tuple (x :: xs)]) Q = Wif (ordOk (x :: xs) = true) (Q (PySem.W.maxD x xs) false) False := by simp only [biD, pw, p2, p3, pif, Wp0_ite, Wp0_some, Wp0_none, Wp0_map, Wp0_bind]
@[simp ↓] theorem wbi_minL {x} : W2 (biD .min1 [.list (x :: xs)]) Q = Wif (ordOk (x :: xs) = true) (Q (PySem.W.minD x xs) false) False := by simp only [biD, pw, p2, p3, pif, Wp0_ite, Wp0_some, Wp0_none, Wp0_map, Wp0_bind]
@[simp ↓] theorem wbi_minT {x} : W2 (biD .min1 [.tuple (x :: xs)]) Q = Wif (ordOk (x :: xs) = true) (Q (PySem.W.minD x xs) false) False := by simp only [biD, pw, p2, p3, pif, Wp0_ite, Wp0_some, Wp0_none, Wp0_map, Wp0_bind]
@[simp ↓] theorem wbi_max2 : W2 (biD .max2 [.int a, .int b]) Q = Q (.int (max a b)) false := by
  have : (if b > a then b else a) = max a b := by split <;> omega
  simp only [biD, this, pw, p2, p3, pif, Wp0_ite, Wp0_some, Wp0_none, Wp0_map, Wp0_bind]
@[simp ↓] theorem wbi_min2 : W2 (biD .min2 [.int a, .int b]) Q = Q (.int (min a b)) false := by
  have : (if b < a then b else a) = min a b := by split <;> omega
  simp only [biD, this, pw, p2, p3, pif, Wp0_ite, Wp0_some, Wp0_none, Wp0_map, Wp0_bind]
@[simp] theorem rowsB_ints {l : List Int} : rowsB (l.map .int) = false := by cases l <;> simp [rowsB]
@[simp] theorem rowsB_ints' {α : Type} {f : α → Int} {l : List α} : rowsB (l.map fun x => .int (f x)) = false := by cases l <;> simp [rowsB]
@[simp] theorem rowsB_nil : rowsB [] = false := rfl
@[simp] theorem rowsB_int {x : Int} {r : List PyData} : rowsB (.int x :: r) = false := by simp [rowsB]
@[simp ↓] theorem wbi_sorted (h : rowsB xs = false) : W2 (biD .sorted [.list xs]) Q = Wp (intsOf xs) fun ns => Q (.list ((sortI ns).map .int)) true := by simp only [biD, h, Bool.false_eq_true, if_false, pw, p2, p3, pif, Wp0_ite, Wp0_some, Wp0_none, Wp0_map, Wp0_bind]
@[simp ↓] theorem wbi_sortedT : W2 (biD .sorted [.tuple xs]) Q = Wp (intsOf xs) fun ns => Q (.list ((sortI ns).map .int)) true := by simp only [biD, pw, p2, p3, pif, Wp0_ite, Wp0_some, Wp0_none, Wp0_map, Wp0_bind]
@[simp ↓] theorem wbi_strL : W2 (biD .str [.list xs]) Q = Wif (shows (.list xs) = true) (Q (.str (PyData.list xs).shown) false) False := by simp only [biD, pw, p2, p3, pif, Wp0_ite, Wp0_some, Wp0_none, Wp0_map, Wp0_bind]
@[simp ↓] theorem wbi_strN : W2 (biD .str [.none]) Q = Q (.str PyData.none.shown) false := by simp only [biD, pw, p2, p3, pif, Wp0_ite, Wp0_some, Wp0_none, Wp0_map, Wp0_bind]
@[simp ↓] theorem wbi_strB {b} : W2 (biD .str [.bool b]) Q = Q (.str (PyData.bool b).shown) false := by simp only [biD, pw, p2, p3, pif, Wp0_ite, Wp0_some, Wp0_none, Wp0_map, Wp0_bind]
@[simp ↓] theorem wbi_strS {z} : W2 (biD .str [.str z]) Q = Q (.str z) false := by simp only [biD, pw, p2, p3, pif, Wp0_ite, Wp0_some, Wp0_none, Wp0_map, Wp0_bind]
@[simp ↓] theorem wbi_repr {d} : W2 (biD .repr [d]) Q = Wif (shows d = true) (Q (.str d.shown) false) False := by simp only [biD, pw, p2, p3, pif, Wp0_ite, Wp0_some, Wp0_none, Wp0_map, Wp0_bind]
@[simp ↓] theorem wbi_intI : W2 (biD .int [.int a]) Q = Q (.int a) false := by simp only [biD, pw, p2, p3, pif, Wp0_ite, Wp0_some, Wp0_none, Wp0_map, Wp0_bind]
@[simp ↓] theorem wbi_intB {t} : W2 (biD .int [.bool t]) Q = Q (.int (if t then 1 else 0)) false := by simp only [biD, pw, p2, p3, pif, Wp0_ite, Wp0_some, Wp0_none, Wp0_map, Wp0_bind]
@[simp ↓] theorem wbi_intS {z : Str} : W2 (biD .int [.str z]) Q = Wif (z.length ≤ 640) (Wp (PySem.intText? z) fun i => Q (.int i) false) False := by simp only [biD, pw, p2, p3, pif, Wp0_ite, Wp0_some, Wp0_none, Wp0_map, Wp0_bind]
@[simp ↓] theorem wmet_split {a b : Str} : W2 (metD .split (.str a) (.str b)) Q = Wif (b.length ≠ 0 ∧ a.length + 2 ≤ sizeLine) (Q (.list ((Txt.split a b).map .str)) true) False := by simp only [metD, pw, p2, p3, pif, Wp0_ite, Wp0_some, Wp0_none, Wp0_map, Wp0_bind]
@[simp ↓] theorem wmet_part {a b : Str} : W2 (metD .part (.str a) (.str b)) Q = Wif (b.length ≠ 0 ∧ a.length ≤ sizeLine) (Q (.tuple [.str (Txt.partition a b).1, .str (Txt.partition a b).2.1, .str (Txt.partition a b).2.2]) false) False := by simp only [metD, pw, p2, p3, pif, Wp0_ite, Wp0_some, Wp0_none, Wp0_map, Wp0_bind]
@[simp ↓] theorem wmet_count {a b : Str} : W2 (metD .count (.str a) (.str b)) Q = Q (.int (Txt.count a b)) false := by simp only [metD, pw, p2, p3, pif, Wp0_ite, Wp0_some, Wp0_none, Wp0_map, Wp0_bind]
@[simp ↓] theorem wmet_find {a b : Str} : W2 (metD .find (.str a) (.str b)) Q = Q (.int (Txt.find a b)) false := by simp only [metD, pw, p2, p3, pif, Wp0_ite, Wp0_some, Wp0_none, Wp0_map, Wp0_bind]
@[simp ↓] theorem wbi_isInt {d} : W2 (biD .isInt [d]) Q = Wp (isaD .isInt d) fun b => Q (.bool b) false := by simp only [biD, pw, p2, p3, pif, Wp0_ite, Wp0_some, Wp0_none, Wp0_map, Wp0_bind]
@[simp ↓] theorem wbi_isBool {d} : W2 (biD .isBool [d]) Q = Wp (isaD .isBool d) fun b => Q (.bool b) false := by simp only [biD, pw, p2, p3, pif, Wp0_ite, Wp0_some, Wp0_none, Wp0_map, Wp0_bind]
@[simp ↓] theorem wbi_isTuple {d} : W2 (biD .isTuple [d]) Q = Wp (isaD .isTuple d) fun b => Q (.bool b) false := by simp only [biD, pw, p2, p3, pif, Wp0_ite, Wp0_some, Wp0_none, Wp0_map, Wp0_bind]
@[simp ↓] theorem wbi_isStr {d} : W2 (biD .isStr [d]) Q = Wp (isaD .isStr d) fun b => Q (.bool b) false := by simp only [biD, pw, p2, p3, pif, Wp0_ite, Wp0_some, Wp0_none, Wp0_map, Wp0_bind]
@[simp ↓] theorem wbi_isList {d} : W2 (biD .isList [d]) Q = Wp (isaD .isList d) fun b => Q (.bool b) false := by simp only [biD, pw, p2, p3, pif, Wp0_ite, Wp0_some, Wp0_none, Wp0_map, Wp0_bind]
end
@[simp] theorem isa_i {a} : isaD .isInt (.int a) = some true := rfl
@[simp] theorem isa_ib {a} : isaD .isInt (.bool a) = some true := rfl
@[simp] theorem isa_it {a} : isaD .isInt (.tuple a) = some false := rfl
@[simp] theorem isa_il {a} : isaD .isInt (.list a) = some false := rfl
@[simp] theorem isa_is {a} : isaD .isInt (.str a) = some false := rfl
@[simp] theorem isa_in : isaD .isInt .none = some false := rfl
@[simp] theorem isa_bi {a} : isaD .isBool (.int a) = some false := rfl
@[simp] theorem isa_bb {a} : isaD .isBool (.bool a) = some true := rfl
@[simp] theorem isa_ti {a} : isaD .isTuple (.int a) = some false := rfl
@[simp] theorem isa_tb {a} : isaD .isTuple (.bool a) = some false := rfl
@[simp] theorem isa_tt {a} : isaD .isTuple (.tuple a) = some true := rfl
@[simp] theorem isa_tl {a} : isaD .isTuple (.list a) = some false := rfl
@[simp] theorem isa_ts {a} : isaD .isTuple (.str a) = some false := rfl
@[simp] theorem isa_tn : isaD .isTuple .none = some false := rfl
@[simp] theorem truthD_b {b} : truthD (.bool b) = some b := rfl
@[simp] theorem truthD_n : truthD .none = some false := rfl
@[simp] theorem truthD_i {i} : truthD (.int i) = some (i != 0) := rfl
@[simp] theorem truthD_l {xs} : truthD (.list xs) = some (!xs.isEmpty) := rfl
@[simp] theorem truthD_t {xs} : truthD (.tuple xs) = some (!xs.isEmpty) := rfl
@[simp] theorem seqOf_l {xs} : seqOf (.list xs) = some xs := rfl
@[simp] theorem seqOf_t {xs} : seqOf (.tuple xs) = some xs := rfl
@[simp] theorem seqOf_s {z : Str} : seqOf (.str z) = some (z.cps.toList.map fun c => .str ⟨#[c]⟩) := rfl
@[simp] theorem starOf_l {xs} : starOf (.list xs) = some xs := rfl
@[simp] theorem starOf_t {xs} : starOf (.tuple xs) = some xs := rfl
@[simp] theorem ggetD_i {es : List (Int × Str)} {i e} : ggetD es (.int i) e = some (((es.lookup i).map PyData.str).getD e) := rfl
@[simp] theorem isa_ss {a} : isaD .isStr (.str a) = some true := rfl
@[simp] theorem isa_si {a} : isaD .isStr (.int a) = some false := rfl
@[simp] theorem isa_st {a} : isaD .isStr (.tuple a) = some false := rfl
@[simp] theorem isNone_n : isNone .none = true := rfl
@[simp] theorem isNone_i {a} : isNone (.int a) = false := rfl
@[simp] theorem isNone_t {a} : isNone (.tuple a) = false := rfl
@[simp] theorem isNone_l {a} : isNone (.list a) = false := rfl
@[simp] theorem isNone_b {a} : isNone (.bool a) = false := rfl
@[simp] theorem isKey_i {a} : isKey (.int a) = true := rfl
@[simp] theorem isKey_s {a} : isKey (.str a) = true := rfl
@[simp] theorem isOwn_o {d} : isOwn (some (.own d)) = true := rfl
@[simp] theorem isOwnL_o {d} : isOwnL (some (.own (.list d))) = true := rfl
@[simp] theorem zipK_t {xs ys} : zipK (.tuple xs) (.tuple ys) = some ((xs.zip ys).map fun p => .tuple [p.1, p.2]) := rfl
@[simp] theorem zipK_l {xs ys} : zipK (.list xs) (.list ys) = some ((xs.zip ys).map fun p => .tuple [p.1, p.2]) := rfl
@[simp] theorem zipK_tl {xs ys} : zipK (.tuple xs) (.list ys) = some ((xs.zip ys).map fun p => .tuple [p.1, p.2]) := rfl
@[simp] theorem enmK_t {xs} : enmK (.tuple xs) = some (xs.zipIdx.map fun p => .tuple [.int p.2, p.1]) := rfl
@[simp] theorem zip3K_t {xs ys zs} : zip3K (.tuple xs) (.tuple ys) (.tuple zs) = some (((xs.zip ys).zip zs).map fun p => .tuple [p.1.1, p.1.2, p.2]) := rfl
@[simp] theorem zip3K_l {xs ys zs} : zip3K (.list xs) (.list ys) (.list zs) = some (((xs.zip ys).zip zs).map fun p => .tuple [p.1.1, p.1.2, p.2]) := rfl
@[simp] theorem enmK_l {xs} : enmK (.list xs) = some (xs.zipIdx.map fun p => .tuple [.int p.2, p.1]) := rfl
@[simp] theorem intsOf_map {l : List Int} : intsOf (l.map PyData.int) = some l := by
  induction l with
  | nil => rfl
  | cons a r ih => simp [intsOf, ih]
@[simp] theorem tupI_ints {l : List Int} : tupI (.tuple (l.map .int)) = some l := by simp [tupI]
@[simp] theorem boolsOf_map {l : List Bool} : boolsOf (l.map PyData.bool) = some l := by
  induction l with
  | nil => rfl
  | cons a r ih => simp [boolsOf, ih]
@[simp] theorem boolsOf_map' {α : Type} {p : α → Bool} {l : List α} : boolsOf (l.map fun x => PyData.bool (p x)) = some (l.map p) := by
  induction l with
  | nil => rfl
  | cons a r ih => simp [boolsOf, ih]
@[simp] theorem intsOf_map' {α : Type} {p : α → Int} {l : List α} : intsOf (l.map fun x => PyData.int (p x)) = some (l.map p) := by
  induction l with
  | nil => rfl
  | cons a r ih => simp [intsOf, ih]
@[simp ↓] theorem wN_nil {ρ Q} : W2 (lend ρ []) Q = Q [] ρ := by simp only [lend, pw, p2, p3, pif, Wp0_ite, Wp0_some, Wp0_none, Wp0_map, Wp0_bind]
@[simp ↓] theorem wN_v {ρ Q d r} : W2 (lend ρ (.v d :: r)) Q = W2 (lend ρ r) fun xa xb => Q ((d, false) :: xa) xb := by simp only [lend, pw, p2, p3, pif, Wp0_ite, Wp0_some, Wp0_none, Wp0_map, Wp0_bind]
@[simp ↓] theorem wN_r {ρ : Rho} {Q i r} : W2 (lend ρ (.r i :: r)) Q = slotL ρ[i]? (fun d => W2 (lend ρ r) fun xa xb => Q ((d, false) :: xa) xb) (fun d => W2 (lend (ρ.set i .no) r) fun xa xb => Q ((d, true) :: xa) xb) := by
  rcases h : ρ[i]? with _ | (_ | d | d) <;> simp only [lend, h, slotL, pw, p2, p3, pif, Wp0_ite, Wp0_some, Wp0_none, Wp0_map, Wp0_bind]
@[simp ↓] theorem wK_nil {ρ Q as ss} : Wp (back ρ [] as ss) Q = Q ρ := by simp [back]
@[simp ↓] theorem wK_t {ρ Q i d s as ss r} : Wp (back ρ (.r i :: r) ((d, true) :: as) (s :: ss)) Q = Wp (back (ρ.set i s) r as ss) Q := by simp [back]
@[simp ↓] theorem wK_f {ρ Q b d s as ss r} : Wp (back ρ (b :: r) ((d, false) :: as) (s :: ss)) Q = Wp (back ρ r as ss) Q := by cases b <;> simp [back]
@[simp ↓] theorem wGA_nil {ρ Q} : Wp (getAll ρ []) Q = Q [] := by simp [getAll]
@[simp ↓] theorem wGA_cons {ρ Q b r} : Wp (getAll ρ (b :: r)) Q = Wp (b.get ρ) fun d => Wp (getAll ρ r) fun ds => Q (d :: ds) := by simp only [getAll, pw, Wp0_ite, Wp0_some, Wp0_none, Wp0_map, Wp0_bind]
@[simp ↓] theorem wSt_nm {i d fr ρ Q} : Wp (setT (.nm i) d fr ρ) Q = Q (ρ.set i (slotOf d fr)) := by simp [setT]
@[simp ↓] theorem wSt_tp {ts d fr ρ Q} : Wp (setT (.tp ts) d fr ρ) Q = Wp (bindT (.tp ts) d ρ) Q := by simp [setT]
@[simp] theorem slotOf_t {d} : slotOf d true = .own d := rfl
@[simp] theorem slotOf_f {d} : slotOf d false = .dat d := rfl
@[simp ↓] theorem wBt_nm {i d ρ Q} : Wp (bindT (.nm i) d ρ) Q = Q (ρ.set i (.dat d)) := by simp [bindT]
@[simp ↓] theorem wBt_tp {ts ds ρ Q} : Wp (bindT (.tp ts) (.tuple ds) ρ) Q = Wp (bindTs ts ds ρ) Q := by simp [bindT]
@[simp ↓] theorem wBs_nil {ρ Q} : Wp (bindTs .nil [] ρ) Q = Q ρ := by simp [bindTs]
@[simp ↓] theorem wBs_cons {a r d ds ρ Q} : Wp (bindTs (.cons a r) (d :: ds) ρ) Q = Wp (bindT a d ρ) fun ρ1 => Wp (bindTs r ds ρ1) Q := by simp [bindTs]
@[simp ↓] theorem wBp_nil {ρ Q} : Wp (bindP .nil [] ρ) Q = Q ρ := by simp [bindP]
@[simp ↓] theorem wBp_nm {i r d fr ds ρ Q} : Wp (bindP (.cons (.nm i) r) ((d, fr) :: ds) ρ) Q = Wp (bindP r ds (ρ.set i (slotOf d fr))) Q := by simp [bindP]
@[simp ↓] theorem wBp_tp {ts r d fr ds ρ Q} : Wp (bindP (.cons (.tp ts) r) ((d, fr) :: ds) ρ) Q = Wp (bindT (.tp ts) d ρ) fun ρ1 => Wp (bindP r ds ρ1) Q := by simp [bindP]
@[simp] theorem argSlot_t {d} : argSlot (d, true) = .own d := rfl
@[simp] theorem argSlot_f {d} : argSlot (d, false) = .dat d := rfl
@[simp] theorem finals_nil {ρ} : finals [] ρ = [] := rfl
@[simp] theorem finals_t {d as s ρ} : finals ((d, true) :: as) (s :: ρ) = s :: finals as ρ := rfl
@[simp] theorem finals_f {d as s ρ} : finals ((d, false) :: as) (s :: ρ) = .no :: finals as ρ := rfl
@[simp] theorem small_lit {i : Int} : (small i = true) = (-(2 ^ 64) < i ∧ i < 2 ^ 64) := by simp [small]
@[simp] theorem lineI_lit {i : Int} : (lineI i = true) = (-(2 ^ 62) ≤ i ∧ i < 2 ^ 62) := by simp [lineI]
@[simp] theorem wipeR_nil {ρ} : wipeR ρ [] = ρ := rfl
@[simp] theorem wipeR_cons {ρ v vs} : wipeR ρ (v :: vs) = (wipeR ρ vs).set v .no := rfl
/-! small sizes -/
@[simp] theorem szl_0 : (0 ≤ sizeLine) = True := by decide
@[simp] theorem szl_1 : (1 ≤ sizeLine) = True := by decide
@[simp] theorem szl_2 : (2 ≤ sizeLine) = True := by decide
@[simp] theorem szl_3 : (3 ≤ sizeLine) = True := by decide
@[simp] theorem szl_4 : (4 ≤ sizeLine) = True := by decide
@[simp] theorem szl_5 : (5 ≤ sizeLine) = True := by decide
@[simp] theorem szl_6 : (6 ≤ sizeLine) = True := by decide
@[simp] theorem szl_7 : (7 ≤ sizeLine) = True := by decide
@[simp] theorem szl_8 : (8 ≤ sizeLine) = True := by decide
@[simp] theorem szl_9 : (9 ≤ sizeLine) = True := by decide
@[simp] theorem szl_10 : (10 ≤ sizeLine) = True := by decide
@[simp] theorem szl_11 : (11 ≤ sizeLine) = True := by decide
@[simp] theorem szl_12 : (12 ≤ sizeLine) = True := by decide
@[simp] theorem szl_13 : (13 ≤ sizeLine) = True := by decide
@[simp] theorem szl_14 : (14 ≤ sizeLine) = True := by decide
@[simp] theorem szl_15 : (15 ≤ sizeLine) = True := by decide
@[simp] theorem szm_0 : (0 < sizeLine) = True := by decide
@[simp] theorem szm_1 : (1 < sizeLine) = True := by decide
@[simp] theorem szm_2 : (2 < sizeLine) = True := by decide
@[simp] theorem szm_3 : (3 < sizeLine) = True := by decide
@[simp] theorem szm_4 : (4 < sizeLine) = True := by decide
@[simp] theorem szm_5 : (5 < sizeLine) = True := by decide
@[simp] theorem szm_6 : (6 < sizeLine) = True := by decide
@[simp] theorem szm_7 : (7 < sizeLine) = True := by decide
@[simp] theorem szm_8 : (8 < sizeLine) = True := by decide
@[simp] theorem szm_9 : (9 < sizeLine) = True := by decide
@[simp] theorem szm_10 : (10 < sizeLine) = True := by decide
@[simp] theorem szm_11 : (11 < sizeLine) = True := by decide
@[simp] theorem szm_12 : (12 < sizeLine) = True := by decide
@[simp] theorem szm_13 : (13 < sizeLine) = True := by decide
@[simp] theorem szm_14 : (14 < sizeLine) = True := by decide
@[simp] theorem szm_15 : (15 < sizeLine) = True := by decide
/-- a def run: its parameters, then its variables -/
theorem w_go {T : Nat → Option Fn} {W k i as} (f : Fn) [Has T i f] {Q} (h : as.length = f.np ∧ lentOk (asgd f.body) 0 as = true)
    (h' : Wp (evS (evF T W k) W f.body (as.map argSlot ++ List.replicate (f.nv - f.np) .no)) fun o => endK o as Q) : W3 (evF T W (k + 1) i as) Q :=
  w_fn (f := f) (w_run h h')
end MI
/-! MIH: loops and comprehensions over lists of known make. -/
namespace MI
open PySem
section
variable {α : Type} {tg : MT} {ev : Rho → List PyData → Option (Rho × List PyData)} {vs : List Nat} {f : α → PyData} {l : List α} {ρ : Rho} {Q : Rho → List PyData → Prop}
theorem w_turnsm {acc0 : List PyData} (I : List α → Rho → List PyData → Prop) (h0 : I [] ρ acc0)
    (h1 : ∀ done d rest ρ acc, l = done ++ d :: rest → I done ρ acc → Wp (bindT tg (f d) ρ) fun ρ1 => W2 (ev ρ1 acc) fun xa xb => Kd (I (done ++ [d]) (wipeR xa vs) xb))
    (h2 : ∀ ρ acc, I l ρ acc → Q ρ acc) : W2 (turns tg ev vs (l.map f) ρ acc0) Q := by
  suffices H : ∀ rest done ρ acc, l = done ++ rest → I done ρ acc → W2 (turns tg ev vs (rest.map f) ρ acc) Q from H l [] ρ acc0 rfl h0
  intro rest
  induction rest with
  | nil => intro done ρ acc h hI; rw [List.append_nil] at h; subst h; exact ⟨_, rfl, h2 _ _ hI⟩
  | cons d rest ih =>
    intro done ρ acc h hI
    simp only [List.map_cons, turns, p2, Wp0_bind]
    obtain ⟨ρ1, h3, x, h4, h5⟩ := h1 done d rest ρ acc h hI
    exact ⟨ρ1, h3, x, h4, ih (done ++ [d]) _ _ (by simp [h]) h5⟩
/-- parts by a function that may leave some out -/
theorem w_compf (g : α → Option PyData) (hn : l.length ≤ sizeLine)
    (h1 : ∀ x acc, x ∈ l → acc.length < sizeLine → Wp (bindT tg (f x) ρ) fun ρ1 => W2 (ev ρ1 acc) fun xa xb => wipeR xa vs = ρ ∧ xb = acc ++ (g x).toList)
    (h2 : Q ρ (l.filterMap g)) : W2 (turns tg ev vs (l.map f) ρ []) Q := by
  refine w_turnsm (fun done ρ' acc => ρ' = ρ ∧ acc = done.filterMap g) ⟨rfl, rfl⟩ ?_ ?_
  · intro done d rest ρ' acc hd ⟨hr, ha⟩
    subst hr
    have hl : acc.length ≤ done.length := by rw [ha]; exact List.length_filterMap_le _ _
    have hd' : done.length < l.length := by rw [hd]; simp
    refine Wp_mono (h1 d acc (by rw [hd]; simp) (by omega)) fun ρ1 h3 => W2_mono h3 fun x y hx => ⟨hx.1, ?_⟩
    rw [hx.2, ha, List.filterMap_append]
    cases hg : g d <;> simp [hg]
  · intro ρ' acc ⟨hr, ha⟩; subst hr; subst ha; exact h2
/-- parts one by one -/
theorem w_compm (g : α → PyData) (hn : l.length ≤ sizeLine)
    (h1 : ∀ x acc, x ∈ l → acc.length < sizeLine → Wp (bindT tg (f x) ρ) fun ρ1 => W2 (ev ρ1 acc) fun xa xb => wipeR xa vs = ρ ∧ xb = acc ++ [g x])
    (h2 : Q ρ (l.map g)) : W2 (turns tg ev vs (l.map f) ρ []) Q :=
  w_compf (fun x => some (g x)) hn (fun x acc hx ha => h1 x acc hx ha) (by rw [List.filterMap_eq_map']; exact h2)
/-- some of the parts -/
theorem w_compp (p : α → Bool) (g : α → PyData) (hn : l.length ≤ sizeLine)
    (h1 : ∀ x acc, x ∈ l → acc.length < sizeLine → Wp (bindT tg (f x) ρ) fun ρ1 => W2 (ev ρ1 acc) fun xa xb => wipeR xa vs = ρ ∧ xb = acc ++ if p x then [g x] else [])
    (h2 : Q ρ ((l.filter p).map g)) : W2 (turns tg ev vs (l.map f) ρ []) Q := by
  refine w_compf (fun x => if p x then some (g x) else none) hn (fun x acc hx ha => ?_) ?_
  · refine Wp_mono (h1 x acc hx ha) fun ρ1 h3 => W2_mono h3 fun a b h => ⟨h.1, ?_⟩
    rw [h.2]; cases hp : p x <;> simp [hp]
  · have : l.filterMap (fun x => if p x then some (g x) else none) = (l.filter p).map g := by
      clear h1 h2 hn
      induction l with
      | nil => rfl
      | cons a r ih => cases hp : p a <;> simp [hp, ih]
    rw [this]; exact h2
end
section
variable {α : Type} {tg : MT} {ev : Rho → Option Out} {f : α → PyData} {l : List α} {ρ : Rho} {Q : Out → Prop}
theorem w_loopm (I : List α → Rho → Prop) (h0 : I [] ρ)
    (h1 : ∀ done d rest ρ, l = done ++ d :: rest → I done ρ → Wp (bindT tg (f d) ρ) fun ρ1 => Wp (ev ρ1) (turnK (I (done ++ [d])) Q))
    (h2 : ∀ ρ, I l ρ → Q (.nx ρ)) : Wp (loopS tg ev (l.map f) ρ) Q := by
  suffices H : ∀ rest done ρ, l = done ++ rest → I done ρ → Wp (loopS tg ev (rest.map f) ρ) Q from H l [] ρ rfl h0
  intro rest
  induction rest with
  | nil => intro done ρ h hI; rw [List.append_nil] at h; subst h; exact ⟨_, rfl, h2 _ hI⟩
  | cons d rest ih =>
    intro done ρ h hI
    simp only [List.map_cons, loopS, Wp_bind]
    refine Wp_mono (h1 done d rest ρ h hI) fun ρ1 h3 => ?_
    rw [Wp_bind]; refine Wp_mono h3 fun o ho => ?_
    cases o with
    | nx ρ2 => exact ih (done ++ [d]) ρ2 (by simp [h]) ho
    | ct ρ2 => exact ih (done ++ [d]) ρ2 (by simp [h]) ho
    | bk ρ2 => exact ⟨_, rfl, ho⟩
    | rt d fr ρ2 => exact ⟨_, rfl, ho⟩
/-- an invariant that does not count -/
theorem w_loops (I : Rho → Prop) (h0 : I ρ)
    (h1 : ∀ d ρ, d ∈ l → I ρ → Wp (bindT tg (f d) ρ) fun ρ1 => Wp (ev ρ1) (turnK I Q))
    (h2 : ∀ ρ, I ρ → Q (.nx ρ)) : Wp (loopS tg ev (l.map f) ρ) Q :=
  w_loopm (fun _ => I) h0 (fun done d rest ρ hl hI => h1 d ρ (by rw [hl]; simp) hI) h2
end
/-- while, by an invariant and a measure -/
noncomputable def turnW (I : Rho → Prop) (m : Rho → Nat) (n : Nat) (Q : Out → Prop) : Out → Prop
  | .nx ρ => Kd (I ρ ∧ m ρ < n)
  | .ct ρ => Kd (I ρ ∧ m ρ < n)
  | .bk ρ => Q (.nx ρ)
  | .rt d fr ρ => Q (.rt d fr ρ)
@[simp ↓] theorem turnW_nx {I m n Q ρ} : turnW I m n Q (.nx ρ) = Kd (I ρ ∧ m ρ < n) := rfl
@[simp ↓] theorem turnW_ct {I m n Q ρ} : turnW I m n Q (.ct ρ) = Kd (I ρ ∧ m ρ < n) := rfl
@[simp ↓] theorem turnW_bk {I m n Q ρ} : turnW I m n Q (.bk ρ) = Q (.nx ρ) := rfl
@[simp ↓] theorem turnW_rt {I m n Q d fr ρ} : turnW I m n Q (.rt d fr ρ) = Q (.rt d fr ρ) := rfl
theorem w_while {c : Rho → Option (Bool × Rho)} {ev : Rho → Option Out} {W : Nat} {ρ : Rho} {Q : Out → Prop} (I : Rho → Prop) (m : Rho → Nat) (h0 : I ρ) (hm : m ρ < W)
    (h1 : ∀ ρ, I ρ → W2 (c ρ) fun t ρ1 => Wif (t = true) (Wp (ev ρ1) (turnW I m (m ρ) Q)) (Q (.nx ρ1))) : Wp (whileS c ev W ρ) Q := by
  induction W generalizing ρ with
  | zero => omega
  | succ W ih =>
    obtain ⟨⟨t, ρ1⟩, e1, e2⟩ := h1 ρ h0
    cases t with
    | false =>
      have := e2.2 (by simp)
      exact ⟨_, by simp only [whileS, e1, Option.bind_some]; rfl, this⟩
    | true =>
      obtain ⟨o, e3, e4⟩ := e2.1 rfl
      cases o with
      | nx ρ2 =>
        obtain ⟨o', e5, e6⟩ := ih (ρ := ρ2) e4.1 (by have := e4.2; omega)
        exact ⟨o', by simp only [whileS, e1, Option.bind_some, if_true, e3]; exact e5, e6⟩
      | ct ρ2 =>
        obtain ⟨o', e5, e6⟩ := ih (ρ := ρ2) e4.1 (by have := e4.2; omega)
        exact ⟨o', by simp only [whileS, e1, Option.bind_some, if_true, e3]; exact e5, e6⟩
      | bk ρ2 => exact ⟨_, by simp only [whileS, e1, Option.bind_some, if_true, e3], e4⟩
      | rt d fr ρ2 => exact ⟨_, by simp only [whileS, e1, Option.bind_some, if_true, e3], e4⟩
/-- the integers from one on -/
noncomputable def intR (lo hi : Int) : List Int := (List.range (hi - lo).toNat).map fun k : Nat => lo + (k : Int)
theorem rangeD_eq {lo hi : Int} : rangeD lo hi = (intR lo hi).map .int := by simp [rangeD, intR]
theorem mem_intR {lo hi x : Int} : x ∈ intR lo hi ↔ lo ≤ x ∧ x < hi := by
  simp only [intR, List.mem_map, List.mem_range]
  constructor
  · rintro ⟨k, h, rfl⟩; omega
  · intro h; exact ⟨(x - lo).toNat, by omega, by omega⟩
theorem length_intR {lo hi : Int} : (intR lo hi).length = (hi - lo).toNat := by simp [intR]
theorem intR_sorted {lo hi : Int} : (intR lo hi).Pairwise (· < ·) := by
  rw [intR, List.pairwise_map]
  exact List.Pairwise.imp (fun h => by omega) List.pairwise_lt_range
/-- neighbours ascend: all do -/
theorem zip_lt {S : List Int} : (∀ p ∈ S.zip (S.drop 1), p.1 < p.2) ↔ S.Pairwise (· < ·) := by
  induction S with
  | nil => simp
  | cons a r ih =>
    cases r with
    | nil => simp
    | cons b t =>
      simp only [List.drop_one, List.tail_cons, List.zip_cons_cons, List.mem_cons, forall_eq_or_imp] at ih ⊢
      rw [List.pairwise_cons, ← ih]
      constructor
      · rintro ⟨h1, h2⟩
        refine ⟨?_, h2⟩
        have h3 := ih.1 h2
        rw [List.pairwise_cons] at h3
        intro x hx
        rcases List.mem_cons.1 hx with rfl | hx
        · exact h1
        · have := h3.1 x hx; omega
      · rintro ⟨h1, h2⟩; exact ⟨h1 b (List.mem_cons_self), h2⟩
theorem cut_from {α : Type} {xs : List α} {i : Int} (h : 0 ≤ i) : cut xs (some i) none = xs.drop i.toNat := by
  have : ¬ i < 0 := by omega
  simp only [cut, cutIx, if_neg this]
  by_cases hl : i.toNat ≤ xs.length
  · rw [Nat.min_eq_left hl, List.take_of_length_le (by simp)]
  · rw [Nat.min_eq_right (by omega), Nat.sub_self, List.take_zero, List.drop_eq_nil_of_le (by omega)]
theorem cut_both {α : Type} {xs : List α} {i j : Int} (h : 0 ≤ i) (h' : 0 ≤ j) : cut xs (some i) (some j) = (xs.drop i.toNat).take (j.toNat - i.toNat) := by
  have hi : ¬ i < 0 := by omega
  have hj : ¬ j < 0 := by omega
  simp only [cut, cutIx, if_neg hi, if_neg hj]
  by_cases hl : i.toNat ≤ xs.length
  · rw [Nat.min_eq_left hl]
    by_cases hl2 : j.toNat ≤ xs.length
    · rw [Nat.min_eq_left hl2]
    · rw [Nat.min_eq_right (by omega), List.take_of_length_le (by simp), List.take_of_length_le (by simp; omega)]
  · rw [Nat.min_eq_right (a := i.toNat) (by omega), List.drop_eq_nil_of_le (Nat.le_refl _), List.drop_eq_nil_of_le (by omega)]; simp
@[simp] theorem cut_1 {α : Type} {xs : List α} : cut xs (some 1) none = xs.tail := by rw [cut_from (by omega)]; simp
theorem zip_ints {S R : List Int} : ((S.map PyData.int).zip (R.map PyData.int)).map (fun p => PyData.tuple [p.1, p.2]) = (S.zip R).map (fun p => PyData.tuple [.int p.1, .int p.2]) := by
  rw [List.zip_map, List.map_map]; rfl
end MI
/-! MII: data of which repr and == can be told. -/
namespace MI
open PySem
mutual
/-- no dicts, numbers not too long -/
noncomputable def mild : PyData → Bool
  | .none => true
  | .bool _ => true
  | .int i => decide (i.natAbs < 2 ^ 80)
  | .str s => PyData.strOk s
  | .list xs => mildAll xs
  | .tuple xs => mildAll xs
  | .dict _ => false
noncomputable def mildAll : List PyData → Bool
  | [] => true
  | x :: r => mild x && mildAll r
end
theorem mildAll_iff {xs : List PyData} : mildAll xs = true ↔ ∀ x ∈ xs, mild x = true := by
  induction xs with
  | nil => simp [mildAll]
  | cons a r ih => simp [mildAll, ih]
theorem log2_lt {n : Nat} (h : n < 2 ^ 80) : n.log2 < 80 := by
  rcases Nat.eq_zero_or_pos n with rfl | h0
  · decide
  · exact (Nat.log2_lt (by omega)).2 h
mutual
theorem mild_canLay : ∀ d : PyData, mild d = true → d.canLay0 = true
  | .none, _ => by simp only [PyData.canLay0]
  | .bool _, _ => by simp only [PyData.canLay0]
  | .int _, _ => by simp only [PyData.canLay0]
  | .str s, h => by simp only [mild] at h; simp only [PyData.canLay0, h]
  | .list xs, h => by simp only [mild] at h; simp only [PyData.canLay0]; exact mildAll_canLay xs h
  | .tuple xs, h => by simp only [mild] at h; simp only [PyData.canLay0]; exact mildAll_canLay xs h
  | .dict _, h => by simp only [mild] at h; cases h
theorem mildAll_canLay : ∀ xs : List PyData, mildAll xs = true → PyData.canLayAll0 xs = true
  | [], _ => by simp only [PyData.canLayAll0]
  | x :: r, h => by
    simp only [mildAll, Bool.and_eq_true] at h
    simp only [PyData.canLayAll0, mild_canLay x h.1, mildAll_canLay r h.2, Bool.and_self]
end
mutual
theorem mild_show : ∀ d : PyData, mild d = true → d.showable = true ∧ d.hasDict = false ∧ d.leavesShort 96 = true
  | .none, _ => by simp [PyData.showable, PyData.hasDict, PyData.leavesShort]
  | .bool _, _ => by simp [PyData.showable, PyData.hasDict, PyData.leavesShort]
  | .int i, h => by
    simp only [mild, decide_eq_true_eq] at h
    have h1 := log2_lt h
    have h2 : (Str.ofString (toString i)).length ≤ 96 := by
      rw [PySem.ofString_length]
      exact Nat.le_trans (PySem.int_text_length_le (k := 80) (by decide) h1) (by decide)
    exact ⟨by simp only [PyData.showable, decide_eq_true_eq]; omega, by simp only [PyData.hasDict], by simp only [PyData.leavesShort, PyData.shown]; exact decide_eq_true h2⟩
  | .str s, h => by
    exact ⟨by simp only [PyData.showable], by simp only [PyData.hasDict], PyData.leavesShort_of_canLay0 96 _ (mild_canLay _ h) (by simp only [PyData.intsShort])⟩
  | .list xs, h => by
    simp only [mild] at h
    have := mildAll_show xs h
    simp [PyData.showable, PyData.hasDict, PyData.leavesShort, this]
  | .tuple xs, h => by
    simp only [mild] at h
    have := mildAll_show xs h
    simp [PyData.showable, PyData.hasDict, PyData.leavesShort, this]
  | .dict _, h => by simp only [mild] at h; cases h
theorem mildAll_show : ∀ xs : List PyData, mildAll xs = true → PyData.showableAll xs = true ∧ PyData.hasDictAll xs = false ∧ PyData.leavesShortAll 96 xs = true
  | [], _ => by simp [PyData.showableAll, PyData.hasDictAll, PyData.leavesShortAll]
  | x :: r, h => by
    simp only [mildAll, Bool.and_eq_true] at h
    have h1 := mild_show x h.1
    have h2 := mildAll_show r h.2
    simp [PyData.showableAll, PyData.hasDictAll, PyData.leavesShortAll, h1, h2]
end
theorem mild_lay {d : PyData} (h : mild d = true) (h2 : d.depth ≤ 64) : lay d = true := by
  simp only [lay, SeqAt.shaped, mild_canLay d h, Bool.true_and, decide_eq_true_eq]; exact h2
theorem mild_shows {d : PyData} (h : mild d = true) (h2 : d.depth ≤ 64) (h3 : d.weight ≤ 170000) : shows d = true := by
  have h4 := mild_show d h
  have h5 := PyData.shown_le 96 (by decide) d h4.2.2
  have h6 : d.shown.length ≤ sizeLine := Nat.le_trans h5 (Nat.le_trans (Nat.add_le_add_right (Nat.mul_le_mul_left _ h3) _) (by decide))
  simp [shows, h4, h2, h6]
@[simp] theorem eqv_ints {S R : List Int} : PyData.eqvAll (S.map .int) (R.map .int) = decide (S = R) := by
  induction S generalizing R with
  | nil => cases R <;> simp [PyData.eqvAll]
  | cons a r ih => cases R with
    | nil => simp [PyData.eqvAll]
    | cons b t => simp [PyData.eqvAll, PyData.eqv, ih, Bool.decide_and]; rfl
@[simp] theorem eqv_nil {S : List PyData} : PyData.eqvAll S [] = S.isEmpty := by cases S <;> simp [PyData.eqvAll]
@[simp] theorem eqv_nil' {S : List PyData} : PyData.eqvAll [] S = S.isEmpty := by cases S <;> simp [PyData.eqvAll]
@[simp] theorem eqv_l {S R : List PyData} : PyData.eqv (.list S) (.list R) = PyData.eqvAll S R := by simp [PyData.eqv]
@[simp] theorem eqv_t {S R : List PyData} : PyData.eqv (.tuple S) (.tuple R) = PyData.eqvAll S R := by simp [PyData.eqv]
@[simp] theorem eqv_c {x y : PyData} {S R : List PyData} : PyData.eqvAll (x :: S) (y :: R) = (PyData.eqv x y && PyData.eqvAll S R) := by simp [PyData.eqvAll]
@[simp] theorem eqv_i {x y : Int} : PyData.eqv (.int x) (.int y) = decide (x = y) := by simp only [PyData.eqv]; rfl
theorem depth_ints {S : List Int} : PyData.depthAll (S.map .int) = 0 := by
  induction S with
  | nil => simp [PyData.depthAll]
  | cons a r ih => simp [PyData.depthAll, PyData.depth, ih]
theorem mild_ints {S : List Int} (h : ∀ s ∈ S, s.natAbs < 2 ^ 80) : mildAll (S.map .int) = true := by
  rw [mildAll_iff]; intro x hx
  obtain ⟨s, hs, rfl⟩ := List.mem_map.1 hx
  simp only [mild, decide_eq_true_eq]; exact h s hs
theorem lay_ints {S : List Int} (h : ∀ s ∈ S, s.natAbs < 2 ^ 80) : lay (.list (S.map .int)) = true :=
  mild_lay (by simp only [mild]; exact mild_ints h) (by simp [PyData.depth, depth_ints])
@[simp] theorem lay_nil : lay (.list []) = true := by decide
@[simp] theorem lay_nilT : lay (.tuple []) = true := by decide
end MI
namespace LW
open PySem MI L2
abbrev WW : Nat := 100000
abbrev i_is_integer : Nat := 0
abbrev i_is_between : Nat := 1
abbrev i_divisor : Nat := 27
abbrev i_common_multiple : Nat := 65
abbrev i_is_set : Nat := 2
abbrev i_is_pattern : Nat := 3
abbrev i_does_send : Nat := 22
abbrev i_is_group : Nat := 53
abbrev i_need_group : Nat := 54
abbrev i_are_offsets : Nat := 55
abbrev i_need_offsets : Nat := 77
abbrev i_span_of : Nat := 66
abbrev i_need_span : Nat := 67
abbrev i_senders_at : Nat := 97
abbrev i_kind_of : Nat := 98
abbrev i_heard_of : Nat := 99
abbrev i_heard_of_S : Nat := 499
abbrev i_counts_of : Nat := 100
abbrev i_heard : Nat := 101
abbrev i_counts : Nat := 102
abbrev i_cell : Nat := 4
abbrev i_pen : Nat := 5
abbrev i_draw : Nat := 6
abbrev i_pick : Nat := 7
abbrev i_same : Nat := 8
abbrev i_beat_of : Nat := 12
abbrev i_whole : Nat := 39
abbrev i_times : Nat := 59
abbrev i_crowd : Nat := 60
abbrev i_starts : Nat := 61
abbrev i_on : Nat := 103
abbrev i_rows : Nat := 104
abbrev i_mark : Nat := 105
abbrev i_tally : Nat := 106
abbrev i_law_k13 : Nat := 107
noncomputable def f_is_integer : Fn := ⟨1, 1,
  (.ret (.and (.bi .isInt (.cons (.var 0) .nil)) (.not (.bi .isBool (.cons (.var 0) .nil)))))⟩
noncomputable def f_is_between : Fn := ⟨3, 3,
  (.ret (.and (.call i_is_integer (.cons (.var 0) .nil)) (.cmp2 .le .le (.var 1) (.var 0) (.var 2))))⟩
noncomputable def f_divisor : Fn := ⟨2, 2,
  (.seq (.while (.tst (.cmp .ne (.var 1) (.lit (.int 0)))) (.par (.cons (.nm 0) (.cons (.nm 1) .nil)) (.cons (.var 1) (.cons (.bin .mod (.var 0) (.var 1)) .nil))))
    (.ret (.var 0)))⟩
noncomputable def f_common_multiple : Fn := ⟨2, 2,
  (.ret (.bin .mul (.bin .fdiv (.var 0) (.call i_divisor (.cons (.var 0) (.cons (.var 1) .nil)))) (.var 1)))⟩
noncomputable def f_is_set : Fn := ⟨3, 5,
  (.seq (.ite (.or (.not (.tst (.bi .isTuple (.cons (.var 0) .nil)))) (.not (.tst (.bi .all (.cons (.comp [3] (.nm 3) (.it (.var 0)) .nil (.call i_is_between (.cons (.var 3) (.cons (.var 1) (.cons (.var 2) .nil))))) .nil))))) (.ret (.lit (.bool false))) .skip)
    (.ret (.bi .all (.cons (.comp [3, 4] (.tp (.cons (.nm 3) (.cons (.nm 4) .nil))) (.zp (.var 0) (.sl (.var 0) (.cons (.lit (.int 1)) .nil) .nil)) .nil (.cmp .lt (.var 3) (.var 4))) .nil))))⟩
noncomputable def f_is_pattern : Fn := ⟨1, 1,
  (.seq (.ite (.or (.not (.tst (.bi .isTuple (.cons (.var 0) .nil)))) (.or (.tst (.cmp .ne (.bi .len (.cons (.var 0) .nil)) (.lit (.int 2)))) (.not (.tst (.call i_is_between (.cons (.idx (.var 0) (.lit (.int 0))) (.cons (.lit (.int 2)) (.cons (.lit (.int 60)) .nil)))))))) (.ret (.lit (.bool false))) .skip)
    (.ret (.and (.call i_is_set (.cons (.idx (.var 0) (.lit (.int 1))) (.cons (.lit (.int 0)) (.cons (.bin .sub (.idx (.var 0) (.lit (.int 0))) (.lit (.int 1))) .nil)))) (.cmp2 .le .lt (.lit (.int 1)) (.bi .len (.cons (.idx (.var 0) (.lit (.int 1))) .nil)) (.idx (.var 0) (.lit (.int 0)))))))⟩
noncomputable def f_does_send : Fn := ⟨3, 3,
  (.ret (.cmp .isin (.bin .mod (.bin .sub (.var 2) (.var 1)) (.idx (.var 0) (.lit (.int 0)))) (.idx (.var 0) (.lit (.int 1)))))⟩
noncomputable def f_is_group : Fn := ⟨1, 2,
  (.seq (.ite (.or (.not (.tst (.bi .isTuple (.cons (.var 0) .nil)))) (.not (.tst (.cmp2 .le .le (.lit (.int 2)) (.bi .len (.cons (.var 0) .nil)) (.lit (.int 4)))))) (.ret (.lit (.bool false))) .skip)
    (.ret (.bi .all (.cons (.comp [1] (.nm 1) (.it (.var 0)) .nil (.call i_is_pattern (.cons (.var 1) .nil))) .nil))))⟩
noncomputable def f_need_group : Fn := ⟨1, 1,
  (.ite (.not (.tst (.call i_is_group (.cons (.var 0) .nil)))) .stuck .skip)⟩
noncomputable def f_are_offsets : Fn := ⟨2, 4,
  (.seq (.ite (.or (.not (.tst (.bi .isTuple (.cons (.var 1) .nil)))) (.tst (.cmp .ne (.bi .len (.cons (.var 1) .nil)) (.bi .len (.cons (.var 0) .nil))))) (.ret (.lit (.bool false))) .skip)
    (.ret (.bi .all (.cons (.comp [2, 3] (.tp (.cons (.nm 2) (.cons (.nm 3) .nil))) (.zp (.var 1) (.var 0)) .nil (.call i_is_between (.cons (.var 2) (.cons (.lit (.int 0)) (.cons (.bin .sub (.idx (.var 3) (.lit (.int 0))) (.lit (.int 1))) .nil))))) .nil))))⟩
noncomputable def f_need_offsets : Fn := ⟨2, 2,
  (.ite (.not (.tst (.call i_are_offsets (.cons (.var 0) (.cons (.var 1) .nil))))) .stuck .skip)⟩
noncomputable def f_span_of : Fn := ⟨1, 4,
  (.seq (.asg (.nm 1) (.lit (.int 1)))
    (.seq (.loop (.tp (.cons (.nm 2) (.cons (.nm 3) .nil))) (.it (.var 0)) (.asg (.nm 1) (.call i_common_multiple (.cons (.var 1) (.cons (.var 2) .nil)))))
    (.ret (.var 1))))⟩
noncomputable def f_need_span : Fn := ⟨1, 2,
  (.seq (.asg (.nm 1) (.call i_span_of (.cons (.var 0) .nil)))
    (.ite (.tst (.cmp .gt (.var 1) (.lit (.int 420)))) .stuck .skip))⟩
noncomputable def f_senders_at : Fn := ⟨3, 5,
  (.ret (.comp [3, 4] (.tp (.cons (.nm 3) (.cons (.nm 4) .nil))) (.enm (.var 0)) (.tst (.call i_does_send (.cons (.var 4) (.cons (.idx (.var 1) (.var 3)) (.cons (.var 2) .nil))))) (.var 3)))⟩
noncomputable def f_kind_of : Fn := ⟨1, 1,
  (.seq (.ite (.tst (.cmp .eq (.var 0) (.lst .nil))) (.ret (.lit (.int (-1)))) .skip)
    (.ret (.ite (.tst (.cmp .eq (.bi .len (.cons (.var 0) .nil)) (.lit (.int 1)))) (.idx (.var 0) (.lit (.int 0))) (.lit (.int (-2))))))⟩
noncomputable def f_heard_of : Fn := ⟨2, 3,
  (.ret (.bi .tuple (.cons (.comp [2] (.nm 2) (.rng1 (.call i_span_of (.cons (.var 0) .nil))) .nil (.call i_kind_of (.cons (.call i_senders_at (.cons (.var 0) (.cons (.var 1) (.cons (.var 2) .nil)))) .nil))) .nil)))⟩
noncomputable def f_heard_of_S : Fn := ⟨2, 3,
  (.retT (.comp [2] (.nm 2) (.rng1 (.call i_span_of (.cons (.var 0) .nil))) .nil (.call i_kind_of (.cons (.call i_senders_at (.cons (.var 0) (.cons (.var 1) (.cons (.var 2) .nil)))) .nil))))⟩
noncomputable def f_counts_of : Fn := ⟨2, 4,
  (.seq (.asgO 2 i_heard_of_S (.cons (.var 0) (.cons (.var 1) .nil)))
    (.ret (.tup (.cons (.cnt 2 (.lit (.int (-1)))) (.star (.comp [3] (.nm 3) (.rng1 (.bi .len (.cons (.var 0) .nil))) .nil (.cnt 2 (.var 3))) (.cons (.cnt 2 (.lit (.int (-2)))) .nil))))))⟩
noncomputable def f_heard : Fn := ⟨2, 2,
  (.seq (.expr (.call i_need_group (.cons (.var 0) .nil)))
    (.seq (.expr (.call i_need_offsets (.cons (.var 0) (.cons (.var 1) .nil))))
    (.seq (.expr (.call i_need_span (.cons (.var 0) .nil)))
    (.ret (.call i_heard_of (.cons (.var 0) (.cons (.var 1) .nil)))))))⟩
noncomputable def f_counts : Fn := ⟨2, 2,
  (.seq (.expr (.call i_need_group (.cons (.var 0) .nil)))
    (.seq (.expr (.call i_need_offsets (.cons (.var 0) (.cons (.var 1) .nil))))
    (.seq (.expr (.call i_need_span (.cons (.var 0) .nil)))
    (.ret (.call i_counts_of (.cons (.var 0) (.cons (.var 1) .nil)))))))⟩
noncomputable def f_cell : Fn := ⟨2, 2,
  (.ret (.ite (.tst (.cmp .lt (.var 1) (.bi .len (.cons (.var 0) .nil)))) (.idx (.var 0) (.var 1)) (.lit (.int 0))))⟩
noncomputable def f_pen : Fn := ⟨1, 1,
  (.ret (.lst (.cons (.bi .max2 (.cons (.lit (.int 0)) (.cons (.bin .sub (.var 0) (.bin .pow (.lit (.int 10)) (.lit (.int 18)))) .nil))) (.cons (.bin .add (.bin .mod (.var 0) (.lit (.int 2147483629))) (.lit (.int 1))) (.cons (.lit (.int 0)) .nil)))))⟩
noncomputable def f_draw : Fn := ⟨2, 4,
  (.seq (.ite (.tst (.cmp .gt (.idx (.var 0) (.lit (.int 0))) (.lit (.int 0)))) (.seq (.asg (.nm 2) (.bin .mod (.idx (.var 0) (.lit (.int 0))) (.var 1)))
    (.seq (.put 0 (.lit (.int 0)) (.bin .fdiv (.idx (.var 0) (.lit (.int 0))) (.var 1)))
    (.ret (.var 2)))) .skip)
    (.seq (.put 0 (.lit (.int 2)) (.bin .add (.idx (.var 0) (.lit (.int 2))) (.lit (.int 1))))
    (.seq (.put 0 (.lit (.int 1)) (.bin .mod (.bin .add (.bin .add (.bin .mul (.idx (.var 0) (.lit (.int 1))) (.lit (.int 48271))) (.bin .mul (.lit (.int 1009)) (.idx (.var 0) (.lit (.int 2))))) (.lit (.int 7))) (.lit (.int 2147483647))))
    (.seq (.asg (.nm 3) (.bin .mod (.bin .add (.bin .add (.bin .mul (.idx (.var 0) (.lit (.int 1))) (.idx (.var 0) (.lit (.int 1)))) (.bin .mul (.lit (.int 69621)) (.idx (.var 0) (.lit (.int 1))))) (.lit (.int 11))) (.lit (.int 2147483629))))
    (.seq (.asg (.nm 3) (.bin .mod (.bin .add (.bin .mul (.var 3) (.var 3)) (.bin .mul (.lit (.int 40014)) (.var 3))) (.lit (.int 2147483587))))
    (.ret (.bin .mod (.bin .fdiv (.var 3) (.lit (.int 16))) (.var 1))))))))⟩
noncomputable def f_pick : Fn := ⟨2, 2,
  (.ret (.idx (.var 1) (.call i_draw (.cons (.var 0) (.cons (.bi .len (.cons (.var 1) .nil)) .nil)))))⟩
noncomputable def f_same : Fn := ⟨2, 2,
  (.ret (.cmp .eq (.bi .repr (.cons (.var 0) .nil)) (.bi .repr (.cons (.var 1) .nil))))⟩
noncomputable def f_beat_of : Fn := ⟨2, 5,
  (.seq (.asg (.nm 2) (.bin .add (.lit (.int 1)) (.call i_draw (.cons (.var 0) (.cons (.lit (.int 4)) .nil)))))
    (.seq (.asg (.nm 3) (.comp [4] (.nm 4) (.rng1 (.var 1)) (.tst (.cmp .eq (.call i_draw (.cons (.var 0) (.cons (.var 2) .nil))) (.lit (.int 0)))) (.var 4)))
    (.seq (.ite (.or (.tst (.cmp .eq (.var 3) (.lst .nil))) (.tst (.cmp .eq (.bi .len (.cons (.var 3) .nil)) (.var 1)))) (.asg (.nm 3) (.lst (.cons (.call i_draw (.cons (.var 0) (.cons (.var 1) .nil))) .nil))) .skip)
    (.ret (.tup (.cons (.var 1) (.cons (.bi .tuple (.cons (.var 3) .nil)) .nil)))))))⟩
noncomputable def f_whole : Fn := ⟨1, 3,
  (.seq (.asg (.nm 1) (.lit (.int 1)))
    (.seq (.while (.tst (.cmp .ne (.comp [2] (.nm 2) (.it (.var 0)) (.tst (.cmp .ne (.bin .mod (.var 1) (.idx (.var 2) (.lit (.int 0)))) (.lit (.int 0)))) (.lit (.int 1))) (.lst .nil))) (.asg (.nm 1) (.bin .add (.var 1) (.lit (.int 1)))))
    (.ret (.var 1))))⟩
noncomputable def f_times : Fn := ⟨1, 3,
  (.seq (.asg (.nm 1) (.lit (.int 1)))
    (.seq (.loop (.nm 2) (.it (.var 0)) (.asg (.nm 1) (.bin .mul (.var 1) (.idx (.var 2) (.lit (.int 0))))))
    (.ret (.var 1))))⟩
noncomputable def f_crowd : Fn := ⟨2, 5,
  (.seq (.asg (.nm 2) (.lst (.cons (.lst (.cons (.lit (.int 2)) (.cons (.lit (.int 3)) (.cons (.lit (.int 4)) (.cons (.lit (.int 6)) (.cons (.lit (.int 12)) .nil)))))) (.cons (.lst (.cons (.lit (.int 2)) (.cons (.lit (.int 4)) (.cons (.lit (.int 8)) .nil)))) (.cons (.lst (.cons (.lit (.int 3)) (.cons (.lit (.int 6)) (.cons (.lit (.int 9)) .nil)))) (.cons (.lst (.cons (.lit (.int 2)) (.cons (.lit (.int 5)) (.cons (.lit (.int 10)) .nil)))) (.cons (.lst (.cons (.lit (.int 3)) (.cons (.lit (.int 5)) (.cons (.lit (.int 15)) .nil)))) (.cons (.lst (.cons (.lit (.int 2)) (.cons (.lit (.int 3)) (.cons (.lit (.int 5)) (.cons (.lit (.int 7)) .nil))))) (.cons (.lst (.cons (.lit (.int 4)) (.cons (.lit (.int 6)) .nil))) (.cons (.lst (.cons (.lit (.int 6)) .nil)) (.cons (.lst (.cons (.lit (.int 4)) .nil)) .nil)))))))))))
    (.seq (.asg (.nm 2) (.call i_pick (.cons (.var 0) (.cons (.var 2) .nil))))
    (.seq (.asg (.nm 3) (.lst .nil))
    (.seq (.loop (.nm 4) (.rng1 (.bin .add (.lit (.int 2)) (.call i_draw (.cons (.var 0) (.cons (.lit (.int 3)) .nil))))) (.app 3 (.call i_beat_of (.cons (.var 0) (.cons (.call i_pick (.cons (.var 0) (.cons (.var 2) .nil))) .nil)))))
    (.seq (.while (.and (.tst (.cmp .gt (.bi .len (.cons (.var 3) .nil)) (.lit (.int 2)))) (.tst (.cmp .gt (.callV i_times (.cons (.var 3) .nil)) (.var 1)))) (.expr (.pop 3)))
    (.ret (.bi .tuple (.cons (.var 3) .nil))))))))⟩
noncomputable def f_starts : Fn := ⟨2, 3,
  (.ret (.bi .tuple (.cons (.comp [2] (.nm 2) (.it (.var 1)) .nil (.call i_draw (.cons (.var 0) (.cons (.idx (.var 2) (.lit (.int 0))) .nil)))) .nil)))⟩
noncomputable def f_on : Fn := ⟨3, 7,
  (.seq (.asg (.nm 3) (.lst .nil))
    (.seq (.loop (.tp (.cons (.nm 4) (.cons (.tp (.cons (.nm 5) (.cons (.nm 6) .nil))) .nil))) (.enm (.var 0)) (.ite (.tst (.cmp .isin (.bin .mod (.bin .sub (.var 2) (.idx (.var 1) (.var 4))) (.var 5)) (.bi .list (.cons (.var 6) .nil)))) (.app 3 (.var 4)) .skip))
    (.ret (.var 3))))⟩
noncomputable def f_rows : Fn := ⟨2, 3,
  (.ret (.comp [2] (.nm 2) (.rng1 (.callV i_whole (.cons (.var 0) .nil))) .nil (.call i_on (.cons (.var 0) (.cons (.var 1) (.cons (.var 2) .nil))))))⟩
noncomputable def f_mark : Fn := ⟨1, 1,
  (.seq (.ite (.tst (.cmp .eq (.var 0) (.lst .nil))) (.ret (.neg (.lit (.int 1)))) .skip)
    (.ret (.ite (.tst (.cmp .eq (.bi .len (.cons (.var 0) .nil)) (.lit (.int 1)))) (.idx (.var 0) (.lit (.int 0))) (.neg (.lit (.int 2))))))⟩
noncomputable def f_tally : Fn := ⟨2, 5,
  (.seq (.asg (.nm 2) (.comp [3] (.nm 3) (.it (.call i_rows (.cons (.var 0) (.cons (.var 1) .nil)))) .nil (.call i_mark (.cons (.var 3) .nil))))
    (.ret (.bin .add (.bin .add (.tup (.cons (.cnt 2 (.neg (.lit (.int 1)))) .nil)) (.bi .tuple (.cons (.comp [4] (.nm 4) (.rng1 (.bi .len (.cons (.var 0) .nil))) .nil (.cnt 2 (.var 4))) .nil))) (.tup (.cons (.cnt 2 (.neg (.lit (.int 2)))) .nil)))))⟩
noncomputable def f_law_k13 : Fn := ⟨1, 14,
  (.seq (.par (.cons (.nm 1) (.cons (.nm 2) .nil)) (.cons (.tup (.cons (.tup (.cons (.lit (.int 4)) (.cons (.tup (.cons (.lit (.int 0)) (.cons (.lit (.int 1)) .nil))) .nil))) (.cons (.tup (.cons (.lit (.int 6)) (.cons (.tup (.cons (.lit (.int 0)) (.cons (.lit (.int 2)) .nil))) .nil))) .nil))) (.cons (.tup (.cons (.tup (.cons (.lit (.int 4)) (.cons (.tup (.cons (.lit (.int 0)) (.cons (.lit (.int 2)) .nil))) .nil))) (.cons (.tup (.cons (.lit (.int 6)) (.cons (.tup (.cons (.lit (.int 0)) (.cons (.lit (.int 2)) (.cons (.lit (.int 4)) .nil)))) .nil))) .nil))) .nil)))
    (.seq (.asg (.nm 3) (.lst (.cons (.call i_counts (.cons (.var 1) (.cons (.tup (.cons (.lit (.int 0)) (.cons (.lit (.int 0)) .nil))) .nil))) (.cons (.call i_counts (.cons (.var 1) (.cons (.tup (.cons (.lit (.int 0)) (.cons (.lit (.int 1)) .nil))) .nil))) (.cons (.call i_counts (.cons (.var 2) (.cons (.tup (.cons (.lit (.int 0)) (.cons (.lit (.int 0)) .nil))) .nil))) (.cons (.call i_heard (.cons (.var 1) (.cons (.tup (.cons (.lit (.int 0)) (.cons (.lit (.int 0)) .nil))) .nil))) .nil))))))
    (.seq (.asg (.nm 4) (.lst (.cons (.tup (.cons (.lit (.int 4)) (.cons (.lit (.int 4)) (.cons (.lit (.int 2)) (.cons (.lit (.int 2)) .nil))))) (.cons (.tup (.cons (.lit (.int 4)) (.cons (.lit (.int 4)) (.cons (.lit (.int 2)) (.cons (.lit (.int 2)) .nil))))) (.cons (.tup (.cons (.lit (.int 6)) (.cons (.lit (.int 0)) (.cons (.lit (.int 0)) (.cons (.lit (.int 6)) .nil))))) (.cons (.tup (.cons (.neg (.lit (.int 2))) (.cons (.lit (.int 0)) (.cons (.lit (.int 1)) (.cons (.neg (.lit (.int 1))) (.cons (.lit (.int 0)) (.cons (.lit (.int 0)) (.cons (.lit (.int 1)) (.cons (.neg (.lit (.int 1))) (.cons (.neg (.lit (.int 2))) (.cons (.lit (.int 0)) (.cons (.neg (.lit (.int 1))) (.cons (.neg (.lit (.int 1))) .nil))))))))))))) .nil))))))
    (.seq (.ite (.not (.tst (.call i_same (.cons (.var 3) (.cons (.var 4) .nil))))) (.ret (.lit (.bool false))) .skip)
    (.seq (.loop (.nm 5) (.it (.bin .add (.lst (.cons (.call i_cell (.cons (.var 0) (.cons (.lit (.int 0)) .nil))) .nil)) (.sl (.var 0) (.cons (.lit (.int 1)) .nil) (.cons (.lit (.int 3)) .nil)))) (.seq (.asg (.nm 6) (.call i_pen (.cons (.var 5) .nil)))
    (.loop (.nm 7) (.rng1 (.lit (.int 9))) (.seq (.asg (.nm 1) (.call i_crowd (.cons (.var 6) (.cons (.lit (.int 20000)) .nil))))
    (.seq (.ite (.tst (.cmp .eq (.var 7) (.lit (.int 8)))) (.asg (.nm 1) (.tup (.cons (.call i_beat_of (.cons (.var 6) (.cons (.call i_pick (.cons (.var 6) (.cons (.lst (.cons (.lit (.int 59)) (.cons (.lit (.int 60)) .nil))) .nil))) .nil))) (.cons (.call i_beat_of (.cons (.var 6) (.cons (.lit (.int 7)) .nil))) .nil)))) .skip)
    (.loop (.nm 8) (.it (.tup (.cons (.lit (.int 0)) (.cons (.lit (.int 1)) (.cons (.lit (.int 2)) .nil))))) (.seq (.asg (.nm 9) (.call i_starts (.cons (.var 6) (.cons (.var 1) .nil))))
    (.seq (.par (.cons (.nm 10) (.cons (.nm 11) .nil)) (.cons (.bi .repr (.cons (.tup (.cons (.var 1) (.cons (.var 9) .nil))) .nil)) (.cons (.bi .tuple (.cons (.comp [12] (.nm 12) (.it (.call i_rows (.cons (.var 1) (.cons (.var 9) .nil)))) .nil (.call i_mark (.cons (.var 12) .nil))) .nil)) .nil)))
    (.seq (.loop (.nm 13) (.it (.tup (.cons (.lit (.int 0)) (.cons (.lit (.int 1)) .nil)))) (.ite (.not (.tst (.call i_same (.cons (.lst (.cons (.call i_heard (.cons (.var 1) (.cons (.var 9) .nil))) (.cons (.call i_counts (.cons (.var 1) (.cons (.var 9) .nil))) .nil))) (.cons (.lst (.cons (.var 11) (.cons (.call i_tally (.cons (.var 1) (.cons (.var 9) .nil))) .nil))) .nil))))) (.ret (.lit (.bool false))) .skip))
    (.ite (.tst (.cmp .ne (.bi .repr (.cons (.tup (.cons (.var 1) (.cons (.var 9) .nil))) .nil)) (.var 10))) (.ret (.lit (.bool false))) .skip))))))))))
    (.ret (.lit (.bool true))))))))⟩
@[irreducible] noncomputable def T : Nat → Option Fn := fun i => match i with
  | 0 => some f_is_integer
  | 1 => some f_is_between
  | 2 => some f_is_set
  | 3 => some f_is_pattern
  | 4 => some f_cell
  | 5 => some f_pen
  | 6 => some f_draw
  | 7 => some f_pick
  | 8 => some f_same
  | 12 => some f_beat_of
  | 22 => some f_does_send
  | 27 => some f_divisor
  | 39 => some f_whole
  | 53 => some f_is_group
  | 54 => some f_need_group
  | 55 => some f_are_offsets
  | 59 => some f_times
  | 60 => some f_crowd
  | 61 => some f_starts
  | 65 => some f_common_multiple
  | 66 => some f_span_of
  | 67 => some f_need_span
  | 77 => some f_need_offsets
  | 97 => some f_senders_at
  | 98 => some f_kind_of
  | 99 => some f_heard_of
  | 100 => some f_counts_of
  | 101 => some f_heard
  | 102 => some f_counts
  | 103 => some f_on
  | 104 => some f_rows
  | 105 => some f_mark
  | 106 => some f_tally
  | 107 => some f_law_k13
  | 499 => some f_heard_of_S
  | _ => none
instance : Has T i_is_integer f_is_integer := ⟨by unfold T; rfl⟩
instance : Has T i_is_between f_is_between := ⟨by unfold T; rfl⟩
instance : Has T i_is_set f_is_set := ⟨by unfold T; rfl⟩
instance : Has T i_is_pattern f_is_pattern := ⟨by unfold T; rfl⟩
instance : Has T i_cell f_cell := ⟨by unfold T; rfl⟩
instance : Has T i_pen f_pen := ⟨by unfold T; rfl⟩
instance : Has T i_draw f_draw := ⟨by unfold T; rfl⟩
instance : Has T i_pick f_pick := ⟨by unfold T; rfl⟩
instance : Has T i_same f_same := ⟨by unfold T; rfl⟩
instance : Has T i_beat_of f_beat_of := ⟨by unfold T; rfl⟩
instance : Has T i_does_send f_does_send := ⟨by unfold T; rfl⟩
instance : Has T i_divisor f_divisor := ⟨by unfold T; rfl⟩
instance : Has T i_whole f_whole := ⟨by unfold T; rfl⟩
instance : Has T i_is_group f_is_group := ⟨by unfold T; rfl⟩
instance : Has T i_need_group f_need_group := ⟨by unfold T; rfl⟩
instance : Has T i_are_offsets f_are_offsets := ⟨by unfold T; rfl⟩
instance : Has T i_times f_times := ⟨by unfold T; rfl⟩
instance : Has T i_crowd f_crowd := ⟨by unfold T; rfl⟩
instance : Has T i_starts f_starts := ⟨by unfold T; rfl⟩
instance : Has T i_common_multiple f_common_multiple := ⟨by unfold T; rfl⟩
instance : Has T i_span_of f_span_of := ⟨by unfold T; rfl⟩
instance : Has T i_need_span f_need_span := ⟨by unfold T; rfl⟩
instance : Has T i_need_offsets f_need_offsets := ⟨by unfold T; rfl⟩
instance : Has T i_senders_at f_senders_at := ⟨by unfold T; rfl⟩
instance : Has T i_kind_of f_kind_of := ⟨by unfold T; rfl⟩
instance : Has T i_heard_of f_heard_of := ⟨by unfold T; rfl⟩
instance : Has T i_counts_of f_counts_of := ⟨by unfold T; rfl⟩
instance : Has T i_heard f_heard := ⟨by unfold T; rfl⟩
instance : Has T i_counts f_counts := ⟨by unfold T; rfl⟩
instance : Has T i_on f_on := ⟨by unfold T; rfl⟩
instance : Has T i_rows f_rows := ⟨by unfold T; rfl⟩
instance : Has T i_mark f_mark := ⟨by unfold T; rfl⟩
instance : Has T i_tally f_tally := ⟨by unfold T; rfl⟩
instance : Has T i_law_k13 f_law_k13 := ⟨by unfold T; rfl⟩
instance : Has T i_heard_of_S f_heard_of_S := ⟨by unfold T; rfl⟩
section
/-! P1: ranges, what repeats, common multiples. -/
namespace PL
/-- what repeats after n does so after each multiple -/
theorem per_mul {α : Type} {f : Int → α} {n : Int} (hp : ∀ t, f (t + n) = f t) (k : Int) : ∀ t, f (t + k * n) = f t := by
  have hN : ∀ (k : Nat) t, f (t + k * n) = f t := fun k => by
    induction k with
    | zero => intro t; simp
    | succ k ih =>
      intro t
      have e : t + ((k + 1 : Nat) : Int) * n = (t + k * n) + n := by rw [Int.natCast_add, Int.add_mul]; simp; omega
      rw [e, hp, ih]
  intro t
  rcases Int.le_total 0 k with h | h
  · obtain ⟨j, rfl⟩ := Int.eq_ofNat_of_zero_le h
    exact hN j t
  · obtain ⟨j, hj⟩ : ∃ j : Nat, k = -(j : Int) := ⟨(-k).toNat, by omega⟩
    subst hj
    have := hN j (t + -(j : Int) * n)
    rw [← this]; congr 1; rw [Int.neg_mul]; omega
theorem add_emod_self' {t n : Int} : (t + n) % n = t % n := by simp
/-! ### common multiples -/
/-- as the program reckons it -/
noncomputable def lcmI (a b : Int) : Int := a / (Int.gcd a b : Int) * b
theorem lcmI_eq {a b : Int} (ha : 0 < a) (hb : 0 < b) : lcmI a b = (Int.lcm a b : Int) := by
  have hg : (0 : Int) < Int.gcd a b := by have := Int.gcd_pos_of_ne_zero_left b (a := a) (by omega); omega
  obtain ⟨k, hk⟩ := Int.gcd_dvd_left a b
  have h1 : (Int.gcd a b : Int) * (Int.lcm a b : Int) = a * b := by
    have := Int.gcd_mul_lcm a b
    have e : ((Int.gcd a b * Int.lcm a b : Nat) : Int) = ((a.natAbs * b.natAbs : Nat) : Int) := by rw [this]
    rw [Int.natCast_mul, Int.natCast_mul] at e
    rw [e, Int.natAbs_of_nonneg (by omega), Int.natAbs_of_nonneg (by omega)]
  have h2 : (Int.gcd a b : Int) * lcmI a b = a * b := by
    rw [lcmI, ← Int.mul_assoc, Int.mul_ediv_cancel' (Int.gcd_dvd_left a b)]
  exact Int.eq_of_mul_eq_mul_left (by omega) (h2.trans h1.symm)
theorem lcmI_pos {a b : Int} (ha : 0 < a) (hb : 0 < b) : 0 < lcmI a b := by
  rw [lcmI_eq ha hb]
  have := Int.lcm_pos (m := a) (n := b) (by omega) (by omega); omega
theorem dvd_lcmI_left {a b : Int} (ha : 0 < a) (hb : 0 < b) : a ∣ lcmI a b := by rw [lcmI_eq ha hb]; exact Int.dvd_lcm_left a b
theorem dvd_lcmI_right {a b : Int} (ha : 0 < a) (hb : 0 < b) : b ∣ lcmI a b := by rw [lcmI_eq ha hb]; exact Int.dvd_lcm_right a b
theorem lcmI_dvd {a b c : Int} (ha : 0 < a) (hb : 0 < b) (h1 : a ∣ c) (h2 : b ∣ c) : lcmI a b ∣ c := by rw [lcmI_eq ha hb]; exact Int.coe_lcm_dvd h1 h2
theorem gcd_mul_lcmI {a b : Int} : (Int.gcd a b : Int) * lcmI a b = a * b := by
  rw [lcmI, ← Int.mul_assoc, Int.mul_ediv_cancel' (Int.gcd_dvd_left a b)]
theorem gcd_pos {a b : Int} (ha : 0 < a) : (0 : Int) < Int.gcd a b := by have := Int.gcd_pos_of_ne_zero_left b (a := a) (by omega); omega
end PL
end
section
/-! P2: patterns: shortest, turned, matching. -/
namespace PL
structure IsPat (L : Int) (S : List Int) : Prop where
  lo : 2 ≤ L
  hi : L ≤ 60
  ne : S ≠ []
  few : (S.length : Int) < L
  asc : S.Pairwise (· < ·)
  mem : ∀ s ∈ S, 0 ≤ s ∧ s < L
theorem IsPat.nd {L : Int} {S : List Int} (h : IsPat L S) : S.Nodup := h.asc.imp fun h => by omega
theorem IsPat.pos {L : Int} {S : List Int} (h : IsPat L S) : 0 < L := by have := h.lo; omega
/-- the slots are the same so many ticks later -/
noncomputable def Per (L : Int) (S : List Int) (m : Int) : Prop := ∀ t, ((t + m) % L ∈ S ↔ t % L ∈ S)
theorem Per.sub {L m n : Int} {S : List Int} (h1 : Per L S m) (h2 : Per L S n) : Per L S (m - n) := fun t => by
  have a := h1 (t - n); have b := h2 (t - n)
  rw [show t - n + m = t + (m - n) by omega] at a
  rw [show t - n + n = t by omega] at b
  exact a.trans b.symm
theorem Per.self {L : Int} {S : List Int} : Per L S L := fun t => by rw [add_emod_self']
theorem Per.mul {L m : Int} {S : List Int} (h : Per L S m) (k : Int) : Per L S (k * m) := fun t => by
  have := per_mul (f := fun t => decide (t % L ∈ S)) (n := m) (fun t => decide_eq_decide.2 (h t)) k t
  exact decide_eq_decide.1 this
theorem Per.emod {L m n : Int} {S : List Int} (h1 : Per L S m) (h2 : Per L S n) : Per L S (m % n) := by
  have e : m % n = m - (m / n) * n := by
    have := Int.emod_add_mul_ediv m n
    rw [Int.mul_comm] at this; omega
  rw [e]; exact h1.sub (h2.mul _)
/-- the first number of ticks behind which all is the same divides the period -/
theorem per_least {L m : Int} {S : List Int} (hL : 0 < L) (hm : 0 < m) (h : Per L S m) (hl : ∀ k, 0 < k → k < m → ¬ Per L S k) : m ∣ L := by
  have h1 := (Per.self (L := L) (S := S)).emod h
  rcases Int.lt_or_eq_of_le (Int.emod_nonneg L (by omega : m ≠ 0)) with h2 | h2
  · exact absurd h1 (hl _ h2 (Int.emod_lt_of_pos _ hm))
  · exact Int.dvd_of_emod_eq_zero h2.symm
/-- what it is: the least number of ticks -/
structure Short (L : Int) (S : List Int) (m : Int) : Prop where
  pos : 0 < m
  per : Per L S m
  least : ∀ k, 0 < k → k < m → ¬ Per L S k
theorem Short.dvd {L m : Int} {S : List Int} (hL : 0 < L) (h : Short L S m) : m ∣ L := per_least hL h.pos h.per h.least
theorem Short.le {L m : Int} {S : List Int} (hL : 0 < L) (h : Short L S m) : m ≤ L := Int.le_of_dvd hL (h.dvd hL)
end PL
end
section
/-! LA: pens, draws, patterns. -/
variable {T : Nat → Option Fn} {k : Nat}
theorem sizeLine_ge : 1000000 ≤ sizeLine := by decide
/-- a pen -/
noncomputable def Pen (q : List PyData) : Prop := ∃ a b c : Int, q = [.int a, .int b, .int c] ∧ 0 ≤ a ∧ 0 ≤ b ∧ b < 2147483648
theorem w_draw [Has T i_draw f_draw] {p : List PyData} {m : Int} {Q} (hp : Pen p) (h0 : 0 < m) (h1 : m < 1073741824)
    (hq : ∀ r p', Pen p' → 0 ≤ r → r < m → Q (.int r) false [.own (.list p'), .no]) : W3 (evF T WW (k + 1) i_draw [(.list p, true), (.int m, false)]) Q := by
  obtain ⟨a, b, c, rfl, ha, hb, hb2⟩ := hp
  refine w_go f_draw ⟨rfl, rfl⟩ ?_
  simp -dsimp [f_draw]
  refine Wif_i (fun hpos => ?_) (fun hneg => ?_)
  · simp -dsimp [h0, h1]
    exact hq _ _ ⟨_, _, _, rfl, Int.ediv_nonneg ha (by omega), hb, hb2⟩ (Int.emod_nonneg _ (by omega)) (Int.emod_lt_of_pos _ h0)
  · have e1 : ∀ z : Int, 0 ≤ z % 2147483647 := fun z => Int.emod_nonneg _ (by omega)
    have e2 : ∀ z : Int, z % 2147483647 < 2147483647 := fun z => Int.emod_lt_of_pos _ (by omega)
    have e3 : ∀ z : Int, 0 ≤ z % 2147483629 := fun z => Int.emod_nonneg _ (by omega)
    have e4 : ∀ z : Int, z % 2147483629 < 2147483629 := fun z => Int.emod_lt_of_pos _ (by omega)
    have s1 : ∀ z : Int, (-18446744073709551616 < z % 2147483647) = True := fun z => eq_true (by have := e1 z; omega)
    have s2 : ∀ z : Int, (z % 2147483647 < 18446744073709551616) = True := fun z => eq_true (by have := e2 z; omega)
    have s3 : ∀ z : Int, (-18446744073709551616 < z % 2147483629) = True := fun z => eq_true (by have := e3 z; omega)
    have s4 : ∀ z : Int, (z % 2147483629 < 18446744073709551616) = True := fun z => eq_true (by have := e4 z; omega)
    simp -dsimp [h0, h1, s1, s2, s3, s4]
    exact hq _ _ ⟨_, _, _, rfl, ha, e1 _, by have := e2 ((b * 48271 + 1009 * (c + 1) + 7)); omega⟩ (Int.emod_nonneg _ (by omega)) (Int.emod_lt_of_pos _ h0)
theorem w_pen [Has T i_pen f_pen] {n : Int} {Q} (hq : ∀ p, Pen p → Q (.list p) true [.no]) : W3 (evF T WW (k + 1) i_pen [(.int n, false)]) Q := by
  refine w_go f_pen ⟨rfl, rfl⟩ ?_
  simp -dsimp [f_pen]
  exact hq _ ⟨_, _, _, rfl, by omega, by have := Int.emod_nonneg n (b := 2147483629) (by omega); omega, by have := Int.emod_lt_of_pos n (b := 2147483629) (by omega); omega⟩
theorem e_cell [Has T i_cell f_cell] {ns : List Int} {i : Int} (h : 0 ≤ i) : evF T WW (k + 1) i_cell [(scr (ns.map .int), false), (.int i, false)] = some (.int (ns.getD i.toNat 0), false, [.no, .no]) := by
  refine W3_of ?_
  refine w_go f_cell ⟨rfl, rfl⟩ ?_
  simp -dsimp [f_cell]
  refine Wif_i (fun hi => ?_) (fun hi => ?_)
  · simp -dsimp
    rw [nthI_get h (by simpa using hi)]
    simp -dsimp
    rw [List.getElem?_eq_getElem (by omega)]; rfl
  · simp -dsimp
    rw [List.getElem?_eq_none (by omega)]; rfl
theorem e_is_integer [Has T i_is_integer f_is_integer] {n : Int} : evF T WW (k + 1) i_is_integer [(.int n, false)] = some (.bool true, false, [.no]) := by
  refine W3_of ?_
  refine w_go f_is_integer ⟨rfl, rfl⟩ ?_
  simp -dsimp [f_is_integer]
theorem e_is_between [Has T i_is_integer f_is_integer] [Has T i_is_between f_is_between] {n lo hi : Int} :
    evF T WW (k + 2) i_is_between [(.int n, false), (.int lo, false), (.int hi, false)] = some (.bool (decide (lo ≤ n ∧ n ≤ hi)), false, [.no, .no, .no]) := by
  refine W3_of ?_
  refine w_go f_is_between ⟨rfl, rfl⟩ ?_
  simp -dsimp [f_is_between, e_is_integer]
  refine Wif_i (fun hi => ?_) (fun hi => ?_)
  · simp -dsimp [hi]
  · simp -dsimp [hi]
end
section
/-! LB: patterns. -/
variable {T : Nat → Option Fn} {k : Nat}
/-- a pattern as a value -/
noncomputable def patD (L : Int) (S : List Int) : PyData := .tuple [.int L, .tuple (S.map .int)]
structure IsPat (L : Int) (S : List Int) : Prop where
  lo : 2 ≤ L
  hi : L ≤ 60
  ne : S ≠ []
  few : (S.length : Int) < L
  asc : S.Pairwise (· < ·)
  mem : ∀ s ∈ S, 0 ≤ s ∧ s < L
theorem e_is_set [Has T i_is_integer f_is_integer] [Has T i_is_between f_is_between] [Has T i_is_set f_is_set] {S : List Int} {lo hi : Int} (hl : S.length ≤ sizeLine) :
    evF T WW (k + 3) i_is_set [(.tuple (S.map .int), false), (.int lo, false), (.int hi, false)]
      = some (.bool (decide ((∀ s ∈ S, lo ≤ s ∧ s ≤ hi) ∧ S.Pairwise (· < ·))), false, [.no, .no, .no]) := by
  refine W3_of ?_
  refine w_go f_is_set ⟨rfl, rfl⟩ ?_
  simp -dsimp [f_is_set]
  refine w_compm (fun x => .bool (decide (lo ≤ x ∧ x ≤ hi))) hl ?_ ?_
  · intro x acc hx ha
    simp -dsimp [e_is_between, ha]
  · simp -dsimp
    refine Wif_i (fun h => ?_) (fun h => ?_)
    · obtain ⟨x, hx, hb⟩ := h
      simp -dsimp
      intro ha; have := ha x hx; omega
    · simp -dsimp
      rw [← List.map_tail, zip_ints]
      refine w_compm (fun p => .bool (decide (p.1 < p.2))) (by simp; omega) ?_ ?_
      · intro p acc hp ha
        simp -dsimp [ha]
      · simp -dsimp
        have e : (∀ s ∈ S, lo ≤ s ∧ s ≤ hi) := fun s hs => by
          refine Classical.byContradiction fun hn => h ⟨s, hs, fun h1 => ?_⟩
          exact Int.not_le.1 fun h2 => hn ⟨h1, h2⟩
        have z := zip_lt (S := S)
        rw [List.drop_one] at z
        rw [Bool.eq_iff_iff, Bool.and_eq_true]
        simp only [List.all_eq_true, decide_eq_true_eq]
        exact ⟨fun h2 => ⟨e, z.1 h2⟩, fun h2 => z.2 h2.2⟩
theorem e_is_pattern [Has T i_is_integer f_is_integer] [Has T i_is_between f_is_between] [Has T i_is_set f_is_set] [Has T i_is_pattern f_is_pattern] {L : Int} {S : List Int} (h : IsPat L S) :
    evF T WW (k + 4) i_is_pattern [(patD L S, false)] = some (.bool true, false, [.no]) := by
  obtain ⟨h1, h2, h3, h4, h5, h6⟩ := h
  refine W3_of ?_
  refine w_go f_is_pattern ⟨rfl, rfl⟩ ?_
  have hl : S.length ≤ sizeLine := by have := sizeLine_ge; omega
  have hs : (∀ s ∈ S, 0 ≤ s ∧ s ≤ L - 1) ∧ S.Pairwise (· < ·) := ⟨fun s hs => by have := h6 s hs; omega, h5⟩
  have hn : 0 < S.length := List.length_pos_iff.2 h3
  have hn1 : (1 : Int) ≤ S.length := by omega
  simp -dsimp [f_is_pattern, patD, e_is_between, h1, h2, e_is_set hl, h5]
  refine Wif_t hs.1 ?_
  simp -dsimp [hn1, h4]
theorem e_does_send [Has T i_does_send f_does_send] {L : Int} {S : List Int} {o t : Int} (h : 0 < L) :
    evF T WW (k + 1) i_does_send [(patD L S, false), (.int o, false), (.int t, false)] = some (.bool (decide ((t - o) % L ∈ S)), false, [.no, .no, .no]) := by
  refine W3_of ?_
  refine w_go f_does_send ⟨rfl, rfl⟩ ?_
  simp -dsimp [f_does_send, patD, h]
theorem e_same [Has T i_same f_same] {a b : PyData} (ha : shows a = true) (hb : shows b = true) :
    evF T WW (k + 1) i_same [(a, false), (b, false)] = some (.bool (decide (a.shown = b.shown)), false, [.no, .no]) := by
  refine W3_of ?_
  refine w_go f_same ⟨rfl, rfl⟩ ?_
  simp -dsimp [f_same, ha, hb]
/-- a drawn pattern -/
theorem w_beat_of [Has T i_draw f_draw] [Has T i_beat_of f_beat_of] {p : List PyData} {L : Int} {Q} (hp : Pen p) (h0 : 2 ≤ L) (h1 : L ≤ 60)
    (hq : ∀ p' S, Pen p' → IsPat L S → Q (patD L S) false [.own (.list p'), .no]) : W3 (evF T WW (k + 2) i_beat_of [(.list p, true), (.int L, false)]) Q := by
  refine w_go f_beat_of ⟨rfl, rfl⟩ ?_
  simp -dsimp [f_beat_of]
  refine w_draw hp (by omega) (by omega) fun r p1 hp1 hr0 hr1 => ?_
  have hl : -4611686018427387904 ≤ L ∧ L < 4611686018427387904 := by omega
  simp -dsimp [hl, rangeD_eq]
  refine w_turnsm (fun done ρ acc => ∃ p S, Pen p ∧ acc = S.map PyData.int ∧ S.Sublist done ∧ ρ = [.own (.list p), .dat (.int L), .dat (.int (1 + r)), .no, .no]) ⟨p1, [], hp1, rfl, List.Sublist.refl _, rfl⟩ ?_ ?_
  · rintro done d rest ρ acc hd ⟨p2, S, hp2, rfl, hS, rfl⟩
    simp -dsimp
    refine w_draw hp2 (by omega) (by omega) fun r2 p3 hp3 _ _ => ?_
    have hSl : S.length < sizeLine := by
      have e1 := hS.length_le
      have e2 : (intR 0 L).length = (L - 0).toNat := length_intR
      rw [hd] at e2; simp at e2
      have := sizeLine_ge; omega
    simp -dsimp
    refine Wif_i (fun _ => ?_) (fun _ => ?_)
    · simp -dsimp [hSl]
      exact Kd_i ⟨p3, S ++ [d], hp3, by simp, hS.append (List.Sublist.refl _), rfl⟩
    · exact Kd_i ⟨p3, S, hp3, rfl, hS.trans (List.sublist_append_left _ _), rfl⟩
  · rintro ρ acc ⟨p2, S, hp2, rfl, hS, rfl⟩
    have hm : ∀ s ∈ S, 0 ≤ s ∧ s < L := fun s hs => mem_intR.1 (hS.subset hs)
    have hlay : lay (.list (S.map .int)) = true := lay_ints fun s hs => by have := hm s hs; omega
    have hasc : S.Pairwise (· < ·) := List.Pairwise.sublist hS intR_sorted
    have hlen : (S.length : Int) ≤ L := by have := hS.length_le; rw [length_intR] at this; omega
    have hz := sizeLine_ge
    have fin : ∀ (s : Int) p', Pen p' → 0 ≤ s → s < L → Q (patD L [s]) false [.own (.list p'), .no] := fun s p' hp' ha hb =>
      hq p' [s] hp' ⟨h0, h1, by simp, by simp; omega, by simp, by simp; omega⟩
    simp -dsimp [hlay]
    refine Wif_i (fun hS0 => ?_) (fun hS0 => ?_)
    · simp -dsimp
      refine w_draw hp2 (by omega) (by omega) fun r2 p3 hp3 a b => ?_
      simp -dsimp
      exact fin r2 p3 hp3 a b
    · simp -dsimp
      refine Wif_i (fun hS1 => ?_) (fun hS1 => ?_)
      · simp -dsimp
        refine w_draw hp2 (by omega) (by omega) fun r2 p3 hp3 a b => ?_
        simp -dsimp
        exact fin r2 p3 hp3 a b
      · simp -dsimp
        exact hq p2 S hp2 ⟨h0, h1, hS0, by omega, hasc, hm⟩
/-- a pattern, several times over -/
noncomputable def rep (L n : Int) (S : List Int) : List Int := (intR 0 n).flatMap fun j => S.map fun s => j * L + s
end
section
/-! LC: common divisors, shares, turned patterns. -/
variable {T : Nat → Option Fn} {k : Nat}
theorem gcd_step {a b : Int} (hb : 0 < b) : Int.gcd b (a % b) = Int.gcd a b := by
  have e : a % b = a - b * (a / b) := by have := Int.emod_add_mul_ediv a b; omega
  rw [e, Int.gcd_sub_mul_left_right, Int.gcd_comm]
theorem e_divisor [Has T i_divisor f_divisor] {a b : Int} (ha : 0 ≤ a) (hb : 0 ≤ b) (hw : b < 99999) :
    evF T WW (k + 1) i_divisor [(.int a, false), (.int b, false)] = some (.int (Int.gcd a b : Nat), false, [.no, .no]) := by
  refine W3_of ?_
  refine w_go f_divisor ⟨rfl, rfl⟩ ?_
  simp -dsimp [f_divisor]
  refine w_while (fun ρ => ∃ x y : Int, 0 ≤ x ∧ 0 ≤ y ∧ Int.gcd x y = Int.gcd a b ∧ ρ = [.dat (.int x), .dat (.int y)]) (fun ρ => match ρ with | [_, .dat (.int y)] => y.toNat | _ => 0) ⟨a, b, ha, hb, rfl, rfl⟩ (by show b.toNat < 100000; omega) ?_
  rintro ρ ⟨x, y, hx, hy, hg, rfl⟩
  simp -dsimp
  refine Wif_i (fun h => ?_) (fun h => ?_)
  · have hy0 : 0 < y := by omega
    simp -dsimp [hy0]
    exact Kd_i ⟨⟨_, _, hy, Int.emod_nonneg _ (by omega), by rw [gcd_step hy0, hg], rfl⟩, by
      have := Int.emod_lt_of_pos x hy0
      show (x % y).toNat < y.toNat
      omega⟩
  · have hy0 : y = 0 := by omega
    subst hy0
    simp -dsimp
    rw [← hg]
    simp
    omega
theorem e_common_multiple [Has T i_divisor f_divisor] [Has T i_common_multiple f_common_multiple] {a b : Int} (ha : 0 < a) (hb : 0 < b) (hw : b < 99999) (hs : a < 1073741824) :
    evF T WW (k + 2) i_common_multiple [(.int a, false), (.int b, false)] = some (.int (PL.lcmI a b), false, [.no, .no]) := by
  refine W3_of ?_
  refine w_go f_common_multiple ⟨rfl, rfl⟩ ?_
  have hg : (0 : Int) < Int.gcd a b := by have := Int.gcd_pos_of_ne_zero_left b (a := a) (by omega); omega
  have hg2 : (Int.gcd a b : Int) ≤ a := Int.le_of_dvd ha (Int.gcd_dvd_left a b)
  have h3 : (¬ a = 0 ∨ ¬ b = 0) ∧ (Int.gcd a b : Int) < 1073741824 := ⟨by omega, by omega⟩
  have hsm : -18446744073709551616 < b ∧ b < 18446744073709551616 := by omega
  simp -dsimp [f_common_multiple, e_divisor (T := T) (k := k) (a := a) (b := b) (by omega) (by omega) hw]
  refine Wif_t h3 ?_
  simp -dsimp [hsm, PL.lcmI]
end
section
/-! LD: groups, offsets, what is heard. -/
variable {k : Nat}
abbrev Pat := Int × List Int
abbrev Grp := List Pat
noncomputable def pD (p : Pat) : PyData := patD p.1 p.2
noncomputable def grpD (G : Grp) : PyData := .tuple (G.map pD)
noncomputable def offD (o : List Int) : PyData := .tuple (o.map .int)
structure IsGrp (G : Grp) : Prop where
  lo : 2 ≤ G.length
  hi : G.length ≤ 4
  pat : ∀ p ∈ G, IsPat p.1 p.2
structure IsOff (G : Grp) (o : List Int) : Prop where
  len : o.length = G.length
  mem : ∀ q ∈ o.zip G, 0 ≤ q.1 ∧ q.1 < q.2.1
theorem sz4 {n : Nat} (h : n ≤ 100000) : n ≤ sizeLine := by have := sizeLine_ge; omega
theorem e_is_group {G : Grp} (h : IsGrp G) : evF T WW (k + 5) i_is_group [(grpD G, false)] = some (.bool true, false, [.no]) := by
  refine W3_of ?_
  refine w_go f_is_group ⟨rfl, rfl⟩ ?_
  have h1 : (2 : Int) ≤ G.length := by have := h.lo; omega
  have h2 : (G.length : Int) ≤ 4 := by have := h.hi; omega
  simp -dsimp [f_is_group, grpD, h1, h2]
  refine w_compm (fun _ => .bool true) (sz4 (by have := h.hi; omega)) ?_ ?_
  · intro p acc hp ha
    simp -dsimp [pD, e_is_pattern (h.pat p hp), ha]
  · simp -dsimp
theorem e_need_group {G : Grp} (h : IsGrp G) : evF T WW (k + 6) i_need_group [(grpD G, false)] = some (.none, false, [.no]) := by
  refine W3_of ?_
  refine w_go f_need_group ⟨rfl, rfl⟩ ?_
  simp -dsimp [f_need_group, e_is_group h]
theorem zip_off {o : List Int} {G : Grp} : ((o.map PyData.int).zip (G.map pD)).map (fun p => PyData.tuple [p.1, p.2]) = (o.zip G).map (fun q => PyData.tuple [.int q.1, pD q.2]) := by
  rw [List.zip_map, List.map_map]; rfl
theorem e_are_offsets {G : Grp} {o : List Int} (h : IsGrp G) (ho : IsOff G o) : evF T WW (k + 3) i_are_offsets [(grpD G, false), (offD o, false)] = some (.bool true, false, [.no, .no]) := by
  refine W3_of ?_
  refine w_go f_are_offsets ⟨rfl, rfl⟩ ?_
  have hl := ho.len
  simp -dsimp [f_are_offsets, grpD, offD, hl]
  rw [zip_off]
  refine w_compm (fun _ => .bool true) (sz4 (by have := h.hi; simp; omega)) ?_ ?_
  · intro p acc hp ha
    have := ho.mem p hp
    have h3 : p.1 ≤ p.2.1 - 1 := by omega
    simp -dsimp [pD, patD, e_is_between, this.1, h3, ha]
  · simp -dsimp
theorem e_need_offsets {G : Grp} {o : List Int} (h : IsGrp G) (ho : IsOff G o) : evF T WW (k + 4) i_need_offsets [(grpD G, false), (offD o, false)] = some (.none, false, [.no, .no]) := by
  refine W3_of ?_
  refine w_go f_need_offsets ⟨rfl, rfl⟩ ?_
  simp -dsimp [f_need_offsets, e_are_offsets h ho]
/-- the span, one behind the other -/
noncomputable def spanF (a : Int) (G : Grp) : Int := G.foldl (fun a p => PL.lcmI a p.1) a
noncomputable def spanI (G : Grp) : Int := spanF 1 G
theorem spanF_snoc {a : Int} {G : Grp} {p : Pat} : spanF a (G ++ [p]) = PL.lcmI (spanF a G) p.1 := by simp [spanF]
theorem lcm_le {a b : Int} (ha : 0 < a) (hb : 0 < b) : PL.lcmI a b ≤ a * b := by
  have h := PL.gcd_mul_lcmI (a := a) (b := b)
  have hg : (1 : Int) ≤ Int.gcd a b := by have := PL.gcd_pos (b := b) ha; omega
  have hl := PL.lcmI_pos ha hb
  have : 1 * PL.lcmI a b ≤ (Int.gcd a b : Int) * PL.lcmI a b := Int.mul_le_mul_of_nonneg_right hg (by omega)
  omega
theorem spanF_pos {a : Int} {G : Grp} (ha : 0 < a) (h : ∀ p ∈ G, 2 ≤ p.1 ∧ p.1 ≤ 60) : 0 < spanF a G := by
  induction G generalizing a with
  | nil => exact ha
  | cons p r ih => exact ih (PL.lcmI_pos ha (by have := h p List.mem_cons_self; omega)) fun q hq => h q (List.mem_cons_of_mem _ hq)
theorem spanF_le {a : Int} {G : Grp} (ha : 0 < a) (h : ∀ p ∈ G, 2 ≤ p.1 ∧ p.1 ≤ 60) : spanF a G ≤ a * 60 ^ G.length := by
  induction G generalizing a with
  | nil => simp [spanF]
  | cons p r ih =>
    have hp := h p List.mem_cons_self
    have h1 := ih (PL.lcmI_pos ha (by omega : 0 < p.1)) fun q hq => h q (List.mem_cons_of_mem _ hq)
    have h2 := lcm_le ha (by omega : 0 < p.1)
    have h3 : a * p.1 ≤ a * 60 := Int.mul_le_mul_of_nonneg_left hp.2 (by omega)
    have h4 : PL.lcmI a p.1 * 60 ^ r.length ≤ (a * 60) * 60 ^ r.length := Int.mul_le_mul_of_nonneg_right (by omega) (Int.pow_nonneg (by omega))
    have h5 : (a * 60) * 60 ^ r.length = a * 60 ^ (r.length + 1) := by rw [Int.pow_succ, Int.mul_assoc, Int.mul_comm 60]
    show spanF (PL.lcmI a p.1) r ≤ a * 60 ^ (r.length + 1)
    omega
theorem IsGrp.per {G : Grp} (h : IsGrp G) : ∀ p ∈ G, 2 ≤ p.1 ∧ p.1 ≤ 60 := fun p hp => ⟨(h.pat p hp).lo, (h.pat p hp).hi⟩
theorem spanI_pos {G : Grp} (h : IsGrp G) : 0 < spanI G := spanF_pos (by omega) h.per
theorem e_span_of {G : Grp} (h : IsGrp G) : evF T WW (k + 3) i_span_of [(grpD G, false)] = some (.int (spanI G), false, [.no]) := by
  refine W3_of ?_
  refine w_go f_span_of ⟨rfl, rfl⟩ ?_
  simp -dsimp [f_span_of, grpD]
  refine w_loopm (fun done ρ => ∃ s2 s3, ρ = [.dat (grpD G), .dat (.int (spanI done)), s2, s3]) ⟨_, _, rfl⟩ ?_ ?_
  · rintro done p rest ρ hd ⟨s2, s3, rfl⟩
    have hp := h.per p (by rw [hd]; simp)
    have hdn : ∀ q ∈ done, 2 ≤ q.1 ∧ q.1 ≤ 60 := fun q hq => h.per q (by rw [hd]; simp [hq])
    have hl : done.length ≤ 3 := by have := congrArg List.length hd; have := h.hi; simp at *; omega
    have h1 : 0 < spanI done := spanF_pos (by omega) hdn
    have h2 : spanI done ≤ 60 ^ 3 := by
      have h3 := spanF_le (a := 1) (by omega) hdn
      have h4 : (60 : Int) ^ done.length ≤ 60 ^ 3 := by exact_mod_cast Nat.pow_le_pow_right (by omega) hl
      have h5 : spanF 1 done = spanI done := rfl
      omega
    simp -dsimp [pD, patD]
    refine W3_eq (e_common_multiple h1 (by omega) (by omega) (by omega)) ?_
    simp -dsimp
    exact Kd_i ⟨_, _, by rw [show spanI (done ++ [p]) = _ from spanF_snoc]; rfl⟩
  · rintro ρ ⟨s2, s3, rfl⟩
    simp -dsimp
theorem e_need_span {G : Grp} (h : IsGrp G) (hs : spanI G ≤ 420) : evF T WW (k + 4) i_need_span [(grpD G, false)] = some (.none, false, [.no]) := by
  refine W3_of ?_
  refine w_go f_need_span ⟨rfl, rfl⟩ ?_
  have h1 : ¬ 420 < spanI G := by omega
  simp -dsimp [f_need_span, e_span_of h, h1]
/-- the part at a place -/
noncomputable def nth0 (o : List Int) (i : Nat) : Int := o.getD i 0
/-- who sends in a tick -/
noncomputable def on1 (p : Pat) (o t : Int) : Bool := decide ((t - o) % p.1 ∈ p.2)
noncomputable def onI (G : Grp) (o : List Int) (t : Int) : List Int := (G.zipIdx.filter fun q => on1 q.1 (nth0 o q.2) t).map fun q => (q.2 : Int)
theorem enum_map {α : Type} {f : α → PyData} {l : List α} : (l.map f).zipIdx.map (fun p => PyData.tuple [.int p.2, p.1]) = l.zipIdx.map (fun q => PyData.tuple [.int q.2, f q.1]) := by
  rw [List.zipIdx_map, List.map_map]; rfl
theorem idx_off {o : List Int} {i : Nat} (h : i < o.length) {Q} : Wp (idxD (offD o) (.int i)) Q = Q (.int (nth0 o i)) := by
  have e : idxD (offD o) (.int i) = some (.int (nth0 o i)) := by
    simp [idxD, offD, ixOf, h, nth0]
  rw [e]; simp
theorem e_senders_at {G : Grp} {o : List Int} {t : Int} (h : IsGrp G) (ho : IsOff G o) : evF T WW (k + 2) i_senders_at [(grpD G, false), (offD o, false), (.int t, false)] = some (.list ((onI G o t).map .int), true, [.no, .no, .no]) := by
  refine W3_of ?_
  refine w_go f_senders_at ⟨rfl, rfl⟩ ?_
  simp -dsimp [f_senders_at, grpD]
  rw [enum_map]
  refine w_compp (fun q => on1 q.1 (nth0 o q.2) t) (fun q => .int q.2) (sz4 (by have := h.hi; simp; omega)) ?_ ?_
  · intro q acc hq ha
    obtain ⟨hq1, hq2⟩ := List.mem_zipIdx' hq
    have hp := h.pat q.1 (by rw [hq2]; exact List.getElem_mem _)
    have hi : q.2 < o.length := by rw [ho.len]; exact hq1
    have hL : 0 < q.1.1 := by have := hp.lo; omega
    simp -dsimp [pD, idx_off hi, e_does_send hL]
    refine Wif_i (fun hc => ?_) (fun hc => ?_)
    · simp -dsimp [on1, hc, ha]
    · simp -dsimp [on1, hc]
  · simp -dsimp [onI]
/-- the kind of a tick -/
noncomputable def kindI : List Int → Int
  | [] => -1
  | [a] => a
  | _ => -2
theorem e_kind_of {l : List Int} (fr : Bool) (hl : l.length ≤ 100000) (hm : ∀ x ∈ l, x.natAbs < 2 ^ 80) : evF T WW (k + 1) i_kind_of [(.list (l.map .int), fr)] = some (.int (kindI l), false, [if fr then .own (.list (l.map .int)) else .no]) := by
  have hly : lay (.list (l.map .int)) = true := lay_ints hm
  refine W3_of ?_
  cases fr
  · refine w_go f_kind_of ⟨rfl, rfl⟩ ?_
    match l, hly with
    | [], hly => simp -dsimp [f_kind_of, kindI]
    | [a], hly => simp -dsimp at hly; simp -dsimp [f_kind_of, hly, kindI]
    | a :: b :: r, hly =>
      simp -dsimp at hly
      have : ¬ ((r.length : Int) + 1 + 1 = 1) := by omega
      simp -dsimp [f_kind_of, hly, kindI, this]
  · refine w_go f_kind_of ⟨rfl, rfl⟩ ?_
    match l, hly with
    | [], hly => simp -dsimp [f_kind_of, kindI]
    | [a], hly => simp -dsimp at hly; simp -dsimp [f_kind_of, hly, kindI]
    | a :: b :: r, hly =>
      simp -dsimp at hly
      have : ¬ ((r.length : Int) + 1 + 1 = 1) := by omega
      simp -dsimp [f_kind_of, hly, kindI, this]
end
section
/-! LE: what is heard, counts, meets. -/
variable {k : Nat}
theorem onI_mem {G : Grp} {o : List Int} {t x : Int} (h : x ∈ onI G o t) : 0 ≤ x ∧ x < G.length := by
  simp only [onI, List.mem_map, List.mem_filter] at h
  obtain ⟨q, ⟨hq, _⟩, rfl⟩ := h
  obtain ⟨hq1, _⟩ := List.mem_zipIdx' hq
  omega
theorem onI_len {G : Grp} {o : List Int} {t : Int} : (onI G o t).length ≤ G.length := by
  simp only [onI, List.length_map]
  exact Nat.le_trans (List.length_filter_le _ _) (by simp)
theorem onI_abs {G : Grp} {o : List Int} {t x : Int} (h : IsGrp G) (hx : x ∈ onI G o t) : x.natAbs < 2 ^ 80 := by
  have := onI_mem hx; have := h.hi; omega
noncomputable def heardI (G : Grp) (o : List Int) : List Int := (intR 0 (spanI G)).map fun t => kindI (onI G o t)
theorem e_heard_of {G : Grp} {o : List Int} (h : IsGrp G) (ho : IsOff G o) (hs : spanI G ≤ 1000) :
    evF T WW (k + 4) i_heard_of [(grpD G, false), (offD o, false)] = some (.tuple ((heardI G o).map .int), false, [.no, .no]) := by
  refine W3_of ?_
  refine w_go f_heard_of ⟨rfl, rfl⟩ ?_
  have hp := spanI_pos h
  have hl : -4611686018427387904 ≤ spanI G ∧ spanI G < 4611686018427387904 := by omega
  simp -dsimp [f_heard_of, e_span_of h, hl, rangeD_eq]
  refine w_compm (fun t => .int (kindI (onI G o t))) (sz4 (by rw [length_intR]; omega)) ?_ ?_
  · intro t acc ht ha
    have hk := e_kind_of (k := k + 2) (l := onI G o t) false (by have := onI_len (G := G) (o := o) (t := t); have := h.hi; omega) fun x hx => onI_abs h hx
    simp -dsimp [e_senders_at h ho, hk, ha]
  · simp -dsimp [heardI, Function.comp_def]
theorem e_heard_of_S {G : Grp} {o : List Int} (h : IsGrp G) (ho : IsOff G o) (hs : spanI G ≤ 1000) :
    evF T WW (k + 4) i_heard_of_S [(grpD G, false), (offD o, false)] = some (.tuple ((heardI G o).map .int), true, [.no, .no]) := by
  refine W3_of ?_
  refine w_go f_heard_of_S ⟨rfl, rfl⟩ ?_
  have hp := spanI_pos h
  have hl : -4611686018427387904 ≤ spanI G ∧ spanI G < 4611686018427387904 := by omega
  simp -dsimp [f_heard_of_S, e_span_of h, hl, rangeD_eq]
  refine w_compm (fun t => .int (kindI (onI G o t))) (sz4 (by rw [length_intR]; omega)) ?_ ?_
  · intro t acc ht ha
    have hk := e_kind_of (k := k + 2) (l := onI G o t) false (by have := onI_len (G := G) (o := o) (t := t); have := h.hi; omega) fun x hx => onI_abs h hx
    simp -dsimp [e_senders_at h ho, hk, ha]
  · simp -dsimp [heardI, Function.comp_def]
theorem cnt_ints {l : List Int} {x : Int} : cntD (l.map .int) (.int x) = some (.int (l.countP fun y => decide (y = x) : Nat)) := by
  have h1 : (l.map PyData.int).all flat = true := by simp [List.all_eq_true, flat]
  have h2 : (l.map PyData.int).countP (fun y => PyData.eqv y (.int x)) = l.countP (fun y => decide (y = x)) := by
    rw [List.countP_map]; exact List.countP_congr fun y _ => by simp
  simp [cntD, flat, h1, h2]
noncomputable def cntI (G : Grp) (o : List Int) (x : Int) : Int := ((heardI G o).countP fun y => decide (y = x) : Nat)
noncomputable def countsI (G : Grp) (o : List Int) : List Int := cntI G o (-1) :: ((intR 0 G.length).map (cntI G o) ++ [cntI G o (-2)])
theorem e_counts_of {G : Grp} {o : List Int} (h : IsGrp G) (ho : IsOff G o) (hs : spanI G ≤ 1000) :
    evF T WW (k + 5) i_counts_of [(grpD G, false), (offD o, false)] = some (.tuple ((countsI G o).map .int), false, [.no, .no]) := by
  refine W3_of ?_
  refine w_go f_counts_of ⟨rfl, rfl⟩ ?_
  have h4 := h.hi
  have hl : -4611686018427387904 ≤ (G.length : Int) ∧ (G.length : Int) < 4611686018427387904 := by omega
  have hb : ∀ Q, W2 (biD .len [grpD G]) Q = Q (.int G.length) false := fun Q => by simp [grpD]
  simp -dsimp [f_counts_of, e_heard_of_S h ho hs, cnt_ints, hb, hl, rangeD_eq]
  refine w_compm (fun x => .int (cntI G o x)) (sz4 (by rw [length_intR]; omega)) ?_ ?_
  · intro x acc hx ha
    simp -dsimp [cnt_ints, ha, cntI]
  · have : ((intR 0 G.length).map fun x => PyData.int (cntI G o x)).length + 2 ≤ sizeLine := by rw [List.length_map, length_intR]; have := sizeLine_ge; omega
    simp -dsimp [cnt_ints]
    refine Wif_t (by rw [length_intR]; have := sizeLine_ge; omega) ?_
    simp -dsimp [countsI, cntI, Function.comp_def]
theorem e_heard {G : Grp} {o : List Int} (h : IsGrp G) (ho : IsOff G o) (hs : spanI G ≤ 420) :
    evF T WW (k + 7) i_heard [(grpD G, false), (offD o, false)] = some (.tuple ((heardI G o).map .int), false, [.no, .no]) := by
  refine W3_of ?_
  refine w_go f_heard ⟨rfl, rfl⟩ ?_
  simp -dsimp [f_heard, e_need_group h, e_need_offsets h ho, e_need_span h hs, e_heard_of h ho (Int.le_trans hs (by omega))]
theorem e_counts {G : Grp} {o : List Int} (h : IsGrp G) (ho : IsOff G o) (hs : spanI G ≤ 420) :
    evF T WW (k + 7) i_counts [(grpD G, false), (offD o, false)] = some (.tuple ((countsI G o).map .int), false, [.no, .no]) := by
  refine W3_of ?_
  refine w_go f_counts ⟨rfl, rfl⟩ ?_
  simp -dsimp [f_counts, e_need_group h, e_need_offsets h ho, e_need_span h hs, e_counts_of h ho (Int.le_trans hs (by omega))]
theorem in_ints {x : Int} {l : List Int} : inD (.int x) (l.map .int) = some (decide (x ∈ l)) := by
  have h1 : (l.map PyData.int).all flat = true := by simp [List.all_eq_true, flat]
  simp only [inD, flat, h1, Bool.and_self, if_true, Option.some.injEq]
  rw [Bool.eq_iff_iff]
  simp only [List.any_map, List.any_eq_true, Function.comp, eqF, beq_iff_eq, decide_eq_true_eq]
  exact ⟨fun ⟨y, a, b⟩ => b ▸ a, fun h => ⟨x, h, rfl⟩⟩
end
section
/-! LF: drawn crowds. -/
variable {k : Nat}
theorem w_pick {p : List PyData} {xs : List PyData} {fr : Bool} {Q} (hp : Pen p) (h0 : xs ≠ []) (h1 : xs.length < 1000000)
    (hq : ∀ p' x, Pen p' → x ∈ xs → Q x false [.own (.list p'), if fr then .own (.list xs) else .no]) : W3 (evF T WW (k + 2) i_pick [(.list p, true), (.list xs, fr)]) Q := by
  have hn := List.length_pos_iff.2 h0
  cases fr
  · refine w_go f_pick ⟨rfl, rfl⟩ ?_
    simp -dsimp [f_pick]
    refine w_draw hp (by omega) (by omega) fun r p1 hp1 a b => ?_
    simp -dsimp
    rw [nthI_get a (by simpa using b)]
    simp -dsimp
    exact hq p1 _ hp1 (List.getElem_mem _)
  · refine w_go f_pick ⟨rfl, rfl⟩ ?_
    simp -dsimp [f_pick]
    refine w_draw hp (by omega) (by omega) fun r p1 hp1 a b => ?_
    simp -dsimp
    rw [nthI_get a (by simpa using b)]
    simp -dsimp
    exact hq p1 _ hp1 (List.getElem_mem _)
noncomputable def timesF (G : Grp) : Int := G.foldl (fun a p => a * p.1) 1
theorem timesF_snoc {G : Grp} {p : Pat} : timesF (G ++ [p]) = timesF G * p.1 := by simp [timesF]
theorem e_times {G : Grp} (hG : ∀ p ∈ G, 2 ≤ p.1 ∧ p.1 ≤ 60) (hl : G.length ≤ 6) (c : List PyData → PyData) (hc : c = .list ∨ c = .tuple) : evF T WW (k + 1) i_times [(c (G.map pD), false)] = some (.int (timesF G), false, [.no]) := by
  refine W3_of ?_
  refine w_go f_times ⟨rfl, rfl⟩ ?_
  have hsq : ∀ Q, Wp (seqOf (c (G.map pD))) Q = Q (G.map pD) := fun Q => by rcases hc with rfl | rfl <;> simp
  simp -dsimp [f_times, hsq]
  refine w_loopm (fun done ρ => ∃ s2, ρ = [.dat (c (G.map pD)), .dat (.int (timesF done)), s2]) ⟨_, rfl⟩ ?_ ?_
  · rintro done p rest ρ hd ⟨s2, rfl⟩
    have hp := hG p (by rw [hd]; simp)
    have hsm : -18446744073709551616 < p.1 ∧ p.1 < 18446744073709551616 := by omega
    simp -dsimp [pD, patD, hsm]
    exact Kd_i ⟨_, by rw [timesF_snoc]; rfl⟩
  · rintro ρ ⟨s2, rfl⟩
    simp -dsimp
/-- the lots of periods -/
noncomputable def lots : List (List Int) := [[2, 3, 4, 6, 12], [2, 4, 8], [3, 6, 9], [2, 5, 10], [3, 5, 15], [2, 3, 5, 7], [4, 6], [6], [4]]
structure IsCrowd (most : Int) (G : Grp) : Prop where
  lo : 2 ≤ G.length
  hi : G.length ≤ 4
  lot : ∃ L ∈ lots, ∀ p ∈ G, IsPat p.1 p.2 ∧ p.1 ∈ L
  few : G.length = 2 ∨ timesF G ≤ most
theorem IsCrowd.grp {most : Int} {G : Grp} (h : IsCrowd most G) : IsGrp G := ⟨h.lo, h.hi, fun p hp => by obtain ⟨L, _, q⟩ := h.lot; exact (q p hp).1⟩
theorem w_crowd {p : List PyData} {most : Int} {Q} (hp : Pen p)
    (hq : ∀ p' G, Pen p' → IsCrowd most G → Q (grpD G) false [.own (.list p'), .no]) : W3 (evF T WW (k + 4) i_crowd [(.list p, true), (.int most, false)]) Q := by
  refine w_go f_crowd ⟨rfl, rfl⟩ ?_
  simp -dsimp [f_crowd]
  refine w_pick hp (by simp) (by simp) fun p1 x hp1 hx => ?_
  have hx : ∃ L ∈ lots, x = .list (L.map .int) ∧ L ≠ [] ∧ L.length ≤ 5 ∧ ∀ y ∈ L, 2 ≤ y ∧ y ≤ 60 := by
    simp only [List.mem_cons, List.not_mem_nil, or_false] at hx
    rcases hx with rfl | rfl | rfl | rfl | rfl | rfl | rfl | rfl | rfl
    · exact ⟨[2, 3, 4, 6, 12], by simp [lots], rfl, by simp, by simp, by simp⟩
    · exact ⟨[2, 4, 8], by simp [lots], rfl, by simp, by simp, by simp⟩
    · exact ⟨[3, 6, 9], by simp [lots], rfl, by simp, by simp, by simp⟩
    · exact ⟨[2, 5, 10], by simp [lots], rfl, by simp, by simp, by simp⟩
    · exact ⟨[3, 5, 15], by simp [lots], rfl, by simp, by simp, by simp⟩
    · exact ⟨[2, 3, 5, 7], by simp [lots], rfl, by simp, by simp, by simp⟩
    · exact ⟨[4, 6], by simp [lots], rfl, by simp, by simp, by simp⟩
    · exact ⟨[6], by simp [lots], rfl, by simp, by simp, by simp⟩
    · exact ⟨[4], by simp [lots], rfl, by simp, by simp, by simp⟩
  obtain ⟨L, hL, rfl, hLn, hLl, hLm⟩ := hx
  simp -dsimp
  refine w_draw hp1 (by omega) (by omega) fun r p2 hp2 a b => ?_
  have hl : -4611686018427387904 ≤ 2 + r ∧ 2 + r < 4611686018427387904 := by omega
  simp -dsimp [hl, rangeD_eq]
  refine w_loopm (fun done ρ => ∃ p G s4, Pen p ∧ G.length = done.length ∧ (∀ q ∈ G, IsPat q.1 q.2 ∧ q.1 ∈ L) ∧ ρ = [.own (.list p), .dat (.int most), .dat (.list (L.map .int)), .own (.list (G.map pD)), s4]) ⟨p2, [], _, hp2, rfl, by simp, rfl⟩ ?_ ?_
  · rintro done d rest ρ hd ⟨p3, G, s4, hp3, hGl, hG, rfl⟩
    have hdl : done.length < 5 := by
      have e2 : (intR 0 (2 + r)).length = (2 + r - 0).toNat := length_intR
      rw [hd] at e2; simp at e2; omega
    have hz := sizeLine_ge
    have hsl : G.length < sizeLine := by omega
    simp -dsimp
    refine w_pick hp3 (by simpa using hLn) (by simp; omega) fun p4 x hp4 hx => ?_
    obtain ⟨y, hy, rfl⟩ := List.mem_map.1 hx
    simp -dsimp
    refine w_beat_of hp4 (hLm y hy).1 (hLm y hy).2 fun p5 S hp5 hS => ?_
    simp -dsimp [hsl]
    exact Kd_i ⟨p5, G ++ [(y, S)], _, hp5, by simp [hGl], by
      intro q hq
      rcases List.mem_append.1 hq with hq | hq
      · exact hG q hq
      · simp at hq; subst hq; exact ⟨hS, hy⟩, by simp [pD]; rfl⟩
  · rintro ρ ⟨p3, G, s4, hp3, hGl, hG, rfl⟩
    rw [length_intR] at hGl
    simp -dsimp
    refine w_while (fun ρ => ∃ G : Grp, 2 ≤ G.length ∧ G.length ≤ 4 ∧ (∀ q ∈ G, IsPat q.1 q.2 ∧ q.1 ∈ L) ∧ ρ = [.own (.list p3), .dat (.int most), .dat (.list (L.map .int)), .own (.list (G.map pD)), s4])
      (fun ρ => match ρ with | [_, _, _, .own (.list xs), _] => xs.length | _ => 0) ⟨G, by omega, by omega, hG, rfl⟩ (by show (G.map pD).length < 100000; simp; omega) ?_
    rintro ρ ⟨G, h2, h4, hG, rfl⟩
    have hper : ∀ q ∈ G, 2 ≤ q.1 ∧ q.1 ≤ 60 := fun q hq => ⟨(hG q hq).1.lo, (hG q hq).1.hi⟩
    have fin : (G.length = 2 ∨ timesF G ≤ most) → Q (grpD G) false [.own (.list p3), .no] := fun hf => hq p3 G hp3 ⟨h2, h4, ⟨L, hL, hG⟩, hf⟩
    simp -dsimp
    refine Wif_i (fun hc => ?_) (fun hc => ?_)
    · simp -dsimp
      refine W3_eq (e_times hper (by omega) PyData.list (.inl rfl)) ?_
      simp -dsimp
      refine Wif_i (fun hm => ?_) (fun hm => ?_)
      · have hgl : (G.map pD)[G.length - 1]? = some (pD (G[G.length - 1]'(by omega))) := by rw [List.getElem?_map, List.getElem?_eq_getElem (by omega)]; rfl
        simp -dsimp [hgl]
        exact Kd_i ⟨⟨G.dropLast, by simp; omega, by simp; omega, fun q hq => hG q (List.dropLast_sublist G |>.subset hq), by simp [List.map_dropLast]⟩, by simp; omega⟩
      · simp -dsimp
        exact fin (.inr (by omega))
    · simp -dsimp
      exact fin (.inl (by omega))
theorem w_starts {p : List PyData} {G : Grp} {Q} (hp : Pen p) (hG : IsGrp G)
    (hq : ∀ p' o, Pen p' → IsOff G o → Q (offD o) false [.own (.list p'), .no]) : W3 (evF T WW (k + 2) i_starts [(.list p, true), (grpD G, false)]) Q := by
  refine w_go f_starts ⟨rfl, rfl⟩ ?_
  have h4 := hG.hi
  simp -dsimp [f_starts, grpD]
  refine w_turnsm (fun done ρ acc => ∃ p o, Pen p ∧ acc = o.map PyData.int ∧ o.length = done.length ∧ (∀ q ∈ o.zip done, 0 ≤ q.1 ∧ q.1 < q.2.1) ∧ ρ = [.own (.list p), .dat (grpD G), .no]) ⟨p, [], hp, rfl, rfl, by simp, rfl⟩ ?_ ?_
  · rintro done d rest ρ acc hd ⟨p1, o, hp1, rfl, hol, hom, rfl⟩
    have hdp := hG.pat d (by rw [hd]; simp)
    have hdl : done.length ≤ 4 := by have := congrArg List.length hd; simp at this; omega
    have hsl : o.length < sizeLine := by have := sizeLine_ge; omega
    simp -dsimp [pD, patD]
    refine w_draw hp1 (by have := hdp.lo; omega) (by have := hdp.hi; omega) fun r p2 hp2 a b => ?_
    simp -dsimp [hsl]
    exact Kd_i ⟨p2, o ++ [r], hp2, by simp, by simp [hol], by
      intro q hq
      rw [List.zip_append hol] at hq
      rcases List.mem_append.1 hq with hq | hq
      · exact hom q hq
      · simp at hq; subst hq; exact ⟨a, b⟩, rfl⟩
  · rintro ρ acc ⟨p1, o, hp1, rfl, hol, hom, rfl⟩
    simp -dsimp
    exact hq p1 o hp1 ⟨hol, hom⟩
end
section
/-! LG: spans of crowds; what is shown; the law's own least common multiple, its own senders, sets. -/
variable {k : Nat}
/-! spans of crowds -/
theorem spanF_dvd {a m : Int} {G : Grp} (ha : 0 < a) (hm : a ∣ m) (h : ∀ p ∈ G, 0 < p.1 ∧ p.1 ∣ m) : spanF a G ∣ m := by
  induction G generalizing a with
  | nil => exact hm
  | cons p r ih =>
    have hp := h p List.mem_cons_self
    exact ih (PL.lcmI_pos ha hp.1) (PL.lcmI_dvd ha hp.1 hm hp.2) fun q hq => h q (List.mem_cons_of_mem _ hq)
theorem dvd_spanF {a : Int} {G : Grp} (ha : 0 < a) (h : ∀ p ∈ G, 0 < p.1) : a ∣ spanF a G ∧ ∀ p ∈ G, p.1 ∣ spanF a G := by
  induction G generalizing a with
  | nil => exact ⟨Int.dvd_refl _, by simp⟩
  | cons p r ih =>
    have hp := h p List.mem_cons_self
    have := ih (PL.lcmI_pos ha hp) fun q hq => h q (List.mem_cons_of_mem _ hq)
    refine ⟨Int.dvd_trans (PL.dvd_lcmI_left ha hp) this.1, fun q hq => ?_⟩
    rcases List.mem_cons.1 hq with rfl | hq
    · exact Int.dvd_trans (PL.dvd_lcmI_right ha hp) this.1
    · exact this.2 q hq
theorem span_dvd {G : Grp} {m : Int} (h : ∀ p ∈ G, 0 < p.1 ∧ p.1 ∣ m) : spanI G ∣ m := spanF_dvd (by omega) (Int.one_dvd _) h
theorem dvd_span {G : Grp} (h : ∀ p ∈ G, 0 < p.1) : ∀ p ∈ G, p.1 ∣ spanI G := (dvd_spanF (by omega) h).2
theorem lots_dvd : ∀ L ∈ lots, ∃ m : Int, 0 < m ∧ m ≤ 210 ∧ ∀ x ∈ L, 0 < x ∧ x ∣ m := by
  intro L hL
  simp only [lots, List.mem_cons, List.not_mem_nil, or_false] at hL
  rcases hL with rfl | rfl | rfl | rfl | rfl | rfl | rfl | rfl | rfl
  · exact ⟨12, by decide, by decide, by decide⟩
  · exact ⟨8, by decide, by decide, by decide⟩
  · exact ⟨18, by decide, by decide, by decide⟩
  · exact ⟨10, by decide, by decide, by decide⟩
  · exact ⟨15, by decide, by decide, by decide⟩
  · exact ⟨210, by decide, by decide, by decide⟩
  · exact ⟨12, by decide, by decide, by decide⟩
  · exact ⟨6, by decide, by decide, by decide⟩
  · exact ⟨4, by decide, by decide, by decide⟩
theorem IsCrowd.span {most : Int} {G : Grp} (h : IsCrowd most G) : spanI G ≤ 210 := by
  obtain ⟨L, hL, hp⟩ := h.lot
  obtain ⟨m, m0, m1, hm⟩ := lots_dvd L hL
  have := Int.le_of_dvd m0 (span_dvd fun p hq => hm p.1 (hp p hq).2)
  omega
theorem span2 {L M : Int} {S R : List Int} (h0 : 0 < L) (h1 : 0 < M) (h : L * M ≤ 420) : spanI [(L, S), (M, R)] ≤ 420 := by
  have e : spanI [(L, S), (M, R)] = PL.lcmI (PL.lcmI 1 L) M := rfl
  have e1 : PL.lcmI 1 L = L := by simp [PL.lcmI]
  rw [e, e1]
  exact Int.le_trans (lcm_le h0 h1) h
/-- the law's own least common multiple -/
theorem e_whole {G : Grp} (h : IsGrp G) (hs : spanI G ≤ 90000) : evF T WW (k + 1) i_whole [(grpD G, false)] = some (.int (spanI G), false, [.no]) := by
  refine W3_of ?_
  refine w_go f_whole ⟨rfl, rfl⟩ ?_
  have hp := spanI_pos h
  have h4 := h.hi
  simp -dsimp [f_whole]
  refine w_while (fun ρ => ∃ (t : Int) (s2 : MI.Slot), 1 ≤ t ∧ t ≤ spanI G ∧ (∀ u, 1 ≤ u → u < t → ¬ spanI G ∣ u) ∧ ρ = [.dat (grpD G), .dat (.int t), s2]) (fun ρ => match ρ with | [_, .dat (.int t), _] => (spanI G - t).toNat | _ => 0)
    ⟨1, _, by omega, by omega, fun u a b => by omega, rfl⟩ (by show (spanI G - 1).toNat < 100000; omega) ?_
  rintro ρ ⟨t, s2, h1, h2, h3, rfl⟩
  simp -dsimp [grpD]
  refine w_compp (fun p : Pat => decide (t % p.1 ≠ 0)) (fun _ => .int 1) (sz4 (by omega)) ?_ ?_
  · intro p acc hpm ha
    have hL : 0 < p.1 := by have := h.per p hpm; omega
    simp -dsimp [pD, patD, hL]
    refine Wif_i (fun hc => ?_) (fun hc => ?_)
    · simp -dsimp [ha, hc]
    · simp -dsimp [hc]
  · have key : (G.filter fun p => decide (t % p.1 ≠ 0)) = [] ↔ spanI G ∣ t := by
      rw [List.filter_eq_nil_iff]
      constructor
      · intro hh
        refine span_dvd fun p hp => ⟨by have := h.per p hp; omega, ?_⟩
        have := hh p hp
        exact Int.dvd_of_emod_eq_zero (by simpa using this)
      · intro hd p hp
        have := Int.dvd_trans (dvd_span (fun q hq => by have := h.per q hq; omega) p hp) hd
        simp [Int.emod_eq_zero_of_dvd this]
    by_cases hd : spanI G ∣ t
    · rw [key.2 hd]
      have : spanI G ≤ t := Int.le_of_dvd (by omega) hd
      have : t = spanI G := by omega
      simp -dsimp [this]
    · have hne : (G.filter fun p => decide (t % p.1 ≠ 0)) ≠ [] := fun e => hd (key.1 e)
      generalize (G.filter fun p => decide (t % p.1 ≠ 0)) = B at hne
      have hly : lay (.list (B.map fun _ => PyData.int 1)) = true := by
        have := lay_ints (S := B.map fun _ => (1 : Int)) (by intro s hs; obtain ⟨_, _, rfl⟩ := List.mem_map.1 hs; decide)
        simpa [List.map_map, Function.comp_def] using this
      simp -dsimp [hly, hne]
      have hlt : t < spanI G := by
        rcases Int.lt_or_eq_of_le h2 with q | q
        · exact q
        · exact absurd (by rw [q]; exact Int.dvd_refl _) hd
      exact Kd_i ⟨⟨t + 1, _, by omega, by omega, fun u a b => by
        by_cases hu : u = t
        · rw [hu]; exact hd
        · exact h3 u a (by omega), rfl⟩, by show (spanI G - (t + 1)).toNat < (spanI G - t).toNat; omega⟩
/-! ### what can be shown -/
structure Shw (w dp : Nat) (d : PyData) : Prop where
  mild : MI.mild d = true
  dep : d.depth ≤ dp
  wt : d.weight ≤ w
theorem Shw.shows {w dp : Nat} {d : PyData} (h : Shw w dp d) (hw : w ≤ 170000 := by decide) (hd : dp ≤ 64 := by decide) : shows d = true := mild_shows h.mild (Nat.le_trans h.dep hd) (Nat.le_trans h.wt hw)
theorem Shw.mono {w dp w' dp' : Nat} {d : PyData} (h : Shw w dp d) (hw : w ≤ w') (hd : dp ≤ dp') : Shw w' dp' d := ⟨h.mild, Nat.le_trans h.dep hd, Nat.le_trans h.wt hw⟩
theorem Shw.int {i : Int} (h : i.natAbs < 2 ^ 80) : Shw 81 0 (.int i) := ⟨by simp [MI.mild, h], by simp [PyData.depth], by
  have := log2_lt h
  simp only [PyData.weight]; split <;> omega⟩
theorem Shw.bool {b : Bool} : Shw 0 0 (.bool b) := ⟨by simp [MI.mild], by simp [PyData.depth], by simp [PyData.weight]⟩
theorem Shw.none : Shw 0 0 .none := ⟨by simp [MI.mild], by simp [PyData.depth], by simp [PyData.weight]⟩
theorem shw_all {w dp : Nat} {ds : List PyData} (h : ∀ d ∈ ds, Shw w dp d) : mildAll ds = true ∧ PyData.depthAll ds ≤ dp ∧ PyData.weightAll ds ≤ ds.length * (w + 1) := by
  induction ds with
  | nil => simp [mildAll, PyData.depthAll, PyData.weightAll]
  | cons a r ih =>
    have ha := h a List.mem_cons_self
    have hr := ih fun d hd => h d (List.mem_cons_of_mem _ hd)
    have := ha.dep; have := ha.wt
    refine ⟨by simp [mildAll, ha.mild, hr.1], ?_, ?_⟩
    · simp only [PyData.depthAll]; omega
    · simp only [PyData.weightAll, List.length_cons, Nat.succ_mul]; omega
theorem Shw.tup {w dp n : Nat} {ds : List PyData} (h : ∀ d ∈ ds, Shw w dp d) (hn : ds.length ≤ n) : Shw (n * (w + 1)) (dp + 1) (.tuple ds) := by
  obtain ⟨a, b, c⟩ := shw_all h
  exact ⟨by simp only [MI.mild]; exact a, by simp only [PyData.depth]; omega, by simp only [PyData.weight]; exact Nat.le_trans c (Nat.mul_le_mul_right _ hn)⟩
theorem Shw.lst {w dp n : Nat} {ds : List PyData} (h : ∀ d ∈ ds, Shw w dp d) (hn : ds.length ≤ n) : Shw (n * (w + 1)) (dp + 1) (.list ds) := by
  obtain ⟨a, b, c⟩ := shw_all h
  exact ⟨by simp only [MI.mild]; exact a, by simp only [PyData.depth]; omega, by simp only [PyData.weight]; exact Nat.le_trans c (Nat.mul_le_mul_right _ hn)⟩
theorem Shw.ints {n : Nat} {S : List Int} (h : ∀ s ∈ S, s.natAbs < 2 ^ 80) (hn : S.length ≤ n) : Shw (n * 82) 1 (.tuple (S.map .int)) :=
  Shw.tup (w := 81) (dp := 0) (fun d hd => by obtain ⟨s, hs, rfl⟩ := List.mem_map.1 hd; exact Shw.int (h s hs)) (by simpa using hn)
theorem shw_pat {p : Pat} (h : IsPat p.1 p.2) : Shw 9842 2 (pD p) := by
  have h1 := h.lo; have h2 := h.hi; have h3 := h.few
  refine Shw.tup (w := 4920) (dp := 1) (n := 2) (ds := [.int p.1, .tuple (p.2.map .int)]) (fun d hd => ?_) (by simp)
  simp only [List.mem_cons, List.not_mem_nil, or_false] at hd
  rcases hd with rfl | rfl
  · exact (Shw.int (by omega)).mono (by omega) (by omega)
  · exact Shw.ints (n := 60) (fun s hs => by have := h.mem s hs; omega) (by omega)
theorem shw_grp {G : Grp} (h : IsGrp G) : Shw 39372 3 (grpD G) :=
  Shw.tup (w := 9842) (dp := 2) (n := 4) (fun d hd => by obtain ⟨p, hp, rfl⟩ := List.mem_map.1 hd; exact shw_pat (h.pat p hp)) (by simpa using h.hi)
theorem off_mem {G : Grp} {o : List Int} (h : IsGrp G) (ho : IsOff G o) : ∀ x ∈ o, 0 ≤ x ∧ x < 60 := fun x hx => by
  obtain ⟨i, hi, e⟩ := List.getElem_of_mem hx
  have hl : i < G.length := by rw [← ho.len]; exact hi
  have hm : (o[i], G[i]) ∈ o.zip G := by
    rw [List.mem_iff_getElem]; exact ⟨i, by simp; omega, by simp⟩
  have := ho.mem _ hm
  have := h.per _ (List.getElem_mem hl)
  rw [e] at *
  simp at *; omega
theorem shw_off {G : Grp} {o : List Int} (h : IsGrp G) (ho : IsOff G o) : Shw 328 1 (offD o) :=
  Shw.ints (n := 4) (fun s hs => by have := off_mem h ho s hs; omega) (by have := ho.len; have := h.hi; omega)
/-! ### senders, rows, sets -/
theorem e_on {G : Grp} {o : List Int} {t : Int} (h : IsGrp G) (ho : IsOff G o) : evF T WW (k + 1) i_on [(grpD G, false), (offD o, false), (.int t, false)] = some (.list ((onI G o t).map .int), false, [.no, .no, .no]) := by
  refine W3_of ?_
  refine w_go f_on ⟨rfl, rfl⟩ ?_
  simp -dsimp [f_on, grpD]
  rw [enum_map]
  refine w_loopm (fun done ρ => ∃ s4 s5 s6, ρ = [.dat (grpD G), .dat (offD o), .dat (.int t), .own (.list (((done.filter fun q => on1 q.1 (nth0 o q.2) t).map fun q => (q.2 : Int)).map .int)), s4, s5, s6]) ⟨_, _, _, rfl⟩ ?_ ?_
  · rintro done q rest ρ hd ⟨s4, s5, s6, rfl⟩
    have hq : q ∈ G.zipIdx := by rw [hd]; simp
    obtain ⟨hq1, hq2⟩ := List.mem_zipIdx' hq
    have hp := h.pat q.1 (by rw [hq2]; exact List.getElem_mem _)
    have hi : q.2 < o.length := by rw [ho.len]; exact hq1
    have hL : 0 < q.1.1 := by have := hp.lo; omega
    have hsl : (done.filter fun q => on1 q.1 (nth0 o q.2) t).length < sizeLine := by
      have h1 := List.length_filter_le (fun q : Pat × Nat => on1 q.1 (nth0 o q.2) t) done
      have h2 : done.length ≤ G.zipIdx.length := by rw [hd]; simp
      have := sizeLine_ge; have := h.hi; simp at h2; omega
    simp -dsimp [pD, patD, idx_off hi, hL, in_ints]
    refine Wif_i (fun hc => ?_) (fun hc => ?_)
    · have e : on1 q.1 (nth0 o q.2) t = true := by simp only [on1, decide_eq_true_eq]; exact hc
      simp -dsimp [hsl]
      exact Kd_i ⟨_, _, _, by rw [List.filter_append, List.filter_cons, if_pos e]; simp; exact ⟨rfl, rfl, rfl⟩⟩
    · have e : ¬ on1 q.1 (nth0 o q.2) t = true := by simp only [on1, decide_eq_true_eq]; exact hc
      simp -dsimp
      exact Kd_i ⟨_, _, _, by rw [List.filter_append, List.filter_cons, if_neg e]; simp; exact ⟨rfl, rfl, rfl⟩⟩
  · rintro ρ ⟨s4, s5, s6, rfl⟩
    simp -dsimp [onI]
theorem e_rows {G : Grp} {o : List Int} (h : IsGrp G) (ho : IsOff G o) (hs : spanI G ≤ 1000) :
    evF T WW (k + 2) i_rows [(grpD G, false), (offD o, false)] = some (.list ((intR 0 (spanI G)).map fun t => .list ((onI G o t).map .int)), true, [.no, .no]) := by
  refine W3_of ?_
  refine w_go f_rows ⟨rfl, rfl⟩ ?_
  have hp := spanI_pos h
  have hl : -4611686018427387904 ≤ spanI G ∧ spanI G < 4611686018427387904 := by omega
  simp -dsimp [f_rows, e_whole h (by omega : spanI G ≤ 90000), hl, rangeD_eq]
  refine w_compm (fun t => .list ((onI G o t).map .int)) (sz4 (by rw [length_intR]; omega)) ?_ ?_
  · intro t acc ht ha
    simp -dsimp [e_on h ho, ha]
  · simp -dsimp
end
section
/-! K13: what is heard and counted. -/
variable {k : Nat}
theorem e_mark {l : List Int} (hm : ∀ x ∈ l, x.natAbs < 2 ^ 80) : evF T WW (k + 1) i_mark [(.list (l.map .int), false)] = some (.int (kindI l), false, [.no]) := by
  refine W3_of ?_
  refine w_go f_mark ⟨rfl, rfl⟩ ?_
  have ly := lay_ints hm
  match l, ly with
  | [], _ => simp -dsimp [f_mark, kindI]
  | [a], ly =>
    have e : kindI [a] = a := rfl
    have ly' : lay (.list [.int a]) = true := ly
    simp -dsimp [f_mark, ly', e]
  | a :: b :: r, ly =>
    have e : kindI (a :: b :: r) = -2 := rfl
    have ly' : lay (.list (.int a :: .int b :: r.map .int)) = true := ly
    have h1 : ¬ ((r.length : Int) + 1 + 1 = 1) := by omega
    simp -dsimp [f_mark, ly', e, h1]
theorem e_tally {G : Grp} {o : List Int} (h : IsGrp G) (ho : IsOff G o) (hs : spanI G ≤ 1000) : evF T WW (k + 3) i_tally [(grpD G, false), (offD o, false)] = some (offD (countsI G o), false, [.no, .no]) := by
  refine W3_of ?_
  refine w_go f_tally ⟨rfl, rfl⟩ ?_
  have hz := sizeLine_ge
  have h4 := h.hi
  have hp := spanI_pos h
  have hr := e_rows (k := k) h ho hs
  have hbn : ∀ Q, W2 (biD .len [grpD G]) Q = Q (.int G.length) false := fun Q => by simp [grpD]
  have hl : -4611686018427387904 ≤ (G.length : Int) ∧ (G.length : Int) < 4611686018427387904 := by omega
  simp -dsimp [f_tally, hr]
  refine w_compm (fun t => .int (kindI (onI G o t))) (sz4 (by rw [length_intR]; omega)) ?_ ?_
  · intro t acc ht ha
    have hm := e_mark (k := k + 1) (l := onI G o t) fun x hx => onI_abs h hx
    simp -dsimp [hm, ha]
  · rw [show ((intR 0 (spanI G)).map fun t => PyData.int (kindI (onI G o t))) = (heardI G o).map .int by rw [heardI, List.map_map]; rfl]
    have hc := fun x => cnt_ints (l := heardI G o) (x := x)
    simp -dsimp [hc, hbn, hl, rangeD_eq]
    refine w_compm (fun x => .int (cntI G o x)) (sz4 (by rw [length_intR]; omega)) ?_ ?_
    · intro x acc hx ha
      simp -dsimp [hc, ha]
      rfl
    · have l2 : G.length + 1 + 1 ≤ sizeLine := by omega
      have l1 : G.length + 1 ≤ sizeLine := by omega
      have l3 : 1 + G.length ≤ sizeLine := by omega
      have l4 : 1 + G.length + 1 ≤ sizeLine := by omega
      have hcl : ((intR 0 (G.length : Int)).map fun x => PyData.int (cntI G o x)).length = G.length := by rw [List.length_map, length_intR]; omega
      have h2 := hc (-2)
      simp -dsimp [hcl, l1, l2, l3, l4, h2]
      simp [countsI, offD, cntI, Function.comp_def]
theorem cells13 (ns : List Int) : PyData.int (ns[0]?.getD 0) :: List.take 2 (ns.map PyData.int).tail = (ns[0]?.getD 0 :: ns.tail.take 2).map PyData.int := by simp [List.map_take, List.map_tail]
theorem cut13' (ns : List Int) : cut (ns.map PyData.int) (some 1) (some 3) = ((ns.drop 1).take 2).map PyData.int := by
  rw [cut_both (by omega) (by omega)]; simp [List.map_drop, List.map_take]
noncomputable def rest13 : MS := (.loop (.nm 8) (.it (.tup (.cons (.lit (.int 0)) (.cons (.lit (.int 1)) (.cons (.lit (.int 2)) .nil))))) (.seq (.asg (.nm 9) (.call i_starts (.cons (.var 6) (.cons (.var 1) .nil)))) (.seq (.par (.cons (.nm 10) (.cons (.nm 11) .nil)) (.cons (.bi .repr (.cons (.tup (.cons (.var 1) (.cons (.var 9) .nil))) .nil)) (.cons (.bi .tuple (.cons (.comp [12] (.nm 12) (.it (.call i_rows (.cons (.var 1) (.cons (.var 9) .nil)))) .nil (.call i_mark (.cons (.var 12) .nil))) .nil)) .nil))) (.seq (.loop (.nm 13) (.it (.tup (.cons (.lit (.int 0)) (.cons (.lit (.int 1)) .nil)))) (.ite (.not (.tst (.call i_same (.cons (.lst (.cons (.call i_heard (.cons (.var 1) (.cons (.var 9) .nil))) (.cons (.call i_counts (.cons (.var 1) (.cons (.var 9) .nil))) .nil))) (.cons (.lst (.cons (.var 11) (.cons (.call i_tally (.cons (.var 1) (.cons (.var 9) .nil))) .nil))) .nil))))) (.ret (.lit (.bool false))) .skip)) (.ite (.tst (.cmp .ne (.bi .repr (.cons (.tup (.cons (.var 1) (.cons (.var 9) .nil))) .nil)) (.var 10))) (.ret (.lit (.bool false))) .skip)))))
theorem rest13_eq : f_law_k13 = ⟨1, 14, (.seq (.par (.cons (.nm 1) (.cons (.nm 2) .nil)) (.cons (.tup (.cons (.tup (.cons (.lit (.int 4)) (.cons (.tup (.cons (.lit (.int 0)) (.cons (.lit (.int 1)) .nil))) .nil))) (.cons (.tup (.cons (.lit (.int 6)) (.cons (.tup (.cons (.lit (.int 0)) (.cons (.lit (.int 2)) .nil))) .nil))) .nil))) (.cons (.tup (.cons (.tup (.cons (.lit (.int 4)) (.cons (.tup (.cons (.lit (.int 0)) (.cons (.lit (.int 2)) .nil))) .nil))) (.cons (.tup (.cons (.lit (.int 6)) (.cons (.tup (.cons (.lit (.int 0)) (.cons (.lit (.int 2)) (.cons (.lit (.int 4)) .nil)))) .nil))) .nil))) .nil))) (.seq (.asg (.nm 3) (.lst (.cons (.call i_counts (.cons (.var 1) (.cons (.tup (.cons (.lit (.int 0)) (.cons (.lit (.int 0)) .nil))) .nil))) (.cons (.call i_counts (.cons (.var 1) (.cons (.tup (.cons (.lit (.int 0)) (.cons (.lit (.int 1)) .nil))) .nil))) (.cons (.call i_counts (.cons (.var 2) (.cons (.tup (.cons (.lit (.int 0)) (.cons (.lit (.int 0)) .nil))) .nil))) (.cons (.call i_heard (.cons (.var 1) (.cons (.tup (.cons (.lit (.int 0)) (.cons (.lit (.int 0)) .nil))) .nil))) .nil)))))) (.seq (.asg (.nm 4) (.lst (.cons (.tup (.cons (.lit (.int 4)) (.cons (.lit (.int 4)) (.cons (.lit (.int 2)) (.cons (.lit (.int 2)) .nil))))) (.cons (.tup (.cons (.lit (.int 4)) (.cons (.lit (.int 4)) (.cons (.lit (.int 2)) (.cons (.lit (.int 2)) .nil))))) (.cons (.tup (.cons (.lit (.int 6)) (.cons (.lit (.int 0)) (.cons (.lit (.int 0)) (.cons (.lit (.int 6)) .nil))))) (.cons (.tup (.cons (.neg (.lit (.int 2))) (.cons (.lit (.int 0)) (.cons (.lit (.int 1)) (.cons (.neg (.lit (.int 1))) (.cons (.lit (.int 0)) (.cons (.lit (.int 0)) (.cons (.lit (.int 1)) (.cons (.neg (.lit (.int 1))) (.cons (.neg (.lit (.int 2))) (.cons (.lit (.int 0)) (.cons (.neg (.lit (.int 1))) (.cons (.neg (.lit (.int 1))) .nil))))))))))))) .nil)))))) (.seq (.ite (.not (.tst (.call i_same (.cons (.var 3) (.cons (.var 4) .nil))))) (.ret (.lit (.bool false))) .skip) (.seq (.loop (.nm 5) (.it (.bin .add (.lst (.cons (.call i_cell (.cons (.var 0) (.cons (.lit (.int 0)) .nil))) .nil)) (.sl (.var 0) (.cons (.lit (.int 1)) .nil) (.cons (.lit (.int 3)) .nil)))) (.seq (.asg (.nm 6) (.call i_pen (.cons (.var 5) .nil))) (.loop (.nm 7) (.rng1 (.lit (.int 9))) (.seq (.asg (.nm 1) (.call i_crowd (.cons (.var 6) (.cons (.lit (.int 20000)) .nil)))) (.seq (.ite (.tst (.cmp .eq (.var 7) (.lit (.int 8)))) (.asg (.nm 1) (.tup (.cons (.call i_beat_of (.cons (.var 6) (.cons (.call i_pick (.cons (.var 6) (.cons (.lst (.cons (.lit (.int 59)) (.cons (.lit (.int 60)) .nil))) .nil))) .nil))) (.cons (.call i_beat_of (.cons (.var 6) (.cons (.lit (.int 7)) .nil))) .nil)))) .skip) rest13))))) (.ret (.lit (.bool true))))))))⟩ := rfl
theorem heard_abs {G : Grp} {o : List Int} (h : IsGrp G) : ∀ x ∈ heardI G o, x.natAbs < 2 ^ 80 := fun x hx => by
  simp only [heardI, List.mem_map] at hx
  obtain ⟨t, _, rfl⟩ := hx
  match e : onI G o t with
  | [] => decide
  | [a] => exact onI_abs h (t := t) (o := o) (by rw [e]; simp [kindI])
  | a :: b :: r =>
    have e : kindI (a :: b :: r) = -2 := rfl
    rw [e]
    decide
theorem cnt_abs {G : Grp} {o : List Int} (hs : spanI G ≤ 420) : ∀ x ∈ countsI G o, x.natAbs < 2 ^ 80 := fun x hx => by
  have key : ∀ y, (cntI G o y).natAbs < 2 ^ 80 := fun y => by
    unfold cntI
    have := List.countP_le_length (p := fun z => decide (z = y)) (l := heardI G o)
    have l : (heardI G o).length = (spanI G).toNat := by simp [heardI, length_intR]
    omega
  simp only [countsI, List.mem_cons, List.mem_append, List.mem_map, List.not_mem_nil, or_false] at hx
  rcases hx with rfl | ⟨y, _, rfl⟩ | rfl <;> exact key _
theorem shw_hc {G : Grp} {o : List Int} (h : IsGrp G) (hs : spanI G ≤ 420) : shows (.list [.tuple ((heardI G o).map .int), .tuple ((countsI G o).map .int)]) = true := by
  have hp := spanI_pos h
  have h4 := h.hi
  have l1 : (heardI G o).length ≤ 420 := by simp [heardI, length_intR]; omega
  have l2 : (countsI G o).length ≤ 420 := by simp [countsI, length_intR]; omega
  refine (Shw.lst (w := 420 * 82) (dp := 1) (n := 2) (fun d hd => ?_) (by simp)).shows
  simp only [List.mem_cons, List.not_mem_nil, or_false] at hd
  rcases hd with rfl | rfl
  · exact Shw.ints (heard_abs h) l1
  · exact Shw.ints (cnt_abs hs) l2
theorem w_rest13 {F0 a : PyData} {p : List PyData} {j : PyData} {G : Grp} {s2 s3 s4 s8 s9 s10 s11 s13 : MI.Slot} {Q} (hp : Pen p) (hG : IsGrp G) (hs : spanI G ≤ 420)
    (hq : ∀ p s8 s9 s10 s11 s13, Pen p → Q (.nx [.dat F0, .dat (grpD G), s2, s3, s4, .dat a, .own (.list p), .dat j, s8, s9, s10, s11, .no, s13])) :
    Wp (evS (evF T WW 29) WW rest13 [.dat F0, .dat (grpD G), s2, s3, s4, .dat a, .own (.list p), .dat j, s8, s9, s10, s11, .no, s13]) Q := by
  have hz := sizeLine_ge
  have hpos := spanI_pos hG
  simp -dsimp [rest13]
  refine w_loops (f := fun n : Nat => PyData.int (n : Int)) (l := [0, 1, 2]) (fun ρ => ∃ p s8 s9 s10 s11 s13, Pen p ∧ ρ = [.dat F0, .dat (grpD G), s2, s3, s4, .dat a, .own (.list p), .dat j, s8, s9, s10, s11, .no, s13]) ⟨_, _, _, _, _, _, hp, rfl⟩ ?_ ?_
  · rintro n ρ hn ⟨p1, s8, s9, s10, s11, s13, hp1, rfl⟩
    simp -dsimp
    refine w_starts hp1 hG fun p2 o hp2 ho => ?_
    have hsh : shows (.tuple [grpD G, offD o]) = true :=
      (Shw.tup (w := 39372) (dp := 3) (n := 2) (fun d hd => by
        simp only [List.mem_cons, List.not_mem_nil, or_false] at hd
        rcases hd with rfl | rfl
        · exact shw_grp hG
        · exact (shw_off hG ho).mono (by omega) (by omega)) (by simp)).shows
    simp -dsimp [hsh, e_rows hG ho (by omega : spanI G ≤ 1000)]
    refine w_compm (fun t => .int (kindI (onI G o t))) (sz4 (by rw [length_intR]; omega)) ?_ ?_
    · intro t acc ht ha
      have hm := e_mark (k := 28) (l := onI G o t) fun x hx => onI_abs hG hx
      simp -dsimp [hm, ha]
    · rw [show ((intR 0 (spanI G)).map fun t => PyData.int (kindI (onI G o t))) = (heardI G o).map .int by rw [heardI, List.map_map]; rfl]
      simp -dsimp
      have e1 := e_heard (k := 22) hG ho hs
      have e2 := e_counts (k := 22) hG ho hs
      have e3 := e_tally (k := 26) hG ho (by omega : spanI G ≤ 1000)
      have e4 := e_same (T := T) (k := 28) (shw_hc (o := o) hG hs) (shw_hc (o := o) hG hs)
      refine w_loops (f := fun n : Nat => PyData.int (n : Int)) (l := [0, 1]) (fun ρ => ∃ s13, ρ = [.dat F0, .dat (grpD G), s2, s3, s4, .dat a, .own (.list p2), .dat j, .dat (.int n), .dat (offD o), .dat (.str (PyData.tuple [grpD G, offD o]).shown), .dat (.tuple ((heardI G o).map .int)), .no, s13]) ⟨_, rfl⟩ ?_ ?_
      · rintro m ρ hm ⟨s13, rfl⟩
        have e3' : evF T WW 29 i_tally [(grpD G, false), (offD o, false)] = some (.tuple ((countsI G o).map .int), false, [.no, .no]) := e3
        simp -dsimp [e1, e2, e3', e4]
        exact Kd_i ⟨_, rfl⟩
      · rintro ρ ⟨s13, rfl⟩
        simp -dsimp [hsh]
        exact Kd_i ⟨_, _, _, _, _, _, hp2, rfl⟩
  · rintro ρ ⟨p1, s8, s9, s10, s11, s13, hp1, rfl⟩
    exact hq _ _ _ _ _ _ hp1
/-- both lists are lent -/
theorem e_sameTT {xs ys : List PyData} (ha : shows (.list xs) = true) (hb : shows (.list ys) = true) :
    evF T WW (k + 1) i_same [(.list xs, true), (.list ys, true)] = some (.bool (decide ((PyData.list xs).shown = (PyData.list ys).shown)), false, [.own (.list xs), .own (.list ys)]) := by
  refine W3_of ?_
  refine w_go f_same ⟨rfl, rfl⟩ ?_
  simp -dsimp [f_same, ha, hb]
noncomputable def gA : Grp := [(4, [0, 1]), (6, [0, 2])]
noncomputable def gB : Grp := [(4, [0, 2]), (6, [0, 2, 4])]
theorem gA_is : IsGrp gA := ⟨by decide, by decide, fun p hp => by
  simp only [gA, List.mem_cons, List.not_mem_nil, or_false] at hp
  rcases hp with rfl | rfl <;> exact ⟨by decide, by decide, by decide, by decide, by decide, by decide⟩⟩
theorem gB_is : IsGrp gB := ⟨by decide, by decide, fun p hp => by
  simp only [gB, List.mem_cons, List.not_mem_nil, or_false] at hp
  rcases hp with rfl | rfl <;> exact ⟨by decide, by decide, by decide, by decide, by decide, by decide⟩⟩
theorem plain_k13 (ns : List Int) (hlen : ns.length ≤ 63) : ∃ fr ss, evF T WW 30 i_law_k13 [(scr (ns.map .int), false)] = some (.bool true, fr, ss) := by
  suffices H : W3 (evF T WW 30 i_law_k13 [(scr (ns.map .int), false)]) (fun a _ _ => a = .bool true) by
    obtain ⟨⟨a, b, c⟩, h1, rfl⟩ := H; exact ⟨_, _, h1⟩
  refine w_go f_law_k13 ⟨rfl, rfl⟩ ?_
  have oA : IsOff gA [0, 0] := ⟨rfl, by decide⟩
  have oA1 : IsOff gA [0, 1] := ⟨rfl, by decide⟩
  have oB : IsOff gB [0, 0] := ⟨rfl, by decide⟩
  have sA : spanI gA ≤ 420 := by decide +kernel
  have sB : spanI gB ≤ 420 := by decide +kernel
  have c1 : evF T WW 29 i_counts [(.tuple [.tuple [.int 4, .tuple [.int 0, .int 1]], .tuple [.int 6, .tuple [.int 0, .int 2]]], false), (.tuple [.int 0, .int 0], false)] = some (.tuple [.int 4, .int 4, .int 2, .int 2], false, [.no, .no]) :=
    (e_counts (k := 22) gA_is oA sA).trans (by rw [show countsI gA [0, 0] = [4, 4, 2, 2] by decide +kernel]; rfl)
  have c2 : evF T WW 29 i_counts [(.tuple [.tuple [.int 4, .tuple [.int 0, .int 1]], .tuple [.int 6, .tuple [.int 0, .int 2]]], false), (.tuple [.int 0, .int 1], false)] = some (.tuple [.int 4, .int 4, .int 2, .int 2], false, [.no, .no]) :=
    (e_counts (k := 22) gA_is oA1 sA).trans (by rw [show countsI gA [0, 1] = [4, 4, 2, 2] by decide +kernel]; rfl)
  have c3 : evF T WW 29 i_counts [(.tuple [.tuple [.int 4, .tuple [.int 0, .int 2]], .tuple [.int 6, .tuple [.int 0, .int 2, .int 4]]], false), (.tuple [.int 0, .int 0], false)] = some (.tuple [.int 6, .int 0, .int 0, .int 6], false, [.no, .no]) :=
    (e_counts (k := 22) gB_is oB sB).trans (by rw [show countsI gB [0, 0] = [6, 0, 0, 6] by decide +kernel]; rfl)
  have c4 : evF T WW 29 i_heard [(.tuple [.tuple [.int 4, .tuple [.int 0, .int 1]], .tuple [.int 6, .tuple [.int 0, .int 2]]], false), (.tuple [.int 0, .int 0], false)] = some (.tuple [.int (-2), .int 0, .int 1, .int (-1), .int 0, .int 0, .int 1, .int (-1), .int (-2), .int 0, .int (-1), .int (-1)], false, [.no, .no]) :=
    (e_heard (k := 22) gA_is oA sA).trans (by rw [show heardI gA [0, 0] = [-2, 0, 1, -1, 0, 0, 1, -1, -2, 0, -1, -1] by decide +kernel]; rfl)
  rw [rest13_eq]
  have l1 : shows (.list [.tuple [.int 4, .int 4, .int 2, .int 2], .tuple [.int 4, .int 4, .int 2, .int 2], .tuple [.int 6, .int 0, .int 0, .int 6], .tuple [.int (-2), .int 0, .int 1, .int (-1), .int 0, .int 0, .int 1, .int (-1), .int (-2), .int 0, .int (-1), .int (-1)]]) = true := by decide +kernel
  have es := e_sameTT (k := 28) l1 l1
  simp -dsimp [c1, c2, c3, c4, es, e_cell]
  have hz := sizeLine_ge
  rw [cut13']
  refine Wif_t (by simp; omega) ?_
  simp -dsimp
  rw [cells13]
  refine w_loops (fun ρ => ∃ s1 s2 s3 s4 s5 s6 s7 s8 s9 s10 s11 s13, ρ = [.dat (scr (ns.map .int)), s1, s2, s3, s4, s5, s6, s7, s8, s9, s10, s11, .no, s13]) ⟨_, _, _, _, _, _, _, _, _, _, _, _, rfl⟩ ?_ ?_
  · rintro n ρ hn ⟨s1, s2, s3, s4, s5, s6, s7, s8, s9, s10, s11, s13, rfl⟩
    simp -dsimp
    refine w_pen fun p hp => ?_
    simp -dsimp [rangeD_eq]
    refine w_loops (fun ρ => ∃ p s1 s7 s8 s9 s10 s11 s13, Pen p ∧ ρ = [.dat (scr (ns.map .int)), s1, s2, s3, s4, .dat (.int n), .own (.list p), s7, s8, s9, s10, s11, .no, s13]) ⟨_, _, _, _, _, _, _, _, hp, rfl⟩ ?_ ?_
    · rintro j ρ hj ⟨p1, s1, s7, s8, s9, s10, s11, s13, hp1, rfl⟩
      simp -dsimp
      refine w_crowd hp1 fun p2 G hp2 hG => ?_
      simp -dsimp
      refine Wif_i (fun hc => ?_) (fun hc => ?_)
      · simp -dsimp
        refine w_pick hp2 (by simp) (by simp) fun p3 x hp3 hx => ?_
        have hx : ∃ y : Int, x = .int y ∧ 2 ≤ y ∧ y ≤ 60 := by
          simp only [List.mem_cons, List.not_mem_nil, or_false] at hx
          rcases hx with rfl | rfl
          · exact ⟨59, rfl, by omega, by omega⟩
          · exact ⟨60, rfl, by omega, by omega⟩
        obtain ⟨y, rfl, hy, hy2⟩ := hx
        simp -dsimp
        refine w_beat_of hp3 hy hy2 fun p4 S hp4 hS => ?_
        simp -dsimp
        refine w_beat_of hp4 (by omega) (by omega) fun p5 R hp5 hR => ?_
        simp -dsimp
        refine w_rest13 (G := [(y, S), (7, R)]) hp5 ⟨by simp, by simp, by simp [hS, hR]⟩ (span2 (by omega) (by omega) (by omega)) fun p6 s8 s9 s10 s11 s13 hp6 => ?_
        exact Kd_i ⟨_, _, _, _, _, _, _, _, hp6, rfl⟩
      · simp -dsimp
        refine w_rest13 hp2 hG.grp (by have := hG.span; omega) fun p6 s8 s9 s10 s11 s13 hp6 => ?_
        exact Kd_i ⟨_, _, _, _, _, _, _, _, hp6, rfl⟩
    · rintro ρ ⟨p1, s1, s7, s8, s9, s10, s11, s13, hp1, rfl⟩
      exact Kd_i ⟨_, _, _, _, _, _, _, _, _, _, _, _, rfl⟩
  · rintro ρ ⟨s1, s2, s3, s4, s5, s6, s7, s8, s9, s10, s11, s13, rfl⟩
    simp -dsimp
end
def topS (i : Nat) : Stmt := PySem.Challenge.pw_anyshift_k13_what_is_heard_and_counted.main.body.getD i (.Pass ⟨0, 0, 0, 0⟩)
noncomputable def S : Sig := ⟨[((Str.ofString "is_integer"), i_is_integer),
    ((Str.ofString "is_between"), i_is_between),
    ((Str.ofString "divisor"), i_divisor),
    ((Str.ofString "common_multiple"), i_common_multiple),
    ((Str.ofString "is_set"), i_is_set),
    ((Str.ofString "is_pattern"), i_is_pattern),
    ((Str.ofString "does_send"), i_does_send),
    ((Str.ofString "is_group"), i_is_group),
    ((Str.ofString "need_group"), i_need_group),
    ((Str.ofString "are_offsets"), i_are_offsets),
    ((Str.ofString "need_offsets"), i_need_offsets),
    ((Str.ofString "span_of"), i_span_of),
    ((Str.ofString "need_span"), i_need_span),
    ((Str.ofString "senders_at"), i_senders_at),
    ((Str.ofString "kind_of"), i_kind_of),
    ((Str.ofString "heard_of"), i_heard_of),
    ((Str.ofString "counts_of"), i_counts_of),
    ((Str.ofString "heard"), i_heard),
    ((Str.ofString "counts"), i_counts),
    ((Str.ofString "_law_cell"), i_cell),
    ((Str.ofString "_law_pen"), i_pen),
    ((Str.ofString "_law_draw"), i_draw),
    ((Str.ofString "_law_pick"), i_pick),
    ((Str.ofString "_law_same"), i_same),
    ((Str.ofString "_law_beat_of"), i_beat_of),
    ((Str.ofString "_law_whole"), i_whole),
    ((Str.ofString "_law_times"), i_times),
    ((Str.ofString "_law_crowd"), i_crowd),
    ((Str.ofString "_law_starts"), i_starts),
    ((Str.ofString "_law_on"), i_on),
    ((Str.ofString "_law_rows"), i_rows),
    ((Str.ofString "_law_mark"), i_mark),
    ((Str.ofString "_law_tally"), i_tally),
    ((Str.ofString "law"), i_law_k13),
    ((Str.ofString "heard_of"), i_heard_of_S)],
  [((Str.ofString "LEAST_PERIOD"), .int (2)), ((Str.ofString "MOST_PERIOD"), .int (60)), ((Str.ofString "LEAST_SENDERS"), .int (2)), ((Str.ofString "MOST_SENDERS"), .int (4)), ((Str.ofString "LONGEST"), .int (420)), ((Str.ofString "QUIET"), .int (-1)), ((Str.ofString "COLLISION"), .int (-2))],
  [(Str.ofString "all"), (Str.ofString "bool"), (Str.ofString "enumerate"), (Str.ofString "int"), (Str.ofString "isinstance"), (Str.ofString "len"), (Str.ofString "list"), (Str.ofString "max"), (Str.ofString "range"), (Str.ofString "repr"), (Str.ofString "tuple"), (Str.ofString "zip")], false, false, [], [(Str.ofString "_law_times"), (Str.ofString "_law_whole")], [], [], [], [], {}⟩
def e0 : Ent := ⟨(Str.ofString "is_integer"), i_is_integer, topS 8, [(Str.ofString "thing")], [(Str.ofString "thing")], false, false, [], [], false⟩
def e1 : Ent := ⟨(Str.ofString "is_between"), i_is_between, topS 9, [(Str.ofString "thing"), (Str.ofString "low"), (Str.ofString "high")], [(Str.ofString "thing"), (Str.ofString "low"), (Str.ofString "high")], false, false, [], [], false⟩
def e2 : Ent := ⟨(Str.ofString "divisor"), i_divisor, topS 10, [(Str.ofString "one"), (Str.ofString "other")], [(Str.ofString "one"), (Str.ofString "other")], false, false, [], [], false⟩
def e3 : Ent := ⟨(Str.ofString "common_multiple"), i_common_multiple, topS 11, [(Str.ofString "one"), (Str.ofString "other")], [(Str.ofString "one"), (Str.ofString "other")], false, false, [], [], false⟩
def e4 : Ent := ⟨(Str.ofString "is_set"), i_is_set, topS 12, [(Str.ofString "thing"), (Str.ofString "low"), (Str.ofString "high"), (Str.ofString "one"), (Str.ofString "other")], [(Str.ofString "thing"), (Str.ofString "low"), (Str.ofString "high")], false, false, [], [], false⟩
def e5 : Ent := ⟨(Str.ofString "is_pattern"), i_is_pattern, topS 13, [(Str.ofString "thing")], [(Str.ofString "thing")], false, false, [], [], false⟩
def e6 : Ent := ⟨(Str.ofString "does_send"), i_does_send, topS 14, [(Str.ofString "pattern"), (Str.ofString "offset"), (Str.ofString "tick")], [(Str.ofString "pattern"), (Str.ofString "offset"), (Str.ofString "tick")], false, false, [], [], false⟩
def e7 : Ent := ⟨(Str.ofString "is_group"), i_is_group, topS 19, [(Str.ofString "thing"), (Str.ofString "pattern")], [(Str.ofString "thing")], false, false, [], [], false⟩
def e8 : Ent := ⟨(Str.ofString "need_group"), i_need_group, topS 20, [(Str.ofString "thing")], [(Str.ofString "thing")], false, false, [], [], false⟩
def e9 : Ent := ⟨(Str.ofString "are_offsets"), i_are_offsets, topS 21, [(Str.ofString "group"), (Str.ofString "thing"), (Str.ofString "offset"), (Str.ofString "pattern")], [(Str.ofString "group"), (Str.ofString "thing")], false, false, [], [], false⟩
def e10 : Ent := ⟨(Str.ofString "need_offsets"), i_need_offsets, topS 22, [(Str.ofString "group"), (Str.ofString "thing")], [(Str.ofString "group"), (Str.ofString "thing")], false, false, [], [], false⟩
def e11 : Ent := ⟨(Str.ofString "span_of"), i_span_of, topS 23, [(Str.ofString "group"), (Str.ofString "found"), (Str.ofString "period"), (Str.ofString "slots")], [(Str.ofString "group")], false, false, [], [], false⟩
def e12 : Ent := ⟨(Str.ofString "need_span"), i_need_span, topS 24, [(Str.ofString "group"), (Str.ofString "found")], [(Str.ofString "group")], false, false, [], [], false⟩
def e13 : Ent := ⟨(Str.ofString "senders_at"), i_senders_at, topS 28, [(Str.ofString "group"), (Str.ofString "offsets"), (Str.ofString "tick"), (Str.ofString "who"), (Str.ofString "pattern")], [(Str.ofString "group"), (Str.ofString "offsets"), (Str.ofString "tick")], false, false, [], [], false⟩
def e14 : Ent := ⟨(Str.ofString "kind_of"), i_kind_of, topS 29, [(Str.ofString "senders")], [(Str.ofString "senders")], false, false, [], [], false⟩
def e15 : Ent := ⟨(Str.ofString "heard_of"), i_heard_of, topS 30, [(Str.ofString "group"), (Str.ofString "offsets"), (Str.ofString "tick")], [(Str.ofString "group"), (Str.ofString "offsets")], false, false, [], [], false⟩
def e16 : Ent := ⟨(Str.ofString "counts_of"), i_counts_of, topS 31, [(Str.ofString "group"), (Str.ofString "offsets"), (Str.ofString "row"), (Str.ofString "who")], [(Str.ofString "group"), (Str.ofString "offsets")], false, false, [((Str.ofString "heard_of"), i_heard_of_S)], [], false⟩
def e17 : Ent := ⟨(Str.ofString "heard"), i_heard, topS 32, [(Str.ofString "group"), (Str.ofString "offsets")], [(Str.ofString "group"), (Str.ofString "offsets")], false, false, [], [], false⟩
def e18 : Ent := ⟨(Str.ofString "counts"), i_counts, topS 33, [(Str.ofString "group"), (Str.ofString "offsets")], [(Str.ofString "group"), (Str.ofString "offsets")], false, false, [], [], false⟩
def e19 : Ent := ⟨(Str.ofString "_law_cell"), i_cell, topS 35, [(Str.ofString "_law_script"), (Str.ofString "_law_k")], [(Str.ofString "_law_script"), (Str.ofString "_law_k")], false, false, [], [], false⟩
def e20 : Ent := ⟨(Str.ofString "_law_pen"), i_pen, topS 36, [(Str.ofString "_law_cell_here")], [(Str.ofString "_law_cell_here")], false, false, [], [], false⟩
def e21 : Ent := ⟨(Str.ofString "_law_draw"), i_draw, topS 37, [(Str.ofString "_law_pen_here"), (Str.ofString "_law_many"), (Str.ofString "_law_found"), (Str.ofString "_law_stirred")], [(Str.ofString "_law_pen_here"), (Str.ofString "_law_many")], false, false, [], [], false⟩
def e22 : Ent := ⟨(Str.ofString "_law_pick"), i_pick, topS 38, [(Str.ofString "_law_pen_here"), (Str.ofString "_law_some")], [(Str.ofString "_law_pen_here"), (Str.ofString "_law_some")], false, false, [], [], false⟩
def e23 : Ent := ⟨(Str.ofString "_law_same"), i_same, topS 39, [(Str.ofString "_law_found"), (Str.ofString "_law_due")], [(Str.ofString "_law_found"), (Str.ofString "_law_due")], false, false, [], [], false⟩
def e24 : Ent := ⟨(Str.ofString "_law_beat_of"), i_beat_of, topS 40, [(Str.ofString "_law_pen_here"), (Str.ofString "_law_long"), (Str.ofString "_law_rare"), (Str.ofString "_law_some"), (Str.ofString "_law_slot")], [(Str.ofString "_law_pen_here"), (Str.ofString "_law_long")], false, false, [], [], false⟩
def e25 : Ent := ⟨(Str.ofString "_law_whole"), i_whole, topS 41, [(Str.ofString "_law_crowd_here"), (Str.ofString "_law_ticks"), (Str.ofString "_law_beat")], [(Str.ofString "_law_crowd_here")], false, false, [], [], false⟩
def e26 : Ent := ⟨(Str.ofString "_law_times"), i_times, topS 42, [(Str.ofString "_law_crowd_here"), (Str.ofString "_law_found"), (Str.ofString "_law_beat")], [(Str.ofString "_law_crowd_here")], false, false, [], [], false⟩
def e27 : Ent := ⟨(Str.ofString "_law_crowd"), i_crowd, topS 43, [(Str.ofString "_law_pen_here"), (Str.ofString "_law_most"), (Str.ofString "_law_lots"), (Str.ofString "_law_found"), (Str.ofString "_law_turn")], [(Str.ofString "_law_pen_here"), (Str.ofString "_law_most")], false, false, [], [], false⟩
def e28 : Ent := ⟨(Str.ofString "_law_starts"), i_starts, topS 44, [(Str.ofString "_law_pen_here"), (Str.ofString "_law_crowd_here"), (Str.ofString "_law_beat")], [(Str.ofString "_law_pen_here"), (Str.ofString "_law_crowd_here")], false, false, [], [], false⟩
def e29 : Ent := ⟨(Str.ofString "_law_on"), i_on, topS 45, [(Str.ofString "_law_crowd_here"), (Str.ofString "_law_starts_here"), (Str.ofString "_law_tick"), (Str.ofString "_law_found"), (Str.ofString "_law_who"), (Str.ofString "_law_long"), (Str.ofString "_law_slots")], [(Str.ofString "_law_crowd_here"), (Str.ofString "_law_starts_here"), (Str.ofString "_law_tick")], false, false, [], [], false⟩
def e30 : Ent := ⟨(Str.ofString "_law_rows"), i_rows, topS 46, [(Str.ofString "_law_crowd_here"), (Str.ofString "_law_starts_here"), (Str.ofString "_law_tick")], [(Str.ofString "_law_crowd_here"), (Str.ofString "_law_starts_here")], false, false, [], [], false⟩
def e31 : Ent := ⟨(Str.ofString "_law_mark"), i_mark, topS 47, [(Str.ofString "_law_senders")], [(Str.ofString "_law_senders")], false, false, [], [], false⟩
def e32 : Ent := ⟨(Str.ofString "_law_tally"), i_tally, topS 48, [(Str.ofString "_law_crowd_here"), (Str.ofString "_law_starts_here"), (Str.ofString "_law_marks"), (Str.ofString "_law_senders"), (Str.ofString "_law_who")], [(Str.ofString "_law_crowd_here"), (Str.ofString "_law_starts_here")], false, false, [], [], false⟩
def e33 : Ent := ⟨(Str.ofString "law"), i_law_k13, topS 49, [(Str.ofString "_law_script"), (Str.ofString "_law_crowd_here"), (Str.ofString "_law_other"), (Str.ofString "_law_told"), (Str.ofString "_law_due"), (Str.ofString "_law_cell_here"), (Str.ofString "_law_pen_here"), (Str.ofString "_law_turn"), (Str.ofString "_law_lap"), (Str.ofString "_law_starts_here"), (Str.ofString "_law_kept"), (Str.ofString "_law_marks"), (Str.ofString "_law_some"), (Str.ofString "_law_again")], [(Str.ofString "_law_script")], false, false, [], [], false⟩
def e34 : Ent := ⟨(Str.ofString "heard_of"), i_heard_of_S, topS 30, [(Str.ofString "group"), (Str.ofString "offsets"), (Str.ofString "tick")], [(Str.ofString "group"), (Str.ofString "offsets")], true, false, [], [], false⟩
noncomputable def tab : List Ent := [e0, e1, e2, e3, e4, e5, e6, e7, e8, e9, e10, e11, e12, e13, e14, e15, e16, e17, e18, e19, e20, e21, e22, e23, e24, e25, e26, e27, e28, e29, e30, e31, e32, e33, e34]
theorem t0 : e0.fn S = f_is_integer := by kernel_rfl
theorem t1 : e1.fn S = f_is_between := by kernel_rfl
theorem t2 : e2.fn S = f_divisor := by kernel_rfl
theorem t3 : e3.fn S = f_common_multiple := by kernel_rfl
theorem t4 : e4.fn S = f_is_set := by kernel_rfl
theorem t5 : e5.fn S = f_is_pattern := by kernel_rfl
theorem t6 : e6.fn S = f_does_send := by kernel_rfl
theorem t7 : e7.fn S = f_is_group := by kernel_rfl
theorem t8 : e8.fn S = f_need_group := by kernel_rfl
theorem t9 : e9.fn S = f_are_offsets := by kernel_rfl
theorem t10 : e10.fn S = f_need_offsets := by kernel_rfl
theorem t11 : e11.fn S = f_span_of := by kernel_rfl
theorem t12 : e12.fn S = f_need_span := by kernel_rfl
theorem t13 : e13.fn S = f_senders_at := by kernel_rfl
theorem t14 : e14.fn S = f_kind_of := by kernel_rfl
theorem t15 : e15.fn S = f_heard_of := by kernel_rfl
theorem t16 : e16.fn S = f_counts_of := by kernel_rfl
theorem t17 : e17.fn S = f_heard := by kernel_rfl
theorem t18 : e18.fn S = f_counts := by kernel_rfl
theorem t19 : e19.fn S = f_cell := by kernel_rfl
theorem t20 : e20.fn S = f_pen := by kernel_rfl
theorem t21 : e21.fn S = f_draw := by kernel_rfl
theorem t22 : e22.fn S = f_pick := by kernel_rfl
theorem t23 : e23.fn S = f_same := by kernel_rfl
theorem t24 : e24.fn S = f_beat_of := by kernel_rfl
theorem t25 : e25.fn S = f_whole := by kernel_rfl
theorem t26 : e26.fn S = f_times := by kernel_rfl
theorem t27 : e27.fn S = f_crowd := by kernel_rfl
theorem t28 : e28.fn S = f_starts := by kernel_rfl
theorem t29 : e29.fn S = f_on := by kernel_rfl
theorem t30 : e30.fn S = f_rows := by kernel_rfl
theorem t31 : e31.fn S = f_mark := by kernel_rfl
theorem t32 : e32.fn S = f_tally := by kernel_rfl
theorem t33 : e33.fn S = f_law_k13 := by kernel_rfl
theorem t34 : e34.fn S = f_heard_of_S := by kernel_rfl
theorem hT : ∀ e ∈ tab, T e.id = some (e.fn S) := by
  intro e he
  simp only [tab, List.mem_cons, List.not_mem_nil, or_false] at he
  rcases he with rfl | rfl | rfl | rfl | rfl | rfl | rfl | rfl | rfl | rfl | rfl | rfl | rfl | rfl | rfl | rfl | rfl | rfl | rfl | rfl | rfl | rfl | rfl | rfl | rfl | rfl | rfl | rfl | rfl | rfl | rfl | rfl | rfl | rfl | rfl
  · exact (inferInstance : Has T i_is_integer f_is_integer).h.trans (congrArg some t0.symm)
  · exact (inferInstance : Has T i_is_between f_is_between).h.trans (congrArg some t1.symm)
  · exact (inferInstance : Has T i_divisor f_divisor).h.trans (congrArg some t2.symm)
  · exact (inferInstance : Has T i_common_multiple f_common_multiple).h.trans (congrArg some t3.symm)
  · exact (inferInstance : Has T i_is_set f_is_set).h.trans (congrArg some t4.symm)
  · exact (inferInstance : Has T i_is_pattern f_is_pattern).h.trans (congrArg some t5.symm)
  · exact (inferInstance : Has T i_does_send f_does_send).h.trans (congrArg some t6.symm)
  · exact (inferInstance : Has T i_is_group f_is_group).h.trans (congrArg some t7.symm)
  · exact (inferInstance : Has T i_need_group f_need_group).h.trans (congrArg some t8.symm)
  · exact (inferInstance : Has T i_are_offsets f_are_offsets).h.trans (congrArg some t9.symm)
  · exact (inferInstance : Has T i_need_offsets f_need_offsets).h.trans (congrArg some t10.symm)
  · exact (inferInstance : Has T i_span_of f_span_of).h.trans (congrArg some t11.symm)
  · exact (inferInstance : Has T i_need_span f_need_span).h.trans (congrArg some t12.symm)
  · exact (inferInstance : Has T i_senders_at f_senders_at).h.trans (congrArg some t13.symm)
  · exact (inferInstance : Has T i_kind_of f_kind_of).h.trans (congrArg some t14.symm)
  · exact (inferInstance : Has T i_heard_of f_heard_of).h.trans (congrArg some t15.symm)
  · exact (inferInstance : Has T i_counts_of f_counts_of).h.trans (congrArg some t16.symm)
  · exact (inferInstance : Has T i_heard f_heard).h.trans (congrArg some t17.symm)
  · exact (inferInstance : Has T i_counts f_counts).h.trans (congrArg some t18.symm)
  · exact (inferInstance : Has T i_cell f_cell).h.trans (congrArg some t19.symm)
  · exact (inferInstance : Has T i_pen f_pen).h.trans (congrArg some t20.symm)
  · exact (inferInstance : Has T i_draw f_draw).h.trans (congrArg some t21.symm)
  · exact (inferInstance : Has T i_pick f_pick).h.trans (congrArg some t22.symm)
  · exact (inferInstance : Has T i_same f_same).h.trans (congrArg some t23.symm)
  · exact (inferInstance : Has T i_beat_of f_beat_of).h.trans (congrArg some t24.symm)
  · exact (inferInstance : Has T i_whole f_whole).h.trans (congrArg some t25.symm)
  · exact (inferInstance : Has T i_times f_times).h.trans (congrArg some t26.symm)
  · exact (inferInstance : Has T i_crowd f_crowd).h.trans (congrArg some t27.symm)
  · exact (inferInstance : Has T i_starts f_starts).h.trans (congrArg some t28.symm)
  · exact (inferInstance : Has T i_on f_on).h.trans (congrArg some t29.symm)
  · exact (inferInstance : Has T i_rows f_rows).h.trans (congrArg some t30.symm)
  · exact (inferInstance : Has T i_mark f_mark).h.trans (congrArg some t31.symm)
  · exact (inferInstance : Has T i_tally f_tally).h.trans (congrArg some t32.symm)
  · exact (inferInstance : Has T i_law_k13 f_law_k13).h.trans (congrArg some t33.symm)
  · exact (inferInstance : Has T i_heard_of_S f_heard_of_S).h.trans (congrArg some t34.symm)
theorem hU : ∀ e ∈ tab, ∀ p ∈ e.use, ∃ e' ∈ tab, p = (e'.name, e'.id) := by
  intro e he
  simp only [tab, List.mem_cons, List.not_mem_nil, or_false] at he
  rcases he with rfl | rfl | rfl | rfl | rfl | rfl | rfl | rfl | rfl | rfl | rfl | rfl | rfl | rfl | rfl | rfl | rfl | rfl | rfl | rfl | rfl | rfl | rfl | rfl | rfl | rfl | rfl | rfl | rfl | rfl | rfl | rfl | rfl | rfl | rfl
  · intro p hp; cases hp
  · intro p hp; cases hp
  · intro p hp; cases hp
  · intro p hp; cases hp
  · intro p hp; cases hp
  · intro p hp; cases hp
  · intro p hp; cases hp
  · intro p hp; cases hp
  · intro p hp; cases hp
  · intro p hp; cases hp
  · intro p hp; cases hp
  · intro p hp; cases hp
  · intro p hp; cases hp
  · intro p hp; cases hp
  · intro p hp; cases hp
  · intro p hp; cases hp
  · intro p hp
    simp only [e16, List.mem_cons, List.not_mem_nil, or_false] at hp
    rcases hp with rfl
    · exact ⟨e34, by simp [tab], rfl⟩
  · intro p hp; cases hp
  · intro p hp; cases hp
  · intro p hp; cases hp
  · intro p hp; cases hp
  · intro p hp; cases hp
  · intro p hp; cases hp
  · intro p hp; cases hp
  · intro p hp; cases hp
  · intro p hp; cases hp
  · intro p hp; cases hp
  · intro p hp; cases hp
  · intro p hp; cases hp
  · intro p hp; cases hp
  · intro p hp; cases hp
  · intro p hp; cases hp
  · intro p hp; cases hp
  · intro p hp; cases hp
  · intro p hp; cases hp
theorem hW : ∀ q ∈ S.kws, ∃ e ∈ tab, q.1 = e.name ∧ q.2.2.1 = e.id ∧ (q.2.1, q.2.2.2) ∈ e.kws := by
  intro q hq
  simp only [S, List.mem_cons, List.not_mem_nil, or_false] at hq
theorem sc0 : FnScope e0.N e0.ps (defScope e0.st) := ⟨rfl, rfl, rfl, by decide +kernel, rfl, by decide +kernel, by decide +kernel⟩
theorem sc1 : FnScope e1.N e1.ps (defScope e1.st) := ⟨rfl, rfl, rfl, by decide +kernel, rfl, by decide +kernel, by decide +kernel⟩
theorem sc2 : FnScope e2.N e2.ps (defScope e2.st) := ⟨rfl, rfl, rfl, by decide +kernel, rfl, by decide +kernel, by decide +kernel⟩
theorem sc3 : FnScope e3.N e3.ps (defScope e3.st) := ⟨rfl, rfl, rfl, by decide +kernel, rfl, by decide +kernel, by decide +kernel⟩
theorem sc4 : FnScope e4.N e4.ps (defScope e4.st) := ⟨rfl, rfl, rfl, by decide +kernel, rfl, by decide +kernel, by decide +kernel⟩
theorem sc5 : FnScope e5.N e5.ps (defScope e5.st) := ⟨rfl, rfl, rfl, by decide +kernel, rfl, by decide +kernel, by decide +kernel⟩
theorem sc6 : FnScope e6.N e6.ps (defScope e6.st) := ⟨rfl, rfl, rfl, by decide +kernel, rfl, by decide +kernel, by decide +kernel⟩
theorem sc7 : FnScope e7.N e7.ps (defScope e7.st) := ⟨rfl, rfl, rfl, by decide +kernel, rfl, by decide +kernel, by decide +kernel⟩
theorem sc8 : FnScope e8.N e8.ps (defScope e8.st) := ⟨rfl, rfl, rfl, by decide +kernel, rfl, by decide +kernel, by decide +kernel⟩
theorem sc9 : FnScope e9.N e9.ps (defScope e9.st) := ⟨rfl, rfl, rfl, by decide +kernel, rfl, by decide +kernel, by decide +kernel⟩
theorem sc10 : FnScope e10.N e10.ps (defScope e10.st) := ⟨rfl, rfl, rfl, by decide +kernel, rfl, by decide +kernel, by decide +kernel⟩
theorem sc11 : FnScope e11.N e11.ps (defScope e11.st) := ⟨rfl, rfl, rfl, by decide +kernel, rfl, by decide +kernel, by decide +kernel⟩
theorem sc12 : FnScope e12.N e12.ps (defScope e12.st) := ⟨rfl, rfl, rfl, by decide +kernel, rfl, by decide +kernel, by decide +kernel⟩
theorem sc13 : FnScope e13.N e13.ps (defScope e13.st) := ⟨rfl, rfl, rfl, by decide +kernel, rfl, by decide +kernel, by decide +kernel⟩
theorem sc14 : FnScope e14.N e14.ps (defScope e14.st) := ⟨rfl, rfl, rfl, by decide +kernel, rfl, by decide +kernel, by decide +kernel⟩
theorem sc15 : FnScope e15.N e15.ps (defScope e15.st) := ⟨rfl, rfl, rfl, by decide +kernel, rfl, by decide +kernel, by decide +kernel⟩
theorem sc16 : FnScope e16.N e16.ps (defScope e16.st) := ⟨rfl, rfl, rfl, by decide +kernel, rfl, by decide +kernel, by decide +kernel⟩
theorem sc17 : FnScope e17.N e17.ps (defScope e17.st) := ⟨rfl, rfl, rfl, by decide +kernel, rfl, by decide +kernel, by decide +kernel⟩
theorem sc18 : FnScope e18.N e18.ps (defScope e18.st) := ⟨rfl, rfl, rfl, by decide +kernel, rfl, by decide +kernel, by decide +kernel⟩
theorem sc19 : FnScope e19.N e19.ps (defScope e19.st) := ⟨rfl, rfl, rfl, by decide +kernel, rfl, by decide +kernel, by decide +kernel⟩
theorem sc20 : FnScope e20.N e20.ps (defScope e20.st) := ⟨rfl, rfl, rfl, by decide +kernel, rfl, by decide +kernel, by decide +kernel⟩
theorem sc21 : FnScope e21.N e21.ps (defScope e21.st) := ⟨rfl, rfl, rfl, by decide +kernel, rfl, by decide +kernel, by decide +kernel⟩
theorem sc22 : FnScope e22.N e22.ps (defScope e22.st) := ⟨rfl, rfl, rfl, by decide +kernel, rfl, by decide +kernel, by decide +kernel⟩
theorem sc23 : FnScope e23.N e23.ps (defScope e23.st) := ⟨rfl, rfl, rfl, by decide +kernel, rfl, by decide +kernel, by decide +kernel⟩
theorem sc24 : FnScope e24.N e24.ps (defScope e24.st) := ⟨rfl, rfl, rfl, by decide +kernel, rfl, by decide +kernel, by decide +kernel⟩
theorem sc25 : FnScope e25.N e25.ps (defScope e25.st) := ⟨rfl, rfl, rfl, by decide +kernel, rfl, by decide +kernel, by decide +kernel⟩
theorem sc26 : FnScope e26.N e26.ps (defScope e26.st) := ⟨rfl, rfl, rfl, by decide +kernel, rfl, by decide +kernel, by decide +kernel⟩
theorem sc27 : FnScope e27.N e27.ps (defScope e27.st) := ⟨rfl, rfl, rfl, by decide +kernel, rfl, by decide +kernel, by decide +kernel⟩
theorem sc28 : FnScope e28.N e28.ps (defScope e28.st) := ⟨rfl, rfl, rfl, by decide +kernel, rfl, by decide +kernel, by decide +kernel⟩
theorem sc29 : FnScope e29.N e29.ps (defScope e29.st) := ⟨rfl, rfl, rfl, by decide +kernel, rfl, by decide +kernel, by decide +kernel⟩
theorem sc30 : FnScope e30.N e30.ps (defScope e30.st) := ⟨rfl, rfl, rfl, by decide +kernel, rfl, by decide +kernel, by decide +kernel⟩
theorem sc31 : FnScope e31.N e31.ps (defScope e31.st) := ⟨rfl, rfl, rfl, by decide +kernel, rfl, by decide +kernel, by decide +kernel⟩
theorem sc32 : FnScope e32.N e32.ps (defScope e32.st) := ⟨rfl, rfl, rfl, by decide +kernel, rfl, by decide +kernel, by decide +kernel⟩
theorem sc33 : FnScope e33.N e33.ps (defScope e33.st) := ⟨rfl, rfl, rfl, by decide +kernel, rfl, by decide +kernel, by decide +kernel⟩
theorem sc34 : FnScope e34.N e34.ps (defScope e34.st) := ⟨rfl, rfl, rfl, by decide +kernel, rfl, by decide +kernel, by decide +kernel⟩
theorem ents {K : PySem.W.Frag} {h : Heap} {mg : Str → Option Value} (X : K.In h) (G : h.Ns mainGlobals mg)
    (x0 : EntOk K mg e0)
    (x1 : EntOk K mg e1)
    (x2 : EntOk K mg e2)
    (x3 : EntOk K mg e3)
    (x4 : EntOk K mg e4)
    (x5 : EntOk K mg e5)
    (x6 : EntOk K mg e6)
    (x7 : EntOk K mg e7)
    (x8 : EntOk K mg e8)
    (x9 : EntOk K mg e9)
    (x10 : EntOk K mg e10)
    (x11 : EntOk K mg e11)
    (x12 : EntOk K mg e12)
    (x13 : EntOk K mg e13)
    (x14 : EntOk K mg e14)
    (x15 : EntOk K mg e15)
    (x16 : EntOk K mg e16)
    (x17 : EntOk K mg e17)
    (x18 : EntOk K mg e18)
    (x19 : EntOk K mg e19)
    (x20 : EntOk K mg e20)
    (x21 : EntOk K mg e21)
    (x22 : EntOk K mg e22)
    (x23 : EntOk K mg e23)
    (x24 : EntOk K mg e24)
    (x25 : EntOk K mg e25)
    (x26 : EntOk K mg e26)
    (x27 : EntOk K mg e27)
    (x28 : EntOk K mg e28)
    (x29 : EntOk K mg e29)
    (x30 : EntOk K mg e30)
    (x31 : EntOk K mg e31)
    (x32 : EntOk K mg e32)
    (x33 : EntOk K mg e33)
    (x34 : EntOk K mg e34)
    : ∀ e ∈ tab, EntOk K mg e := by
  intro e he
  simp only [tab, List.mem_cons, List.not_mem_nil, or_false] at he
  rcases he with rfl | rfl | rfl | rfl | rfl | rfl | rfl | rfl | rfl | rfl | rfl | rfl | rfl | rfl | rfl | rfl | rfl | rfl | rfl | rfl | rfl | rfl | rfl | rfl | rfl | rfl | rfl | rfl | rfl | rfl | rfl | rfl | rfl | rfl | rfl
  · exact x0
  · exact x1
  · exact x2
  · exact x3
  · exact x4
  · exact x5
  · exact x6
  · exact x7
  · exact x8
  · exact x9
  · exact x10
  · exact x11
  · exact x12
  · exact x13
  · exact x14
  · exact x15
  · exact x16
  · exact x17
  · exact x18
  · exact x19
  · exact x20
  · exact x21
  · exact x22
  · exact x23
  · exact x24
  · exact x25
  · exact x26
  · exact x27
  · exact x28
  · exact x29
  · exact x30
  · exact x31
  · exact x32
  · exact x33
  · exact x34
theorem law_true : ∀ ns : List Int, ns.length ≤ 63 → ∃ fr ss, evF T WW 30 i_law_k13 [(scr (ns.map PyData.int), false)] = some (.bool true, fr, ss) := fun ns hn => plain_k13 ns hn
end LW
open PySem PySem.W PyProof.Rows LW
set_option maxHeartbeats 0 in
theorem PySem.Challenge.cw_anyshift_k13_what_is_heard_and_counted_holds : PySem.Challenge.rw_anyshift_k13_what_is_heard_and_counted.Holds := by
  w_on; o_law; k_head; (case hw => w_witness2)
  k_fill
  refine MI.walk_g (l := PySem.Challenge.rw_anyshift_k13_what_is_heard_and_counted) (n := 63) (k := 30) (id := i_law_k13) (x := Str.ofString "_law_script") (F := MI.evF T WW 30) rfl (by decide) rfl ⟨rfl, by decide, by decide⟩ (fun w h Y => PySem.W.kIn_of Y) ?F law_true
  case F =>
    intro w mg fa h KX G hmg
    refine' MI.law_ok (e := e33) (T := T) (W := WW) (S := S) (tab := tab) (x := Str.ofString "_law_script") (by simp [tab]) rfl hmg rfl hT hU hW ?E ?C ?B
    case E =>
      refine' ents KX G ?x0 ?x1 ?x2 ?x3 ?x4 ?x5 ?x6 ?x7 ?x8 ?x9 ?x10 ?x11 ?x12 ?x13 ?x14 ?x15 ?x16 ?x17 ?x18 ?x19 ?x20 ?x21 ?x22 ?x23 ?x24 ?x25 ?x26 ?x27 ?x28 ?x29 ?x30 ?x31 ?x32 ?x33 ?x34
      case x0 => (refine' MI.ent_ok KX G ?a ?l ?c ?k (fun us hl => match us, hl with | [_], _ => rfl) (fun q hq => absurd hq List.not_mem_nil) sc0; (case a => k_is); (case l => k_is); (case c => k_is); (case k => k_is))
      case x1 => (refine' MI.ent_ok KX G ?a ?l ?c ?k (fun us hl => match us, hl with | [_, _, _], _ => rfl) (fun q hq => absurd hq List.not_mem_nil) sc1; (case a => k_is); (case l => k_is); (case c => k_is); (case k => k_is))
      case x2 => (refine' MI.ent_ok KX G ?a ?l ?c ?k (fun us hl => match us, hl with | [_, _], _ => rfl) (fun q hq => absurd hq List.not_mem_nil) sc2; (case a => k_is); (case l => k_is); (case c => k_is); (case k => k_is))
      case x3 => (refine' MI.ent_ok KX G ?a ?l ?c ?k (fun us hl => match us, hl with | [_, _], _ => rfl) (fun q hq => absurd hq List.not_mem_nil) sc3; (case a => k_is); (case l => k_is); (case c => k_is); (case k => k_is))
      case x4 => (refine' MI.ent_ok KX G ?a ?l ?c ?k (fun us hl => match us, hl with | [_, _, _], _ => rfl) (fun q hq => absurd hq List.not_mem_nil) sc4; (case a => k_is); (case l => k_is); (case c => k_is); (case k => k_is))
      case x5 => (refine' MI.ent_ok KX G ?a ?l ?c ?k (fun us hl => match us, hl with | [_], _ => rfl) (fun q hq => absurd hq List.not_mem_nil) sc5; (case a => k_is); (case l => k_is); (case c => k_is); (case k => k_is))
      case x6 => (refine' MI.ent_ok KX G ?a ?l ?c ?k (fun us hl => match us, hl with | [_, _, _], _ => rfl) (fun q hq => absurd hq List.not_mem_nil) sc6; (case a => k_is); (case l => k_is); (case c => k_is); (case k => k_is))
      case x7 => (refine' MI.ent_ok KX G ?a ?l ?c ?k (fun us hl => match us, hl with | [_], _ => rfl) (fun q hq => absurd hq List.not_mem_nil) sc7; (case a => k_is); (case l => k_is); (case c => k_is); (case k => k_is))
      case x8 => (refine' MI.ent_ok KX G ?a ?l ?c ?k (fun us hl => match us, hl with | [_], _ => rfl) (fun q hq => absurd hq List.not_mem_nil) sc8; (case a => k_is); (case l => k_is); (case c => k_is); (case k => k_is))
      case x9 => (refine' MI.ent_ok KX G ?a ?l ?c ?k (fun us hl => match us, hl with | [_, _], _ => rfl) (fun q hq => absurd hq List.not_mem_nil) sc9; (case a => k_is); (case l => k_is); (case c => k_is); (case k => k_is))
      case x10 => (refine' MI.ent_ok KX G ?a ?l ?c ?k (fun us hl => match us, hl with | [_, _], _ => rfl) (fun q hq => absurd hq List.not_mem_nil) sc10; (case a => k_is); (case l => k_is); (case c => k_is); (case k => k_is))
      case x11 => (refine' MI.ent_ok KX G ?a ?l ?c ?k (fun us hl => match us, hl with | [_], _ => rfl) (fun q hq => absurd hq List.not_mem_nil) sc11; (case a => k_is); (case l => k_is); (case c => k_is); (case k => k_is))
      case x12 => (refine' MI.ent_ok KX G ?a ?l ?c ?k (fun us hl => match us, hl with | [_], _ => rfl) (fun q hq => absurd hq List.not_mem_nil) sc12; (case a => k_is); (case l => k_is); (case c => k_is); (case k => k_is))
      case x13 => (refine' MI.ent_ok KX G ?a ?l ?c ?k (fun us hl => match us, hl with | [_, _, _], _ => rfl) (fun q hq => absurd hq List.not_mem_nil) sc13; (case a => k_is); (case l => k_is); (case c => k_is); (case k => k_is))
      case x14 => (refine' MI.ent_ok KX G ?a ?l ?c ?k (fun us hl => match us, hl with | [_], _ => rfl) (fun q hq => absurd hq List.not_mem_nil) sc14; (case a => k_is); (case l => k_is); (case c => k_is); (case k => k_is))
      case x15 => (refine' MI.ent_ok KX G ?a ?l ?c ?k (fun us hl => match us, hl with | [_, _], _ => rfl) (fun q hq => absurd hq List.not_mem_nil) sc15; (case a => k_is); (case l => k_is); (case c => k_is); (case k => k_is))
      case x16 => (refine' MI.ent_ok KX G ?a ?l ?c ?k (fun us hl => match us, hl with | [_, _], _ => rfl) (fun q hq => absurd hq List.not_mem_nil) sc16; (case a => k_is); (case l => k_is); (case c => k_is); (case k => k_is))
      case x17 => (refine' MI.ent_ok KX G ?a ?l ?c ?k (fun us hl => match us, hl with | [_, _], _ => rfl) (fun q hq => absurd hq List.not_mem_nil) sc17; (case a => k_is); (case l => k_is); (case c => k_is); (case k => k_is))
      case x18 => (refine' MI.ent_ok KX G ?a ?l ?c ?k (fun us hl => match us, hl with | [_, _], _ => rfl) (fun q hq => absurd hq List.not_mem_nil) sc18; (case a => k_is); (case l => k_is); (case c => k_is); (case k => k_is))
      case x19 => (refine' MI.ent_ok KX G ?a ?l ?c ?k (fun us hl => match us, hl with | [_, _], _ => rfl) (fun q hq => absurd hq List.not_mem_nil) sc19; (case a => k_is); (case l => k_is); (case c => k_is); (case k => k_is))
      case x20 => (refine' MI.ent_ok KX G ?a ?l ?c ?k (fun us hl => match us, hl with | [_], _ => rfl) (fun q hq => absurd hq List.not_mem_nil) sc20; (case a => k_is); (case l => k_is); (case c => k_is); (case k => k_is))
      case x21 => (refine' MI.ent_ok KX G ?a ?l ?c ?k (fun us hl => match us, hl with | [_, _], _ => rfl) (fun q hq => absurd hq List.not_mem_nil) sc21; (case a => k_is); (case l => k_is); (case c => k_is); (case k => k_is))
      case x22 => (refine' MI.ent_ok KX G ?a ?l ?c ?k (fun us hl => match us, hl with | [_, _], _ => rfl) (fun q hq => absurd hq List.not_mem_nil) sc22; (case a => k_is); (case l => k_is); (case c => k_is); (case k => k_is))
      case x23 => (refine' MI.ent_ok KX G ?a ?l ?c ?k (fun us hl => match us, hl with | [_, _], _ => rfl) (fun q hq => absurd hq List.not_mem_nil) sc23; (case a => k_is); (case l => k_is); (case c => k_is); (case k => k_is))
      case x24 => (refine' MI.ent_ok KX G ?a ?l ?c ?k (fun us hl => match us, hl with | [_, _], _ => rfl) (fun q hq => absurd hq List.not_mem_nil) sc24; (case a => k_is); (case l => k_is); (case c => k_is); (case k => k_is))
      case x25 => (refine' MI.ent_ok KX G ?a ?l ?c ?k (fun us hl => match us, hl with | [_], _ => rfl) (fun q hq => absurd hq List.not_mem_nil) sc25; (case a => k_is); (case l => k_is); (case c => k_is); (case k => k_is))
      case x26 => (refine' MI.ent_ok KX G ?a ?l ?c ?k (fun us hl => match us, hl with | [_], _ => rfl) (fun q hq => absurd hq List.not_mem_nil) sc26; (case a => k_is); (case l => k_is); (case c => k_is); (case k => k_is))
      case x27 => (refine' MI.ent_ok KX G ?a ?l ?c ?k (fun us hl => match us, hl with | [_, _], _ => rfl) (fun q hq => absurd hq List.not_mem_nil) sc27; (case a => k_is); (case l => k_is); (case c => k_is); (case k => k_is))
      case x28 => (refine' MI.ent_ok KX G ?a ?l ?c ?k (fun us hl => match us, hl with | [_, _], _ => rfl) (fun q hq => absurd hq List.not_mem_nil) sc28; (case a => k_is); (case l => k_is); (case c => k_is); (case k => k_is))
      case x29 => (refine' MI.ent_ok KX G ?a ?l ?c ?k (fun us hl => match us, hl with | [_, _, _], _ => rfl) (fun q hq => absurd hq List.not_mem_nil) sc29; (case a => k_is); (case l => k_is); (case c => k_is); (case k => k_is))
      case x30 => (refine' MI.ent_ok KX G ?a ?l ?c ?k (fun us hl => match us, hl with | [_, _], _ => rfl) (fun q hq => absurd hq List.not_mem_nil) sc30; (case a => k_is); (case l => k_is); (case c => k_is); (case k => k_is))
      case x31 => (refine' MI.ent_ok KX G ?a ?l ?c ?k (fun us hl => match us, hl with | [_], _ => rfl) (fun q hq => absurd hq List.not_mem_nil) sc31; (case a => k_is); (case l => k_is); (case c => k_is); (case k => k_is))
      case x32 => (refine' MI.ent_ok KX G ?a ?l ?c ?k (fun us hl => match us, hl with | [_, _], _ => rfl) (fun q hq => absurd hq List.not_mem_nil) sc32; (case a => k_is); (case l => k_is); (case c => k_is); (case k => k_is))
      case x33 => (refine' MI.ent_ok KX G ?a ?l ?c ?k (fun us hl => match us, hl with | [_], _ => rfl) (fun q hq => absurd hq List.not_mem_nil) sc33; (case a => k_is); (case l => k_is); (case c => k_is); (case k => k_is))
      case x34 => (refine' MI.ent_ok KX G ?a ?l ?c ?k (fun us hl => match us, hl with | [_, _], _ => rfl) (fun q hq => absurd hq List.not_mem_nil) sc34; (case a => k_is); (case l => k_is); (case c => k_is); (case k => k_is))
    case C =>
      intro p hp
      simp only [S, List.mem_cons, List.not_mem_nil, or_false] at hp
      rcases hp with rfl | rfl | rfl | rfl | rfl | rfl | rfl
      · (refine' MI.cst_i KX G ?qz; (case qz => k_is))
      · (refine' MI.cst_i KX G ?qz; (case qz => k_is))
      · (refine' MI.cst_i KX G ?qz; (case qz => k_is))
      · (refine' MI.cst_i KX G ?qz; (case qz => k_is))
      · (refine' MI.cst_i KX G ?qz; (case qz => k_is))
      · (refine' MI.cst_i KX G ?qz; (case qz => k_is))
      · (refine' MI.cst_i KX G ?qz; (case qz => k_is))
    case B =>
      refine MI.blt_all fun y hy => ?_
      simp only [S, List.mem_cons, List.not_mem_nil, or_false] at hy
      rcases hy with rfl | rfl | rfl | rfl | rfl | rfl | rfl | rfl | rfl | rfl | rfl | rfl
      · (refine' PySem.W.mg_none_of KX G ?qz; (case qz => k_is))
      · (refine' PySem.W.mg_none_of KX G ?qz; (case qz => k_is))
      · (refine' PySem.W.mg_none_of KX G ?qz; (case qz => k_is))
      · (refine' PySem.W.mg_none_of KX G ?qz; (case qz => k_is))
      · (refine' PySem.W.mg_none_of KX G ?qz; (case qz => k_is))
      · (refine' PySem.W.mg_none_of KX G ?qz; (case qz => k_is))
      · (refine' PySem.W.mg_none_of KX G ?qz; (case qz => k_is))
      · (refine' PySem.W.mg_none_of KX G ?qz; (case qz => k_is))
      · (refine' PySem.W.mg_none_of KX G ?qz; (case qz => k_is))
      · (refine' PySem.W.mg_none_of KX G ?qz; (case qz => k_is))
      · (refine' PySem.W.mg_none_of KX G ?qz; (case qz => k_is))
      · (refine' PySem.W.mg_none_of KX G ?qz; (case qz => k_is))
