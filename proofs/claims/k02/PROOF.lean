import PyProof.Rows.All
import Wide.All
import OpenK.AllK
import Wide.FinOn
import HandS.ForMost
import HandS.Walk
import HandS.IsInst
import HandS.TupAny
import HandS.TupMul
import HandS.SortInts
import HandS.Zip
import HandS.Star
import HandS.Style
import PySem.Challenge.RW_anyshift_k02_who_sends_when
set_option Elab.async false
set_option linter.all false
set_option maxRecDepth 100000
set_option maxHeartbeats 4000000
/-! MI0: a small interpreter over data: its syntax, its values, its evaluation. -/
namespace MI
open PySem

abbrev D := PyData
/-- a variable: unset, a datum that stands still, a list or dict that this variable alone holds -/
inductive Slot where
  | no
  | dat (d : PyData)
  | own (d : PyData)
abbrev Rho := List Slot

inductive Bop where
  | add | sub | mul | fdiv | mod | pow
  deriving DecidableEq
inductive Cop where
  | eq | ne | lt | le | gt | ge | isin | notin
  deriving DecidableEq
/-- built-ins over values -/
inductive Bi where
  | len | all | any | tuple | list | sorted | sum | max1 | min1 | max2 | min2 | repr | str | int | isInt | isBool | isTuple | isStr | isList
  deriving DecidableEq
/-- targets -/
inductive MT where
  | nm (i : Nat) | tp (ts : MT) | nil | cons (a r : MT)
/-- expressions; lists of them by nil, cons, star -/
inductive ME where
  | lit (d : PyData)
  | var (i : Nat)
  | bin (op : Bop) (a b : ME)
  | neg (a : ME)
  | not (a : ME)
  | and (a b : ME)
  | or (a b : ME)
  | cmp (op : Cop) (a b : ME)
  | cmp2 (op op' : Cop) (a b c : ME)
  | isN (a : ME)
  | notN (a : ME)
  | ite (c a b : ME)
  | call (f : Nat) (as : ME)
  | bi (b : Bi) (as : ME)
  | idx (a i : ME)
  | sl (a lo hi : ME)
  | tup (as : ME)
  | lst (as : ME)
  | dic
  | comp (vs : List Nat) (tg : MT) (it c e : ME)
  | comp2 (vs vs1 : List Nat) (tg : MT) (it c : ME) (tg1 : MT) (it1 c1 e : ME)
  | rng1 (a : ME) | rng2 (a b : ME) | rng3 (a b c : ME)
  | enm (a : ME) | zp (a b : ME)
  | it (a : ME) | tst (a : ME)
  | nil | cons (a r : ME) | star (a r : ME)
/-- statements; blocks by seq -/
inductive MS where
  | skip
  | seq (s t : MS)
  | asg (tg : MT) (e : ME)
  | par (tg : MT) (es : ME)
  | put (i : Nat) (k e : ME)
  | app (i : Nat) (e : ME)
  | ext (i : Nat) (e : ME)
  | expr (e : ME)
  | ret (e : ME)
  | ite (c : ME) (s t : MS)
  | loop (tg : MT) (it : ME) (s : MS)
  | while (c : ME) (s : MS)
  | brk | cont
  | stuck

/-! ### values -/
/-- the script: a list that nobody may change -/
def scr (ds : List PyData) : PyData := .dict [(.none, .list ds)]

def ixOf (n : Nat) (i : Int) : Option Nat :=
  if 0 ≤ i then (if i < n then some i.toNat else none)
  else if -(n : Int) ≤ i then some (i + n).toNat else none
/-- where a slice's part falls -/
def cutIx (n d : Nat) : Option Int → Nat
  | none => d
  | some i => if i < 0 then (i + (n : Int)).toNat else min i.toNat n
def cut {α : Type} (xs : List α) (lo hi : Option Int) : List α :=
  let a := cutIx xs.length 0 lo
  let b := cutIx xs.length xs.length hi
  (xs.drop a).take (b - a)

def flat : PyData → Bool
  | .none => true | .bool _ => true | .int _ => true | .str _ => true
  | _ => false
/-- equality of flat values -/
def eqF : PyData → PyData → Bool
  | .none, .none => true
  | .bool a, .bool b => a == b
  | .bool a, .int b => (if a then 1 else 0) == b
  | .int a, .bool b => a == (if b then 1 else 0)
  | .int a, .int b => a == b
  | .str a, .str b => a == b
  | _, _ => false
def small (i : Int) : Bool := decide (-(2 ^ 64) < i) && decide (i < 2 ^ 64)
def binD : Bop → PyData → PyData → Option (PyData × Bool)
  | .add, .int a, .int b => some (.int (a + b), false)
  | .add, .list a, .list b => if a.length + b.length ≤ sizeLine then some (.list (a ++ b), true) else none
  | .add, .tuple a, .tuple b => if a.length + b.length ≤ sizeLine then some (.tuple (a ++ b), false) else none
  | .add, .str a, .str b => if a.length + b.length ≤ sizeLine then some (.str (a ++ b), false) else none
  | .sub, .int a, .int b => some (.int (a - b), false)
  | .mul, .int a, .int b => if small a || small b then some (.int (a * b), false) else none
  | .mul, .list a, .int k => if -(2 ^ 63) ≤ k ∧ k < 2 ^ 63 ∧ a.length * k.toNat ≤ sizeLine then some (.list (List.replicate k.toNat a).flatten, true) else none
  | .mul, .tuple a, .int k => if a ≠ [] ∧ 2 ≤ k ∧ k ≤ 1000 ∧ a.length ≤ 1000 then some (.tuple (List.replicate k.toNat a).flatten, false) else none
  | .fdiv, .int a, .int b => if 0 < b ∧ b < 1073741824 then some (.int (a / b), false) else none
  | .mod, .int a, .int b => if 0 < b then some (.int (a % b), false) else none
  | .pow, .int a, .int b => if 0 ≤ b ∧ b ≤ 1000000 ∧ a.natAbs < 2 ^ 64 then some (.int (a ^ b.toNat), false) else none
  | _, _, _ => none
def lay : PyData → Bool := SeqAt.shaped
/-- keys of dicts: ints and texts -/
def isKey : PyData → Bool
  | .int _ => true
  | .str _ => true
  | _ => false
def eqK : PyData → PyData → Bool
  | .int a, .int b => decide (a = b)
  | .str a, .str b => decide (a = b)
  | _, _ => false
def isScr : List (PyData × PyData) → Bool
  | (.none, _) :: _ => true
  | _ => false
def dGet (es : List (PyData × PyData)) (k : PyData) : Option PyData := (es.find? fun p => eqK p.1 k).map (·.2)
def dPut (es : List (PyData × PyData)) (k v : PyData) : List (PyData × PyData) :=
  if (es.any fun p => eqK p.1 k) = true then es.map (fun p => if eqK p.1 k then (p.1, v) else p) else es ++ [(k, v)]
def inD (x : PyData) (ys : List PyData) : Option Bool := if flat x && ys.all flat then some (ys.any fun y => eqF y x) else none
def cmpD : Cop → PyData → PyData → Option Bool
  | .eq, .int a, .int b => some (decide (a = b))
  | .eq, .str a, .str b => some (decide (a = b))
  | .ne, .int a, .int b => some (!decide (a = b))
  | .ne, .str a, .str b => some (!decide (a = b))
  | .eq, a, b => if lay a && lay b then some (PyData.eqv a b) else none
  | .ne, a, b => if lay a && lay b then some (!PyData.eqv a b) else none
  | .lt, .int a, .int b => some (decide (a < b))
  | .le, .int a, .int b => some (decide (a ≤ b))
  | .gt, .int a, .int b => some (decide (b < a))
  | .ge, .int a, .int b => some (decide (b ≤ a))
  | .isin, x, .list ys => inD x ys
  | .isin, x, .tuple ys => inD x ys
  | .isin, x, .dict es => if isKey x && !isScr es then some (dGet es x).isSome else none
  | .notin, x, .dict es => if isKey x && !isScr es then some (!(dGet es x).isSome) else none
  | .notin, x, .list ys => (inD x ys).map (!·)
  | .notin, x, .tuple ys => (inD x ys).map (!·)
  | _, _, _ => none
def idxD : PyData → PyData → Option PyData
  | .list xs, .int i => (ixOf xs.length i).bind (xs[·]?)
  | .tuple xs, .int i => (ixOf xs.length i).bind (xs[·]?)
  | .dict [(.none, .list xs)], .int i => (ixOf xs.length i).bind (xs[·]?)
  | .str z, .int i => if z.length ≤ sizeLine then ((ixOf z.cps.toList.length i).bind (z.cps.toList[·]?)).map fun c => .str ⟨#[c]⟩ else none
  | _, _ => none
def partD : Option PyData → Option (Option Int)
  | none => some none
  | some (.int i) => some (some i)
  | _ => none
def slD : PyData → Option Int → Option Int → Option (PyData × Bool)
  | .list xs, lo, hi => some (.list (cut xs lo hi), true)
  | .dict [(.none, .list xs)], lo, hi => some (.list (cut xs lo hi), true)
  | .tuple xs, lo, hi => some (.tuple (cut xs lo hi), false)
  | .str z, lo, hi => if z.length ≤ sizeLine then some (.str ⟨(cut z.cps.toList lo hi).toArray⟩, false) else none
  | _, _, _ => none
def boolsOf : List PyData → Option (List Bool)
  | [] => some []
  | .bool b :: r => (boolsOf r).map (b :: ·)
  | _ :: _ => none
def intsOf : List PyData → Option (List Int)
  | [] => some []
  | .int i :: r => (intsOf r).map (i :: ·)
  | _ :: _ => none
def seqOf : PyData → Option (List PyData)
  | .list xs => some xs
  | .tuple xs => some xs
  | _ => none
/-- greatest, least of a list that isn't empty -/
def maxL : Int → List Int → Int
  | m, [] => m
  | m, x :: r => maxL (if m < x then x else m) r
def minL : Int → List Int → Int
  | m, [] => m
  | m, x :: r => minL (if x < m then x else m) r
def insI (x : Int) : List Int → List Int
  | [] => [x]
  | y :: r => if x ≤ y then x :: y :: r else y :: insI x r
def sortI : List Int → List Int
  | [] => []
  | x :: r => insI x (sortI r)
/-- of what repr can be told: data without dicts, not too deep, not too long -/
def shows (d : PyData) : Bool := d.showable && !d.hasDict && decide (d.depth ≤ 64) && decide (d.shown.length ≤ sizeLine)
/-- isinstance -/
def isaD : Bi → PyData → Option Bool
  | _, .dict ((.none, _) :: _) => none
  | .isInt, .int _ => some true
  | .isInt, .bool _ => some true
  | .isBool, .bool _ => some true
  | .isTuple, .tuple _ => some true
  | .isStr, .str _ => some true
  | .isList, .list _ => some true
  | _, _ => some false
def tyOf : Bi → Option String
  | .isInt => some "int" | .isBool => some "bool" | .isTuple => some "tuple" | .isStr => some "str" | .isList => some "list"
  | _ => none
def biD : Bi → List PyData → Option (PyData × Bool)
  | .len, [.list xs] => some (.int xs.length, false)
  | .len, [.tuple xs] => some (.int xs.length, false)
  | .len, [.dict [(.none, .list xs)]] => some (.int xs.length, false)
  | .len, [.str z] => if z.length ≤ sizeLine then some (.int z.length, false) else none
  | .all, [.list xs] => (boolsOf xs).map fun bs => (.bool (bs.all id), false)
  | .any, [.list xs] => (boolsOf xs).map fun bs => (.bool (bs.any id), false)
  | .tuple, [.list xs] => some (.tuple xs, false)
  | .tuple, [.tuple xs] => some (.tuple xs, false)
  | .list, [.list xs] => some (.list xs, true)
  | .list, [.tuple xs] => some (.list xs, true)
  | .sum, [.list xs] => (intsOf xs).map fun ns => (.int ns.sum, false)
  | .max1, [.list xs] => (intsOf xs).bind fun ns => match ns with | n :: r => some (.int (maxL n r), false) | [] => none
  | .min1, [.list xs] => (intsOf xs).bind fun ns => match ns with | n :: r => some (.int (minL n r), false) | [] => none
  | .max2, [.int a, .int b] => some (.int (if b > a then b else a), false)
  | .min2, [.int a, .int b] => some (.int (if b < a then b else a), false)
  | .sorted, [.list xs] => (intsOf xs).map fun ns => (.list ((sortI ns).map .int), true)
  | .repr, [d] => if shows d then some (.str d.shown, false) else none
  | .int, [.int i] => some (.int i, false)
  | .int, [.bool b] => some (.int (if b then 1 else 0), false)
  | .isInt, [d] => (isaD .isInt d).map fun b => (.bool b, false)
  | .isBool, [d] => (isaD .isBool d).map fun b => (.bool b, false)
  | .isTuple, [d] => (isaD .isTuple d).map fun b => (.bool b, false)
  | .isStr, [d] => (isaD .isStr d).map fun b => (.bool b, false)
  | .isList, [d] => (isaD .isList d).map fun b => (.bool b, false)
  | _, _ => none
def isNone : PyData → Bool
  | .none => true
  | _ => false
def truthD : PyData → Option Bool
  | .bool b => some b
  | .none => some false
  | .int i => some (i != 0)
  | .list xs => some (!xs.isEmpty)
  | .tuple xs => some (!xs.isEmpty)
  | _ => none
/-- a range's items -/
def rangeD (lo hi : Int) : List PyData := (List.range (hi - lo).toNat).map fun (k : Nat) => PyData.int (lo + (k : Int))
def lineI (i : Int) : Bool := decide (-(2 ^ 62) ≤ i) && decide (i < 2 ^ 62)

/-! ### variables -/
def Slot.get : Slot → Option PyData
  | .dat d => some d
  | .own d => some d
  | .no => none
def getR (ρ : Rho) (i : Nat) : Option PyData := (ρ[i]?).bind Slot.get
/-- read as a value: whatever it holds stands still from now on -/
def rdVar (ρ : Rho) (i : Nat) : Option (PyData × Bool × Rho) :=
  match ρ[i]? with
  | some (.dat d) => some (d, false, ρ)
  | some (.own d) => some (d, false, ρ.set i (.dat d))
  | _ => none
mutual
def bindT : MT → PyData → Rho → Option Rho
  | .nm i, d, ρ => some (ρ.set i (.dat d))
  | .tp ts, .tuple ds, ρ => bindTs ts ds ρ
  | _, _, _ => none
def bindTs : MT → List PyData → Rho → Option Rho
  | .nil, [], ρ => some ρ
  | .cons a r, d :: ds, ρ => (bindT a d ρ).bind (bindTs r ds)
  | _, _, _ => none
end
def wipeR (ρ : Rho) : List Nat → Rho
  | [] => ρ
  | v :: vs => (wipeR ρ vs).set v .no
/-- an operand that is only looked at: a value, or a variable's own list as it stands when it is looked at -/
inductive Bor where
  | v (d : PyData)
  | r (i : Nat)
def Bor.get (ρ : Rho) : Bor → Option PyData
  | .v d => some d
  | .r i => getR ρ i
def bor (ev : Rho → Option (PyData × Bool × Rho)) (m : ME) (ρ : Rho) : Option (Bor × Rho) :=
  match m with
  | .var i => match ρ[i]? with
    | some (.own _) => some (.r i, ρ)
    | some (.dat d) => some (.v d, ρ)
    | _ => none
  | _ => (ev ρ).map fun (d, _, ρ') => (.v d, ρ')
def getAll (ρ : Rho) : List Bor → Option (List PyData)
  | [] => some []
  | b :: r => (b.get ρ).bind fun d => (getAll ρ r).map (d :: ·)

/-! ### calls -/
/-- an argument of a call: a datum, or a list that the callee may change -/
abbrev Arg := PyData × Bool
/-- a callee: the answer, whether it is new, the parameters behind the call -/
abbrev Fns := Nat → List Arg → Option (PyData × Bool × List Slot)
/-- the operands as arguments; a variable's own list is lent, once -/
def lend (ρ : Rho) : List Bor → Option (List Arg × Rho)
  | [] => some ([], ρ)
  | .v d :: r => (lend ρ r).map fun (as, ρ') => ((d, false) :: as, ρ')
  | .r i :: r => match ρ[i]? with
    | some (.own d) => (lend (ρ.set i .no) r).map fun (as, ρ') => ((d, true) :: as, ρ')
    | some (.dat d) => (lend ρ r).map fun (as, ρ') => ((d, false) :: as, ρ')
    | _ => none
/-- what was lent comes back -/
def back (ρ : Rho) : List Bor → List Arg → List Slot → Option Rho
  | [], _, _ => some ρ
  | .r i :: r, (_, true) :: as, s :: ss => back (ρ.set i s) r as ss
  | _ :: r, (_, false) :: as, _ :: ss => back ρ r as ss
  | _, _, _ => none

/-! ### expressions -/
/-- the turns of a comprehension -/
def turns (tg : MT) (ev : Rho → List PyData → Option (Rho × List PyData)) (vs : List Nat) : List PyData → Rho → List PyData → Option (Rho × List PyData)
  | [], ρ, acc => some (ρ, acc)
  | d :: ds, ρ, acc => (bindT tg d ρ).bind fun ρ1 => (ev ρ1 acc).bind fun (ρ2, acc2) => turns tg ev vs ds (wipeR ρ2 vs) acc2
mutual
def evE (F : Fns) : ME → Rho → Option (PyData × Bool × Rho)
  | .lit d, ρ => some (d, false, ρ)
  | .var i, ρ => rdVar ρ i
  | .bin op a b, ρ => (bor (evE F a) a ρ).bind fun (x, ρ1) => (bor (evE F b) b ρ1).bind fun (y, ρ2) =>
      (x.get ρ2).bind fun d => (y.get ρ2).bind fun e => (binD op d e).map fun (z, fr) => (z, fr, ρ2)
  | .neg a, ρ => (evE F a ρ).bind fun (d, _, ρ1) => match d with | .int i => some (.int (-i), false, ρ1) | _ => none
  | .not a, ρ => (evE F a ρ).bind fun (d, _, ρ1) => match d with | .bool b => some (.bool (!b), false, ρ1) | _ => none
  | .and a b, ρ => (evE F a ρ).bind fun (d, _, ρ1) => match d with | .bool true => evE F b ρ1 | .bool false => some (.bool false, false, ρ1) | _ => none
  | .or a b, ρ => (evE F a ρ).bind fun (d, _, ρ1) => match d with | .bool false => evE F b ρ1 | .bool true => some (.bool true, false, ρ1) | _ => none
  | .cmp op a b, ρ => (bor (evE F a) a ρ).bind fun (x, ρ1) => (bor (evE F b) b ρ1).bind fun (y, ρ2) =>
      (x.get ρ2).bind fun d => (y.get ρ2).bind fun e => (cmpD op d e).map fun z => (.bool z, false, ρ2)
  | .cmp2 op op' a b c, ρ => (bor (evE F a) a ρ).bind fun (x, ρ1) => (bor (evE F b) b ρ1).bind fun (y, ρ2) =>
      (x.get ρ2).bind fun d => (y.get ρ2).bind fun e => (cmpD op d e).bind fun z =>
        if z then (bor (evE F c) c ρ2).bind fun (w, ρ3) => (y.get ρ3).bind fun e3 => (w.get ρ3).bind fun f => (cmpD op' e3 f).map fun z' => (.bool z', false, ρ3)
        else some (.bool false, false, ρ2)
  | .isN a, ρ => (bor (evE F a) a ρ).bind fun (x, ρ1) => (x.get ρ1).map fun d => (.bool (isNone d), false, ρ1)
  | .notN a, ρ => (bor (evE F a) a ρ).bind fun (x, ρ1) => (x.get ρ1).map fun d => (.bool (!isNone d), false, ρ1)
  | .ite c a b, ρ => (evT F c ρ).bind fun (t, ρ1) => if t then evE F a ρ1 else evE F b ρ1
  | .call f as, ρ => (evL F as ρ).bind fun (bs, ρ1) => (lend ρ1 bs).bind fun (args, ρ2) => (F f args).bind fun (d, fr, ss) => (back ρ2 bs args ss).map fun ρ3 => (d, fr, ρ3)
  | .bi b as, ρ => (evL F as ρ).bind fun (bs, ρ1) => (getAll ρ1 bs).bind fun ds => (biD b ds).map fun (d, fr) => (d, fr, ρ1)
  | .idx a i, ρ => (bor (evE F a) a ρ).bind fun (x, ρ1) => (evE F i ρ1).bind fun (k, _, ρ2) => (x.get ρ2).bind fun d => (idxD d k).map fun z => (z, false, ρ2)
  | .sl a lo hi, ρ => (bor (evE F a) a ρ).bind fun (x, ρ1) => (evO F lo ρ1).bind fun (l, ρ2) => (evO F hi ρ2).bind fun (h, ρ3) => (x.get ρ3).bind fun d => (slD d l h).map fun (z, fr) => (z, fr, ρ3)
  | .tup as, ρ => (evA F as ρ).bind fun (ds, ρ1) => if ds.length ≤ sizeLine then some (.tuple ds, false, ρ1) else none
  | .lst as, ρ => (evA F as ρ).bind fun (ds, ρ1) => if ds.length ≤ sizeLine then some (.list ds, true, ρ1) else none
  | .dic, ρ => some (.dict [], true, ρ)
  | .comp vs tg it c e, ρ => (evI F it ρ).bind fun (ds, ρ1) =>
      (turns tg (fun ρ acc => (evT F c ρ).bind fun (t, ρ2) => if t then (evE F e ρ2).bind fun (d, _, ρ3) => if acc.length < sizeLine then some (ρ3, acc ++ [d]) else none else some (ρ2, acc)) vs ds (wipeR ρ1 vs) []).map
        fun (ρ4, acc) => (.list acc, true, ρ4)
  | .comp2 vs vs1 tg it c tg1 it1 c1 e, ρ => (evI F it ρ).bind fun (ds, ρ1) =>
      (turns tg (fun ρ acc => (evT F c ρ).bind fun (t, ρ2) => if t then (evI F it1 ρ2).bind fun (ds1, ρ3) =>
          turns tg1 (fun ρ acc => (evT F c1 ρ).bind fun (t, ρ2) => if t then (evE F e ρ2).bind fun (d, _, ρ3) => if acc.length < sizeLine then some (ρ3, acc ++ [d]) else none else some (ρ2, acc)) vs1 ds1 (wipeR ρ3 vs1) acc
        else some (ρ2, acc)) vs ds (wipeR ρ1 vs) []).map
        fun (ρ4, acc) => (.list acc, true, ρ4)
  | _, _ => none
def evT (F : Fns) : ME → Rho → Option (Bool × Rho)
  | .not a, ρ => (evT F a ρ).map fun (b, ρ1) => (!b, ρ1)
  | .and a b, ρ => (evT F a ρ).bind fun (t, ρ1) => if t then evT F b ρ1 else some (false, ρ1)
  | .or a b, ρ => (evT F a ρ).bind fun (t, ρ1) => if t then some (true, ρ1) else evT F b ρ1
  | .nil, ρ => some (true, ρ)
  | .tst a, ρ => (bor (evE F a) a ρ).bind fun (x, ρ1) => (x.get ρ1).bind fun d => (truthD d).map fun b => (b, ρ1)
  | _, _ => none
/-- operands, looked at -/
def evL (F : Fns) : ME → Rho → Option (List Bor × Rho)
  | .nil, ρ => some ([], ρ)
  | .cons a r, ρ => (bor (evE F a) a ρ).bind fun (x, ρ1) => (evL F r ρ1).map fun (xs, ρ2) => (x :: xs, ρ2)
  | _, _ => none
/-- the parts of a display -/
def evA (F : Fns) : ME → Rho → Option (List PyData × Rho)
  | .nil, ρ => some ([], ρ)
  | .cons a r, ρ => (evE F a ρ).bind fun (d, _, ρ1) => (evA F r ρ1).map fun (ds, ρ2) => (d :: ds, ρ2)
  | .star a r, ρ => (evE F a ρ).bind fun (d, _, ρ1) => (seqOf d).bind fun es => (evA F r ρ1).map fun (ds, ρ2) => (es ++ ds, ρ2)
  | _, _ => none
/-- a part of a slice -/
def evO (F : Fns) : ME → Rho → Option (Option Int × Rho)
  | .nil, ρ => some (none, ρ)
  | .cons a _, ρ => (evE F a ρ).bind fun (d, _, ρ1) => match d with | .int i => some (some i, ρ1) | _ => none
  | _, _ => none
/-- what is walked over -/
def evI (F : Fns) : ME → Rho → Option (List PyData × Rho)
  | .rng1 a, ρ => (evE F a ρ).bind fun (d, _, ρ1) => match d with | .int i => if lineI i then some (rangeD 0 i, ρ1) else none | _ => none
  | .rng2 a b, ρ => (evE F a ρ).bind fun (d, _, ρ1) => (evE F b ρ1).bind fun (e, _, ρ2) => match d, e with | .int i, .int j => if lineI i && lineI j then some (rangeD i j, ρ2) else none | _, _ => none
  | .zp a b, ρ => (evE F a ρ).bind fun (d, _, ρ1) => (evE F b ρ1).bind fun (e, _, ρ2) => match d, e with
      | .list xs, .list ys => some ((xs.zip ys).map fun p => .tuple [p.1, p.2], ρ2)
      | .tuple xs, .tuple ys => some ((xs.zip ys).map fun p => .tuple [p.1, p.2], ρ2)
      | _, _ => none
  | .enm a, ρ => (evE F a ρ).bind fun (d, _, ρ1) => match d with
      | .list xs => some (xs.zipIdx.map fun p => .tuple [.int p.2, p.1], ρ1)
      | _ => none
  | .it a, ρ => (evE F a ρ).bind fun (d, _, ρ1) => (seqOf d).map fun xs => (xs, ρ1)
  | _, _ => none
end

/-! ### statements -/
/-- how a block ends -/
inductive Out where
  | nx (ρ : Rho)
  | bk (ρ : Rho)
  | ct (ρ : Rho)
  | rt (d : PyData) (fr : Bool) (ρ : Rho)
/-- what a fresh or a standing value makes of a variable -/
def slotOf (d : PyData) : Bool → Slot
  | true => .own d
  | false => .dat d
/-- several values, each with whether it is new -/
def evP (F : Fns) : ME → Rho → Option (List (PyData × Bool) × Rho)
  | .nil, ρ => some ([], ρ)
  | .cons a r, ρ => (evE F a ρ).bind fun (d, fr, ρ1) => (evP F r ρ1).map fun (ds, ρ2) => ((d, fr) :: ds, ρ2)
  | _, _ => none
def bindP : MT → List (PyData × Bool) → Rho → Option Rho
  | .nil, [], ρ => some ρ
  | .cons (.nm i) r, (d, fr) :: ds, ρ => bindP r ds (ρ.set i (slotOf d fr))
  | .cons t r, (d, _) :: ds, ρ => (bindT t d ρ).bind (bindP r ds)
  | _, _, _ => none
def setT : MT → PyData → Bool → Rho → Option Rho
  | .nm i, d, fr, ρ => some (ρ.set i (slotOf d fr))
  | t, d, _, ρ => bindT t d ρ
/-- var[k] = d -/
def putD : PyData → PyData → PyData → Option PyData
  | .list xs, .int i, d => (ixOf xs.length i).map fun j => .list (xs.set j d)
  | .dict es, k, d => if isKey k && !isScr es && decide (es.length < sizeLine) then some (.dict (dPut es k d)) else none
  | _, _, _ => none
def isOwn : Option Slot → Bool
  | some (.own _) => true
  | _ => false
def isOwnL : Option Slot → Bool
  | some (.own (.list _)) => true
  | _ => false
def loopS (tg : MT) (ev : Rho → Option Out) : List PyData → Rho → Option Out
  | [], ρ => some (.nx ρ)
  | d :: ds, ρ => (bindT tg d ρ).bind fun ρ1 => (ev ρ1).bind fun o => match o with
    | .nx ρ2 => loopS tg ev ds ρ2
    | .ct ρ2 => loopS tg ev ds ρ2
    | .bk ρ2 => some (.nx ρ2)
    | .rt d fr ρ2 => some (.rt d fr ρ2)
def whileS (c : Rho → Option (Bool × Rho)) (ev : Rho → Option Out) : Nat → Rho → Option Out
  | 0, _ => none
  | n + 1, ρ => (c ρ).bind fun (t, ρ1) => if t then (ev ρ1).bind fun o => match o with
    | .nx ρ2 => whileS c ev n ρ2
    | .ct ρ2 => whileS c ev n ρ2
    | .bk ρ2 => some (.nx ρ2)
    | .rt d fr ρ2 => some (.rt d fr ρ2)
    else some (.nx ρ1)
def evS (F : Fns) (W : Nat) : MS → Rho → Option Out
  | .skip, ρ => some (.nx ρ)
  | .seq s t, ρ => (evS F W s ρ).bind fun o => match o with
    | .nx ρ1 => evS F W t ρ1
    | o => some o
  | .asg tg e, ρ => (evE F e ρ).bind fun (d, fr, ρ1) => (setT tg d fr ρ1).map .nx
  | .par tg es, ρ => (evP F es ρ).bind fun (ds, ρ1) => (bindP tg ds ρ1).map .nx
  | .put i k e, ρ => if isOwn ρ[i]? then (evE F e ρ).bind fun (d, _, ρ1) => (evE F k ρ1).bind fun (j, _, ρ2) => match ρ2[i]? with
      | some (.own x) => (putD x j d).map fun y => .nx (ρ2.set i (.own y))
      | _ => none
    else none
  | .app i e, ρ => if isOwnL ρ[i]? then (evE F e ρ).bind fun (d, _, ρ1) => match ρ1[i]? with
      | some (.own (.list xs)) => if xs.length < sizeLine then some (.nx (ρ1.set i (.own (.list (xs ++ [d]))))) else none
      | _ => none
    else none
  | .ext i e, ρ => if isOwnL ρ[i]? then (evE F e ρ).bind fun (d, _, ρ1) => match ρ1[i]?, d with
      | some (.own (.list xs)), .list ys => if xs.length + ys.length ≤ sizeLine then some (.nx (ρ1.set i (.own (.list (xs ++ ys))))) else none
      | _, _ => none
    else none
  | .expr e, ρ => (evE F e ρ).map fun (_, _, ρ1) => .nx ρ1
  | .ret e, ρ => (evE F e ρ).map fun (d, fr, ρ1) => .rt d fr ρ1
  | .ite c s t, ρ => (evT F c ρ).bind fun (b, ρ1) => if b then evS F W s ρ1 else evS F W t ρ1
  | .loop tg it s, ρ => (evI F it ρ).bind fun (ds, ρ1) => loopS tg (evS F W s) ds ρ1
  | .while c s, ρ => whileS (evT F c) (evS F W s) W ρ
  | .brk, ρ => some (.bk ρ)
  | .cont, ρ => some (.ct ρ)
  | .stuck, _ => none

/-! ### defs -/
structure Fn where
  np : Nat
  nv : Nat
  body : MS
def argSlot : Arg → Slot
  | (d, true) => .own d
  | (d, false) => .dat d
def slotsT : MT → List Nat
  | .nm i => [i]
  | .tp ts => slotsT ts
  | .nil => []
  | .cons a r => slotsT a ++ slotsT r
/-- the variables that a block stores -/
def asgd : MS → List Nat
  | .seq s t => asgd s ++ asgd t
  | .asg tg _ => slotsT tg
  | .par tg _ => slotsT tg
  | .ite _ s t => asgd s ++ asgd t
  | .loop tg _ s => slotsT tg ++ asgd s
  | .while _ s => asgd s
  | _ => []
/-- parameters that were lent are not stored -/
def lentOk (l : List Nat) : Nat → List Arg → Bool
  | _, [] => true
  | i, (_, true) :: as => !l.contains i && lentOk l (i + 1) as
  | i, (_, false) :: as => lentOk l (i + 1) as
def finals : List Arg → Rho → List Slot
  | [], _ => []
  | (_, true) :: as, s :: ρ => s :: finals as ρ
  | _ :: as, ρ => .no :: finals as ρ.tail
def runFn (F : Fns) (W : Nat) (f : Fn) (as : List Arg) : Option (PyData × Bool × List Slot) :=
  if as.length = f.np ∧ lentOk (asgd f.body) 0 as = true then
    (evS F W f.body (as.map argSlot ++ List.replicate (f.nv - f.np) .no)).bind fun o => match o with
      | .nx ρ => some (.none, false, finals as ρ)
      | .rt d fr ρ => some (d, fr, finals as ρ)
      | _ => none
  else none
def evF (T : Nat → Option Fn) (W : Nat) : Nat → Fns
  | 0, _, _ => none
  | k + 1, i, as => (T i).bind fun f => runFn (evF T W k) W f as
end MI

/-! MI1: how data lie in the abstract heap; what stays. -/
namespace MI
open PySem PySem.Spec PyProof.Rows L2
/-- the written part that is meant -/
class EK where
  k : PySem.W.Frag
variable [EK]
/-- a list that nobody may change: the script -/
def ScrAt (H : Hp) (a : Addr) (xs : List V) : Prop :=
  (∃ o, H a = some (.frz o (.lst xs))) ∨
    ∃ (o : Obj) (its : Array Value) (n : Nat), EK.k.lookup a = some o ∧ o.cls = .type "list" ∧ o.dict = none ∧ o.data = .seq its n ∧ its.size ≤ sizeLine ∧ Vals xs its.toList
theorem ScrAt.sq {K : PySem.W.Frag} {H : Hp} {a : Addr} {xs : List V} (hK : K = EK.k) (h : ScrAt H a xs) : SqL K H a xs := by
  subst hK
  rcases h with h | h
  · exact .inl (.inr h)
  · exact .inr h

abbrev AS := Addr → Prop
def orA (A : AS) (p : Addr) : AS := fun a => A a ∨ a = p
def butA (A : AS) (p : Addr) : AS := fun a => A a ∧ a ≠ p
def keyD : Key → PyData
  | .inl i => .int i
  | .inr x => .str x
mutual
/-- the value v is the datum d; its lists and dicts do not lie in A -/
inductive Rel (A : AS) (H : Hp) : V → PyData → Prop
  | non : Rel A H .non .none
  | bl (b : Bool) : Rel A H (.bl b) (.bool b)
  | int (i : Int) : Rel A H (.int i) (.int i)
  | str (x : Str) : Rel A H (.str x) (.str x)
  | lst {a : Addr} {xs : List V} {ds : List PyData} : H a = some (.lst xs) → ¬ A a → RelAll A H xs ds → Rel A H (.ref a) (.list ds)
  | tup {a : Addr} {xs : List V} {ds : List PyData} : H a = some (.tup xs) → RelAll A H xs ds → Rel A H (.ref a) (.tuple ds)
  | dic {a : Addr} {kvs : List (Key × V)} {es : List (PyData × PyData)} : H a = some (.dK kvs) → ¬ A a → RelKv A H kvs es → Rel A H (.ref a) (.dict es)
  | scr {a : Addr} {xs : List V} {ds : List PyData} : ScrAt H a xs → RelAll A H xs ds → Rel A H (.ref a) (.dict [(.none, .list ds)])
inductive RelAll (A : AS) (H : Hp) : List V → List PyData → Prop
  | nil : RelAll A H [] []
  | cons {v : V} {vs : List V} {d : PyData} {ds : List PyData} : Rel A H v d → RelAll A H vs ds → RelAll A H (v :: vs) (d :: ds)
inductive RelKv (A : AS) (H : Hp) : List (Key × V) → List (PyData × PyData) → Prop
  | nil : RelKv A H [] []
  | cons {k : Key} {v : V} {kvs : List (Key × V)} {d : PyData} {es : List (PyData × PyData)} : Rel A H v d → RelKv A H kvs es → RelKv A H ((k, v) :: kvs) ((keyD k, d) :: es)
end
def Mu : HO → Prop
  | .lst _ => True
  | .dK _ => True
  | .dT _ => True
  | _ => False
/-- what may change lies in M and is a list or a dict -/
structure Kp (M : AS) (H H' : Hp) : Prop where
  same : ∀ a o, H a = some o → (M a → ¬ Mu o) → H' a = some o
  live : ∀ a o, H a = some o → ∃ o', H' a = some o'
abbrev No : AS := fun _ => False

section
variable {A A' M M' : AS} {H H' H1 H2 : Hp} {v : V} {d : PyData} {xs ys : List V} {ds es : List PyData} {p : Addr}
theorem Kp.refl (M : AS) (H : Hp) : Kp M H H := ⟨fun _ _ h _ => h, fun _ o h => ⟨o, h⟩⟩
theorem Kp.mono (hm : ∀ a, M a → M' a) (k : Kp M H H') : Kp M' H H' := ⟨fun a o h n => k.same a o h fun z => n (hm a z), k.live⟩
theorem Kp.of (k : Kp No H H') : Kp M H H' := k.mono fun _ z => z.elim
theorem Kp.trans (a : Kp M H H1) (b : Kp M H1 H2) : Kp M H H2 :=
  ⟨fun x o h n => b.same x o (a.same x o h n) n, fun x o h => let ⟨o1, h1⟩ := a.live x o h; b.live x o1 h1⟩
theorem Kp.new {o : HO} (h : H p = none) : Kp M H (upd H p o) :=
  ⟨fun a u e _ => by rw [upd_ne (ne_of_none e h)]; exact e, fun a u e => ⟨u, by rw [upd_ne (ne_of_none e h)]; exact e⟩⟩
/-- a list of one's own is written -/
theorem Kp.wr {o o' : HO} (hm : M p) (h : H p = some o) (mu : Mu o) : Kp M H (upd H p o') := by
  refine ⟨fun a u e n => ?_, fun a u e => ?_⟩
  · by_cases ha : a = p
    · subst ha; rw [h] at e; cases e; exact absurd mu (n hm)
    · rw [upd_ne ha]; exact e
  · by_cases ha : a = p
    · subst ha; exact ⟨o', upd_same⟩
    · exact ⟨u, by rw [upd_ne ha]; exact e⟩

mutual
theorem Rel.map (f : ∀ a o, H a = some o → (A a → ¬ Mu o) → H' a = some o) (g : ∀ a o, H a = some o → A' a → ¬ A a → Mu o → False) : ∀ {v : V} {d : PyData}, Rel A H v d → Rel A' H' v d
  | _, _, .non => .non
  | _, _, .bl b => .bl b
  | _, _, .int i => .int i
  | _, _, .str x => .str x
  | _, _, .lst h n r => .lst (f _ _ h fun z => absurd z n) (fun z => g _ _ h z n trivial) (RelAll.map f g r)
  | _, _, .tup h r => .tup (f _ _ h fun _ z => z) (RelAll.map f g r)
  | _, _, .dic h n r => .dic (f _ _ h fun z => absurd z n) (fun z => g _ _ h z n trivial) (RelKv.map f g r)
  | _, _, .scr h r => .scr (h.imp (fun ⟨o, e⟩ => ⟨o, f _ _ e fun _ z => z⟩) fun z => z) (RelAll.map f g r)
theorem RelAll.map (f : ∀ a o, H a = some o → (A a → ¬ Mu o) → H' a = some o) (g : ∀ a o, H a = some o → A' a → ¬ A a → Mu o → False) : ∀ {vs : List V} {ds : List PyData}, RelAll A H vs ds → RelAll A' H' vs ds
  | _, _, .nil => .nil
  | _, _, .cons a r => .cons (Rel.map f g a) (RelAll.map f g r)
theorem RelKv.map (f : ∀ a o, H a = some o → (A a → ¬ Mu o) → H' a = some o) (g : ∀ a o, H a = some o → A' a → ¬ A a → Mu o → False) : ∀ {vs : List (Key × V)} {ds : List (PyData × PyData)}, RelKv A H vs ds → RelKv A' H' vs ds
  | _, _, .nil => .nil
  | _, _, .cons a r => .cons (Rel.map f g a) (RelKv.map f g r)
end
theorem kp_f (hs : ∀ a, M a → A a) (k : Kp M H H') : ∀ a o, H a = some o → (A a → ¬ Mu o) → H' a = some o := fun a o h n => k.same a o h fun z => n (hs a z)
theorem anti_g (hs : ∀ a, A' a → A a) : ∀ a o, H a = some o → A' a → ¬ A a → Mu o → False := fun a _ _ z n _ => n (hs a z)
theorem Rel.keep (hs : ∀ a, M a → A a) (k : Kp M H H') (r : Rel A H v d) : Rel A H' v d := r.map (kp_f hs k) (anti_g fun _ z => z)
theorem RelAll.keep (hs : ∀ a, M a → A a) (k : Kp M H H') (r : RelAll A H xs ds) : RelAll A H' xs ds := r.map (kp_f hs k) (anti_g fun _ z => z)
theorem RelKv.keep {kvs : List (Key × V)} {es : List (PyData × PyData)} (hs : ∀ a, M a → A a) (k : Kp M H H') (r : RelKv A H kvs es) : RelKv A H' kvs es := r.map (kp_f hs k) (anti_g fun _ z => z)
theorem Rel.anti (hs : ∀ a, A' a → A a) (r : Rel A H v d) : Rel A' H v d := r.map (fun _ _ h _ => h) (anti_g hs)
theorem RelAll.anti (hs : ∀ a, A' a → A a) (r : RelAll A H xs ds) : RelAll A' H xs ds := r.map (fun _ _ h _ => h) (anti_g hs)
theorem RelKv.anti {kvs : List (Key × V)} {es : List (PyData × PyData)} (hs : ∀ a, A' a → A a) (r : RelKv A H kvs es) : RelKv A' H kvs es := r.map (fun _ _ h _ => h) (anti_g hs)
theorem or_g (hp : H p = none) : ∀ a o, H a = some o → orA A p a → ¬ A a → Mu o → False := fun a o h z n _ => by
  rcases z with z | z
  · exact n z
  · subst z; rw [hp] at h; cases h
theorem Rel.fresh (hp : H p = none) (r : Rel A H v d) : Rel (orA A p) H v d := r.map (fun _ _ h _ => h) (or_g hp)
theorem RelAll.fresh (hp : H p = none) (r : RelAll A H xs ds) : RelAll (orA A p) H xs ds := r.map (fun _ _ h _ => h) (or_g hp)
theorem RelKv.fresh {kvs : List (Key × V)} {es : List (PyData × PyData)} (hp : H p = none) (r : RelKv A H kvs es) : RelKv (orA A p) H kvs es := r.map (fun _ _ h _ => h) (or_g hp)
theorem RelAll.length : ∀ {vs : List V} {ds : List PyData}, RelAll A H vs ds → vs.length = ds.length
  | _, _, .nil => rfl
  | _, _, .cons _ r => congrArg (· + 1) (RelAll.length r)
theorem RelAll.get : ∀ {vs : List V} {ds : List PyData} {i : Nat} {d : PyData}, RelAll A H vs ds → ds[i]? = some d → ∃ v, vs[i]? = some v ∧ Rel A H v d
  | _, _, _, _, .nil, h => by simp at h
  | _, _, 0, _, .cons a _, h => by
    have e := Option.some.inj h
    subst e
    exact ⟨_, rfl, a⟩
  | _, _, i + 1, _, .cons _ r, h => RelAll.get (i := i) r h
theorem RelAll.get' : ∀ {vs : List V} {ds : List PyData} {i : Nat} {v : V}, RelAll A H vs ds → vs[i]? = some v → ∃ d, ds[i]? = some d ∧ Rel A H v d
  | _, _, _, _, .nil, h => by simp at h
  | _, _, 0, _, .cons a _, h => by
    have e := Option.some.inj h
    subst e
    exact ⟨_, rfl, a⟩
  | _, _, i + 1, _, .cons _ r, h => RelAll.get' (i := i) r h
theorem RelAll.append : ∀ {vs ws : List V} {ds es : List PyData}, RelAll A H vs ds → RelAll A H ws es → RelAll A H (vs ++ ws) (ds ++ es)
  | _, _, _, _, .nil, h => h
  | _, _, _, _, .cons a r, h => .cons a (RelAll.append r h)
theorem RelAll.drop : ∀ {vs : List V} {ds : List PyData} (n : Nat), RelAll A H vs ds → RelAll A H (vs.drop n) (ds.drop n)
  | _, _, 0, h => h
  | _, _, _ + 1, .nil => .nil
  | _, _, n + 1, .cons _ r => RelAll.drop n r
theorem RelAll.take : ∀ {vs : List V} {ds : List PyData} (n : Nat), RelAll A H vs ds → RelAll A H (vs.take n) (ds.take n)
  | _, _, 0, _ => .nil
  | _, _, _ + 1, .nil => .nil
  | _, _, n + 1, .cons a r => .cons a (RelAll.take n r)
theorem RelAll.set (hv : Rel A H v d) : ∀ {vs : List V} {ds : List PyData} (n : Nat), RelAll A H vs ds → RelAll A H (vs.set n v) (ds.set n d)
  | _, _, _, .nil => .nil
  | _, _, 0, .cons _ r => .cons hv r
  | _, _, n + 1, .cons a r => .cons a (RelAll.set hv n r)
theorem RelAll.flatten (r : RelAll A H xs ds) : ∀ n : Nat, RelAll A H (List.replicate n xs).flatten (List.replicate n ds).flatten
  | 0 => .nil
  | n + 1 => by
    rw [List.replicate_succ, List.replicate_succ, List.flatten_cons, List.flatten_cons]
    exact r.append (RelAll.flatten r n)
end

/-- the object at a is the datum d, of one's own -/
def Own (A : AS) (H : Hp) (a : Addr) (d : PyData) : Prop :=
  (∃ xs ds, d = .list ds ∧ H a = some (.lst xs) ∧ RelAll A H xs ds) ∨ ∃ kvs es, d = .dict es ∧ H a = some (.dK kvs) ∧ RelKv A H kvs es
section
variable {A A' M M' : AS} {H H' H1 H2 : Hp} {v : V} {d : PyData} {xs ys : List V} {ds es : List PyData} {p a : Addr}
theorem Own.rel (h : Own A H a d) (n : ¬ A a) : Rel A H (.ref a) d := by
  rcases h with ⟨xs, ds, rfl, h, r⟩ | ⟨kvs, es, rfl, h, r⟩
  · exact .lst h n r
  · exact .dic h n r
theorem Own.map (f : ∀ a o, H a = some o → (A a → ¬ Mu o) → H' a = some o) (g : ∀ a o, H a = some o → A' a → ¬ A a → Mu o → False) (ha : H' a = H a) (h : Own A H a d) : Own A' H' a d := by
  rcases h with ⟨xs, ds, rfl, h, r⟩ | ⟨kvs, es, rfl, h, r⟩
  · exact .inl ⟨xs, ds, rfl, ha.trans h, r.map f g⟩
  · exact .inr ⟨kvs, es, rfl, ha.trans h, r.map f g⟩
theorem Own.keep (hs : ∀ a, M a → A a) (k : Kp M H H') (nm : ¬ M a) (h : Own A H a d) : Own A H' a d := by
  rcases h with ⟨xs, ds, rfl, h, r⟩ | ⟨kvs, es, rfl, h, r⟩
  · exact .inl ⟨xs, ds, rfl, k.same _ _ h fun z => absurd z nm, r.keep hs k⟩
  · exact .inr ⟨kvs, es, rfl, k.same _ _ h fun z => absurd z nm, r.keep hs k⟩
theorem Own.anti (hs : ∀ a, A' a → A a) (h : Own A H a d) : Own A' H a d := h.map (fun _ _ h _ => h) (anti_g hs) rfl
theorem Own.fresh (hp : H p = none) (h : Own A H a d) : Own (orA A p) H a d := h.map (fun _ _ h _ => h) (or_g hp) rfl
theorem Own.live (h : Own A H a d) : ∃ o, H a = some o ∧ Mu o := by
  rcases h with ⟨xs, ds, rfl, h, r⟩ | ⟨kvs, es, rfl, h, r⟩
  · exact ⟨_, h, trivial⟩
  · exact ⟨_, h, trivial⟩
end

/-- the variables as they lie: A is what no standing datum touches, M what this frame may change -/
structure RE (A M : AS) (H : Hp) (ρ : Rho) (σ : L2.St) : Prop where
  len : ρ.length = σ.length
  sub : ∀ a, M a → A a
  live : ∀ a, A a → ∃ o, H a = some o
  dat : ∀ (i : Nat) (d : PyData), ρ[i]? = some (Slot.dat d) → ∃ v, σ[i]? = some (some v) ∧ Rel A H v d
  own : ∀ (i : Nat) (d : PyData), ρ[i]? = some (Slot.own d) → ∃ a, σ[i]? = some (some (V.ref a)) ∧ M a ∧ Own A H a d
  inj : ∀ (i j : Nat) (d e : PyData) (a : Addr), ρ[i]? = some (Slot.own d) → ρ[j]? = some (Slot.own e) → σ[i]? = some (some (V.ref a)) → σ[j]? = some (some (V.ref a)) → i = j
structure Shr (A M A' M' : AS) : Prop where
  a : ∀ x, A' x → A x
  m : ∀ x, M' x → M x
  d : ∀ x, A x → ¬ A' x → M x
theorem Shr.refl (A M : AS) : Shr A M A M := ⟨fun _ h => h, fun _ h => h, fun _ h n => absurd h n⟩
theorem Shr.trans {A M A1 M1 A2 M2 : AS} (s : Shr A M A1 M1) (t : Shr A1 M1 A2 M2) : Shr A M A2 M2 :=
  ⟨fun x h => s.a x (t.a x h), fun x h => s.m x (t.m x h), fun x h n => by
    by_cases h1 : A1 x
    · exact s.m x (t.d x h1 n)
    · exact s.d x h h1⟩
section
variable {A A' M M' : AS} {H H' H1 H2 : Hp} {v : V} {d : PyData} {ρ ρ' : Rho} {σ : L2.St} {p a : Addr} {i : Nat}
/-- nothing of one's own changed -/
theorem RE.keepM (hs : ∀ a, M' a → A a) (nm : ∀ a, M a → ¬ M' a) (k : Kp M' H H') (r : RE A M H ρ σ) : RE A M H' ρ σ :=
  ⟨r.len, r.sub, fun a h => let ⟨o, e⟩ := r.live a h; k.live a o e, fun i d h => let ⟨v, e, q⟩ := r.dat i d h; ⟨v, e, q.keep hs k⟩,
    fun i d h => let ⟨a, e, m, q⟩ := r.own i d h; ⟨a, e, m, q.keep hs k (nm a m)⟩, r.inj⟩
theorem RE.keep (k : Kp No H H') (r : RE A M H ρ σ) : RE A M H' ρ σ := r.keepM (fun _ z => z.elim) (fun _ _ z => z) k
theorem RE.fresh (hp : H p = none) (hp' : ∃ o, H' p = some o) (k : Kp No H H') (r : RE A M H ρ σ) : RE (orA A p) M H' ρ σ :=
  ⟨r.len, fun a h => .inl (r.sub a h), fun a h => by
      rcases h with h | h
      · obtain ⟨o, e⟩ := r.live a h; exact k.live a o e
      · subst h; exact hp',
    fun i d h => let ⟨v, e, q⟩ := r.dat i d h; ⟨v, e, (q.fresh hp).keep (M := No) (fun _ z => z.elim) k⟩,
    fun i d h => let ⟨a, e, m, q⟩ := r.own i d h; ⟨a, e, m, (q.fresh hp).keep (M := No) (fun _ z => z.elim) k (fun z => z)⟩, r.inj⟩
theorem RE.not_fresh (hp : H p = none) (r : RE A M H ρ σ) : ¬ A p := fun z => by
  obtain ⟨o, e⟩ := r.live p z
  rw [hp] at e; cases e
end

/-- what a value that was reckoned is, behind it -/
def Pst (A M : AS) (H : Hp) (ρ' : Rho) (σ : L2.St) (d : PyData) (fr : Bool) (v : V) (H' : Hp) : Prop :=
  ∃ A' M', Shr A M A' M' ∧ Kp M H H' ∧ RE A' M' H' ρ' σ ∧ (fr = false → Rel A' H' v d) ∧ (fr = true → ∃ a, v = .ref a ∧ H a = none ∧ RE (orA A' a) M' H' ρ' σ ∧ Own (orA A' a) H' a d)
/-- .. of operations, that change nothing -/
def NewV (A : AS) (H : Hp) (z : PyData) (fr : Bool) (v : V) (H' : Hp) : Prop :=
  Kp No H H' ∧ (fr = false → Rel A H' v z) ∧ (fr = true → ∃ a, v = .ref a ∧ H a = none ∧ Own (orA A a) H' a z)
section
variable {A A' M M' : AS} {H H' H1 H2 : Hp} {v : V} {d z : PyData} {fr : Bool} {ρ ρ' : Rho} {σ : L2.St} {p a : Addr} {i : Nat}
theorem NewV.pst (h : NewV A H z fr v H') (r : RE A M H ρ σ) : Pst A M H ρ σ z fr v H' := by
  obtain ⟨k, h1, h2⟩ := h
  refine ⟨A, M, Shr.refl A M, k.of, r.keep k, h1, fun e => ?_⟩
  obtain ⟨a, rfl, ha, ho⟩ := h2 e
  obtain ⟨o, e2, _⟩ := ho.live
  exact ⟨a, rfl, ha, r.fresh ha ⟨o, e2⟩ k, ho⟩
theorem NewV.val (r : Rel A H v z) : NewV A H z false v H := ⟨Kp.refl _ _, fun _ => r, fun e => nomatch e⟩
/-- whatever it is, it stands -/
theorem Pst.std (h : Pst A M H ρ' σ d fr v H') (rA : ∀ a, A a → ∃ o, H a = some o) : ∃ A' M', Shr A M A' M' ∧ Kp M H H' ∧ RE A' M' H' ρ' σ ∧ Rel A' H' v d := by
  obtain ⟨A', M', s, k, r, h1, h2⟩ := h
  refine ⟨A', M', s, k, r, ?_⟩
  cases fr with
  | false => exact h1 rfl
  | true =>
    obtain ⟨a, rfl, ha, _, ho⟩ := h2 rfl
    refine (ho.anti (A' := A') fun _ z => .inl z).rel fun z => ?_
    obtain ⟨o, e⟩ := rA a (s.a a z)
    rw [ha] at e; cases e
/-- a step ahead -/
theorem Pst.after (s0 : Shr A M A' M') (k0 : Kp M H H1) (h : Pst A' M' H1 ρ' σ d fr v H') : Pst A M H ρ' σ d fr v H' := by
  obtain ⟨A2, M2, s, k, r, h1, h2⟩ := h
  refine ⟨A2, M2, s0.trans s, k0.trans (k.mono s0.m), r, h1, fun e => ?_⟩
  obtain ⟨a, rfl, ha, q⟩ := h2 e
  refine ⟨a, rfl, ?_, q⟩
  cases e : H a with
  | none => rfl
  | some o =>
    obtain ⟨o', e'⟩ := k0.live a o e
    rw [ha] at e'; cases e'
end

/-- an operand -/
def BR (A : AS) (H : Hp) (σ : L2.St) (v : V) : Bor → Prop
  | .v d => Rel A H v d
  | .r i => σ[i]? = some (some v)
/-- an operand when it is looked at -/
def Top (A : AS) (H : Hp) (v : V) (d : PyData) : Prop := Rel A H v d ∨ ∃ a, v = .ref a ∧ Own A H a d
section
variable {A A' M M' : AS} {H H' H1 H2 : Hp} {v : V} {d z : PyData} {fr : Bool} {ρ ρ' : Rho} {σ : L2.St} {p a : Addr} {i : Nat} {b : Bor}
theorem BR.keep (hs : ∀ a, M a → A a) (s : Shr A M A' M') (k : Kp M H H') (h : BR A H σ v b) : BR A' H' σ v b := by
  cases b with
  | v d => exact (Rel.keep hs k h).anti s.a
  | r i => exact h
theorem BR.top (r : RE A M H ρ σ) (h : BR A H σ v b) (g : b.get ρ = some d) : Top A H v d := by
  cases b with
  | v e => cases g; exact .inl h
  | r i =>
    have h : σ[i]? = some (some v) := h
    have g : getR ρ i = some d := g
    unfold getR at g
    cases e : ρ[i]? with
    | none => rw [e] at g; cases g
    | some s =>
      rw [e] at g
      cases s with
      | no => cases g
      | dat x =>
        cases g
        obtain ⟨v', e1, q⟩ := r.dat i _ e
        rw [h] at e1; cases e1
        exact .inl q
      | own x =>
        cases g
        obtain ⟨a, e1, _, q⟩ := r.own i _ e
        rw [h] at e1; cases e1
        exact .inr ⟨a, rfl, q⟩
theorem Top.lst {ds : List PyData} (h : Top A H v (.list ds)) : ∃ a xs, v = .ref a ∧ H a = some (.lst xs) ∧ RelAll A H xs ds := by
  rcases h with h | ⟨a, rfl, ⟨xs, ds', e, h, r⟩ | ⟨_, _, e, _⟩⟩
  · cases h with | lst h n r => exact ⟨_, _, rfl, h, r⟩
  · cases e; exact ⟨a, xs, rfl, h, r⟩
  · cases e
theorem Top.rel (h : Top A H v d) (hl : ∀ ds, d ≠ .list ds) (hd : ∀ es, d ≠ .dict es) : Rel A H v d := by
  rcases h with h | ⟨a, rfl, ⟨xs, ds', e, h, r⟩ | ⟨_, _, e, _⟩⟩
  · exact h
  · exact absurd e (hl _)
  · exact absurd e (hd _)
theorem Top.tup {ds : List PyData} (h : Top A H v (.tuple ds)) : ∃ a xs, v = .ref a ∧ H a = some (.tup xs) ∧ RelAll A H xs ds := by
  have h' := h.rel (fun _ => nofun) fun _ => nofun
  cases h' with | tup h2 r => exact ⟨_, _, rfl, h2, r⟩
theorem Top.int {i : Int} (h : Top A H v (.int i)) : v = .int i := by
  have h := h.rel (fun _ => nofun) fun _ => nofun
  cases h; rfl
theorem Top.bl {i : Bool} (h : Top A H v (.bool i)) : v = .bl i := by
  have h := h.rel (fun _ => nofun) fun _ => nofun
  cases h; rfl
theorem Top.str {i : Str} (h : Top A H v (.str i)) : v = .str i := by
  have h := h.rel (fun _ => nofun) fun _ => nofun
  cases h; rfl
theorem Top.non (h : Top A H v .none) : v = .non := by
  have h := h.rel (fun _ => nofun) fun _ => nofun
  cases h; rfl
theorem Top.scr {ds : List PyData} (h : Top A H v (.dict [(.none, .list ds)])) : ∃ a xs, v = .ref a ∧ ScrAt H a xs ∧ RelAll A H xs ds := by
  have nk : ∀ {kvs : List (Key × V)}, ¬ RelKv A H kvs [(.none, .list ds)] := fun {kvs} q => by
    have gen : ∀ {kvs : List (Key × V)} {es : List (PyData × PyData)}, RelKv A H kvs es → es = [(.none, .list ds)] → False := by
      intro kvs es q
      cases q with
      | nil => intro e; cases e
      | @cons k v kvs d es a r =>
        intro e
        cases k with
        | inl i => injection e with e1 _; injection e1 with e2 _; cases e2
        | inr i => injection e with e1 _; injection e1 with e2 _; cases e2
    exact gen q rfl
  rcases h with h | ⟨a, rfl, ⟨xs, ds', e, h, r⟩ | ⟨_, _, e, _, r⟩⟩
  · cases h with
    | dic _ _ r => exact absurd r nk
    | scr h r => exact ⟨_, _, rfl, h, r⟩
  · cases e
  · cases e; exact absurd r nk
end
end MI

/-! MI2: operations on values. -/
namespace MI
open PySem PySem.Spec PyProof.Rows L2
variable [EK]

def Lv (A : AS) (H : Hp) : Prop := ∀ a, A a → ∃ o, H a = some o
section
variable {A : AS} {H : Hp} {xs : List V} {ds : List PyData} {p : Addr}
theorem new_lst (hp : H p = none) (r : RelAll A H xs ds) : NewV A H (.list ds) true (.ref p) (upd H p (.lst xs)) :=
  ⟨Kp.new hp, (fun e => nomatch e), fun _ => ⟨p, rfl, hp, .inl ⟨xs, ds, rfl, upd_same, (r.fresh hp).keep (M := No) (fun _ z => z.elim) (Kp.new hp)⟩⟩⟩
theorem new_tup (hp : H p = none) (r : RelAll A H xs ds) : NewV A H (.tuple ds) false (.ref p) (upd H p (.tup xs)) :=
  ⟨Kp.new hp, fun _ => .tup upd_same (r.keep (M := No) (fun _ z => z.elim) (Kp.new hp)), fun e => nomatch e⟩
end
mutual
theorem Rel.dp {A : AS} {H : Hp} {K : PySem.W.Frag} : ∀ {v : V} {d : PyData}, Rel A H v d → d.hasDict = false → Dp K H v d
  | _, _, .non, _ => .non
  | _, _, .bl b, _ => .bl b
  | _, _, .int i, _ => .int i
  | _, _, .str x, _ => .str x
  | _, _, .lst h n r, c => .lst (SqL.of h) (RelAll.dp r (by simpa [PyData.hasDict] using c))
  | _, _, .tup h r, c => .tup (SqT.of h) (RelAll.dp r (by simpa [PyData.hasDict] using c))
  | _, _, .dic h n r, c => by simp [PyData.hasDict] at c
  | _, _, .scr h r, c => by simp [PyData.hasDict] at c
theorem RelAll.dp {A : AS} {H : Hp} {K : PySem.W.Frag} : ∀ {vs : List V} {ds : List PyData}, RelAll A H vs ds → PyData.hasDictAll ds = false → DpAll K H vs ds
  | _, _, .nil, _ => .nil
  | _, _, .cons a r, c => by
    simp only [PyData.hasDictAll, Bool.or_eq_false_iff] at c
    exact .cons (Rel.dp a c.1) (RelAll.dp r c.2)
end
theorem Top.dp {A : AS} {H : Hp} {K : PySem.W.Frag} {v : V} {d : PyData} (h : Top A H v d) (c : d.hasDict = false) : Dp K H v d := by
  cases d with
  | list ds =>
    obtain ⟨a, xs, rfl, h, r⟩ := h.lst
    exact .lst (SqL.of h) (r.dp (by simpa [PyData.hasDict] using c))
  | dict es => simp [PyData.hasDict] at c
  | none => exact (h.rel (fun _ => nofun) fun _ => nofun).dp c
  | bool b => exact (h.rel (fun _ => nofun) fun _ => nofun).dp c
  | int b => exact (h.rel (fun _ => nofun) fun _ => nofun).dp c
  | str b => exact (h.rel (fun _ => nofun) fun _ => nofun).dp c
  | tuple b => exact (h.rel (fun _ => nofun) fun _ => nofun).dp c
mutual
theorem lay0_nd : ∀ {d : PyData}, d.canLay0 = true → d.hasDict = false
  | .none, _ => rfl
  | .bool _, _ => rfl
  | .int _, _ => rfl
  | .str _, _ => rfl
  | .list xs, h => by
    simp only [PyData.canLay0] at h
    simpa [PyData.hasDict] using layAll0_nd h
  | .tuple xs, h => by
    simp only [PyData.canLay0] at h
    simpa [PyData.hasDict] using layAll0_nd h
  | .dict _, h => by simp [PyData.canLay0] at h
theorem layAll0_nd : ∀ {ds : List PyData}, PyData.canLayAll0 ds = true → PyData.hasDictAll ds = false
  | [], _ => rfl
  | x :: xs, h => by
    simp only [PyData.canLayAll0, Bool.and_eq_true] at h
    simp only [PyData.hasDictAll, Bool.or_eq_false_iff]
    exact ⟨lay0_nd h.1, layAll0_nd h.2⟩
end
theorem lay_dp {d : PyData} (h : lay d = true) : d.hasDict = false := by
  unfold lay SeqAt.shaped at h
  rw [Bool.and_eq_true] at h
  exact lay0_nd h.1

/-! ### two operands -/
def opOf : Bop → Operator
  | .add => .Add | .sub => .Sub | .mul => .Mult | .fdiv => .FloorDiv | .mod => .Mod | .pow => .Pow
def rBin (op : Bop) : R2 := fun x y H Q => ∃ A d e z fr, Lv A H ∧ Top A H x d ∧ Top A H y e ∧ binD op d e = some (z, fr) ∧ ∀ v H', NewV A H z fr v H' → Q v H'
theorem small_iff {i : Int} (h : small i = true) : -(2 ^ 64) < i ∧ i < 2 ^ 64 := by
  unfold small at h
  rw [Bool.and_eq_true, decide_eq_true_iff, decide_eq_true_iff] at h
  exact h
theorem bin_ok {X : Cx} (op : Bop) : OpR X (binaryOp (opOf op)) (rBin op) := by
  intro pins s σ H x y v u Q I rx ry ⟨A, d, e, z, fr, lv, hx, hy, hz, q⟩
  unfold binD at hz
  split at hz
  · cases hz
    exact op_add pins s σ H x y v u Q I rx ry ⟨_, _, hx.int, hy.int, q _ _ (.val (.int _))⟩
  · split at hz
    · cases hz
      rename_i hs
      obtain ⟨a, xs, rfl, h1, r1⟩ := hx.lst
      obtain ⟨b, ys, rfl, h2, r2⟩ := hy.lst
      exact op_cat pins s σ H _ _ v u Q I rx ry ⟨a, b, xs, ys, rfl, rfl, h1, h2, by rw [r1.length, r2.length]; exact hs, fun p hp => q _ _ (new_lst hp (r1.append r2))⟩
    · cases hz
  · split at hz
    · cases hz
      rename_i hs
      obtain ⟨a, xs, rfl, h1, r1⟩ := hx.tup
      obtain ⟨b, ys, rfl, h2, r2⟩ := hy.tup
      refine op_catA pins s σ H _ _ v u Q I rx ry ⟨a, b, xs, ys, rfl, rfl, SqT.of h1, SqT.of h2, by rw [r1.length, r2.length]; exact hs, fun e => ?_, fun _ e => ?_, fun _ _ p hp => q _ _ (new_tup hp (r1.append r2))⟩
      · subst e
        cases r1
        exact q _ _ (.val (.tup h2 r2))
      · subst e
        cases r2
        exact q _ _ (.val (by rw [List.append_nil]; exact .tup h1 r1))
    · cases hz
  · split at hz
    · cases hz
      rename_i hs
      exact op_add_str pins s σ H x y v u Q I rx ry ⟨_, _, hx.str, hy.str, hs, q _ _ (.val (.str _))⟩
    · cases hz
  · cases hz
    exact op_sub pins s σ H x y v u Q I rx ry ⟨_, _, hx.int, hy.int, q _ _ (.val (.int _))⟩
  · split at hz
    · cases hz
      rename_i hs
      refine op_mul pins s σ H x y v u Q I rx ry ⟨_, _, hx.int, hy.int, ?_, q _ _ (.val (.int _))⟩
      rw [Bool.or_eq_true] at hs
      rcases hs with hs | hs
      · exact .inl (small_iff hs)
      · exact .inr (small_iff hs)
    · cases hz
  · split at hz
    · cases hz
      rename_i hs
      obtain ⟨a, xs, rfl, h1, r1⟩ := hx.lst
      exact op_rep pins s σ H _ _ v u Q I rx ry ⟨a, _, xs, rfl, hy.int, h1, hs.1, hs.2.1, by rw [r1.length]; exact hs.2.2, fun p hp => q _ _ (new_lst hp (r1.flatten _))⟩
    · cases hz
  · split at hz
    · cases hz
      rename_i hs
      obtain ⟨a, xs, rfl, h1, r1⟩ := hx.tup
      refine op_repT pins s σ H _ _ v u Q I rx ry ⟨a, _, xs, rfl, hy.int, SqT.of h1, fun e => ?_, hs.2.1, hs.2.2.1, by rw [r1.length]; exact hs.2.2.2, fun p hp => q _ _ (new_tup hp (r1.flatten _))⟩
      subst e
      cases r1
      exact hs.1 rfl
    · cases hz
  · split at hz
    · cases hz
      rename_i hs
      exact op_fdiv pins s σ H x y v u Q I rx ry ⟨_, _, hx.int, hy.int, hs, q _ _ (.val (.int _))⟩
    · cases hz
  · split at hz
    · cases hz
      rename_i hs
      exact op_mod pins s σ H x y v u Q I rx ry ⟨_, _, hx.int, hy.int, hs, q _ _ (.val (.int _))⟩
    · cases hz
  · split at hz
    · cases hz
      rename_i hs
      exact op_pow pins s σ H x y v u Q I rx ry ⟨_, _, hx.int, hy.int, hs, q _ _ (.val (.int _))⟩
    · cases hz
  · cases hz

/-! ### comparisons -/
def copOf : Cop → CmpOp
  | .eq => .Eq | .ne => .NotEq | .lt => .Lt | .le => .LtE | .gt => .Gt | .ge => .GtE | .isin => .In | .notin => .NotIn
def rCmp (op : Cop) : R2 := fun x y H Q => ∃ A d e z, Top A H x d ∧ Top A H y e ∧ cmpD op d e = some z ∧ Q (.bl z) H
theorem flat_rel {A : AS} {H : Hp} {v : V} {d : PyData} (r : Rel A H v d) (h : flat d = true) : flatV v = true := by
  cases r <;> first | rfl | (simp [flat] at h)
theorem flat_all {A : AS} {H : Hp} : ∀ {vs : List V} {ds : List PyData}, RelAll A H vs ds → ds.all flat = true → vs.all flatV = true
  | _, _, .nil, _ => rfl
  | _, _, .cons a r, h => by
    rw [List.all_cons, Bool.and_eq_true] at h ⊢
    exact ⟨flat_rel a h.1, flat_all r h.2⟩
theorem eqF_rel {A : AS} {H : Hp} {x y : V} {d e : PyData} (r : Rel A H x d) (q : Rel A H y e) (h : flat d = true) (h2 : flat e = true) : eqV x y = eqF d e := by
  cases r <;> cases q <;> first | rfl | (simp [flat] at h) | (simp [flat] at h2)
theorem inF_rel {A : AS} {H : Hp} {x : V} {d : PyData} (r : Rel A H x d) (h : flat d = true) : ∀ {vs : List V} {ds : List PyData}, RelAll A H vs ds → ds.all flat = true → inV x vs = ds.any fun y => eqF y d
  | _, _, .nil, _ => rfl
  | _, _, .cons a q, h2 => by
    rw [List.all_cons, Bool.and_eq_true] at h2
    unfold inV
    rw [List.any_cons, List.any_cons, eqF_rel a r h2.1 h]
    exact congrArg _ (inF_rel r h q h2.2)
/-- dicts -/
theorem Top.dic {A : AS} {H : Hp} {v : V} {es : List (PyData × PyData)} (h : Top A H v (.dict es)) (n : isScr es = false) : ∃ a kvs, v = .ref a ∧ H a = some (.dK kvs) ∧ RelKv A H kvs es := by
  rcases h with h | ⟨a, rfl, ⟨_, _, e, _⟩ | ⟨kvs, _, e, h, r⟩⟩
  · cases h with
    | dic h _ r => exact ⟨_, _, rfl, h, r⟩
    | scr h r => simp [isScr] at n
  · cases e
  · cases e; exact ⟨a, kvs, rfl, h, r⟩
theorem key_rel {A : AS} {H : Hp} {v : V} {d : PyData} (r : Rel A H v d) (h : isKey d = true) : ∃ k : Key, v = kV k ∧ d = keyD k := by
  cases r <;> first | exact ⟨.inl _, rfl, rfl⟩ | exact ⟨.inr _, rfl, rfl⟩ | (simp [isKey] at h)
theorem eqK_key (a b : Key) : eqK (keyD a) (keyD b) = decide (a = b) := by
  cases a <;> cases b
  · exact decide_eq_decide.mpr ⟨congrArg _, Sum.inl.inj⟩
  · rfl
  · rfl
  · exact decide_eq_decide.mpr ⟨congrArg _, Sum.inr.inj⟩
theorem get_rel {A : AS} {H : Hp} {k : Key} : ∀ {kvs : List (Key × V)} {es : List (PyData × PyData)}, RelKv A H kvs es → (valV kvs k = none ∧ dGet es (keyD k) = none) ∨ ∃ v d, valV kvs k = some v ∧ dGet es (keyD k) = some d ∧ Rel A H v d
  | _, _, .nil => .inl ⟨rfl, rfl⟩
  | _, _, .cons (k := q) a r => by
    unfold valV dGet
    rw [List.find?_cons, List.find?_cons, eqK_key]
    by_cases e : q = k
    · simp only [e, decide_true]
      exact .inr ⟨_, _, rfl, rfl, a⟩
    · simp only [e, decide_false]
      exact get_rel r
theorem any_rel {A : AS} {H : Hp} {k : Key} : ∀ {kvs : List (Key × V)} {es : List (PyData × PyData)}, RelKv A H kvs es → (kvs.any fun kv => decide (kv.1 = k)) = (es.any fun p => eqK p.1 (keyD k))
  | _, _, .nil => rfl
  | _, _, .cons (k := q) a r => by
    rw [List.any_cons, List.any_cons, eqK_key]
    exact congrArg _ (any_rel r)
theorem RelKv.append {A : AS} {H : Hp} : ∀ {kvs kvs' : List (Key × V)} {es es' : List (PyData × PyData)}, RelKv A H kvs es → RelKv A H kvs' es' → RelKv A H (kvs ++ kvs') (es ++ es')
  | _, _, _, _, .nil, h => h
  | _, _, _, _, .cons a r, h => .cons a (RelKv.append r h)
theorem RelKv.length {A : AS} {H : Hp} : ∀ {kvs : List (Key × V)} {es : List (PyData × PyData)}, RelKv A H kvs es → kvs.length = es.length
  | _, _, .nil => rfl
  | _, _, .cons _ r => congrArg (· + 1) (RelKv.length r)
theorem map_rel {A : AS} {H : Hp} {k : Key} {v : V} {d : PyData} (hv : Rel A H v d) : ∀ {kvs : List (Key × V)} {es : List (PyData × PyData)}, RelKv A H kvs es → RelKv A H (kvs.map fun kv => if kv.1 = k then (kv.1, v) else kv) (es.map fun p => if eqK p.1 (keyD k) then (p.1, d) else p)
  | _, _, .nil => .nil
  | _, _, .cons (k := q) a r => by
    rw [List.map_cons, List.map_cons, eqK_key]
    by_cases e : q = k
    · simp only [e, decide_true, if_true]
      exact .cons hv (map_rel hv r)
    · simp only [e, decide_false, if_false]
      exact .cons a (map_rel hv r)
theorem put_rel {A : AS} {H : Hp} {k : Key} {v : V} {d : PyData} {kvs : List (Key × V)} {es : List (PyData × PyData)} (hv : Rel A H v d) (r : RelKv A H kvs es) : RelKv A H (putK kvs k v) (dPut es (keyD k) d) := by
  unfold putK dPut
  rw [any_rel r]
  split
  · exact map_rel hv r
  · exact r.append (.cons hv .nil)
theorem in_ok {X : Cx} {A : AS} {H : Hp} {x y : V} {d : PyData} {ds : List PyData} {z : Bool} (hx : Top A H x d) (hy : (∃ a xs, y = .ref a ∧ (SqL X.K H a xs ∨ SqT X.K H a xs) ∧ RelAll A H xs ds)) (hz : inD d ds = some z) :
    ∃ p xs, y = .ref p ∧ (SqL X.K H p xs ∨ SqT X.K H p xs) ∧ flatV x = true ∧ xs.all flatV = true ∧ inV x xs = z := by
  unfold inD at hz
  split at hz
  · rename_i hs
    rw [Bool.and_eq_true] at hs
    obtain ⟨a, xs, rfl, h, r⟩ := hy
    have hx' : Rel A H x d := hx.rel (fun _ e => by rw [e] at hs; exact absurd hs.1 (by simp [flat])) fun _ e => by rw [e] at hs; exact absurd hs.1 (by simp [flat])
    refine ⟨a, xs, rfl, h, flat_rel hx' hs.1, flat_all r hs.2, ?_⟩
    rw [inF_rel hx' hs.1 r hs.2]
    exact Option.some.inj hz
  · cases hz
theorem cmp_ok {X : Cx} (hu : X.A.units + 64 < cLine) (op : Cop) : OpR X (compareOp (copOf op)) (rCmp op) := by
  intro pins s σ H x y v u Q I rx ry ⟨A, d, e, z, hx, hy, hz, q⟩
  unfold cmpD at hz
  split at hz
  · cases hz
    cases hx.int; cases hy.int
    exact op_eq pins s σ H _ _ v u Q I rx ry ⟨rfl, by rw [show decide (V.int _ = V.int _) = decide (_ = _) from decide_eq_decide.mpr ⟨V.int.inj, congrArg _⟩]; exact q⟩
  · cases hz
    cases hx.str; cases hy.str
    exact op_eq pins s σ H _ _ v u Q I rx ry ⟨rfl, by rw [show decide (V.str _ = V.str _) = decide (_ = _) from decide_eq_decide.mpr ⟨V.str.inj, congrArg _⟩]; exact q⟩
  · cases hz
    cases hx.int; cases hy.int
    exact op_ne pins s σ H _ _ v u Q I rx ry ⟨rfl, by rw [show decide (V.int _ = V.int _) = decide (_ = _) from decide_eq_decide.mpr ⟨V.int.inj, congrArg _⟩]; exact q⟩
  · cases hz
    cases hx.str; cases hy.str
    exact op_ne pins s σ H _ _ v u Q I rx ry ⟨rfl, by rw [show decide (V.str _ = V.str _) = decide (_ = _) from decide_eq_decide.mpr ⟨V.str.inj, congrArg _⟩]; exact q⟩
  · split at hz
    · cases hz
      rename_i hs
      rw [Bool.and_eq_true] at hs
      exact op_eqD hu pins s σ H x y v u Q I rx ry ⟨_, _, hx.dp (lay_dp hs.1), hy.dp (lay_dp hs.2), hs.1, hs.2, q⟩
    · cases hz
  · split at hz
    · cases hz
      rename_i hs
      rw [Bool.and_eq_true] at hs
      exact op_neD hu pins s σ H x y v u Q I rx ry ⟨_, _, hx.dp (lay_dp hs.1), hy.dp (lay_dp hs.2), hs.1, hs.2, q⟩
    · cases hz
  · cases hz
    exact op_lt pins s σ H x y v u Q I rx ry ⟨_, _, hx.int, hy.int, q⟩
  · cases hz
    exact op_le pins s σ H x y v u Q I rx ry ⟨_, _, hx.int, hy.int, q⟩
  · cases hz
    exact op_gt pins s σ H x y v u Q I rx ry ⟨_, _, hx.int, hy.int, q⟩
  · cases hz
    exact op_ge pins s σ H x y v u Q I rx ry ⟨_, _, hx.int, hy.int, q⟩
  · obtain ⟨a, xs, rfl, h1, r1⟩ := hy.lst
    obtain ⟨p, ys, e1, h2, f1, f2, e2⟩ := in_ok (X := X) hx ⟨a, xs, rfl, .inl (SqL.of h1), r1⟩ hz
    exact op_in_seq pins s σ H _ _ v u Q I rx ry ⟨p, ys, e1, h2, f1, f2, by rw [if_neg Bool.false_ne_true, e2]; exact q⟩
  · obtain ⟨a, xs, rfl, h1, r1⟩ := hy.tup
    obtain ⟨p, ys, e1, h2, f1, f2, e2⟩ := in_ok (X := X) hx ⟨a, xs, rfl, .inr (SqT.of h1), r1⟩ hz
    exact op_in_seq pins s σ H _ _ v u Q I rx ry ⟨p, ys, e1, h2, f1, f2, by rw [if_neg Bool.false_ne_true, e2]; exact q⟩
  · split at hz
    · rename_i hs
      rw [Bool.and_eq_true, Bool.not_eq_true'] at hs
      obtain ⟨a, kvs, rfl, h1, r1⟩ := hy.dic hs.2
      have hx' : Rel A H x d := hx.rel (fun _ e => by rw [e] at hs; exact absurd hs.1 (by simp [isKey])) fun _ e => by rw [e] at hs; exact absurd hs.1 (by simp [isKey])
      obtain ⟨k, rfl, rfl⟩ := key_rel hx' hs.1
      cases ry
      cases hz
      have e : (valV kvs k).isSome = (dGet ‹List (PyData × PyData)› (keyD k)).isSome := by
        rcases get_rel (k := k) r1 with ⟨e1, e2⟩ | ⟨v, d, e1, e2, _⟩ <;> rw [e1, e2] <;> rfl
      rw [← e] at q
      exact d_in (by omega) I (DGet.k h1) rx fun s' I' => ⟨.bl _, H, I', rfl, q⟩
    · cases hz
  · split at hz
    · rename_i hs
      rw [Bool.and_eq_true, Bool.not_eq_true'] at hs
      obtain ⟨a, kvs, rfl, h1, r1⟩ := hy.dic hs.2
      have hx' : Rel A H x d := hx.rel (fun _ e => by rw [e] at hs; exact absurd hs.1 (by simp [isKey])) fun _ e => by rw [e] at hs; exact absurd hs.1 (by simp [isKey])
      obtain ⟨k, rfl, rfl⟩ := key_rel hx' hs.1
      cases ry
      cases hz
      have e : (valV kvs k).isSome = (dGet ‹List (PyData × PyData)› (keyD k)).isSome := by
        rcases get_rel (k := k) r1 with ⟨e1, e2⟩ | ⟨v, d, e1, e2, _⟩ <;> rw [e1, e2] <;> rfl
      rw [← e] at q
      exact d_notIn (by omega) I (DGet.k h1) rx fun s' I' => ⟨.bl _, H, I', rfl, q⟩
    · cases hz
  · obtain ⟨a, xs, rfl, h1, r1⟩ := hy.lst
    cases hi : inD d ‹List PyData› with
    | none => rw [hi] at hz; cases hz
    | some b =>
      rw [hi] at hz; cases hz
      obtain ⟨p, ys, e1, h2, f1, f2, e2⟩ := in_ok (X := X) hx ⟨a, xs, rfl, .inl (SqL.of h1), r1⟩ hi
      exact op_notIn_seq pins s σ H _ _ v u Q I rx ry ⟨p, ys, e1, h2, f1, f2, by rw [if_pos rfl, e2]; exact q⟩
  · obtain ⟨a, xs, rfl, h1, r1⟩ := hy.tup
    cases hi : inD d ‹List PyData› with
    | none => rw [hi] at hz; cases hz
    | some b =>
      rw [hi] at hz; cases hz
      obtain ⟨p, ys, e1, h2, f1, f2, e2⟩ := in_ok (X := X) hx ⟨a, xs, rfl, .inr (SqT.of h1), r1⟩ hi
      exact op_notIn_seq pins s σ H _ _ v u Q I rx ry ⟨p, ys, e1, h2, f1, f2, by rw [if_pos rfl, e2]; exact q⟩
  · cases hz

/-! ### places and slices -/
def rIx : R2 := fun x y H Q => ∃ A d k z, Top A H x d ∧ Rel A H y k ∧ idxD d k = some z ∧ ∀ v, Rel A H v z → Q v H
theorem at_rel {A : AS} {H : Hp} {vs : List V} {ds : List PyData} {i : Int} {z : PyData} (r : RelAll A H vs ds) (h : (ixOf ds.length i).bind (ds[·]?) = some z) : ∃ v, atI vs i = some v ∧ Rel A H v z := by
  unfold atI
  rw [r.length]
  show ∃ v, (ixOf ds.length i).bind (fun j => vs[j]?) = some v ∧ _
  cases e : ixOf ds.length i with
  | none => rw [e] at h; cases h
  | some j =>
    rw [e] at h
    exact r.get h
theorem ix_ok {X : Cx} (hK : X.K = EK.k) : IxR X rIx := by
  intro value slice pins s σ H x y v u Q I rx ry ⟨A, d, k, z, hx, hy, hz, q⟩ hs
  unfold idxD at hz
  split at hz
  · obtain ⟨a, xs, rfl, h, r⟩ := hx.lst
    cases hy
    obtain ⟨w, e, rw'⟩ := at_rel r hz
    exact ix_list value slice pins s σ H _ _ v u Q I rx ry ⟨a, xs, _, w, rfl, rfl, SqL.of h, e, q w rw'⟩ hs
  · obtain ⟨a, xs, rfl, h, r⟩ := hx.tup
    cases hy
    obtain ⟨w, e, rw'⟩ := at_rel r hz
    exact ix_tup value slice pins s σ H _ _ v u Q I rx ry ⟨a, xs, _, w, rfl, rfl, SqT.of h, e, q w rw'⟩ hs
  · obtain ⟨a, xs, rfl, h, r⟩ := hx.scr
    cases hy
    obtain ⟨w, e, rw'⟩ := at_rel r hz
    exact ix_list value slice pins s σ H _ _ v u Q I rx ry ⟨a, xs, _, w, rfl, rfl, h.sq hK, e, q w rw'⟩ hs
  · split at hz
    · rename_i hl
      cases hx.str
      cases hy
      rename_i zz i
      cases e : (ixOf zz.cps.toList.length i).bind (zz.cps.toList[·]?) with
      | none => rw [e] at hz; cases hz
      | some c =>
        rw [e] at hz
        cases hz
        exact ix_str value slice pins s σ H _ _ v u Q I rx ry ⟨zz, i, c, rfl, rfl, hl, e, q _ (.str _)⟩ hs
    · cases hz
  · cases hz
def rSl : V → Option Int → Option Int → Hp → VK → Prop := fun x lo hi H Q => ∃ A d z fr, Top A H x d ∧ slD d lo hi = some (z, fr) ∧ ∀ v H', NewV A H z fr v H' → Q v H'
theorem cut_rel {A : AS} {H : Hp} {vs : List V} {ds : List PyData} (r : RelAll A H vs ds) (lo hi : Option Int) : RelAll A H (cutV vs lo hi) (cut ds lo hi) := by
  have e : cutV vs lo hi = (vs.drop (cutIx ds.length 0 lo)).take (cutIx ds.length ds.length hi - cutIx ds.length 0 lo) := by
    unfold cutV
    rw [r.length]
    rfl
  rw [e]
  exact (r.drop _).take _
theorem sl_ok {X : Cx} (hK : X.K = EK.k) : SlR X rSl := by
  intro pins s σ H x v vl vu lo hi sl Q I rx hs pl pu ⟨A, d, z, fr, hx, hz, q⟩
  unfold slD at hz
  split at hz
  · cases hz
    obtain ⟨a, xs, rfl, h, r⟩ := hx.lst
    exact sl_list pins s σ H _ v vl vu _ _ sl Q I rx hs pl pu ⟨a, xs, rfl, SqL.of h, fun p hp => q _ _ (new_lst hp (cut_rel r _ _))⟩
  · cases hz
    obtain ⟨a, xs, rfl, h, r⟩ := hx.scr
    exact sl_list pins s σ H _ v vl vu _ _ sl Q I rx hs pl pu ⟨a, xs, rfl, h.sq hK, fun p hp => q _ _ (new_lst hp (cut_rel r _ _))⟩
  · cases hz
    obtain ⟨a, xs, rfl, h, r⟩ := hx.tup
    refine sl_tupA pins s σ H _ v vl vu _ _ sl Q I rx hs pl pu ⟨a, xs, rfl, SqT.of h, fun e => ?_, fun _ p hp => q _ _ (new_tup hp (cut_rel r _ _))⟩
    have c := cut_rel r lo hi
    have e2 : cutV xs lo hi = xs := by
      unfold cutV
      rw [e.1, e.2, List.drop_zero, Nat.sub_zero, List.take_length]
    rw [e2] at c
    exact q _ _ (.val (.tup h c))
  · split at hz
    · cases hz
      rename_i hl
      cases hx.str
      exact sl_str pins s σ H _ v vl vu _ _ sl Q I rx hs pl pu ⟨_, rfl, hl, q _ _ (.val (by
        have e : ∀ z : Str, z.length = z.cps.toList.length := fun z => by rw [Array.length_toList]; rfl
        have e3 : cutS ‹Str› lo hi = ⟨(cut (‹Str›).cps.toList lo hi).toArray⟩ := by
          unfold cutS
          rw [e]
          rfl
        rw [e3]
        exact .str _))⟩
    · cases hz
  · cases hz

/-! ### built-ins -/
inductive TopAll (A : AS) (H : Hp) : List V → List PyData → Prop
  | nil : TopAll A H [] []
  | cons {v : V} {vs : List V} {d : PyData} {ds : List PyData} : Top A H v d → TopAll A H vs ds → TopAll A H (v :: vs) (d :: ds)
theorem bools_rel {A : AS} {H : Hp} : ∀ {vs : List V} {ds : List PyData} {bs : List Bool}, RelAll A H vs ds → boolsOf ds = some bs → vs = bs.map V.bl
  | _, _, _, .nil, h => by cases h; rfl
  | _, _, _, .cons a r, h => by
    cases a with
    | bl b =>
      simp only [boolsOf] at h
      cases e : boolsOf ‹List PyData› with
      | none => rw [e] at h; cases h
      | some q => rw [e] at h; cases h; rw [bools_rel r e]; rfl
    | _ => simp [boolsOf] at h
theorem ints_rel {A : AS} {H : Hp} : ∀ {vs : List V} {ds : List PyData} {bs : List Int}, RelAll A H vs ds → intsOf ds = some bs → vs = bs.map V.int
  | _, _, _, .nil, h => by cases h; rfl
  | _, _, _, .cons a r, h => by
    cases a with
    | int b =>
      simp only [intsOf] at h
      cases e : intsOf ‹List PyData› with
      | none => rw [e] at h; cases h
      | some q => rw [e] at h; cases h; rw [ints_rel r e]; rfl
    | _ => simp [intsOf] at h
theorem ints_all {A : AS} {H : Hp} : ∀ ns : List Int, RelAll A H (ns.map V.int) (ns.map PyData.int)
  | [] => .nil
  | _ :: r => .cons (.int _) (ints_all r)
theorem maxL_mem : ∀ (r : List Int) (n : Int), maxL n r ∈ n :: r ∧ ∀ y ∈ n :: r, y ≤ maxL n r
  | [], n => ⟨List.mem_cons_self, fun y h => by
      rcases List.mem_cons.mp h with rfl | h
      · exact Int.le_refl _
      · cases h⟩
  | x :: r, n => by
    obtain ⟨h1, h2⟩ := maxL_mem r (if n < x then x else n)
    have h0 := h2 _ List.mem_cons_self
    show maxL (if n < x then x else n) r ∈ _ ∧ ∀ y ∈ _, y ≤ maxL (if n < x then x else n) r
    refine ⟨?_, fun y h => ?_⟩
    · rcases List.mem_cons.mp h1 with e | h
      · rw [e]
        split
        · exact List.mem_cons_of_mem _ List.mem_cons_self
        · exact List.mem_cons_self
      · exact List.mem_cons_of_mem _ (List.mem_cons_of_mem _ h)
    · rcases List.mem_cons.mp h with e | h
      · rw [e]
        revert h0
        generalize maxL (if n < x then x else n) r = M
        intro h0
        split at h0 <;> omega
      · rcases List.mem_cons.mp h with e | h
        · rw [e]
          revert h0
          generalize maxL (if n < x then x else n) r = M
          intro h0
          split at h0 <;> omega
        · exact h2 y (List.mem_cons_of_mem _ h)
theorem minL_mem : ∀ (r : List Int) (n : Int), minL n r ∈ n :: r ∧ ∀ y ∈ n :: r, minL n r ≤ y
  | [], n => ⟨List.mem_cons_self, fun y h => by
      rcases List.mem_cons.mp h with rfl | h
      · exact Int.le_refl _
      · cases h⟩
  | x :: r, n => by
    obtain ⟨h1, h2⟩ := minL_mem r (if x < n then x else n)
    have h0 := h2 _ List.mem_cons_self
    show minL (if x < n then x else n) r ∈ _ ∧ ∀ y ∈ _, minL (if x < n then x else n) r ≤ y
    refine ⟨?_, fun y h => ?_⟩
    · rcases List.mem_cons.mp h1 with e | h
      · rw [e]
        split
        · exact List.mem_cons_of_mem _ List.mem_cons_self
        · exact List.mem_cons_self
      · exact List.mem_cons_of_mem _ (List.mem_cons_of_mem _ h)
    · rcases List.mem_cons.mp h with e | h
      · rw [e]
        revert h0
        generalize minL (if x < n then x else n) r = M
        intro h0
        split at h0 <;> omega
      · rcases List.mem_cons.mp h with e | h
        · rw [e]
          revert h0
          generalize minL (if x < n then x else n) r = M
          intro h0
          split at h0 <;> omega
        · exact h2 y (List.mem_cons_of_mem _ h)
theorem insI_perm (x : Int) : ∀ r : List Int, (insI x r).Perm (x :: r)
  | [] => List.Perm.refl _
  | y :: r => by
    unfold insI
    split
    · exact List.Perm.refl _
    · exact (List.Perm.cons y (insI_perm x r)).trans (List.Perm.swap x y r)
theorem sortI_perm : ∀ r : List Int, (sortI r).Perm r
  | [] => List.Perm.refl _
  | x :: r => (insI_perm x (sortI r)).trans (List.Perm.cons x (sortI_perm r))
theorem insI_sorted (x : Int) : ∀ r : List Int, r.Pairwise (· ≤ ·) → (insI x r).Pairwise (· ≤ ·)
  | [], _ => List.pairwise_singleton _ _
  | y :: r, h => by
    unfold insI
    rw [List.pairwise_cons] at h
    split
    · rename_i hx
      refine List.pairwise_cons.mpr ⟨fun z hz => ?_, List.pairwise_cons.mpr h⟩
      rcases List.mem_cons.mp hz with rfl | hz
      · exact hx
      · exact Int.le_trans hx (h.1 z hz)
    · rename_i hx
      refine List.pairwise_cons.mpr ⟨fun z hz => ?_, insI_sorted x r h.2⟩
      rcases List.mem_cons.mp ((insI_perm x r).mem_iff.mp hz) with rfl | hz
      · omega
      · exact h.1 z hz
theorem sortI_sorted : ∀ r : List Int, (sortI r).Pairwise (· ≤ ·)
  | [] => List.Pairwise.nil
  | x :: r => insI_sorted x _ (sortI_sorted r)
theorem sorted_one : ∀ {xs ys : List Int}, xs.Perm ys → xs.Pairwise (· ≤ ·) → ys.Pairwise (· ≤ ·) → xs = ys
  | [], ys, p, _, _ => by rw [List.nil_perm.mp p]
  | x :: xs, [], p, _, _ => by have := p.length_eq; simp at this
  | x :: xs, y :: ys, p, h1, h2 => by
    rw [List.pairwise_cons] at h1 h2
    have e : x = y := by
      have a : x ∈ y :: ys := p.mem_iff.mp List.mem_cons_self
      have b : y ∈ x :: xs := p.mem_iff.mpr List.mem_cons_self
      rcases List.mem_cons.mp a with a | a
      · exact a
      · rcases List.mem_cons.mp b with b | b
        · exact b.symm
        · have := h1.1 y b
          have := h2.1 x a
          omega
    subst e
    rw [sorted_one (List.Perm.cons_inv p) h1.2 h2.2]
def fnBi : Bi → Value
  | .len => .builtin "len" | .all => .builtin "all" | .any => .builtin "any" | .tuple => .type "tuple" | .list => .type "list"
  | .sorted => .builtin "sorted" | .sum => .builtin "sum" | .max1 => .builtin "max" | .min1 => .builtin "min" | .max2 => .builtin "max" | .min2 => .builtin "min"
  | .repr => .builtin "repr" | .str => .type "str" | .int => .type "int"
  | _ => .none
def rBi (b : Bi) : List V → Hp → VK → Prop := fun xs H Q => ∃ A ds z fr, TopAll A H xs ds ∧ biD b ds = some (z, fr) ∧ ∀ v H', NewV A H z fr v H' → Q v H'
theorem TopAll.one {A : AS} {H : Hp} {xs : List V} {d : PyData} (h : TopAll A H xs [d]) : ∃ v, xs = [v] ∧ Top A H v d := by
  cases h with | cons a r => cases r with | nil => exact ⟨_, rfl, a⟩
theorem TopAll.two {A : AS} {H : Hp} {xs : List V} {d e : PyData} (h : TopAll A H xs [d, e]) : ∃ v w, xs = [v, w] ∧ Top A H v d ∧ Top A H w e := by
  cases h with | cons a r => obtain ⟨w, rfl, q⟩ := r.one; exact ⟨_, w, rfl, a, q⟩
/-- repr of data -/
theorem repr_ok {X : Cx} (hg : X.A.guards = some []) (hu : X.A.units + 100 < cLine) : CallR X (.builtin "repr") (fun xs H Q => ∃ A d, ∃ v, xs = [v] ∧ Top A H v d ∧ shows d = true ∧ Q (.str d.shown) H) := by
  intro pins s σ H xs us Q I r ⟨A, d, v, e, ht, hs, q⟩
  subst e
  cases r with
  | cons rv rn =>
    cases rn
    unfold shows at hs
    simp only [Bool.and_eq_true, decide_eq_true_iff] at hs
    obtain ⟨⟨⟨h1, h2⟩, h3⟩, h4⟩ := hs
    have h2' : d.hasDict = false := by simpa using h2
    have ref : ∀ a, v = .ref a → ∀ (as : List Addr), Reads s.heap (.ref a) d as → wpAny (model X.prog X.w) X.A (call (.builtin "repr") [.ref a]) (EP X pins σ Q) X.xe s := fun a e as rd =>
      repr_of_reads' rd h1 (PyData.noDict_hsm h2') hg (by omega) (fun _ _ e => e) (fun h' u tk k => ⟨.str d.shown, H, I.kept (t' := tk) k, ⟨_, rfl⟩, q⟩) h4
    obtain ⟨as, rd⟩ := Dp.reads I d v _ (ht.dp h2') rv
    cases d with
    | none => cases ht.non; cases rv; exact PySem.P.repr_of_none ⟨.str _, H, I.tok _, ⟨_, rfl⟩, q⟩
    | bool b => cases ht.bl; cases rv; exact PySem.P.repr_of_bool ⟨.str _, H, I.tok _, ⟨_, by cases b <;> rfl⟩, q⟩
    | int i => cases ht.int; obtain ⟨t, rfl⟩ := rv; exact PySem.P.repr_of_int (by simpa [PyData.showable] using h1) ⟨.str _, H, I.tok _, ⟨_, rfl⟩, q⟩
    | str z => cases ht.str; obtain ⟨t, rfl⟩ := rv; exact PySem.P.repr_of_str ⟨.str _, H, I.tok _, ⟨_, rfl⟩, q⟩ h4
    | list ds =>
      obtain ⟨a, xs, rfl, hh, rr⟩ := ht.lst
      cases rv
      exact ref a rfl as rd
    | tuple ds =>
      obtain ⟨a, xs, rfl, hh, rr⟩ := ht.tup
      cases rv
      exact ref a rfl as rd
    | dict es => simp [PyData.hasDict] at h2'
theorem bi_ok {X : Cx} (hK : X.K = EK.k) (hc : X.calm = true) (hg : X.A.guards = some []) (hu : X.A.units + 100 < cLine) (b : Bi) (hb : tyOf b = none) : CallR X (fnBi b) (rBi b) := by
  intro pins s σ H xs us Q I r ⟨A, ds, z, fr, ht, hz, q⟩
  unfold biD at hz
  split at hz
  · cases hz
    obtain ⟨v, rfl, h⟩ := ht.one
    obtain ⟨a, ys, rfl, h1, r1⟩ := h.lst
    exact call_len_seq pins s σ H _ us Q I r ⟨a, ys, rfl, .inl (SqL.of h1), by rw [r1.length]; exact q _ _ (.val (.int _))⟩
  · cases hz
    obtain ⟨v, rfl, h⟩ := ht.one
    obtain ⟨a, ys, rfl, h1, r1⟩ := h.tup
    exact call_len_seq pins s σ H _ us Q I r ⟨a, ys, rfl, .inr (SqT.of h1), by rw [r1.length]; exact q _ _ (.val (.int _))⟩
  · cases hz
    obtain ⟨v, rfl, h⟩ := ht.one
    obtain ⟨a, ys, rfl, h1, r1⟩ := h.scr
    exact call_len_seq pins s σ H _ us Q I r ⟨a, ys, rfl, .inl (h1.sq hK), by rw [r1.length]; exact q _ _ (.val (.int _))⟩
  · split at hz
    · rename_i hl
      cases hz
      obtain ⟨v, rfl, h⟩ := ht.one
      cases h.str
      exact call_len_str pins s σ H _ us Q I r ⟨_, rfl, hl, q _ _ (.val (.int _))⟩
    · cases hz
  · obtain ⟨v, rfl, h⟩ := ht.one
    obtain ⟨a, ys, rfl, h1, r1⟩ := h.lst
    cases e : boolsOf ‹List PyData› with
    | none => rw [e] at hz; cases hz
    | some bs =>
      rw [e] at hz; cases hz
      have e2 := bools_rel r1 e
      subst e2
      exact cr_all hc pins s σ H _ us Q I r ⟨a, bs, rfl, SqL.of h1, q _ _ (.val (.bl _))⟩
  · obtain ⟨v, rfl, h⟩ := ht.one
    obtain ⟨a, ys, rfl, h1, r1⟩ := h.lst
    cases e : boolsOf ‹List PyData› with
    | none => rw [e] at hz; cases hz
    | some bs =>
      rw [e] at hz; cases hz
      have e2 := bools_rel r1 e
      subst e2
      exact cr_any hc pins s σ H _ us Q I r ⟨a, bs, rfl, SqL.of h1, q _ _ (.val (.bl _))⟩
  · cases hz
    obtain ⟨v, rfl, h⟩ := ht.one
    obtain ⟨a, ys, rfl, h1, r1⟩ := h.lst
    exact call_tuple_of pins s σ H _ us Q I r ⟨a, ys, rfl, .inl ⟨SqL.of h1, fun l hl => q _ _ (new_tup hl r1)⟩⟩
  · cases hz
    obtain ⟨v, rfl, h⟩ := ht.one
    obtain ⟨a, ys, rfl, h1, r1⟩ := h.tup
    exact call_tuple_of pins s σ H _ us Q I r ⟨a, ys, rfl, .inr ⟨SqT.of h1, q _ _ (.val (.tup h1 r1))⟩⟩
  · cases hz
    obtain ⟨v, rfl, h⟩ := ht.one
    obtain ⟨a, ys, rfl, h1, r1⟩ := h.lst
    exact call_list_of pins s σ H _ us Q I r ⟨a, ys, rfl, .inl (SqL.of h1), fun l hl => q _ _ (new_lst hl r1)⟩
  · cases hz
    obtain ⟨v, rfl, h⟩ := ht.one
    obtain ⟨a, ys, rfl, h1, r1⟩ := h.tup
    exact call_list_of pins s σ H _ us Q I r ⟨a, ys, rfl, .inr (SqT.of h1), fun l hl => q _ _ (new_lst hl r1)⟩
  · obtain ⟨v, rfl, h⟩ := ht.one
    obtain ⟨a, ys, rfl, h1, r1⟩ := h.lst
    cases e : intsOf ‹List PyData› with
    | none => rw [e] at hz; cases hz
    | some bs =>
      rw [e] at hz; cases hz
      have e2 := ints_rel r1 e
      subst e2
      exact cr_sum hc pins s σ H _ us Q I r ⟨a, bs, rfl, SqL.of h1, q _ _ (.val (.int _))⟩
  · obtain ⟨v, rfl, h⟩ := ht.one
    obtain ⟨a, ys, rfl, h1, r1⟩ := h.lst
    cases e : intsOf ‹List PyData› with
    | none => rw [e] at hz; cases hz
    | some bs =>
      rw [e] at hz
      have e2 := ints_rel r1 e
      subst e2
      cases bs with
      | nil => cases hz
      | cons n rr =>
        cases hz
        refine cr_max hc pins s σ H _ us Q I r ⟨a, _, rfl, SqL.of h1, Nat.succ_pos _, fun m hm hle => ?_⟩
        have e3 : m = maxL n rr := Int.le_antisymm ((maxL_mem rr n).2 m hm) (hle _ (maxL_mem rr n).1)
        rw [e3]
        exact q _ _ (.val (.int _))
  · obtain ⟨v, rfl, h⟩ := ht.one
    obtain ⟨a, ys, rfl, h1, r1⟩ := h.lst
    cases e : intsOf ‹List PyData› with
    | none => rw [e] at hz; cases hz
    | some bs =>
      rw [e] at hz
      have e2 := ints_rel r1 e
      subst e2
      cases bs with
      | nil => cases hz
      | cons n rr =>
        cases hz
        refine cr_min hc pins s σ H _ us Q I r ⟨a, _, rfl, SqL.of h1, Nat.succ_pos _, fun m hm hle => ?_⟩
        have e3 : m = minL n rr := Int.le_antisymm (hle _ (minL_mem rr n).1) ((minL_mem rr n).2 m hm)
        rw [e3]
        exact q _ _ (.val (.int _))
  · cases hz
    obtain ⟨v, w, rfl, h, h'⟩ := ht.two
    cases h.int; cases h'.int
    exact call_max2 hc pins s σ H _ us Q I r ⟨_, _, rfl, q _ _ (.val (.int _))⟩
  · cases hz
    obtain ⟨v, w, rfl, h, h'⟩ := ht.two
    cases h.int; cases h'.int
    exact call_min2 hc pins s σ H _ us Q I r ⟨_, _, rfl, q _ _ (.val (.int _))⟩
  · obtain ⟨v, rfl, h⟩ := ht.one
    obtain ⟨a, ys, rfl, h1, r1⟩ := h.lst
    cases e : intsOf ‹List PyData› with
    | none => rw [e] at hz; cases hz
    | some bs =>
      rw [e] at hz; cases hz
      have e2 := ints_rel r1 e
      subst e2
      refine cr_sortedI pins s σ H _ us Q I r ⟨a, bs, rfl, SqL.of h1, fun ns' p hp hs hn => ?_⟩
      rw [sorted_one (hp.trans (sortI_perm bs).symm) hs (sortI_sorted bs)]
      exact q _ _ (new_lst hn (ints_all _))
  · split at hz
    · rename_i hl
      cases hz
      obtain ⟨v, rfl, h⟩ := ht.one
      exact repr_ok hg hu pins s σ H _ us Q I r ⟨A, _, v, rfl, h, hl, q _ _ (.val (.str _))⟩
    · cases hz
  · cases hz
    obtain ⟨v, rfl, h⟩ := ht.one
    cases h.int
    exact call_int1 pins s σ H _ us Q I r (.inl ⟨_, rfl, q _ _ (.val (.int _))⟩)
  · cases hz
    obtain ⟨v, rfl, h⟩ := ht.one
    cases h.bl
    exact call_int1 pins s σ H _ us Q I r (.inr ⟨_, rfl, q _ _ (.val (.int _))⟩)
  · cases hb
  · cases hb
  · cases hb
  · cases hb
  · cases hb
  · cases hz
/-- isinstance(x, T) -/
def rIs (b : Bi) : List V → Hp → VK → Prop := fun xs H Q => ∃ A d v n z, xs = [v, .ty n] ∧ tyOf b = some n ∧ Top A H v d ∧ isaD b d = some z ∧ Q (.bl z) H
theorem is_ok {X : Cx} (b : Bi) : CallR X (.builtin "isinstance") (rIs b) := by
  intro pins s σ H xs us Q I r ⟨A, d, v, n, z, e, hn, ht, hz, q⟩
  have fin : ∀ t : String, TyX X.K H v (.type t) → kitB t n = some z → wpAny (model X.prog X.w) X.A (call (.builtin "isinstance") us) (EP X pins σ Q) X.xe s := fun t ty k =>
    call_isi pins s σ H xs us Q I r ⟨v, .ty n, .type t, .type n, z, e, .ty n, ty, kit_ty k, q⟩
  cases d with
  | none =>
    cases ht.non
    refine fin _ (.base .non) ?_
    cases b <;> cases hn <;> cases hz <;> decide +kernel
  | bool i =>
    cases ht.bl
    refine fin _ (.base (.bl i)) ?_
    cases b <;> cases hn <;> cases hz <;> decide +kernel
  | int i =>
    cases ht.int
    refine fin _ (.base (.int i)) ?_
    cases b <;> cases hn <;> cases hz <;> decide +kernel
  | str i =>
    cases ht.str
    refine fin _ (.base (.str i)) ?_
    cases b <;> cases hn <;> cases hz <;> decide +kernel
  | list ds =>
    obtain ⟨a, xs, rfl, h, _⟩ := ht.lst
    refine fin _ (.base (.lst h)) ?_
    cases b <;> cases hn <;> cases hz <;> decide +kernel
  | tuple ds =>
    obtain ⟨a, xs, rfl, h, _⟩ := ht.tup
    refine fin _ (.base (.tup h)) ?_
    cases b <;> cases hn <;> cases hz <;> decide +kernel
  | dict es =>
    have hd : ∃ a kvs, v = .ref a ∧ H a = some (.dK kvs) := by
      rcases ht with ht | ⟨a, rfl, ⟨_, _, e, _⟩ | ⟨kvs, _, _, h, _⟩⟩
      · cases ht with
        | dic h _ _ => exact ⟨_, _, rfl, h⟩
        | scr h _ => cases b <;> cases hz
      · cases e
      · exact ⟨a, kvs, rfl, h⟩
    obtain ⟨a, kvs, rfl, h⟩ := hd
    refine fin _ (.base (.dK h)) ?_
    have hz' : z = false := by
      unfold isaD at hz
      split at hz <;> cases hz <;> first | rfl | (rename_i hq; cases hq)
    subst hz'
    cases b <;> cases hn <;> decide +kernel
end MI

/-! MI3: expressions: the interpreter's step is a reading. -/
namespace MI
open PySem PySem.Spec PyProof.Rows L2
variable [EK]

def tE (F : Fns) (m : ME) : TE := fun σ H Q => ∃ A M ρ d fr ρ', RE A M H ρ σ ∧ evE F m ρ = some (d, fr, ρ') ∧ ∀ v H', Pst A M H ρ' σ d fr v H' → Q v H'
def tB (F : Fns) (m : ME) : TE := fun σ H Q => ∃ A M ρ b ρ', RE A M H ρ σ ∧ bor (evE F m) m ρ = some (b, ρ') ∧ ∀ v H' A' M', Shr A M A' M' → Kp M H H' → RE A' M' H' ρ' σ → BR A' H' σ v b → Q v H'
def tT (F : Fns) (m : ME) : TT := fun σ H Q => ∃ A M ρ b ρ', RE A M H ρ σ ∧ evT F m ρ = some (b, ρ') ∧ ∀ H' A' M', Shr A M A' M' → Kp M H H' → RE A' M' H' ρ' σ → Q b H'
theorem _root_.L2.PE.imp {X : Cx} {e : Expr} {t t' : TE} (h : PE X e t) (f : ∀ σ H Q, t' σ H Q → t σ H Q) : PE X e t' := ⟨fun pins s σ H Q I q => h.run pins s σ H Q I (f σ H Q q)⟩
theorem _root_.L2.PT.imp {X : Cx} {e : Expr} {t t' : TT} (h : PT X e t) (f : ∀ σ H Q, t' σ H Q → t σ H Q) : PT X e t' := ⟨fun pins s σ H Q I q => h.run pins s σ H Q I (f σ H Q q)⟩
theorem _root_.L2.PW.imp {X : Cx} {e : Expr} {t t' : TT} (h : PW X e t) (f : ∀ σ H Q, t' σ H Q → t σ H Q) : PW X e t' := ⟨fun wh pins s σ H Q I q => h.run wh pins s σ H Q I (f σ H Q q)⟩
/-- an expression and its step: as a value, as something looked at -/
structure Eb (X : Cx) (F : Fns) (e : Expr) (m : ME) : Prop where
  ev : PE X e (tE F m)
  bo : PE X e (tB F m)
section
variable {A A' M M' : AS} {H H' H1 H2 : Hp} {v : V} {d z : PyData} {fr : Bool} {ρ ρ' : Rho} {σ : L2.St} {p a : Addr} {i : Nat}
theorem Kp.comp {M1 : AS} (k : Kp M H H1) (s : Shr A M A' M1) (k1 : Kp M1 H1 H2) : Kp M H H2 := k.trans (k1.mono s.m)
/-- a variable's own list stands still from here on -/
theorem RE.freeze (r : RE A M H ρ σ) (e : ρ[i]? = some (Slot.own d)) : ∃ A' M' a, Shr A M A' M' ∧ σ[i]? = some (some (.ref a)) ∧ RE A' M' H (ρ.set i (.dat d)) σ ∧ Rel A' H (.ref a) d := by
  obtain ⟨a, e1, hm, ho⟩ := r.own i d e
  have hi : i < ρ.length := (List.getElem?_eq_some_iff.mp e).1
  have aa : ∀ x, butA A a x → A x := fun x h => h.1
  have rel : Rel (butA A a) H (.ref a) d := (ho.anti aa).rel fun z => z.2 rfl
  refine ⟨butA A a, butA M a, a, ⟨aa, fun x h => h.1, fun x h n => ?_⟩, e1, ⟨by rw [List.length_set]; exact r.len, fun x h => ⟨r.sub x h.1, h.2⟩, fun x h => r.live x h.1, fun j x h => ?_, fun j x h => ?_, fun j k x y b h1 h2 h3 h4 => ?_⟩, rel⟩
  · by_cases hx : x = a
    · rw [hx]; exact hm
    · exact absurd ⟨h, hx⟩ n
  · by_cases hj : j = i
    · subst hj
      rw [List.getElem?_set_self hi] at h
      cases h
      exact ⟨_, e1, rel⟩
    · rw [List.getElem?_set_ne (Ne.symm hj)] at h
      obtain ⟨v, q1, q2⟩ := r.dat j x h
      exact ⟨v, q1, q2.anti aa⟩
  · by_cases hj : j = i
    · subst hj
      rw [List.getElem?_set_self hi] at h
      cases h
    · rw [List.getElem?_set_ne (Ne.symm hj)] at h
      obtain ⟨b, q1, q2, q3⟩ := r.own j x h
      refine ⟨b, q1, ⟨q2, fun z => ?_⟩, q3.anti aa⟩
      subst z
      exact hj (r.inj j i x d _ h e q1 e1)
  · have hj : j ≠ i := fun z => by subst z; rw [List.getElem?_set_self hi] at h1; cases h1
    have hk : k ≠ i := fun z => by subst z; rw [List.getElem?_set_self hi] at h2; cases h2
    rw [List.getElem?_set_ne (Ne.symm hj)] at h1
    rw [List.getElem?_set_ne (Ne.symm hk)] at h2
    exact r.inj j k x y b h1 h2 h3 h4
end
section
variable {X : Cx} {F : Fns} {e a b c : Expr} {m ma mb mc : ME} {pos : Pos}
/-- what is reckoned may be looked at -/
theorem Eb.of (h : PE X e (tE F m)) (hm : ∀ i, m ≠ .var i) : Eb X F e m := by
  refine ⟨h, h.imp fun σ H Q ⟨A, M, ρ, b, ρ', r, ev, q⟩ => ?_⟩
  have ev' : (evE F m ρ).map (fun (d, _, ρ') => (Bor.v d, ρ')) = some (b, ρ') := by
    cases m with
    | var i => exact absurd rfl (hm i)
    | _ => exact ev
  cases hz : evE F m ρ with
  | none => rw [hz] at ev'; cases ev'
  | some z =>
    obtain ⟨d, fr, ρ2⟩ := z
    rw [hz] at ev'
    cases ev'
    refine ⟨A, M, ρ, d, fr, _, r, hz, fun v H' p => ?_⟩
    obtain ⟨A', M', s, k, r', rel⟩ := p.std r.live
    exact q v H' A' M' s k r' rel
theorem e_const {t : V} {d : PyData} (h : PE X e (tC t)) (hr : ∀ A H, Rel A H t d) : Eb X F e (.lit d) :=
  Eb.of (h.imp fun σ H Q ⟨A, M, ρ, d', fr, ρ', r, ev, q⟩ => by
    cases ev
    exact q _ _ ((NewV.val (hr A H)).pst r)) (fun _ => nofun)
theorem e_var {i : Nat} (h : PE X e (tVar i)) : Eb X F e (.var i) := by
  refine ⟨h.imp fun σ H Q ⟨A, M, ρ, d, fr, ρ', r, ev, q⟩ => ?_, h.imp fun σ H Q ⟨A, M, ρ, b, ρ', r, ev, q⟩ => ?_⟩
  · have ev' : rdVar ρ i = some (d, fr, ρ') := ev
    unfold rdVar at ev'
    split at ev'
    · rename_i x hx
      cases ev'
      obtain ⟨v, e1, rel⟩ := r.dat i _ hx
      exact ⟨v, e1, q v H ((NewV.val rel).pst r)⟩
    · rename_i x hx
      cases ev'
      obtain ⟨A', M', a, s, e1, r', rel⟩ := r.freeze hx
      exact ⟨_, e1, q _ H ⟨A', M', s, Kp.refl _ _, r', fun _ => rel, fun z => nomatch z⟩⟩
    · cases ev'
  · have ev' : (match ρ[i]? with | some (.own _) => some (Bor.r i, ρ) | some (.dat d) => some (.v d, ρ) | _ => none) = some (b, ρ') := ev
    split at ev'
    · rename_i x hx
      cases ev'
      obtain ⟨a, e1, _, _⟩ := r.own i _ hx
      exact ⟨_, e1, q _ H A M (Shr.refl _ _) (Kp.refl _ _) r e1⟩
    · rename_i x hx
      cases ev'
      obtain ⟨v, e1, rel⟩ := r.dat i _ hx
      exact ⟨v, e1, q v H A M (Shr.refl _ _) (Kp.refl _ _) r rel⟩
    · cases ev'
theorem e_bin {op : Bop} (ha : Eb X F a ma) (hb : Eb X F b mb) : Eb X F (.BinOp a (opOf op) b pos) (.bin op ma mb) := by
  refine Eb.of ((pe_op (bin_ok op) ha.bo hb.bo).imp fun σ H Q ⟨A, M, ρ, d, fr, ρ', r, ev, q⟩ => ?_) fun _ => nofun
  simp only [evE, Option.bind_eq_some_iff, Option.map_eq_some_iff] at ev
  obtain ⟨⟨x, ρ1⟩, h1, ⟨y, ρ2⟩, h2, dx, h3, dy, h4, ⟨z, fr'⟩, h5, h6⟩ := ev
  cases h6
  exact ⟨A, M, ρ, x, ρ1, r, h1, fun v H1 A1 M1 s1 k1 r1 b1 => ⟨A1, M1, ρ1, y, ρ2, r1, h2, fun w H2 A2 M2 s2 k2 r2 b2 =>
    ⟨A2, dx, dy, z, fr', r2.live, (b1.keep r1.sub s2 k2).top r2 h3, b2.top r2 h4, h5, fun v H' nv => q v H' (((nv.pst r2).after s2 k2).after s1 k1)⟩⟩⟩
theorem Pst.bool {A M : AS} {H : Hp} {ρ : Rho} {σ : L2.St} {k : Bool} (r : RE A M H ρ σ) : Pst A M H ρ σ (.bool k) false (.bl k) H := (NewV.val (.bl k)).pst r
theorem e_cmp {op : Cop} (hu : X.A.units + 64 < cLine) (ha : Eb X F a ma) (hb : Eb X F b mb) (hm : behindInMarks (copOf op) b = false) : Eb X F (.Compare a [copOf op] [b] pos) (.cmp op ma mb) := by
  refine Eb.of ((pe_cmpR (cmp_ok hu op) ha.bo hb.bo hm).imp fun σ H Q ⟨A, M, ρ, d, fr, ρ', r, ev, q⟩ => ?_) fun _ => nofun
  simp only [evE, Option.bind_eq_some_iff, Option.map_eq_some_iff] at ev
  obtain ⟨⟨x, ρ1⟩, h1, ⟨y, ρ2⟩, h2, dx, h3, dy, h4, z, h5, h6⟩ := ev
  cases h6
  exact ⟨A, M, ρ, x, ρ1, r, h1, fun v H1 A1 M1 s1 k1 r1 b1 => ⟨A1, M1, ρ1, y, ρ2, r1, h2, fun w H2 A2 M2 s2 k2 r2 b2 =>
    ⟨A2, dx, dy, z, (b1.keep r1.sub s2 k2).top r2 h3, b2.top r2 h4, h5, q _ _ (((Pst.bool r2).after s2 k2).after s1 k1)⟩⟩⟩
theorem t_cmp {op : Cop} (hu : X.A.units + 64 < cLine) (ha : Eb X F a ma) (hb : Eb X F b mb) (hm : behindInMarks (copOf op) b = false) : PT X (.Compare a [copOf op] [b] pos) (tT F (.tst (.cmp op ma mb))) := by
  refine (pt_cmpR (cmp_ok hu op) ha.bo hb.bo hm).imp fun σ H Q ⟨A, M, ρ, d, ρ', r, ev, q⟩ => ?_
  simp only [evT, bor, evE, Option.bind_eq_some_iff, Option.map_eq_some_iff] at ev
  obtain ⟨⟨xx, ρ0⟩, ⟨⟨z0, f0, ρ00⟩, ⟨⟨x, ρ1⟩, h1, ⟨y, ρ2⟩, h2, dx, h3, dy, h4, z, h5, h6⟩, h7⟩, dd, h8, tt, h9, h10⟩ := ev
  cases h6
  cases h7
  cases h8
  cases h9
  cases h10
  exact ⟨A, M, ρ, x, ρ1, r, h1, fun v H1 A1 M1 s1 k1 r1 b1 => ⟨A1, M1, ρ1, y, ρ2, r1, h2, fun w H2 A2 M2 s2 k2 r2 b2 =>
    ⟨A2, dx, dy, _, (b1.keep r1.sub s2 k2).top r2 h3, b2.top r2 h4, h5, _, rfl, q _ _ _ (s1.trans s2) (k1.comp s1 k2) r2⟩⟩⟩
end
end MI

/-! MI4: expressions, further: lists of operands, displays, built-ins, calls, tests. -/
namespace MI
open PySem PySem.Spec PyProof.Rows L2
variable [EK]

/-! ### lists of operands -/
def BRs (A : AS) (H : Hp) (σ : L2.St) : List V → List Bor → Prop
  | [], [] => True
  | v :: vs, b :: bs => BR A H σ v b ∧ BRs A H σ vs bs
  | _, _ => False
theorem BRs.keep {A M A' M' : AS} {H H' : Hp} {σ : L2.St} (hs : ∀ a, M a → A a) (s : Shr A M A' M') (k : Kp M H H') : ∀ {vs : List V} {bs : List Bor}, BRs A H σ vs bs → BRs A' H' σ vs bs
  | [], [], _ => trivial
  | _ :: _, _ :: _, h => ⟨h.1.keep hs s k, BRs.keep hs s k h.2⟩
  | [], _ :: _, h => h.elim
  | _ :: _, [], h => h.elim
theorem BRs.top {A M : AS} {H : Hp} {ρ : Rho} {σ : L2.St} (r : RE A M H ρ σ) : ∀ {vs : List V} {bs : List Bor} {ds : List PyData}, BRs A H σ vs bs → getAll ρ bs = some ds → TopAll A H vs ds
  | [], [], _, _, g => by cases g; exact .nil
  | v :: vs, b :: bs, ds, h, g => by
    simp only [getAll, Option.bind_eq_some_iff, Option.map_eq_some_iff] at g
    obtain ⟨d, g1, ds', g2, rfl⟩ := g
    exact .cons (h.1.top r g1) (BRs.top r h.2 g2)
  | [], _ :: _, _, h, _ => h.elim
  | _ :: _, [], _, h, _ => h.elim
def tL (F : Fns) (m : ME) : TA := fun σ H Q => ∃ A M ρ bs ρ', RE A M H ρ σ ∧ evL F m ρ = some (bs, ρ') ∧ ∀ vs H' A' M', Shr A M A' M' → Kp M H H' → RE A' M' H' ρ' σ → BRs A' H' σ vs bs → Q vs H'
def tA (F : Fns) (m : ME) : TA := fun σ H Q => ∃ A M ρ ds ρ', RE A M H ρ σ ∧ evA F m ρ = some (ds, ρ') ∧ ∀ vs H' A' M', Shr A M A' M' → Kp M H H' → RE A' M' H' ρ' σ → RelAll A' H' vs ds → Q vs H'
theorem _root_.L2.PA.imp {X : Cx} {es : List Expr} {t t' : TA} (h : PA X es t) (f : ∀ σ H Q, t' σ H Q → t σ H Q) : PA X es t' := ⟨fun pos pins s σ H Q I q => h.run pos pins s σ H Q I (f σ H Q q)⟩
def noStar : Expr → Bool
  | .Starred .. => false
  | _ => true
theorem star_no {e : Expr} {es : List Expr} {env : Env} (h : noStar e = true) : starEach (e :: es) env = (false, eval e env) :: starEach es env := by
  cases e <;> first | rfl | cases h
theorem star_any {env : Env} {pos : Pos} : ∀ {es : List Expr}, es.all noStar = true → (backTo pos (starEach es env)).any (·.1) = false
  | [], _ => rfl
  | e :: es, h => by
    rw [List.all_cons, Bool.and_eq_true] at h
    rw [star_no h.1]
    exact star_any (es := es) h.2
section
variable {X : Cx} {F : Fns} {e a b c : Expr} {es : List Expr} {m ma mb mc r : ME} {pos : Pos}
theorem l_nil : PA X [] (tL F .nil) := pa_nil.imp fun σ H Q ⟨A, M, ρ, bs, ρ', r, ev, q⟩ => by
  cases ev
  exact q [] H A M (Shr.refl _ _) (Kp.refl _ _) r trivial
theorem l_cons (he : Eb X F e m) (hr : PA X es (tL F r)) (ns : noStar e = true) : PA X (e :: es) (tL F (.cons m r)) := by
  refine (pa_cons he.bo hr (star_no ns)).imp fun σ H Q ⟨A, M, ρ, bs, ρ', r, ev, q⟩ => ?_
  simp only [evL, Option.bind_eq_some_iff, Option.map_eq_some_iff] at ev
  obtain ⟨⟨x, ρ1⟩, h1, ⟨xs, ρ2⟩, h2, h3⟩ := ev
  cases h3
  exact ⟨A, M, ρ, x, ρ1, r, h1, fun v H1 A1 M1 s1 k1 r1 b1 => ⟨A1, M1, ρ1, xs, _, r1, h2, fun vs H2 A2 M2 s2 k2 r2 b2 =>
    q (v :: vs) H2 A2 M2 (s1.trans s2) (k1.comp s1 k2) r2 ⟨b1.keep r1.sub s2 k2, b2⟩⟩⟩
theorem a_nil : PA X [] (tA F .nil) := pa_nil.imp fun σ H Q ⟨A, M, ρ, bs, ρ', r, ev, q⟩ => by
  cases ev
  exact q [] H A M (Shr.refl _ _) (Kp.refl _ _) r .nil
theorem a_cons (he : Eb X F e m) (hr : PA X es (tA F r)) (ns : noStar e = true) : PA X (e :: es) (tA F (.cons m r)) := by
  refine (pa_cons he.ev hr (star_no ns)).imp fun σ H Q ⟨A, M, ρ, bs, ρ', r, ev, q⟩ => ?_
  simp only [evA, Option.bind_eq_some_iff, Option.map_eq_some_iff] at ev
  obtain ⟨⟨x, fr, ρ1⟩, h1, ⟨xs, ρ2⟩, h2, h3⟩ := ev
  cases h3
  refine ⟨A, M, ρ, x, fr, ρ1, r, h1, fun v H1 p => ?_⟩
  obtain ⟨A1, M1, s1, k1, r1, b1⟩ := p.std r.live
  exact ⟨A1, M1, ρ1, xs, _, r1, h2, fun vs H2 A2 M2 s2 k2 r2 b2 => q (v :: vs) H2 A2 M2 (s1.trans s2) (k1.comp s1 k2) r2 (.cons ((b1.keep r1.sub k2).anti s2.a) b2)⟩
theorem a_star {p : Pos} (he : Eb X F e m) (hr : PA X es (tA F r)) : PA X (.Starred e p :: es) (tA F (.star m r)) := by
  refine (StX.pa_star he.ev hr).imp fun σ H Q ⟨A, M, ρ, bs, ρ', r, ev, q⟩ => ?_
  simp only [evA, Option.bind_eq_some_iff, Option.map_eq_some_iff] at ev
  obtain ⟨⟨x, fr, ρ1⟩, h1, xs0, h0, ⟨xs, ρ2⟩, h2, h3⟩ := ev
  cases h3
  refine ⟨A, M, ρ, x, fr, ρ1, r, h1, fun v H1 p => ?_⟩
  obtain ⟨A1, M1, s1, k1, r1, b1⟩ := p.std r.live
  have fin : ∀ vs0, RelAll A1 H1 vs0 xs0 → tA F ‹ME› σ H1 fun ys H2 => Q (vs0 ++ ys) H2 := fun vs0 b0 =>
    ⟨A1, M1, ρ1, xs, _, r1, h2, fun vs H2 A2 M2 s2 k2 r2 b2 => q (vs0 ++ vs) H2 A2 M2 (s1.trans s2) (k1.comp s1 k2) r2 (((b0.keep r1.sub k2).anti s2.a).append b2)⟩
  cases b1 with
  | lst hh hn rr => cases h0; exact ⟨_, _, rfl, .inr (SqL.of hh), fin _ rr⟩
  | tup hh rr => cases h0; exact ⟨_, _, rfl, .inl (SqT.of hh), fin _ rr⟩
  | _ => cases h0
theorem e_tup {k : Nat} (h : PA X es (tA F m)) : Eb X F (.Tuple es k pos) (.tup m) := by
  refine Eb.of ((pe_tup h).imp fun σ H Q ⟨A, M, ρ, d, fr, ρ', r, ev, q⟩ => ?_) fun _ => nofun
  simp only [evE, Option.bind_eq_some_iff] at ev
  obtain ⟨⟨ds, ρ1⟩, h1, h2⟩ := ev
  split at h2
  · rename_i hl
    cases h2
    exact ⟨A, M, ρ, ds, _, r, h1, fun vs H1 A1 M1 s1 k1 r1 b1 => ⟨by rw [b1.length]; exact hl, fun p hp => q _ _ (((new_tup hp b1).pst r1).after s1 k1)⟩⟩
  · cases h2
theorem e_lst (h : PA X es (tA F m)) : Eb X F (.List es pos) (.lst m) := by
  refine Eb.of ((pe_lst h).imp fun σ H Q ⟨A, M, ρ, d, fr, ρ', r, ev, q⟩ => ?_) fun _ => nofun
  simp only [evE, Option.bind_eq_some_iff] at ev
  obtain ⟨⟨ds, ρ1⟩, h1, h2⟩ := ev
  split at h2
  · rename_i hl
    cases h2
    exact ⟨A, M, ρ, ds, _, r, h1, fun vs H1 A1 M1 s1 k1 r1 b1 => ⟨by rw [b1.length]; exact hl, fun p hp => q _ _ (((new_lst hp b1).pst r1).after s1 k1)⟩⟩
  · cases h2
theorem e_dic : Eb X F (.Dict [] [] pos) .dic := by
  refine Eb.of (pe_dnewK.imp fun σ H Q ⟨A, M, ρ, d, fr, ρ', r, ev, q⟩ => ?_) fun _ => nofun
  cases ev
  exact fun p hp => q _ _ (NewV.pst ⟨Kp.new hp, (fun e => nomatch e), fun _ => ⟨p, rfl, hp, .inr ⟨[], [], rfl, upd_same, .nil⟩⟩⟩ r)

/-! ### one operand, choices -/
theorem e_neg (ha : Eb X F a ma) : Eb X F (.UnaryOp .USub a pos) (.neg ma) := by
  refine Eb.of ((pe_un un_neg ha.ev).imp fun σ H Q ⟨A, M, ρ, d, fr, ρ', r, ev, q⟩ => ?_) fun _ => nofun
  simp only [evE, Option.bind_eq_some_iff] at ev
  obtain ⟨⟨x, fr1, ρ1⟩, h1, h2⟩ := ev
  refine ⟨A, M, ρ, x, fr1, ρ1, r, h1, fun v H1 p => ?_⟩
  obtain ⟨A1, M1, s1, k1, r1, b1⟩ := p.std r.live
  cases b1 with
  | int i => cases h2; exact ⟨i, rfl, q _ _ (((NewV.val (.int _)).pst r1).after s1 k1)⟩
  | _ => cases h2
theorem e_not (ha : Eb X F a ma) : Eb X F (.UnaryOp .Not a pos) (.not ma) := by
  refine Eb.of ((pe_not ha.ev).imp fun σ H Q ⟨A, M, ρ, d, fr, ρ', r, ev, q⟩ => ?_) fun _ => nofun
  simp only [evE, Option.bind_eq_some_iff] at ev
  obtain ⟨⟨x, fr1, ρ1⟩, h1, h2⟩ := ev
  refine ⟨A, M, ρ, x, fr1, ρ1, r, h1, fun v H1 p => ?_⟩
  obtain ⟨A1, M1, s1, k1, r1, b1⟩ := p.std r.live
  cases b1 with
  | bl i => cases h2; exact ⟨i, rfl, q _ _ ((Pst.bool r1).after s1 k1)⟩
  | _ => cases h2
theorem e_one {op : BoolOp} (ha : Eb X F a ma) (hm : ∀ i, ma ≠ .var i) : Eb X F (.BoolOp op [a] pos) ma := Eb.of (pe_one ha.ev) hm
theorem e_and {rest : List Expr} (ha : Eb X F a ma) (hb : PE X (.BoolOp .And (b :: rest) pos) (tE F mb)) : Eb X F (.BoolOp .And (a :: b :: rest) pos) (.and ma mb) := by
  refine Eb.of ((pe_and ha.ev hb).imp fun σ H Q ⟨A, M, ρ, d, fr, ρ', r, ev, q⟩ => ?_) fun _ => nofun
  simp only [evE, Option.bind_eq_some_iff] at ev
  obtain ⟨⟨x, fr1, ρ1⟩, h1, h2⟩ := ev
  refine ⟨A, M, ρ, x, fr1, ρ1, r, h1, fun v H1 p => ?_⟩
  obtain ⟨A1, M1, s1, k1, r1, b1⟩ := p.std r.live
  cases b1 with
  | bl i =>
    cases i with
    | true => exact ⟨true, rfl, iteT ⟨A1, M1, ρ1, d, fr, ρ', r1, h2, fun v H' p => q v H' (p.after s1 k1)⟩⟩
    | false => cases h2; exact ⟨false, rfl, iteF (q _ _ ((Pst.bool r1).after s1 k1))⟩
  | _ => cases h2
theorem e_or {rest : List Expr} (ha : Eb X F a ma) (hb : PE X (.BoolOp .Or (b :: rest) pos) (tE F mb)) : Eb X F (.BoolOp .Or (a :: b :: rest) pos) (.or ma mb) := by
  refine Eb.of ((pe_or ha.ev hb).imp fun σ H Q ⟨A, M, ρ, d, fr, ρ', r, ev, q⟩ => ?_) fun _ => nofun
  simp only [evE, Option.bind_eq_some_iff] at ev
  obtain ⟨⟨x, fr1, ρ1⟩, h1, h2⟩ := ev
  refine ⟨A, M, ρ, x, fr1, ρ1, r, h1, fun v H1 p => ?_⟩
  obtain ⟨A1, M1, s1, k1, r1, b1⟩ := p.std r.live
  cases b1 with
  | bl i =>
    cases i with
    | false => exact ⟨false, rfl, iteF ⟨A1, M1, ρ1, d, fr, ρ', r1, h2, fun v H' p => q v H' (p.after s1 k1)⟩⟩
    | true => cases h2; exact ⟨true, rfl, iteT (q _ _ ((Pst.bool r1).after s1 k1))⟩
  | _ => cases h2
theorem e_ite (hc : PT X c (tT F mc)) (ha : Eb X F a ma) (hb : Eb X F b mb) : Eb X F (.IfExp c a b pos) (.ite mc ma mb) := by
  refine Eb.of ((pe_ifExp hc ha.ev hb.ev).imp fun σ H Q ⟨A, M, ρ, d, fr, ρ', r, ev, q⟩ => ?_) fun _ => nofun
  simp only [evE, Option.bind_eq_some_iff] at ev
  obtain ⟨⟨t, ρ1⟩, h1, h2⟩ := ev
  refine ⟨A, M, ρ, t, ρ1, r, h1, fun H1 A1 M1 s1 k1 r1 => ?_⟩
  cases t with
  | true => exact iteT ⟨A1, M1, ρ1, d, fr, ρ', r1, h2, fun v H' p => q v H' (p.after s1 k1)⟩
  | false => exact iteF ⟨A1, M1, ρ1, d, fr, ρ', r1, h2, fun v H' p => q v H' (p.after s1 k1)⟩
/-! ### is None -/
theorem non_iff {A : AS} {H : Hp} {v : V} {d : PyData} (h : Top A H v d) : decide (v = .non) = isNone d := by
  cases d with
  | none => cases h.non; rfl
  | bool _ => cases h.bl; rfl
  | int _ => cases h.int; rfl
  | str _ => cases h.str; rfl
  | list _ => obtain ⟨a, xs, rfl, _⟩ := h.lst; rfl
  | tuple _ => obtain ⟨a, xs, rfl, _⟩ := h.tup; rfl
  | dict es =>
    have hd : ∃ a, v = .ref a := by
      rcases h with h | ⟨a, rfl, _⟩
      · cases h <;> exact ⟨_, rfl⟩
      · exact ⟨a, rfl⟩
    obtain ⟨a, rfl⟩ := hd
    rfl
theorem e_isN {j : Nat} {p : Pos} (ha : Eb X F a ma) : Eb X F (.Compare a [.Is] [.Constant .none j p] pos) (.isN ma) := by
  refine Eb.of ((pe_cmp (pc_isN ha.bo) rfl).imp fun σ H Q ⟨A, M, ρ, d, fr, ρ', r, ev, q⟩ => ?_) fun _ => nofun
  simp only [evE, Option.bind_eq_some_iff, Option.map_eq_some_iff] at ev
  obtain ⟨⟨x, ρ1⟩, h1, dx, h2, h3⟩ := ev
  cases h3
  exact ⟨A, M, ρ, x, _, r, h1, fun v H1 A1 M1 s1 k1 r1 b1 => by
    show Q (.bl (decide (v = .non))) H1
    rw [non_iff (b1.top r1 h2)]
    exact q _ _ ((Pst.bool r1).after s1 k1)⟩
theorem e_notN {j : Nat} {p : Pos} (ha : Eb X F a ma) : Eb X F (.Compare a [.IsNot] [.Constant .none j p] pos) (.notN ma) := by
  refine Eb.of ((pe_cmp (pc_notN ha.bo) rfl).imp fun σ H Q ⟨A, M, ρ, d, fr, ρ', r, ev, q⟩ => ?_) fun _ => nofun
  simp only [evE, Option.bind_eq_some_iff, Option.map_eq_some_iff] at ev
  obtain ⟨⟨x, ρ1⟩, h1, dx, h2, h3⟩ := ev
  cases h3
  refine ⟨A, M, ρ, x, _, r, h1, fun v H1 A1 M1 s1 k1 r1 b1 => ?_⟩
  show Q (.bl (!decide (v = .non))) H1
  rw [non_iff (b1.top r1 h2)]
  exact q _ _ ((Pst.bool r1).after s1 k1)

/-! ### two comparisons in a row -/
theorem marks2 {op op' : CmpOp} (h : behindInMarks op' c = false) : lastMarks [op, op'] [b, c] = false := h
theorem e_cmp2 {op op' : Cop} (hu : X.A.units + 64 < cLine) (ha : Eb X F a ma) (hb : Eb X F b mb) (hc : Eb X F c mc) (hm : behindInMarks (copOf op') c = false) :
    Eb X F (.Compare a [copOf op, copOf op'] [b, c] pos) (.cmp2 op op' ma mb mc) := by
  refine Eb.of ((pe_chain (cmp_ok hu op) (cmp_ok hu op') ha.bo hb.bo hc.bo (marks2 hm)).imp fun σ H Q ⟨A, M, ρ, d, fr, ρ', r, ev, q⟩ => ?_) fun _ => nofun
  simp only [evE, Option.bind_eq_some_iff] at ev
  obtain ⟨⟨x, ρ1⟩, h1, ⟨y, ρ2⟩, h2, dx, h3, dy, h4, z, h5, h6⟩ := ev
  refine ⟨A, M, ρ, x, ρ1, r, h1, fun v H1 A1 M1 s1 k1 r1 b1 => ⟨A1, M1, ρ1, y, ρ2, r1, h2, fun w H2 A2 M2 s2 k2 r2 b2 =>
    ⟨A2, dx, dy, z, (b1.keep r1.sub s2 k2).top r2 h3, b2.top r2 h4, h5, z, rfl, ?_⟩⟩⟩
  cases z with
  | false => cases h6; exact iteF (q _ _ (((Pst.bool r2).after s2 k2).after s1 k1))
  | true =>
    rw [if_pos rfl] at h6
    simp only [Option.bind_eq_some_iff, Option.map_eq_some_iff] at h6
    obtain ⟨⟨u, ρ3⟩, g1, e3, g2, f, g3, z', g4, g5⟩ := h6
    cases g5
    exact iteT ⟨A2, M2, ρ2, u, _, r2, g1, fun w' H3 A3 M3 s3 k3 r3 b3 => ⟨A3, e3, f, z', (b2.keep r2.sub s3 k3).top r3 g2, b3.top r3 g3, g4, q _ _ ((((Pst.bool r3).after s3 k3).after s2 k2).after s1 k1)⟩⟩

/-! ### places, slices -/
theorem e_idx (hK : X.K = EK.k) (ha : Eb X F a ma) (hb : Eb X F b mb) (hs : PlainIx b) : Eb X F (.Subscript a b pos) (.idx ma mb) := by
  refine Eb.of ((pe_ix (ix_ok hK) ha.bo hb.ev hs).imp fun σ H Q ⟨A, M, ρ, d, fr, ρ', r, ev, q⟩ => ?_) fun _ => nofun
  simp only [evE, Option.bind_eq_some_iff, Option.map_eq_some_iff] at ev
  obtain ⟨⟨x, ρ1⟩, h1, ⟨k, fr2, ρ2⟩, h2, dx, h3, z, h4, h5⟩ := ev
  cases h5
  refine ⟨A, M, ρ, x, ρ1, r, h1, fun v H1 A1 M1 s1 k1 r1 b1 => ⟨A1, M1, ρ1, k, fr2, _, r1, h2, fun w H2 p => ?_⟩⟩
  obtain ⟨A2, M2, s2, k2, r2, b2⟩ := p.std r1.live
  exact ⟨A2, dx, k, _, (b1.keep r1.sub s2 k2).top r2 h3, b2, h4, fun v' rel => q _ _ ((((NewV.val rel).pst r2).after s2 k2).after s1 k1)⟩
def tO (F : Fns) (m : ME) : TO := fun σ H Q => ∃ A M ρ o ρ', RE A M H ρ σ ∧ evO F m ρ = some (o, ρ') ∧ ∀ H' A' M', Shr A M A' M' → Kp M H H' → RE A' M' H' ρ' σ → Q o H'
theorem _root_.L2.PO.imp {X : Cx} {e : Option Expr} {t t' : TO} (h : PO X e t) (f : ∀ σ H Q, t' σ H Q → t σ H Q) : PO X e t' := ⟨fun pins s σ H Q I q => h.run pins s σ H Q I (f σ H Q q)⟩
theorem o_none : PO X none (tO F .nil) := po_none.imp fun σ H Q ⟨A, M, ρ, o, ρ', r, ev, q⟩ => by
  cases ev
  exact q H A M (Shr.refl _ _) (Kp.refl _ _) r
theorem o_some (ha : Eb X F a ma) : PO X (some a) (tO F (.cons ma .nil)) := (po_some ha.ev).imp fun σ H Q ⟨A, M, ρ, o, ρ', r, ev, q⟩ => by
  simp only [evO, Option.bind_eq_some_iff] at ev
  obtain ⟨⟨x, fr1, ρ1⟩, h1, h2⟩ := ev
  refine ⟨A, M, ρ, x, fr1, ρ1, r, h1, fun v H1 p => ?_⟩
  obtain ⟨A1, M1, s1, k1, r1, b1⟩ := p.std r.live
  cases b1 with
  | int i => cases h2; exact ⟨i, rfl, q _ _ _ s1 k1 r1⟩
  | _ => cases h2
theorem e_sl {lo hi : Option Expr} {p2 : Pos} {ml mh : ME} (hK : X.K = EK.k) (ha : Eb X F a ma) (hl : PO X lo (tO F ml)) (hh : PO X hi (tO F mh)) : Eb X F (.Subscript a (.Slice lo hi none p2) pos) (.sl ma ml mh) := by
  refine Eb.of ((pe_slice (sl_ok hK) ha.bo hl hh).imp fun σ H Q ⟨A, M, ρ, d, fr, ρ', r, ev, q⟩ => ?_) fun _ => nofun
  simp only [evE, Option.bind_eq_some_iff, Option.map_eq_some_iff] at ev
  obtain ⟨⟨x, ρ1⟩, h1, ⟨l, ρ2⟩, h2, ⟨h, ρ3⟩, h3, dx, h4, ⟨z, fr'⟩, h5, h6⟩ := ev
  cases h6
  exact ⟨A, M, ρ, x, ρ1, r, h1, fun v H1 A1 M1 s1 k1 r1 b1 => ⟨A1, M1, ρ1, l, ρ2, r1, h2, fun H2 A2 M2 s2 k2 r2 => ⟨A2, M2, ρ2, h, _, r2, h3, fun H3 A3 M3 s3 k3 r3 =>
    ⟨A3, dx, z, _, ((b1.keep r1.sub s2 k2).keep r2.sub s3 k3).top r3 h4, h5, fun v' H' nv => q _ _ ((((nv.pst r3).after s3 k3).after s2 k2).after s1 k1)⟩⟩⟩⟩

/-! ### built-ins -/
theorem e_biB {x : Str} {id : String} {p : Pos} {bb : Bi} {e0 : Expr} (hK : X.K = EK.k) (hc : X.calm = true) (hgd : X.A.guards = some []) (hu : X.A.units + 100 < cLine) (hb : tyOf bb = none) (hf : fnBi bb = .builtin id) (hg : Gl X x) (hm : X.mg x = none) (hv : bootBuiltins x = some (.builtin id))
    (ha : PA X (e0 :: es) (tL F m)) (ns : (e0 :: es).all noStar = true) (hn : x ≠ "__name__") (hdb : (x == ("__debug__" : Str)) = false) : Eb X F (.Call (.Name x p) (e0 :: es) [] pos) (.bi bb m) := by
  rw [List.all_cons, Bool.and_eq_true] at ns
  have hr : CallR X (.builtin id) (rBi bb) := hf ▸ bi_ok hK hc hgd hu bb hb
  refine Eb.of ((pe_callB hr hg hm hv ha hn hdb (star_no ns.1) (star_any ns.2)).imp fun σ H Q ⟨A, M, ρ, d, fr, ρ', r, ev, q⟩ => ?_) fun _ => nofun
  simp only [evE, Option.bind_eq_some_iff, Option.map_eq_some_iff] at ev
  obtain ⟨⟨bs, ρ1⟩, h1, ds, h2, ⟨z, fr'⟩, h3, h4⟩ := ev
  cases h4
  exact ⟨A, M, ρ, bs, _, r, h1, fun vs H1 A1 M1 s1 k1 r1 b1 => ⟨A1, ds, z, _, b1.top r1 h2, h3, fun v H' nv => q v H' ((nv.pst r1).after s1 k1)⟩⟩
theorem e_biT {x : Str} {id : String} {p : Pos} {bb : Bi} {e0 : Expr} (hK : X.K = EK.k) (hc : X.calm = true) (hgd : X.A.guards = some []) (hu : X.A.units + 100 < cLine) (hb : tyOf bb = none) (hf : fnBi bb = .type id) (hg : Gl X x) (hm : X.mg x = none) (hv : bootBuiltins x = some (.type id))
    (ha : PA X (e0 :: es) (tL F m)) (ns : (e0 :: es).all noStar = true) (hn : x ≠ "__name__") (hdb : (x == ("__debug__" : Str)) = false) : Eb X F (.Call (.Name x p) (e0 :: es) [] pos) (.bi bb m) := by
  rw [List.all_cons, Bool.and_eq_true] at ns
  have hr : CallR X (.type id) (rBi bb) := hf ▸ bi_ok hK hc hgd hu bb hb
  refine Eb.of ((pe_callTy hr hg hm hv ha hn hdb (star_no ns.1) (star_any ns.2)).imp fun σ H Q ⟨A, M, ρ, d, fr, ρ', r, ev, q⟩ => ?_) fun _ => nofun
  simp only [evE, Option.bind_eq_some_iff, Option.map_eq_some_iff] at ev
  obtain ⟨⟨bs, ρ1⟩, h1, ds, h2, ⟨z, fr'⟩, h3, h4⟩ := ev
  cases h4
  exact ⟨A, M, ρ, bs, _, r, h1, fun vs H1 A1 M1 s1 k1 r1 b1 => ⟨A1, ds, z, _, b1.top r1 h2, h3, fun v H' nv => q v H' ((nv.pst r1).after s1 k1)⟩⟩
theorem is_biD {bb : Bi} {n : String} {d z : PyData} {fr : Bool} (h : tyOf bb = some n) (e : biD bb [d] = some (z, fr)) : ∃ k, isaD bb d = some k ∧ z = .bool k ∧ fr = false := by
  cases bb <;> simp only [tyOf, reduceCtorEq] at h <;>
  · simp only [biD, Option.map_eq_some_iff] at e
    obtain ⟨k, e1, e2⟩ := e
    cases e2
    exact ⟨k, e1, rfl, rfl⟩
theorem e_is {p p' : Pos} {bb : Bi} {n : Str} {nm : String} (hb : tyOf bb = some nm) (hg : Gl X "isinstance") (hm : X.mg "isinstance" = none) (hv : bootBuiltins "isinstance" = some (.builtin "isinstance")) (hgt : Gl X n) (hmt : X.mg n = none) (hvt : bootBuiltins n = some (.type nm)) (hnn : n ≠ "__name__") (hdn : (n == ("__debug__" : Str)) = false)
    (ha : Eb X F a ma) (ns : noStar a = true) : Eb X F (.Call (.Name "isinstance" p) [a, .Name n p'] [] pos) (.bi bb (.cons ma .nil)) := by
  have hpa : PA X [a, .Name n p'] (tCons (tB F ma) (tCons (tC (.ty nm)) tNil)) := pa_cons ha.bo (pa_cons (pe_bltn hgt hmt hvt rfl hnn hdn) pa_nil) (star_no ns)
  refine Eb.of ((pe_callB (is_ok bb) hg hm hv hpa (by decide) (by decide) (star_no ns) rfl).imp fun σ H Q ⟨A, M, ρ, d, fr, ρ', r, ev, q⟩ => ?_) fun _ => nofun
  simp only [evE, evL, Option.bind_eq_some_iff, Option.map_eq_some_iff] at ev
  obtain ⟨⟨bs, ρ1⟩, ⟨⟨x, ρ0⟩, h0, ⟨xs, ρ00⟩, h1, h1'⟩, ds, h2, ⟨z, fr'⟩, h3, h4⟩ := ev
  cases h4
  cases h1
  cases h1'
  simp only [getAll, Option.bind_eq_some_iff, Option.map_eq_some_iff] at h2
  obtain ⟨dx, g1, ds', g2, g3⟩ := h2
  cases g2
  subst g3
  obtain ⟨k, e1, rfl, rfl⟩ := is_biD hb h3
  exact ⟨A, M, ρ, x, _, r, h0, fun v H1 A1 M1 s1 k1 r1 b1 => ⟨A1, dx, v, nm, k, rfl, hb, b1.top r1 g1, e1, q _ _ ((Pst.bool r1).after s1 k1)⟩⟩
end
end MI

/-! MI5: tests, what is walked over, calls of defs. -/
namespace MI
open PySem PySem.Spec PyProof.Rows L2
variable [EK]

/-! ### tests -/
theorem tru_of {A : AS} {H : Hp} {K : PySem.W.Frag} {v : V} {d : PyData} {k : Bool} (h : Top A H v d) (e : truthD d = some k) : TruV K v H k := by
  cases d with
  | none => cases h.non; cases e; exact rfl
  | bool b => cases h.bl; cases e; exact rfl
  | int i => cases h.int; cases e; exact rfl
  | str s => cases e
  | list ds =>
    obtain ⟨a, xs, rfl, h1, r⟩ := h.lst
    cases e
    refine .inl ⟨xs, SqL.of h1, ?_⟩
    cases r <;> rfl
  | tuple ds =>
    obtain ⟨a, xs, rfl, h1, r⟩ := h.tup
    cases e
    refine .inr (.inl ⟨xs, SqT.of h1, ?_⟩)
    cases r <;> rfl
  | dict es => cases e
def plainT : Expr → Bool
  | .Name .. => true
  | .Call .. => true
  | .Subscript .. => true
  | .Constant .. => true
  | _ => false
theorem plain_ok {e : Expr} {env : Env} (h : plainT e = true) : ∀ whole, isTrue e env whole = (do let v ← whole; standAt e.pos; holding [v] (truthy v)) := by
  cases e <;> first | (intro _; rfl) | cases h
section
variable {X : Cx} {F : Fns} {e a b c : Expr} {es : List Expr} {m ma mb mc r : ME} {pos : Pos}
theorem t_val (h : Eb X F e m) (hp : plainT e = true) : PT X e (tT F (.tst m)) := by
  refine (pt_truth h.bo (plain_ok hp)).imp fun σ H Q ⟨A, M, ρ, t, ρ', r, ev, q⟩ => ?_
  simp only [evT, Option.bind_eq_some_iff, Option.map_eq_some_iff] at ev
  obtain ⟨⟨x, ρ1⟩, h1, d, h2, k, h3, h4⟩ := ev
  cases h4
  exact ⟨A, M, ρ, x, _, r, h1, fun v H1 A1 M1 s1 k1 r1 b1 => ⟨_, tru_of (b1.top r1 h2) h3, q _ _ _ s1 k1 r1⟩⟩
theorem t_not (h : PT X a (tT F ma)) : PT X (.UnaryOp .Not a pos) (tT F (.not ma)) := by
  refine (pt_not h).imp fun σ H Q ⟨A, M, ρ, t, ρ', r, ev, q⟩ => ?_
  simp only [evT, Option.map_eq_some_iff] at ev
  obtain ⟨⟨k, ρ1⟩, h1, h2⟩ := ev
  cases h2
  exact ⟨A, M, ρ, k, _, r, h1, fun H1 A1 M1 s1 k1 r1 => q _ _ _ s1 k1 r1⟩
theorem w_and {rest : List Expr} (ha : PT X a (tT F ma)) (hb : PW X (.BoolOp .And (b :: rest) pos) (tT F mb)) : PW X (.BoolOp .And (a :: b :: rest) pos) (tT F (.and ma mb)) := by
  refine (pw_and ha hb).imp fun σ H Q ⟨A, M, ρ, t, ρ', r, ev, q⟩ => ?_
  simp only [evT, Option.bind_eq_some_iff] at ev
  obtain ⟨⟨k, ρ1⟩, h1, h2⟩ := ev
  refine ⟨A, M, ρ, k, ρ1, r, h1, fun H1 A1 M1 s1 k1 r1 => ?_⟩
  cases k with
  | true => exact iteT ⟨A1, M1, ρ1, t, ρ', r1, h2, fun H2 A2 M2 s2 k2 r2 => q _ _ _ (s1.trans s2) (k1.comp s1 k2) r2⟩
  | false => cases h2; exact iteF (q _ _ _ s1 k1 r1)
theorem w_or {rest : List Expr} (ha : PT X a (tT F ma)) (hb : PW X (.BoolOp .Or (b :: rest) pos) (tT F mb)) : PW X (.BoolOp .Or (a :: b :: rest) pos) (tT F (.or ma mb)) := by
  refine (pw_or ha hb).imp fun σ H Q ⟨A, M, ρ, t, ρ', r, ev, q⟩ => ?_
  simp only [evT, Option.bind_eq_some_iff] at ev
  obtain ⟨⟨k, ρ1⟩, h1, h2⟩ := ev
  refine ⟨A, M, ρ, k, ρ1, r, h1, fun H1 A1 M1 s1 k1 r1 => ?_⟩
  cases k with
  | false => exact iteF ⟨A1, M1, ρ1, t, ρ', r1, h2, fun H2 A2 M2 s2 k2 r2 => q _ _ _ (s1.trans s2) (k1.comp s1 k2) r2⟩
  | true => cases h2; exact iteT (q _ _ _ s1 k1 r1)
theorem bor_plain {F : Fns} {m : ME} {ρ : Rho} {b : Bor} {ρ' : Rho} (hm : ∀ i, m ≠ .var i) (h : bor (evE F m) m ρ = some (b, ρ')) : ∃ d fr, evE F m ρ = some (d, fr, ρ') ∧ b = .v d := by
  have h' : (evE F m ρ).map (fun (d, _, ρ') => (Bor.v d, ρ')) = some (b, ρ') := by
    cases m with
    | var i => exact absurd rfl (hm i)
    | _ => exact h
  simp only [Option.map_eq_some_iff] at h'
  obtain ⟨⟨d, fr, ρ2⟩, h1, h2⟩ := h'
  cases h2
  exact ⟨d, fr, h1, rfl⟩
theorem tst_inv {F : Fns} {m : ME} {ρ : Rho} {t : Bool} {ρ' : Rho} (hm : ∀ i, m ≠ .var i) (h : evT F (.tst m) ρ = some (t, ρ')) : ∃ d fr, evE F m ρ = some (d, fr, ρ') ∧ truthD d = some t := by
  simp only [evT, Option.bind_eq_some_iff, Option.map_eq_some_iff] at h
  obtain ⟨⟨x, ρ1⟩, h1, d, h2, k, h3, h4⟩ := h
  cases h4
  obtain ⟨d', fr, h5, rfl⟩ := bor_plain hm h1
  cases h2
  exact ⟨_, fr, h5, h3⟩
theorem t_isN {j : Nat} {p : Pos} (ha : Eb X F a ma) : PT X (.Compare a [.Is] [.Constant .none j p] pos) (tT F (.tst (.isN ma))) := by
  refine (pt_cmp (pc_isN ha.bo) rfl).imp fun σ H Q ⟨A, M, ρ, t, ρ', r, ev, q⟩ => ?_
  obtain ⟨d, fr, ev, ht⟩ := tst_inv (by intro _ z; cases z) ev
  simp only [evE, Option.bind_eq_some_iff, Option.map_eq_some_iff] at ev
  obtain ⟨⟨x, ρ1⟩, h1, dx, h2, h3⟩ := ev
  cases h3
  cases ht
  refine ⟨A, M, ρ, x, _, r, h1, fun v H1 A1 M1 s1 k1 r1 b1 => ?_⟩
  show ∃ c, V.bl (decide (v = .non)) = .bl c ∧ Q c H1
  rw [non_iff (b1.top r1 h2)]
  exact ⟨_, rfl, q _ _ _ s1 k1 r1⟩
theorem t_notN {j : Nat} {p : Pos} (ha : Eb X F a ma) : PT X (.Compare a [.IsNot] [.Constant .none j p] pos) (tT F (.tst (.notN ma))) := by
  refine (pt_cmp (pc_notN ha.bo) rfl).imp fun σ H Q ⟨A, M, ρ, t, ρ', r, ev, q⟩ => ?_
  obtain ⟨d, fr, ev, ht⟩ := tst_inv (by intro _ z; cases z) ev
  simp only [evE, Option.bind_eq_some_iff, Option.map_eq_some_iff] at ev
  obtain ⟨⟨x, ρ1⟩, h1, dx, h2, h3⟩ := ev
  cases h3
  cases ht
  refine ⟨A, M, ρ, x, _, r, h1, fun v H1 A1 M1 s1 k1 r1 b1 => ?_⟩
  show ∃ c, V.bl (!decide (v = .non)) = .bl c ∧ Q c H1
  rw [non_iff (b1.top r1 h2)]
  exact ⟨_, rfl, q _ _ _ s1 k1 r1⟩
theorem t_cmp2 {op op' : Cop} (hu : X.A.units + 64 < cLine) (ha : Eb X F a ma) (hb : Eb X F b mb) (hc : Eb X F c mc) (hm : behindInMarks (copOf op') c = false) :
    PT X (.Compare a [copOf op, copOf op'] [b, c] pos) (tT F (.tst (.cmp2 op op' ma mb mc))) := by
  refine (pt_chain (cmp_ok hu op) (cmp_ok hu op') ha.bo hb.bo hc.bo (marks2 hm)).imp fun σ H Q ⟨A, M, ρ, t, ρ', r, ev, q⟩ => ?_
  obtain ⟨d, fr, ev, ht⟩ := tst_inv (by intro _ z; cases z) ev
  simp only [evE, Option.bind_eq_some_iff] at ev
  obtain ⟨⟨x, ρ1⟩, h1, ⟨y, ρ2⟩, h2, dx, h3, dy, h4, z, h5, h6⟩ := ev
  refine ⟨A, M, ρ, x, ρ1, r, h1, fun v H1 A1 M1 s1 k1 r1 b1 => ⟨A1, M1, ρ1, y, ρ2, r1, h2, fun w H2 A2 M2 s2 k2 r2 b2 =>
    ⟨A2, dx, dy, z, (b1.keep r1.sub s2 k2).top r2 h3, b2.top r2 h4, h5, z, rfl, ?_⟩⟩⟩
  cases z with
  | false =>
    cases h6
    cases ht
    exact iteF ⟨_, rfl, q _ _ _ (s1.trans s2) (k1.comp s1 k2) r2⟩
  | true =>
    rw [if_pos rfl] at h6
    simp only [Option.bind_eq_some_iff, Option.map_eq_some_iff] at h6
    obtain ⟨⟨u, ρ3⟩, g1, e3, g2, f, g3, z', g4, g5⟩ := h6
    cases g5
    cases ht
    exact iteT ⟨A2, M2, ρ2, u, _, r2, g1, fun w' H3 A3 M3 s3 k3 r3 b3 => ⟨A3, e3, f, _, (b2.keep r2.sub s3 k3).top r3 g2, b3.top r3 g3, g4, _, rfl, q _ _ _ ((s1.trans s2).trans s3) ((k1.comp s1 k2).comp (s1.trans s2) k3) r3⟩⟩

/-! ### what is walked over -/
def Lat (A A1 : AS) (H H1 : Hp) : Prop := Kp A H H1 ∧ ∀ a, A1 a → A a ∨ H a = none
theorem Rel.lat {A A1 : AS} {H H1 : Hp} {v : V} {d : PyData} (r : Rel A H v d) (l : Lat A A1 H H1) : Rel A1 H1 v d :=
  r.map (fun a o h n => l.1.same a o h n) fun a o h z n _ => by
    rcases l.2 a z with q | q
    · exact n q
    · rw [q] at h; cases h
/-- an iterator whose turns are the data ds -/
def ItOk (A : AS) (H : Hp) (J : It) (ds : List PyData) : Prop := ∃ (G : Hp → Prop) (Y : Nat → Hp → V → Hp → Prop), Walk J ds.length G Y ∧ (∀ H1, Kp A H H1 → G H1) ∧
  ∀ i A1 H1 x H2, i < ds.length → Lat A A1 H H1 → Y i H1 x H2 → Kp No H1 H2 ∧ ∃ d, ds[i]? = some d ∧ Rel A1 H2 x d
def tI (F : Fns) (m : ME) : TI := fun σ H R => ∃ A M ρ ds ρ', RE A M H ρ σ ∧ evI F m ρ = some (ds, ρ') ∧ ∀ J H' A' M', Shr A M A' M' → Kp M H H' → RE A' M' H' ρ' σ → ItOk A' H' J ds → R J H'
theorem _root_.L2.PI.imp {X : Cx} {tg e : Expr} {t t' : TI} (h : PI X tg e t) (f : ∀ σ H Q, t' σ H Q → t σ H Q) : PI X tg e t' := ⟨fun pins s σ H Q I q => h.run pins s σ H Q I (f σ H Q q)⟩
theorem _root_.L2.PI.or {X : Cx} {tg e : Expr} {t t' : TI} (h : PI X tg e t) (h' : PI X tg e t') : PI X tg e (fun σ H R => t σ H R ∨ t' σ H R) :=
  ⟨fun pins s σ H Q I q => q.elim (h.run pins s σ H Q I) (h'.run pins s σ H Q I)⟩
theorem it_list {A : AS} {H : Hp} {K : PySem.W.Frag} {p : Addr} {xs : List V} {ds : List PyData} (h : H p = some (.lst xs)) (n : ¬ A p) (r : RelAll A H xs ds) : ItOk A H (Itl K p) ds := by
  refine ⟨fun H1 => SqL K H1 p xs, YAt xs, ?_, fun H1 k => SqL.of (k.same _ _ h fun z => absurd z n), fun i A1 H1 x H2 hi l y => ?_⟩
  · have w := walk_list (K := K) (a := p) (xs := xs)
    rw [r.length] at w
    exact w
  · obtain ⟨rfl, e⟩ := y
    obtain ⟨d, e1, rel⟩ := r.get' e
    exact ⟨Kp.refl _ _, d, e1, rel.lat l⟩
theorem it_tup {A : AS} {H : Hp} {K : PySem.W.Frag} {p : Addr} {xs : List V} {ds : List PyData} (h : H p = some (.tup xs)) (r : RelAll A H xs ds) : ItOk A H (Itt K p) ds := by
  refine ⟨fun H1 => SqT K H1 p xs, YAt xs, ?_, fun H1 k => SqT.of (k.same _ _ h fun _ z => z), fun i A1 H1 x H2 hi l y => ?_⟩
  · have w := walk_tup (K := K) (a := p) (xs := xs)
    rw [r.length] at w
    exact w
  · obtain ⟨rfl, e⟩ := y
    obtain ⟨d, e1, rel⟩ := r.get' e
    exact ⟨Kp.refl _ _, d, e1, rel.lat l⟩
theorem it_rng {A : AS} {H : Hp} (lo hi : Int) : ItOk A H (Itr lo (hi - lo).toNat) (rangeD lo hi) := by
  have hl : (rangeD lo hi).length = (hi - lo).toNat := by simp [rangeD]
  refine ⟨fun _ => True, YFn fun i => .int (lo + (i : Int)), ?_, fun _ _ => trivial, fun i A1 H1 x H2 hi' l y => ?_⟩
  · rw [hl]; exact walk_range
  · obtain ⟨rfl, rfl⟩ := y
    refine ⟨Kp.refl _ _, .int (lo + (i : Int)), ?_, .int _⟩
    rw [hl] at hi'
    simp [rangeD, List.getElem?_map, List.getElem?_range hi']
theorem it_pair {A : AS} {H : Hp} {J : It} {n : Nat} {G : Hp → Prop} {fx fy : Nat → Option V} {gx gy : Nat → Option PyData} {ds : List PyData} (w : Walk J n G (YPair fx fy)) (hn : n = ds.length) (hG : ∀ H1, Kp A H H1 → G H1)
    (hx : ∀ i v, i < n → fx i = some v → ∃ d, gx i = some d ∧ Rel A H v d) (hy : ∀ i v, i < n → fy i = some v → ∃ d, gy i = some d ∧ Rel A H v d) (hd : ∀ i d e, gx i = some d → gy i = some e → i < n → ds[i]? = some (.tuple [d, e])) : ItOk A H J ds := by
  subst hn
  refine ⟨G, _, w, hG, fun i A1 H1 x H2 hi l ⟨T, u, v, e, hT, eH, e1, e2⟩ => ?_⟩
  obtain ⟨d1, g1, r1⟩ := hx i u hi e1
  obtain ⟨d2, g2, r2⟩ := hy i v hi e2
  subst e
  subst eH
  exact ⟨Kp.new hT, _, hd i d1 d2 g1 g2 hi, .tup upd_same (.cons ((r1.lat l).keep (M := No) (fun _ z => z.elim) (Kp.new hT)) (.cons ((r2.lat l).keep (M := No) (fun _ z => z.elim) (Kp.new hT)) .nil))⟩
theorem zipT_walk {K : PySem.W.Frag} {a b : Addr} {xs ys : List V} {n : Nat} (hn : n = min xs.length ys.length) : Walk (RZ.ItzT K a b) n (fun H => SqT K H a xs ∧ SqT K H b ys) (YPair (fun i => xs[i]?) (fun i => ys[i]?)) := by
  refine ⟨fun i H hi h => ⟨xs, ys, xs[i]'(by omega), ys[i]'(by omega), h.1, h.2, List.getElem?_eq_getElem _, List.getElem?_eq_getElem _⟩, fun H h => ⟨xs, ys, h.1, h.2, by omega⟩, fun i H x H' hi h ⟨T, u, v, e1, e2, e3, e4, e5⟩ => ⟨T, u, v, e1, e2, e3, e4 _ h.1, e5 _ h.2⟩⟩
theorem zip_at {xs ys : List PyData} {i : Nat} {d e : PyData} (h1 : xs[i]? = some d) (h2 : ys[i]? = some e) : ((xs.zip ys).map fun p => PyData.tuple [p.1, p.2])[i]? = some (.tuple [d, e]) := by
  rw [List.getElem?_map, List.getElem?_zip_eq_some (z := (d, e)) |>.mpr ⟨h1, h2⟩]
  rfl
variable {tg : Expr}
theorem i_it (h : Eb X F e m) : PI X tg e (tI F (.it m)) := by
  refine ((pi_list h.ev).or (pi_tup h.ev)).imp fun σ H R ⟨A, M, ρ, ds, ρ', r, ev, q⟩ => ?_
  simp only [evI, Option.bind_eq_some_iff, Option.map_eq_some_iff] at ev
  obtain ⟨⟨d, fr, ρ1⟩, h1, xs, h2, h3⟩ := ev
  cases h3
  cases d with
  | list ys =>
    cases h2
    refine .inl ⟨A, M, ρ, _, fr, _, r, h1, fun v H1 p => ?_⟩
    obtain ⟨A1, M1, s1, k1, r1, b1⟩ := p.std r.live
    cases b1 with
    | lst hh hn rr => exact ⟨_, rfl, ⟨_, SqL.of hh⟩, q _ _ _ _ s1 k1 r1 (it_list hh hn rr)⟩
  | tuple ys =>
    cases h2
    refine .inr ⟨A, M, ρ, _, fr, _, r, h1, fun v H1 p => ?_⟩
    obtain ⟨A1, M1, s1, k1, r1, b1⟩ := p.std r.live
    cases b1 with
    | tup hh rr => exact ⟨_, rfl, ⟨_, SqT.of hh⟩, q _ _ _ _ s1 k1 r1 (it_tup hh rr)⟩
  | _ => cases h2
theorem line_iff {i : Int} (h : lineI i = true) : -(2 ^ 62) ≤ i ∧ i < 2 ^ 62 := by
  unfold lineI at h
  rw [Bool.and_eq_true, decide_eq_true_iff, decide_eq_true_iff] at h
  exact h
theorem i_rng1 {p : Pos} (hg : Gl X "range") (hm : X.mg "range" = none) (ha : Eb X F a ma) (ns : noStar a = true) : PI X tg (.Call (.Name "range" p) [a] [] pos) (tI F (.rng1 ma)) := by
  refine (pi_range1 hg hm (pa_cons ha.ev pa_nil (star_no ns)) (star_no ns)).imp fun σ H R ⟨A, M, ρ, ds, ρ', r, ev, q⟩ => ?_
  simp only [evI, Option.bind_eq_some_iff] at ev
  obtain ⟨⟨d, fr, ρ1⟩, h1, h2⟩ := ev
  refine ⟨A, M, ρ, d, fr, ρ1, r, h1, fun v H1 p => ?_⟩
  obtain ⟨A1, M1, s1, k1, r1, b1⟩ := p.std r.live
  cases b1 with
  | int i =>
    dsimp only at h2
    split at h2
    · rename_i hl
      cases h2
      refine ⟨i, rfl, (line_iff hl).1, (line_iff hl).2, ?_⟩
      have w := it_rng (A := A1) (H := H1) 0 i
      rw [Int.sub_zero] at w
      exact q _ _ _ _ s1 k1 r1 w
    · cases h2
  | _ => cases h2
theorem i_rng2 {p : Pos} (hg : Gl X "range") (hm : X.mg "range" = none) (ha : Eb X F a ma) (hb : Eb X F b mb) (ns : noStar a = true) (ns' : noStar b = true) : PI X tg (.Call (.Name "range" p) [a, b] [] pos) (tI F (.rng2 ma mb)) := by
  refine (pi_range2 hg hm (pa_cons ha.ev (pa_cons hb.ev pa_nil (star_no ns')) (star_no ns)) (by rw [star_no ns, star_no ns']; rfl) (star_no ns')).imp fun σ H R ⟨A, M, ρ, ds, ρ', r, ev, q⟩ => ?_
  simp only [evI, Option.bind_eq_some_iff] at ev
  obtain ⟨⟨d, fr, ρ1⟩, h1, ⟨d2, fr2, ρ2⟩, h2, h3⟩ := ev
  refine ⟨A, M, ρ, d, fr, ρ1, r, h1, fun v H1 p => ?_⟩
  obtain ⟨A1, M1, s1, k1, r1, b1⟩ := p.std r.live
  refine ⟨A1, M1, ρ1, d2, fr2, ρ2, r1, h2, fun v2 H2 p2 => ?_⟩
  obtain ⟨A2, M2, s2, k2, r2, b2⟩ := p2.std r1.live
  cases b1 with
  | int i =>
    cases b2 with
    | int j =>
      dsimp only at h3
      split at h3
      · rename_i hl
        rw [Bool.and_eq_true] at hl
        cases h3
        exact ⟨i, j, rfl, ⟨(line_iff hl.1).1, (line_iff hl.1).2, (line_iff hl.2).1, (line_iff hl.2).2⟩, q _ _ _ _ (s1.trans s2) (k1.comp s1 k2) r2 (it_rng i j)⟩
      · cases h3
    | _ => cases h3
  | _ => cases h3
theorem i_zp {p tpos : Pos} {elts : List Expr} {kk : Nat} (hg : Gl X "zip") (hm : X.mg "zip" = none) (ha : Eb X F a ma) (hb : Eb X F b mb) (ns : noStar a = true) (ns' : noStar b = true) :
    PI X (.Tuple elts kk tpos) (.Call (.Name "zip" p) [a, b] [] pos) (tI F (.zp ma mb)) := by
  refine (RZ.pi_zipA hg hm (pa_cons ha.ev (pa_cons hb.ev pa_nil (star_no ns')) (star_no ns)) (star_no ns) (star_any (es := [b]) (by simp [ns']))).imp fun σ H R ⟨A, M, ρ, ds, ρ', r, ev, q⟩ => ?_
  simp only [evI, Option.bind_eq_some_iff] at ev
  obtain ⟨⟨d, fr, ρ1⟩, h1, ⟨d2, fr2, ρ2⟩, h2, h3⟩ := ev
  refine ⟨A, M, ρ, d, fr, ρ1, r, h1, fun v H1 p => ?_⟩
  obtain ⟨A1, M1, s1, k1, r1, b1⟩ := p.std r.live
  refine ⟨A1, M1, ρ1, d2, fr2, ρ2, r1, h2, fun v2 H2 p2 => ?_⟩
  obtain ⟨A2, M2, s2, k2, r2, b2⟩ := p2.std r1.live
  have b1' := (b1.keep r1.sub k2).anti s2.a
  cases d with
  | list xs =>
    cases d2 with
    | list ys =>
      cases h3
      cases b1' with
      | lst hh hn rr =>
        cases b2 with
        | lst hh2 hn2 rr2 =>
          refine ⟨_, _, _, _, rfl, .inl ⟨SqL.of hh, SqL.of hh2, q _ _ _ _ (s1.trans s2) (k1.comp s1 k2) r2 (it_pair (walk_zip rfl) (by simp [rr.length, rr2.length]) (fun H1 k => ⟨SqL.of (k.same _ _ hh fun z => absurd z hn), SqL.of (k.same _ _ hh2 fun z => absurd z hn2)⟩) (fun i v _ e => rr.get' e) (fun i v _ e => rr2.get' e) fun i d e g1 g2 _ => zip_at g1 g2)⟩⟩
    | _ => cases h3
  | tuple xs =>
    cases d2 with
    | tuple ys =>
      cases h3
      cases b1' with
      | tup hh rr =>
        cases b2 with
        | tup hh2 rr2 =>
          refine ⟨_, _, _, _, rfl, .inr ⟨SqT.of hh, SqT.of hh2, q _ _ _ _ (s1.trans s2) (k1.comp s1 k2) r2 (it_pair (zipT_walk rfl) (by simp [rr.length, rr2.length]) (fun H1 k => ⟨SqT.of (k.same _ _ hh fun _ z => z), SqT.of (k.same _ _ hh2 fun _ z => z)⟩) (fun i v _ e => rr.get' e) (fun i v _ e => rr2.get' e) fun i d e g1 g2 _ => zip_at g1 g2)⟩⟩
    | _ => cases h3
  | _ => cases h3
theorem i_enm {p tpos : Pos} {elts : List Expr} {kk : Nat} (hg : Gl X "enumerate") (hm : X.mg "enumerate" = none) (ha : Eb X F a ma) (ns : noStar a = true) :
    PI X (.Tuple elts kk tpos) (.Call (.Name "enumerate" p) [a] [] pos) (tI F (.enm ma)) := by
  refine (pi_enum hg hm (pa_cons ha.ev pa_nil (star_no ns)) (star_no ns)).imp fun σ H R ⟨A, M, ρ, ds, ρ', r, ev, q⟩ => ?_
  simp only [evI, Option.bind_eq_some_iff] at ev
  obtain ⟨⟨d, fr, ρ1⟩, h1, h2⟩ := ev
  refine ⟨A, M, ρ, d, fr, ρ1, r, h1, fun v H1 p => ?_⟩
  obtain ⟨A1, M1, s1, k1, r1, b1⟩ := p.std r.live
  cases d with
  | list xs =>
    cases h2
    cases b1 with
    | lst hh hn rr =>
      refine ⟨_, _, rfl, SqL.of hh, q _ _ _ _ s1 k1 r1 (it_pair walk_enum (by simp [rr.length]) (fun H1 k => SqL.of (k.same _ _ hh fun z => absurd z hn)) (gx := fun i => some (.int (i : Nat))) (fun i v _ e => ⟨_, rfl, by cases e; exact .int _⟩) (fun i v _ e => rr.get' e) fun i d e g1 g2 _ => ?_)⟩
      cases g1
      rw [List.getElem?_map, List.getElem?_zipIdx, g2]
      simp
  | _ => cases h2
end
end MI

/-! MI6: targets, comprehensions. -/
namespace MI
open PySem PySem.Spec PyProof.Rows L2
variable [EK]

/-! ### targets -/
def Agree (l : List Nat) (σ σ' : L2.St) : Prop := ∀ i, i ∉ l → σ'[i]? = σ[i]?
section
variable {A A' M M' : AS} {H H' : Hp} {v : V} {d : PyData} {ρ ρ' : Rho} {σ σ' : L2.St} {i : Nat}
theorem RE.setDat (r : RE A M H ρ σ) (h : Rel A H v d) : RE A M H (ρ.set i (.dat d)) (σ.set i (some v)) := by
  have ne : ∀ {j : Nat} {s : Slot}, (ρ.set i (.dat d))[j]? = some s → (j = i ∧ s = .dat d ∧ (σ.set i (some v))[j]? = some (some v)) ∨ (j ≠ i ∧ ρ[j]? = some s ∧ (σ.set i (some v))[j]? = σ[j]?) := fun {j s} h => by
    by_cases hj : j = i
    · subst hj
      have hl : j < (ρ.set j (.dat d)).length := (List.getElem?_eq_some_iff.mp h).1
      rw [List.length_set] at hl
      rw [List.getElem?_set_self hl] at h
      exact .inl ⟨rfl, (Option.some.inj h).symm, List.getElem?_set_self (r.len ▸ hl)⟩
    · rw [List.getElem?_set_ne (Ne.symm hj)] at h
      exact .inr ⟨hj, h, List.getElem?_set_ne (Ne.symm hj)⟩
  refine ⟨by rw [List.length_set, List.length_set]; exact r.len, r.sub, r.live, fun j x e => ?_, fun j x e => ?_, fun j k x y a e1 e2 e3 e4 => ?_⟩
  · rcases ne e with ⟨_, q, z⟩ | ⟨_, q, z⟩
    · cases q; exact ⟨v, z, h⟩
    · obtain ⟨w, e1, e2⟩ := r.dat j x q
      exact ⟨w, z.trans e1, e2⟩
  · rcases ne e with ⟨_, q, z⟩ | ⟨_, q, z⟩
    · cases q
    · obtain ⟨w, e1, e2⟩ := r.own j x q
      exact ⟨w, z.trans e1, e2⟩
  · rcases ne e1 with ⟨_, q, _⟩ | ⟨_, q1, z1⟩
    · cases q
    · rcases ne e2 with ⟨_, q, _⟩ | ⟨_, q2, z2⟩
      · cases q
      · exact r.inj j k x y a q1 q2 (z1.symm.trans e3) (z2.symm.trans e4)
theorem Agree.set {l : List Nat} (h : i ∈ l) : Agree l σ (σ.set i (some v)) := fun j hj => List.getElem?_set_ne fun (z : i = j) => hj (z ▸ h)
theorem Agree.trans {l l' : List Nat} {σ1 σ2 : L2.St} (a : Agree l σ σ1) (b : Agree l' σ1 σ2) : Agree (l ++ l') σ σ2 := fun j hj => by
  rw [List.mem_append, not_or] at hj
  exact (b j hj.2).trans (a j hj.1)
end
def gM (t : MT) : TG := fun v σ H Q => ∃ A M ρ d ρ', RE A M H ρ σ ∧ Rel A H v d ∧ bindT t d ρ = some ρ' ∧ ∀ σ', RE A M H ρ' σ' → Agree (slotsT t) σ σ' → Q σ' H
def gMs (t : MT) : TGs := fun vs σ H Q => ∃ A M ρ ds ρ', RE A M H ρ σ ∧ RelAll A H vs ds ∧ bindTs t ds ρ = some ρ' ∧ ∀ σ', RE A M H ρ' σ' → Agree (slotsT t) σ σ' → Q σ' H
section
variable {X : Cx} {e a b c : Expr} {es : List Expr} {pos : Pos}
theorem _root_.L2.PG.imp {t t' : TG} (h : PG X e t) (f : ∀ v σ H Q, t' v σ H Q → t v σ H Q) : PG X e t' := ⟨fun pins s σ H v u Q I r q => h.run pins s σ H v u Q I r (f v σ H Q q)⟩
theorem _root_.L2.PGs.imp {t t' : TGs} (h : PGs X es t) (f : ∀ v σ H Q, t' v σ H Q → t v σ H Q) : PGs X es t' := ⟨fun pins s σ H v u Q I r q => h.run pins s σ H v u Q I r (f v σ H Q q)⟩
theorem g_name {i : Nat} (h : PG X e (gName i)) : PG X e (gM (.nm i)) := h.imp fun v σ H Q ⟨A, M, ρ, d, ρ', r, rel, ev, q⟩ => by
  simp only [bindT, Option.some.injEq] at ev
  subst ev
  exact q _ (r.setDat rel) (Agree.set (by simp [slotsT]))
theorem gs_nil : PGs X [] (gMs .nil) := pgs_nil.imp fun v σ H Q ⟨A, M, ρ, ds, ρ', r, rel, ev, q⟩ => by
  cases rel with
  | nil =>
    simp only [bindTs, Option.some.injEq] at ev
    subst ev
    exact ⟨rfl, q σ r fun _ _ => rfl⟩
  | cons _ _ => simp [bindTs] at ev
theorem gs_cons {t u : MT} (h : PG X e (gM t)) (hr : PGs X es (gMs u)) (h1 : (assignEach (e :: es) X.env).map (·.2) = assign e X.env :: (assignEach es X.env).map (·.2)) : PGs X (e :: es) (gMs (.cons t u)) :=
  (pgs_cons h hr h1).imp fun v σ H Q ⟨A, M, ρ, ds, ρ', r, rel, ev, q⟩ => by
  cases rel with
  | nil => simp [bindTs] at ev
  | cons ra rr =>
    simp only [bindTs, Option.bind_eq_some_iff] at ev
    obtain ⟨ρ1, h1, h2⟩ := ev
    exact ⟨_, _, rfl, A, M, ρ, _, ρ1, r, ra, h1, fun σ1 r1 a1 => ⟨A, M, ρ1, _, ρ', r1, rr, h2, fun σ2 r2 a2 => q σ2 r2 (a1.trans a2)⟩⟩
mutual
theorem bindT_length : ∀ {t : MT} {d : PyData} {ρ ρ1 : Rho}, bindT t d ρ = some ρ1 → ρ1.length = ρ.length
  | .nm i, d, ρ, ρ1, h => by
    simp only [bindT, Option.some.injEq] at h
    rw [← h, List.length_set]
  | .tp ts, .tuple ds, ρ, ρ1, h => bindTs_length (t := ts) (ds := ds) (by simpa [bindT] using h)
  | .tp ts, .none, _, _, h => by simp [bindT] at h
  | .tp ts, .bool _, _, _, h => by simp [bindT] at h
  | .tp ts, .int _, _, _, h => by simp [bindT] at h
  | .tp ts, .str _, _, _, h => by simp [bindT] at h
  | .tp ts, .list _, _, _, h => by simp [bindT] at h
  | .tp ts, .dict _, _, _, h => by simp [bindT] at h
  | .nil, _, _, _, h => by simp [bindT] at h
  | .cons _ _, _, _, _, h => by simp [bindT] at h
theorem bindTs_length : ∀ {t : MT} {ds : List PyData} {ρ ρ1 : Rho}, bindTs t ds ρ = some ρ1 → ρ1.length = ρ.length
  | .nil, [], ρ, ρ1, h => by
    simp only [bindTs, Option.some.injEq] at h
    rw [← h]
  | .cons a r, d :: ds, ρ, ρ1, h => by
    simp only [bindTs, Option.bind_eq_some_iff] at h
    obtain ⟨ρ2, h1, h2⟩ := h
    rw [bindTs_length h2, bindT_length h1]
  | .nil, _ :: _, _, _, h => by simp [bindTs] at h
  | .cons _ _, [], _, _, h => by simp [bindTs] at h
  | .nm _, _, _, _, h => by simp [bindTs] at h
  | .tp _, _, _, _, h => by simp [bindTs] at h
end
def lenT : MT → Nat
  | .cons _ r => lenT r + 1
  | _ => 0
theorem bind_len : ∀ {t : MT} {ds : List PyData} {ρ ρ' : Rho}, bindTs t ds ρ = some ρ' → ds.length = lenT t
  | .nil, [], _, _, _ => rfl
  | .cons a r, d :: ds, ρ, ρ', h => by
    simp only [bindTs, Option.bind_eq_some_iff] at h
    obtain ⟨ρ1, _, h2⟩ := h
    show ds.length + 1 = lenT r + 1
    rw [bind_len h2]
  | .nil, _ :: _, _, _, h => by simp [bindTs] at h
  | .cons _ _, [], _, _, h => by simp [bindTs] at h
  | .nm _, _, _, _, h => by simp [bindTs] at h
  | .tp _, _, _, _, h => by simp [bindTs] at h
theorem g_tup {t : MT} {k : Nat} (hc : X.calm = true) (h : PGs X es (gMs t)) (hn : (assignEach es X.env).length = lenT t) (hst : (assignEach es X.env).findIdx? (·.1) = none) : PG X (.Tuple es k pos) (gM (.tp t)) :=
  (pg_tup hc h hn hst).imp fun v σ H Q ⟨A, M, ρ, d, ρ', r, rel, ev, q⟩ => by
  cases rel with
  | tup hh rr =>
    have ev' : bindTs t ‹List PyData› ρ = some ρ' := by simpa [bindT] using ev
    exact ⟨_, _, rfl, SqT.of hh, by rw [rr.length]; exact bind_len ev', A, M, ρ, _, ρ', r, rr, ev', q⟩
  | _ => simp [bindT] at ev
end

/-! ### the block's own names -/
section
variable {A A' M M' : AS} {H H' : Hp} {v : V} {d : PyData} {ρ ρ' : Rho} {σ σ' : L2.St} {i : Nat} {vs : List Nat}
theorem RE.setNo (r : RE A M H ρ σ) : RE A M H (ρ.set i .no) (σ.set i none) := by
  have ne : ∀ {j : Nat} {s : Slot}, (ρ.set i .no)[j]? = some s → s = .no ∨ (ρ[j]? = some s ∧ (σ.set i none)[j]? = σ[j]?) := fun {j s} h => by
    by_cases hj : j = i
    · subst hj
      have hl : j < (ρ.set j .no).length := (List.getElem?_eq_some_iff.mp h).1
      rw [List.length_set] at hl
      rw [List.getElem?_set_self hl] at h
      exact .inl (Option.some.inj h).symm
    · rw [List.getElem?_set_ne (Ne.symm hj)] at h
      exact .inr ⟨h, List.getElem?_set_ne (Ne.symm hj)⟩
  refine ⟨by rw [List.length_set, List.length_set]; exact r.len, r.sub, r.live, fun j x e => ?_, fun j x e => ?_, fun j k x y a e1 e2 e3 e4 => ?_⟩
  · rcases ne e with q | ⟨q, z⟩
    · cases q
    · obtain ⟨w, e1, e2⟩ := r.dat j x q
      exact ⟨w, z.trans e1, e2⟩
  · rcases ne e with q | ⟨q, z⟩
    · cases q
    · obtain ⟨w, e1, e2⟩ := r.own j x q
      exact ⟨w, z.trans e1, e2⟩
  · rcases ne e1 with q | ⟨q1, z1⟩
    · cases q
    · rcases ne e2 with q | ⟨q2, z2⟩
      · cases q
      · exact r.inj j k x y a q1 q2 (z1.symm.trans e3) (z2.symm.trans e4)
theorem RE.wipe (r : RE A M H ρ σ) : ∀ vs : List Nat, RE A M H (wipeR ρ vs) (L2.wipe σ vs)
  | [] => r
  | v :: vs => (RE.wipe r vs).setNo
theorem RE.unwipe (r : RE A M H ρ (L2.wipe σ vs)) : RE A M H ρ σ := by
  refine ⟨by rw [r.len, wipe_length], r.sub, r.live, fun j x e => ?_, fun j x e => ?_, fun j k x y a e1 e2 e3 e4 => ?_⟩
  · obtain ⟨w, q1, q2⟩ := r.dat j x e
    exact ⟨w, (wipe_some q1).1, q2⟩
  · obtain ⟨w, q1, q2⟩ := r.own j x e
    exact ⟨w, (wipe_some q1).1, q2⟩
  · obtain ⟨w, q1, _⟩ := r.own j x e1
    obtain ⟨w', q2, _⟩ := r.own k y e2
    have z1 := (wipe_some q1).1
    have z2 := (wipe_some q2).1
    rw [z1] at e3
    rw [z2] at e4
    cases e3
    cases e4
    exact r.inj j k x y _ e1 e2 q1 q2
theorem wipe_at : ∀ {vs : List Nat}, i ∈ vs → (L2.wipe σ vs)[i]? = if i < σ.length then some none else none
  | [], h => by cases h
  | v :: vs, h => by
    show ((L2.wipe σ vs).set v none)[i]? = _
    by_cases hv : v = i
    · subst hv
      rw [List.getElem?_set, if_pos rfl, wipe_length]
    · rw [List.getElem?_set_ne hv]
      exact wipe_at ((List.mem_cons.mp h).resolve_left fun z => hv z.symm)
theorem wipe_agree {l : List Nat} (hl : ∀ i ∈ l, i ∈ vs) (len : σ'.length = σ.length) (a : Agree l (L2.wipe σ vs) σ') : L2.wipe σ' vs = L2.wipe σ vs := by
  apply List.ext_getElem?
  intro i
  by_cases hi : i ∈ vs
  · rw [wipe_at hi, wipe_at hi, len]
  · rw [wipe_out hi, a i fun z => hi (hl i z)]
end

/-! ### comprehensions -/
/-- within a comprehension: the list at D is acc so far -/
def CS (A1 M1 : AS) (H1 : Hp) (D : Addr) (σ : L2.St) (ρ : Rho) (acc : List PyData) (H : Hp) : Prop :=
  ∃ A2 M2 xs, Shr A1 M1 A2 M2 ∧ Kp (orA M1 D) H1 H ∧ RE A2 M2 H ρ σ ∧ A2 D ∧ H D = some (.lst xs) ∧ RelAll A2 H xs acc
theorem CS.lat {A1 M1 : AS} {H1 : Hp} {D : Addr} {σ : L2.St} {ρ : Rho} {acc : List PyData} {H : Hp} (hs : ∀ a, M1 a → A1 a) (hD : A1 D) (c : CS A1 M1 H1 D σ ρ acc H) : ∃ A2, Lat A1 A2 H1 H ∧ Kp A1 H1 H := by
  obtain ⟨A2, M2, xs, s, k, _⟩ := c
  have k' : Kp A1 H1 H := k.mono fun a z => by
    rcases z with z | z
    · exact hs a z
    · rw [z]; exact hD
  exact ⟨A2, ⟨k', fun a z => .inl (s.a a z)⟩, k'⟩
def stepC (F : Fns) (mc me : ME) : Rho → List PyData → Option (Rho × List PyData) := fun ρ acc =>
  (evT F mc ρ).bind fun (t, ρ2) => if t then (evE F me ρ2).bind fun (d, _, ρ3) => if acc.length < sizeLine then some (ρ3, acc ++ [d]) else none else some (ρ2, acc)
theorem cs_step {F : Fns} {mc me : ME} {A1 M1 : AS} {H1 : Hp} {D : Addr} {σ : L2.St} {ρ ρ' : Rho} {acc acc' : List PyData} {H : Hp} {Nx : Hp → Prop} (nD : ¬ M1 D) (c : CS A1 M1 H1 D σ ρ acc H) (ev : stepC F mc me ρ acc = some (ρ', acc'))
    (nx : ∀ H, CS A1 M1 H1 D σ ρ' acc' H → Nx H) :
    (tT F mc) σ H fun b H3 => if b = true then (tE F me) σ H3 fun y H4 => ∃ acc, H4 D = some (.lst acc) ∧ acc.length < sizeLine ∧ Nx (upd H4 D (.lst (acc ++ [y]))) else Nx H3 := by
  obtain ⟨A2, M2, xs, s, k, r, hD, hx, rx⟩ := c
  unfold stepC at ev
  simp only [Option.bind_eq_some_iff] at ev
  obtain ⟨⟨t, ρ2⟩, h1, h2⟩ := ev
  have nD2 : ¬ M2 D := fun z => nD (s.m D z)
  refine ⟨A2, M2, ρ, t, ρ2, r, h1, fun H3 A3 M3 s3 k3 r3 => ?_⟩
  have hD3 : A3 D := Classical.byContradiction fun n => nD2 (s3.d D hD n)
  have hx3 : H3 D = some (.lst xs) := k3.same _ _ hx fun z => absurd z nD2
  have rx3 : RelAll A3 H3 xs acc := (rx.keep r.sub k3).anti s3.a
  have k3' : Kp (orA M1 D) H1 H3 := k.trans (k3.mono fun a z => .inl (s.m a z))
  cases t with
  | false =>
    cases h2
    exact iteF (nx H3 ⟨A3, M3, xs, s.trans s3, k3', r3, hD3, hx3, rx3⟩)
  | true =>
    rw [if_pos rfl] at h2
    simp only [Option.bind_eq_some_iff] at h2
    obtain ⟨⟨d, fr, ρ3⟩, h3, h4⟩ := h2
    split at h4
    · rename_i hl
      cases h4
      refine iteT ⟨A3, M3, ρ2, d, fr, _, r3, h3, fun y H4 p => ?_⟩
      obtain ⟨A4, M4, s4, k4, r4, b4⟩ := p.std r3.live
      have nD3 : ¬ M3 D := fun z => nD2 (s3.m D z)
      have hD4 : A4 D := Classical.byContradiction fun n => nD3 (s4.d D hD3 n)
      have hx4 : H4 D = some (.lst xs) := k4.same _ _ hx3 fun z => absurd z nD3
      have rx4 : RelAll A4 H4 xs acc := (rx3.keep r3.sub k4).anti s4.a
      have kD : Kp (fun a => a = D) H4 (upd H4 D (.lst (xs ++ [y]))) := Kp.wr rfl hx4 trivial
      have sD : ∀ a, a = D → A4 a := fun a z => z ▸ hD4
      refine ⟨xs, hx4, by rw [rx4.length]; exact hl, nx _ ⟨A4, M4, xs ++ [y], (s.trans s3).trans s4, ?_, r4.keepM sD (fun a z e => nD3 (s4.m D (e ▸ z))) kD, hD4, upd_same, ?_⟩⟩
      · exact (k3'.trans (k4.mono fun a z => .inl (s.m a (s3.m a z)))).trans (kD.mono fun a z => .inr z)
      · exact ((rx4.keep sD kD)).append (.cons (b4.keep sD kD) .nil)
    · cases h4
theorem drop_cons {ds : List PyData} {i : Nat} {d : PyData} (h : ds[i]? = some d) : ds.drop i = d :: ds.drop (i + 1) := by
  obtain ⟨hi, e⟩ := List.getElem?_eq_some_iff.mp h
  rw [List.drop_eq_getElem_cons hi, e]
/-- the state behind, seen from ahead of D -/
theorem CS.pst {A M A1 M1 : AS} {H0 H1 : Hp} {D : Addr} {σ : L2.St} {ρ : Rho} {acc : List PyData} {H : Hp} {vs : List Nat} (s0 : Shr A M A1 M1) (k0 : Kp M H0 H1) (l0 : ∀ a, A a → ∃ o, H0 a = some o) (l1 : ∀ a, A1 a → ∃ o, H1 a = some o) (hD : H1 D = none) (m1 : ∀ a, M1 a → A1 a)
    (c : CS (orA A1 D) M1 (upd H1 D (.lst [])) D (L2.wipe σ vs) ρ acc H) : Pst A M H0 ρ σ (.list acc) true (.ref D) H := by
  obtain ⟨A2, M2, xs, s, k, r, hA, hx, rx⟩ := c
  have nA1 : ¬ A1 D := fun z => by obtain ⟨o, e⟩ := l1 D z; rw [hD] at e; cases e
  have nM2 : ¬ M2 D := fun z => nA1 (m1 D (s.m D z))
  have eA : orA (butA A2 D) D = A2 := funext fun x => propext ⟨fun z => by
    rcases z with z | z
    · exact z.1
    · rw [z]; exact hA, fun z => by
    by_cases e : x = D
    · exact .inr e
    · exact .inl ⟨z, e⟩⟩
  have r' : RE A2 M2 H ρ σ := r.unwipe
  have hD0 : H0 D = none := by
    cases e : H0 D with
    | none => rfl
    | some o => obtain ⟨o', e'⟩ := k0.live D o e; rw [hD] at e'; cases e'
  have kk : Kp M1 H1 H := ⟨fun a o h n => k.same a o (by rw [upd_ne (ne_of_none h hD)]; exact h) fun z => by
      rcases z with z | z
      · exact n z
      · exact absurd z (ne_of_none h hD), fun a o h => k.live a o (by rw [upd_ne (ne_of_none h hD)]; exact h)⟩
  refine ⟨butA A2 D, M2, ⟨fun x z => ?_, fun x z => s0.m x (s.m x z), fun x h n => ?_⟩, k0.comp s0 kk, ?_, (fun e => nomatch e), fun _ => ⟨D, rfl, hD0, by rw [eA]; exact r', by rw [eA]; exact .inl ⟨xs, acc, rfl, hx, rx⟩⟩⟩
  · rcases s.a x z.1 with q | q
    · exact s0.a x q
    · exact absurd q z.2
  · by_cases h1 : A1 x
    · have hx' : x ≠ D := fun e => nA1 (e ▸ h1)
      exact s0.m x (s.d x (.inl h1) fun z => n ⟨z, hx'⟩)
    · exact s0.d x h h1
  · exact ⟨r'.len, fun a z => ⟨r'.sub a z, fun e => nM2 (e ▸ z)⟩, fun a z => r'.live a z.1, fun i d e => let ⟨v, q1, q2⟩ := r'.dat i d e; ⟨v, q1, q2.anti fun _ z => z.1⟩,
      fun i d e => let ⟨a, q1, q2, q3⟩ := r'.own i d e; ⟨a, q1, q2, q3.anti fun _ z => z.1⟩, r'.inj⟩
theorem CS.start {A1 M1 : AS} {H1 : Hp} {D : Addr} {σ : L2.St} {ρ : Rho} {vs : List Nat} (r : RE A1 M1 H1 ρ σ) (hD : H1 D = none) : CS (orA A1 D) M1 (upd H1 D (.lst [])) D (L2.wipe σ vs) (wipeR ρ vs) [] (upd H1 D (.lst [])) :=
  ⟨orA A1 D, M1, [], Shr.refl _ _, Kp.refl _ _, (r.fresh hD ⟨_, upd_same⟩ (Kp.new hD)).wipe vs, .inr rfl, upd_same, .nil⟩
theorem Lat.before {A1 A2 M1 : AS} {H1 : Hp} {D : Addr} {H : Hp} (hD : H1 D = none) (l : Lat (orA A1 D) A2 (upd H1 D (.lst [])) H) : Lat A1 A2 H1 H := by
  refine ⟨⟨fun a o h n => l.1.same a o (by rw [upd_ne (ne_of_none h hD)]; exact h) fun z => ?_, fun a o h => l.1.live a o (by rw [upd_ne (ne_of_none h hD)]; exact h)⟩, fun a z => ?_⟩
  · rcases z with z | z
    · exact n z
    · exact absurd z (ne_of_none h hD)
  · rcases l.2 a z with (q | q) | q
    · exact .inl q
    · exact .inr (by rw [q]; exact hD)
    · by_cases e : a = D
      · exact .inr (by rw [e]; exact hD)
      · rw [upd_ne e] at q; exact .inr q
section
variable {X : Cx} {F : Fns} {e elt tg iter tg1 iter1 : Expr} {ifs ifs1 : List Expr} {scope : Scope} {own : List (Str × Nat)} {pos : Pos} {mi mc me mi1 mc1 : ME} {t t1 : MT}
/-- one turn of a comprehension begins -/
theorem CS.turn {A1 M1 : AS} {H1 : Hp} {D : Addr} {σ σw : L2.St} {ρ ρ1 : Rho} {acc : List PyData} {H H' : Hp} {x : V} {d : PyData} {vs : List Nat} {Q : L2.St → Hp → Prop} (c : CS A1 M1 H1 D σw ρ acc H) (hw : σw = L2.wipe σ vs) (hv : ∀ i ∈ slotsT t, i ∈ vs)
    (hx : ∀ A2 M2, Shr A1 M1 A2 M2 → Kp No H H' ∧ Rel A2 H' x d) (hb : bindT t d ρ = some ρ1) (q : ∀ σ2, L2.wipe σ2 vs = σw → CS A1 M1 H1 D σ2 ρ1 acc H' → Q σ2 H') : gM t x σw H' Q := by
  obtain ⟨A2, M2, xs, s, k, r, hD, hx1, rx⟩ := c
  obtain ⟨kn, rel⟩ := hx A2 M2 s
  refine ⟨A2, M2, ρ, d, ρ1, r.keep kn, rel, hb, fun σ2 r2 ag => q σ2 ?_ ⟨A2, M2, xs, s, k.trans kn.of, r2, hD, kn.same _ _ hx1 (fun z => z.elim), rx.keep (M := No) (fun _ z => z.elim) kn⟩⟩
  subst hw
  have hl : ρ1.length = ρ.length := bindT_length hb
  exact wipe_agree hv (by rw [← r2.len, hl, r.len, wipe_length]) ag
theorem CS.wiped {A1 M1 : AS} {H1 : Hp} {D : Addr} {σ : L2.St} {ρ : Rho} {acc : List PyData} {H : Hp} (vs : List Nat) (c : CS A1 M1 H1 D σ ρ acc H) : CS A1 M1 H1 D (L2.wipe σ vs) (wipeR ρ vs) acc H := by
  obtain ⟨A2, M2, xs, s, k, r, rest⟩ := c
  exact ⟨A2, M2, xs, s, k, r.wipe vs, rest⟩
theorem e_comp (hc : X.calm = true) (hN : X.N.Nodup) (hi : PI X tg iter (tI F mi)) (ok : BlkOk X.N X.env.scope scope own) (hv : ∀ i ∈ slotsT t, i ∈ own.map (·.2))
    (hg : ∀ (s : Shared) (H : Hp) (C : Addr) (cl : List (Str × Addr)) (fp : List Addr), PG (X.blk s H scope (compEnvC scope cl C X.env) fp) tg (gM t))
    (ht : ∀ (s : Shared) (H : Hp) (C : Addr) (cl : List (Str × Addr)) (fp : List Addr), PTs (X.blk s H scope (compEnvC scope cl C X.env) fp) ifs (tT F mc))
    (he : ∀ (s : Shared) (H : Hp) (C : Addr) (cl : List (Str × Addr)) (fp : List Addr), PE (X.blk s H scope (compEnvC scope cl C X.env) fp) elt (tE F me)) (hs : ∀ x, foldedSetIterable iter X.env x = pure x) :
    PE X (.ListComp elt [⟨tg, iter, ifs, 0⟩] scope pos) (tE F (.comp (own.map (·.2)) t mi mc me)) := by
  refine (pe_lc hc hN hi ok hg ht he hs).imp fun σ H Q h => comp_read hv h
where
  comp_read {vs : List Nat} {σ : L2.St} {H : Hp} {Q : VK} (hv : ∀ i ∈ slotsT t, i ∈ vs) (h : tE F (.comp vs t mi mc me) σ H Q) : tLc (tI F mi) (gM t) (tT F mc) (tE F me) vs σ H Q := by
    obtain ⟨A, M, ρ, d, fr, ρ', r, ev, q⟩ := h
    simp only [evE, Option.bind_eq_some_iff, Option.map_eq_some_iff] at ev
    obtain ⟨⟨ds, ρ1⟩, h1, ⟨ρ4, accF⟩, h2, h3⟩ := ev
    cases h3
    refine ⟨A, M, ρ, ds, ρ1, r, h1, fun J H1 A1 M1 s1 k1 r1 it D hD => ?_⟩
    obtain ⟨G, Y, w, hG, hY⟩ := it
    have nM : ¬ M1 D := fun z => r1.not_fresh hD (r1.sub D z)
    have sub : ∀ a, M1 a → orA A1 D a := fun a z => .inl (r1.sub a z)
    refine lc_it w (fun i H => ∃ ρ2 acc, CS (orA A1 D) M1 (upd H1 D (.lst [])) D (L2.wipe σ vs) ρ2 acc H ∧ turns t (stepC F mc me) vs (ds.drop i) ρ2 acc = some (ρ4, accF)) ⟨_, _, CS.start r1 hD, h2⟩ (fun i H _ ⟨ρ2, acc, c, _⟩ => ?_) (fun i x H H' hi ⟨ρ2, acc, c, ht⟩ y => ?_) fun H ⟨ρ2, acc, c, ht⟩ => ?_
    · obtain ⟨A2, l, _⟩ := c.lat sub (.inr rfl)
      exact hG H (Lat.before (M1 := M1) hD l).1
    · obtain ⟨A2, l, _⟩ := c.lat sub (.inr rfl)
      obtain ⟨kn, d, hd, _⟩ := hY i A2 H x H' hi (Lat.before (M1 := M1) hD l) y
      rw [drop_cons hd] at ht
      simp only [turns, Option.bind_eq_some_iff] at ht
      obtain ⟨ρ3, g1, ⟨ρ5, acc5⟩, g2, g3⟩ := ht
      refine c.turn rfl hv (fun A3 M3 s3 => ?_) g1 fun σ2 hw c2 => ⟨hw, cs_step nM c2 g2 fun H5 c5 => ⟨_, _, by rw [← hw]; exact c5.wiped vs, g3⟩⟩
      obtain ⟨kn', d', hd', rel'⟩ := hY i A3 H x H' hi (Lat.before (M1 := M1) hD ⟨l.1, fun a z => .inl (s3.a a z)⟩) y
      rw [hd] at hd'
      cases hd'
      exact ⟨kn', rel'⟩
    · rw [List.drop_length] at ht
      cases ht
      exact q _ _ (CS.pst s1 k1 r.live r1.live hD r1.sub c)
/-- the inner walk of a comprehension, from where it stands -/
theorem inner_it {J : It} {n : Nat} {G : Hp → Prop} {Y : Nat → Hp → V → Hp → Prop} {g : TG} {tt : TT} {te : TE} {vs : List Nat} {σ : L2.St} {H0 : Hp} {D : Addr} {Nx : Hp → Prop} (w : Walk J n G Y) (P : Nat → Hp → Prop)
    (h0 : P 0 H0) (hG : ∀ i H, i ≤ n → P i H → G H) (hd : ∀ H, P n H → Nx H)
    (hs : ∀ i x H H', i < n → P i H → Y i H x H' → g x (L2.wipe σ vs) H' fun σ2 H2 => L2.wipe σ2 vs = L2.wipe σ vs ∧ tt σ2 H2 fun b H3 =>
      if b = true then te σ2 H3 fun y H4 => ∃ acc, H4 D = some (.lst acc) ∧ acc.length < sizeLine ∧ P (i + 1) (upd H4 D (.lst (acc ++ [y]))) else P (i + 1) H3) :
    ∃ W : Nat → Nat → Hp → Prop, (∃ m, W 0 m H0) ∧ ∀ j k H, W j k H → (J.stop j H ∧ Nx H) ∨ (J.go j H ∧ ∃ N : Hp → Prop, (∀ H', N H' → ∃ k', k' < k ∧ W (j + 1) k' H') ∧
      ∀ x H', J.yld j H x H' → g x (L2.wipe σ vs) H' fun σ2 H2 => L2.wipe σ2 vs = L2.wipe σ vs ∧ tt σ2 H2 fun b H3 =>
        if b = true then te σ2 H3 fun y H4 => ∃ acc, H4 D = some (.lst acc) ∧ acc.length < sizeLine ∧ N (upd H4 D (.lst (acc ++ [y]))) else N H3) := by
  refine ⟨fun j k H => j + k = n ∧ P j H, ⟨n, Nat.zero_add n, h0⟩, fun j k H hw => ?_⟩
  obtain ⟨e, p⟩ := hw
  cases k with
  | zero =>
    have e' : j = n := e
    subst e'
    exact .inl ⟨w.stops H (hG _ H (Nat.le_refl _) p), hd H p⟩
  | succ k =>
    have hj : j < n := by omega
    have g := hG j H (Nat.le_of_lt hj) p
    exact .inr ⟨w.goes j H hj g, P (j + 1), fun H' p' => ⟨k, Nat.lt_succ_self k, by omega, p'⟩, fun x H' y => hs j x H H' hj p (w.yields j H x H' hj g y)⟩
theorem wipe_wipe {σ : L2.St} {vs vs1 : List Nat} (h : ∀ i ∈ vs1, i ∈ vs) : L2.wipe (L2.wipe σ vs1) vs = L2.wipe σ vs := by
  apply List.ext_getElem?
  intro i
  by_cases hi : i ∈ vs
  · rw [wipe_at hi, wipe_at hi, wipe_length]
  · rw [wipe_out hi, wipe_out hi, wipe_out fun z => hi (h i z)]
theorem e_comp2 {vs1 : List Nat} (hc : X.calm = true) (hN : X.N.Nodup) (hi : PI X tg iter (tI F mi)) (ok : BlkOk X.N X.env.scope scope own) (hv : ∀ i ∈ slotsT t, i ∈ own.map (·.2)) (hv1 : ∀ i ∈ vs1, i ∈ own.map (·.2)) (hv2 : ∀ i ∈ slotsT t1, i ∈ vs1)
    (hg : ∀ (s : Shared) (H : Hp) (C : Addr) (cl : List (Str × Addr)) (fp : List Addr), PG (X.blk s H scope (compEnvC scope cl C X.env) fp) tg (gM t))
    (ht : ∀ (s : Shared) (H : Hp) (C : Addr) (cl : List (Str × Addr)) (fp : List Addr), PTs (X.blk s H scope (compEnvC scope cl C X.env) fp) ifs (tT F mc))
    (hi1 : ∀ (s : Shared) (H : Hp) (C : Addr) (cl : List (Str × Addr)) (fp : List Addr), PI (X.blk s H scope (compEnvC scope cl C X.env) fp) tg1 iter1 (tI F mi1))
    (hg1 : ∀ (s : Shared) (H : Hp) (C : Addr) (cl : List (Str × Addr)) (fp : List Addr), PG (X.blk s H scope (compEnvC scope cl C X.env) fp) tg1 (gM t1))
    (ht1 : ∀ (s : Shared) (H : Hp) (C : Addr) (cl : List (Str × Addr)) (fp : List Addr), PTs (X.blk s H scope (compEnvC scope cl C X.env) fp) ifs1 (tT F mc1))
    (he : ∀ (s : Shared) (H : Hp) (C : Addr) (cl : List (Str × Addr)) (fp : List Addr), PE (X.blk s H scope (compEnvC scope cl C X.env) fp) elt (tE F me)) (hs : ∀ x, foldedSetIterable iter X.env x = pure x) (hs1 : ∀ env x, foldedSetIterable iter1 env x = pure x) :
    PE X (.ListComp elt [⟨tg, iter, ifs, 0⟩, ⟨tg1, iter1, ifs1, 0⟩] scope pos) (tE F (.comp2 (own.map (·.2)) vs1 t mi mc t1 mi1 mc1 me)) := by
  refine (pe_lc2 hc hN hi ok hv1 hg ht hi1 hg1 ht1 he hs hs1).imp fun σ H Q h => comp2_read hv hv1 hv2 h
where
  comp2_read {vs vs1 : List Nat} {σ : L2.St} {H : Hp} {Q : VK} (hv : ∀ i ∈ slotsT t, i ∈ vs) (hv1 : ∀ i ∈ vs1, i ∈ vs) (hv2 : ∀ i ∈ slotsT t1, i ∈ vs1) (h : tE F (.comp2 vs vs1 t mi mc t1 mi1 mc1 me) σ H Q) :
      tLc2 (tI F mi) (gM t) (tT F mc) (tI F mi1) (gM t1) (tT F mc1) (tE F me) vs vs1 σ H Q := by
    obtain ⟨A, M, ρ, d, fr, ρ', r, ev, q⟩ := h
    simp only [evE, Option.bind_eq_some_iff, Option.map_eq_some_iff] at ev
    obtain ⟨⟨ds, ρ1⟩, h1, ⟨ρ4, accF⟩, h2, h3⟩ := ev
    cases h3
    refine ⟨A, M, ρ, ds, ρ1, r, h1, fun J H1 A1 M1 s1 k1 r1 it D hD => ?_⟩
    obtain ⟨G, Y, w, hG, hY⟩ := it
    have nM : ¬ M1 D := fun z => r1.not_fresh hD (r1.sub D z)
    have sub : ∀ a, M1 a → orA A1 D a := fun a z => .inl (r1.sub a z)
    refine ⟨fun i m H => i + m = ds.length ∧ ∃ ρ2 acc, CS (orA A1 D) M1 (upd H1 D (.lst [])) D (L2.wipe σ vs) ρ2 acc H ∧ turns t (fun ρ acc => (evT F mc ρ).bind fun (t, ρ2) => if t then (evI F mi1 ρ2).bind fun (ds1, ρ3) =>
        turns t1 (stepC F mc1 me) vs1 ds1 (wipeR ρ3 vs1) acc else some (ρ2, acc)) vs (ds.drop i) ρ2 acc = some (ρ4, accF), ⟨ds.length, Nat.zero_add _, _, _, CS.start r1 hD, h2⟩, fun i m H hw => ?_⟩
    obtain ⟨em, ρ2, acc, c, ht⟩ := hw
    obtain ⟨A2, l, _⟩ := c.lat sub (.inr rfl)
    have gH := hG H (Lat.before (M1 := M1) hD l).1
    cases m with
    | zero =>
      have ei : i = ds.length := em
      subst ei
      rw [List.drop_length] at ht
      cases ht
      exact .inl ⟨w.stops H gH, q _ _ (CS.pst s1 k1 r.live r1.live hD r1.sub c)⟩
    | succ m =>
      have hi : i < ds.length := by omega
      refine .inr ⟨w.goes i H hi gH, fun H' => ∃ ρ2 acc, CS (orA A1 D) M1 (upd H1 D (.lst [])) D (L2.wipe σ vs) ρ2 acc H' ∧ turns t (fun ρ acc => (evT F mc ρ).bind fun (t, ρ2) => if t then (evI F mi1 ρ2).bind fun (ds1, ρ3) =>
        turns t1 (stepC F mc1 me) vs1 ds1 (wipeR ρ3 vs1) acc else some (ρ2, acc)) vs (ds.drop (i + 1)) ρ2 acc = some (ρ4, accF), fun H' p => ⟨m, Nat.lt_succ_self m, by omega, p⟩, fun x H' y => ?_⟩
      have y' := w.yields i H x H' hi gH y
      obtain ⟨kn, d, hd, _⟩ := hY i A2 H x H' hi (Lat.before (M1 := M1) hD l) y'
      rw [drop_cons hd] at ht
      simp only [turns, Option.bind_eq_some_iff] at ht
      obtain ⟨ρ3, g1, ⟨ρ5, acc5⟩, ⟨⟨b, ρ6⟩, g2, g3⟩, g4⟩ := ht
      refine c.turn rfl hv (fun A3 M3 s3 => ?_) g1 fun σ2 hw c2 => ⟨hw, ?_⟩
      · obtain ⟨kn', d', hd', rel'⟩ := hY i A3 H x H' hi (Lat.before (M1 := M1) hD ⟨l.1, fun a z => .inl (s3.a a z)⟩) y'
        rw [hd] at hd'
        cases hd'
        exact ⟨kn', rel'⟩
      · obtain ⟨A3, M3, xs, s3, k3, r3, hA3, hx3, rx3⟩ := c2
        have nM3 : ¬ M3 D := fun z => nM (s3.m D z)
        refine ⟨A3, M3, ρ3, b, ρ6, r3, g2, fun H5 A5 M5 s5 k5 r5 => ?_⟩
        have hA5 : A5 D := Classical.byContradiction fun n => nM3 (s5.d D hA3 n)
        have hx5 : H5 D = some (.lst xs) := k5.same _ _ hx3 fun z => absurd z nM3
        have rx5 : RelAll A5 H5 xs acc := (rx3.keep r3.sub k5).anti s5.a
        have k5' := k3.trans (k5.mono fun a z => .inl (s3.m a z))
        cases b with
        | false =>
          cases g3
          exact iteF ⟨_, _, by rw [← hw]; exact CS.wiped vs ⟨A5, M5, xs, s3.trans s5, k5', r5, hA5, hx5, rx5⟩, g4⟩
        | true =>
          rw [if_pos rfl] at g3
          simp only [Option.bind_eq_some_iff] at g3
          obtain ⟨⟨ds1, ρ7⟩, g5, g6⟩ := g3
          have nM5 : ¬ M5 D := fun z => nM3 (s5.m D z)
          refine iteT ⟨A5, M5, ρ6, ds1, ρ7, r5, g5, fun J1 H6 A6 M6 s6 k6 r6 it1 => ?_⟩
          obtain ⟨G1, Y1, w1, hG1, hY1⟩ := it1
          have hA6 : A6 D := Classical.byContradiction fun n => nM5 (s6.d D hA5 n)
          have hx6 : H6 D = some (.lst xs) := k6.same _ _ hx5 fun z => absurd z nM5
          have rx6 : RelAll A6 H6 xs acc := (rx5.keep r5.sub k6).anti s6.a
          have nM6 : ¬ M6 D := fun z => nM5 (s6.m D z)
          refine inner_it w1 (fun j H => ∃ ρ8 acc8, CS A6 M6 H6 D (L2.wipe σ2 vs1) ρ8 acc8 H ∧ turns t1 (stepC F mc1 me) vs1 (ds1.drop j) ρ8 acc8 = some (ρ5, acc5)) ⟨_, _, ⟨A6, M6, xs, Shr.refl _ _, Kp.refl _ _, r6.wipe vs1, hA6, hx6, rx6⟩, g6⟩
            (fun j H _ ⟨ρ8, acc8, c8, _⟩ => ?_) (fun H ⟨ρ8, acc8, c8, ht8⟩ => ?_) fun j x H H' hj ⟨ρ8, acc8, c8, ht8⟩ y => ?_
          · obtain ⟨A9, l9, k9⟩ := c8.lat r6.sub hA6
            exact hG1 H k9
          · rw [List.drop_length] at ht8
            cases ht8
            have hw2 : L2.wipe (L2.wipe σ2 vs1) vs = L2.wipe σ vs := (wipe_wipe hv1).trans hw
            refine ⟨_, _, ?_, g4⟩
            rw [← hw2]
            refine CS.wiped vs ?_
            obtain ⟨A9, M9, ys, s9, k9, r9, hA9, hx9, rx9⟩ := c8
            refine ⟨A9, M9, ys, ((s3.trans s5).trans s6).trans s9, ?_, r9, hA9, hx9, rx9⟩
            exact (k5'.trans (k6.mono fun a z => .inl (s3.m a (s5.m a z)))).trans (k9.mono fun a z => by
              rcases z with z | z
              · exact .inl (s3.m a (s5.m a (s6.m a z)))
              · exact .inr z)
          · obtain ⟨A9, l9, k9⟩ := c8.lat r6.sub hA6
            obtain ⟨kn1, d1, hd1, _⟩ := hY1 j A9 H x H' hj l9 y
            rw [drop_cons hd1] at ht8
            simp only [turns, Option.bind_eq_some_iff] at ht8
            obtain ⟨ρ9, f1, ⟨ρ10, acc10⟩, f2, f3⟩ := ht8
            refine c8.turn rfl hv2 (fun A11 M11 s11 => ?_) f1 fun σ3 hw3 c3 => ⟨hw3, cs_step nM6 c3 f2 fun H12 c12 => ⟨_, _, by rw [← hw3]; exact c12.wiped vs1, f3⟩⟩
            obtain ⟨kn', d', hd', rel'⟩ := hY1 j A11 H x H' hj ⟨l9.1, fun a z => .inl (s11.a a z)⟩ y
            rw [hd1] at hd'
            cases hd'
            exact ⟨kn', rel'⟩
end
end MI

/-! MI7: calls of the program's own defs. -/
namespace MI
open PySem PySem.Spec PyProof.Rows L2
variable [EK]

section
variable {A A2 M M' N : AS} {H H' : Hp} {v : V} {d e : PyData} {ρ ρ' : Rho} {σ σ' : L2.St} {i : Nat} {a : Addr}
theorem RE.gen (r : RE A M H ρ σ) (k : Kp N H H') (hN : ∀ a, N a → A a) (dis : ∀ a, M a → ¬ N a) (h2 : ∀ a, A2 a → A a ∨ H a = none) (hs : ∀ a, M a → A2 a) (l : ∀ a, A2 a → ∃ o, H' a = some o) : RE A2 M H' ρ σ := by
  have f : ∀ a o, H a = some o → (A a → ¬ Mu o) → H' a = some o := kp_f hN k
  have g : ∀ a o, H a = some o → A2 a → ¬ A a → Mu o → False := fun a o h z n _ => by
    rcases h2 a z with q | q
    · exact n q
    · rw [q] at h; cases h
  refine ⟨r.len, hs, l, fun j x e => ?_, fun j x e => ?_, r.inj⟩
  · obtain ⟨w, e1, e2⟩ := r.dat j x e
    exact ⟨w, e1, e2.map f g⟩
  · obtain ⟨b, e1, e2, e3⟩ := r.own j x e
    have eb : H' b = H b := by
      obtain ⟨o, ho, mu⟩ := e3.live
      rw [ho]
      exact k.same b o ho fun z => absurd z (dis b e2)
    exact ⟨b, e1, e2, e3.map f g eb⟩
theorem set_cases {ρ : Rho} {i j : Nat} {s x : Slot} (h : (ρ.set i x)[j]? = some s) : (j = i ∧ s = x) ∨ (j ≠ i ∧ ρ[j]? = some s) := by
  by_cases hj : j = i
  · subst hj
    have hl : j < (ρ.set j x).length := (List.getElem?_eq_some_iff.mp h).1
    rw [List.length_set] at hl
    rw [List.getElem?_set_self hl] at h
    exact .inl ⟨rfl, (Option.some.inj h).symm⟩
  · rw [List.getElem?_set_ne (Ne.symm hj)] at h
    exact .inr ⟨hj, h⟩
theorem RE.setOwn (r : RE A M H ρ σ) (hσ : σ[i]? = some (some (.ref a))) (hA : A a) (nM : ¬ M a) (ho : Own A H a e) : RE A (orA M a) H (ρ.set i (.own e)) σ := by
  refine ⟨by rw [List.length_set]; exact r.len, fun b z => ?_, r.live, fun j x h => ?_, fun j x h => ?_, fun j k x y b h1 h2 h3 h4 => ?_⟩
  · rcases z with z | z
    · exact r.sub b z
    · rw [z]; exact hA
  · rcases set_cases h with ⟨_, q⟩ | ⟨_, q⟩
    · cases q
    · exact r.dat j x q
  · rcases set_cases h with ⟨rfl, q⟩ | ⟨_, q⟩
    · cases q; exact ⟨a, hσ, .inr rfl, ho⟩
    · obtain ⟨b, e1, e2, e3⟩ := r.own j x q
      exact ⟨b, e1, .inl e2, e3⟩
  · rcases set_cases h1 with ⟨rfl, q1⟩ | ⟨n1, q1⟩
    · rcases set_cases h2 with ⟨rfl, q2⟩ | ⟨n2, q2⟩
      · rfl
      · obtain ⟨b', e1, e2, _⟩ := r.own k y q2
        rw [hσ] at h3
        rw [e1] at h4
        cases h3
        cases h4
        exact absurd e2 nM
    · rcases set_cases h2 with ⟨rfl, q2⟩ | ⟨n2, q2⟩
      · obtain ⟨b', e1, e2, _⟩ := r.own j x q1
        rw [hσ] at h4
        rw [e1] at h3
        cases h3
        cases h4
        exact absurd e2 nM
      · exact r.inj j k x y b q1 q2 h3 h4
theorem RE.setDat' (r : RE A M H ρ σ) (hσ : σ[i]? = some (some v)) (ho : Rel A H v e) : RE A M H (ρ.set i (.dat e)) σ := by
  refine ⟨by rw [List.length_set]; exact r.len, r.sub, r.live, fun j x h => ?_, fun j x h => ?_, fun j k x y b h1 h2 h3 h4 => ?_⟩
  · rcases set_cases h with ⟨rfl, q⟩ | ⟨_, q⟩
    · cases q; exact ⟨v, hσ, ho⟩
    · exact r.dat j x q
  · rcases set_cases h with ⟨_, q⟩ | ⟨_, q⟩
    · cases q
    · exact r.own j x q
  · rcases set_cases h1 with ⟨_, q1⟩ | ⟨_, q1⟩
    · cases q1
    · rcases set_cases h2 with ⟨_, q2⟩ | ⟨_, q2⟩
      · cases q2
      · exact r.inj j k x y b q1 q2 h3 h4
theorem RE.setNo' (r : RE A M H ρ σ) : RE A M H (ρ.set i .no) σ := by
  refine ⟨by rw [List.length_set]; exact r.len, r.sub, r.live, fun j x h => ?_, fun j x h => ?_, fun j k x y b h1 h2 h3 h4 => ?_⟩
  · rcases set_cases h with ⟨_, q⟩ | ⟨_, q⟩
    · cases q
    · exact r.dat j x q
  · rcases set_cases h with ⟨_, q⟩ | ⟨_, q⟩
    · cases q
    · exact r.own j x q
  · rcases set_cases h1 with ⟨_, q1⟩ | ⟨_, q1⟩
    · cases q1
    · rcases set_cases h2 with ⟨_, q2⟩ | ⟨_, q2⟩
      · cases q2
      · exact r.inj j k x y b q1 q2 h3 h4
/-- what is lent is taken out of M -/
theorem RE.lendOut (r : RE A M H ρ σ) (e1 : ρ[i]? = some (Slot.own d)) (hσ : σ[i]? = some (some (.ref a))) : RE A (butA M a) H (ρ.set i .no) σ := by
  have r' : RE A M H (ρ.set i .no) σ := r.setNo'
  refine ⟨r'.len, fun b z => r.sub b z.1, r.live, r'.dat, fun j x h => ?_, r'.inj⟩
  obtain ⟨b, q1, q2, q3⟩ := r'.own j x h
  refine ⟨b, q1, ⟨q2, fun z => ?_⟩, q3⟩
  subst z
  rcases set_cases h with ⟨_, q⟩ | ⟨n, q⟩
  · cases q
  · exact n (r.inj j i x d _ q e1 q1 hσ)
theorem RE.nil (hs : ∀ a, M a → A a) (l : ∀ a, A a → ∃ o, H a = some o) : RE A M H [] [] := ⟨rfl, hs, l, fun j x h => by simp at h, fun j x h => by simp at h, fun j k x y b h => by simp at h⟩
theorem RE.consDat {ss : Rho} {σs : L2.St} (r : RE A M H ss σs) (h : Rel A H v d) : RE A M H (.dat d :: ss) (some v :: σs) := by
  refine ⟨congrArg (· + 1) r.len, r.sub, r.live, fun j x e => ?_, fun j x e => ?_, fun j k x y b e1 e2 e3 e4 => ?_⟩
  · cases j with
    | zero => cases e; exact ⟨v, rfl, h⟩
    | succ j => exact r.dat j x e
  · cases j with
    | zero => cases e
    | succ j => exact r.own j x e
  · cases j with
    | zero => cases e1
    | succ j =>
      cases k with
      | zero => cases e2
      | succ k => exact congrArg _ (r.inj j k x y b e1 e2 e3 e4)
theorem RE.consOwn {ss : Rho} {σs : L2.St} (r : RE A N H ss σs) (hs : ∀ b, N b → M b) (hm : ∀ b, M b → A b) (ha : M a) (na : ¬ N a) (h : Own A H a d) : RE A M H (.own d :: ss) (some (.ref a) :: σs) := by
  refine ⟨congrArg (· + 1) r.len, hm, r.live, fun j x e => ?_, fun j x e => ?_, fun j k x y b e1 e2 e3 e4 => ?_⟩
  · cases j with
    | zero => cases e
    | succ j => exact r.dat j x e
  · cases j with
    | zero => cases e; exact ⟨a, rfl, ha, h⟩
    | succ j => obtain ⟨b, q1, q2, q3⟩ := r.own j x e; exact ⟨b, q1, hs b q2, q3⟩
  · cases j with
    | zero =>
      cases k with
      | zero => rfl
      | succ k =>
        obtain ⟨b', q1, q2, _⟩ := r.own k y e2
        have e4' : σs[k]? = some (some (V.ref b)) := e4
        rw [q1] at e4'
        cases e3
        cases e4'
        exact absurd q2 na
    | succ j =>
      cases k with
      | zero =>
        obtain ⟨b', q1, q2, _⟩ := r.own j x e1
        have e3' : σs[j]? = some (some (V.ref b)) := e3
        rw [q1] at e3'
        cases e4
        cases e3'
        exact absurd q2 na
      | succ k => exact congrArg _ (r.inj j k x y b e1 e2 e3 e4)
theorem RE.monoM (r : RE A N H ρ σ) (hs : ∀ b, N b → M b) (hm : ∀ b, M b → A b) : RE A M H ρ σ :=
  ⟨r.len, hm, r.live, r.dat, fun j x e => let ⟨b, q1, q2, q3⟩ := r.own j x e; ⟨b, q1, hs b q2, q3⟩, r.inj⟩
theorem RE.tail {s : Slot} {ss : Rho} {o : Option V} {σs : L2.St} (r : RE A M H (s :: ss) (o :: σs)) : RE A M H ss σs :=
  ⟨Nat.succ.inj r.len, r.sub, r.live, fun j x e => r.dat (j + 1) x e, fun j x e => r.own (j + 1) x e, fun j k x y b e1 e2 e3 e4 => Nat.succ.inj (r.inj (j + 1) (k + 1) x y b e1 e2 e3 e4)⟩
theorem RE.tailOwn {ss : Rho} {σs : L2.St} (r : RE A M H (.own d :: ss) (some (.ref a) :: σs)) : RE A (butA M a) H ss σs := by
  have t := r.tail
  refine ⟨t.len, fun b z => t.sub b z.1, t.live, t.dat, fun j x e => ?_, t.inj⟩
  obtain ⟨b, q1, q2, q3⟩ := t.own j x e
  refine ⟨b, q1, ⟨q2, fun z => ?_⟩, q3⟩
  subst z
  exact absurd (r.inj 0 (j + 1) d x b rfl e rfl q1) (by omega)
end
theorem lend_ok {A : AS} {H : Hp} {σ : L2.St} : ∀ {bs : List Bor} {vs : List V} {M : AS} {ρ ρ' : Rho} {as : List Arg}, RE A M H ρ σ → BRs A H σ vs bs → lend ρ bs = some (as, ρ') →
    ∃ M', (∀ a, M' a → M a) ∧ RE A M' H ρ' σ ∧ RE A (fun a => M a ∧ ¬ M' a) H (as.map argSlot) (vs.map some)
  | [], [], M, ρ, ρ', as, r, _, h => by
    cases h
    exact ⟨M, fun _ z => z, r, RE.nil (fun a z => absurd z.1 z.2) r.live⟩
  | [], _ :: _, _, _, _, _, _, b, _ => b.elim
  | _ :: _, [], _, _, _, _, _, b, _ => b.elim
  | .v d :: bs, v :: vs, M, ρ, ρ', as, r, b, h => by
    simp only [lend, Option.map_eq_some_iff] at h
    obtain ⟨⟨as1, ρ1⟩, h1, h2⟩ := h
    cases h2
    obtain ⟨M', q1, q2, q3⟩ := lend_ok r b.2 h1
    exact ⟨M', q1, q2, q3.consDat b.1⟩
  | .r i :: bs, v :: vs, M, ρ, ρ', as, r, b, h => by
    have hσ : σ[i]? = some (some v) := b.1
    simp only [lend] at h
    split at h
    · rename_i d hd
      simp only [Option.map_eq_some_iff] at h
      obtain ⟨⟨as1, ρ1⟩, h1, h2⟩ := h
      cases h2
      obtain ⟨a, e1, hm, ho⟩ := r.own i d hd
      rw [hσ] at e1
      cases e1
      obtain ⟨M', q1, q2, q3⟩ := lend_ok (r.lendOut hd hσ) b.2 h1
      refine ⟨M', fun x z => (q1 x z).1, q2, q3.consOwn (fun x z => ⟨z.1.1, z.2⟩) (fun x z => r.sub x z.1) ⟨hm, fun z => (q1 a z).2 rfl⟩ (fun z => z.1.2 rfl) ho⟩
    · rename_i d hd
      simp only [Option.map_eq_some_iff] at h
      obtain ⟨⟨as1, ρ1⟩, h1, h2⟩ := h
      cases h2
      obtain ⟨w, e1, rel⟩ := r.dat i d hd
      rw [hσ] at e1
      cases e1
      obtain ⟨M', q1, q2, q3⟩ := lend_ok r b.2 h1
      exact ⟨M', q1, q2, q3.consDat rel⟩
    · cases h
/-- an argument that was lent is a variable -/
def Links (σ : L2.St) : List V → List Bor → Prop
  | v :: vs, .r i :: bs => σ[i]? = some (some v) ∧ Links σ vs bs
  | _ :: vs, .v _ :: bs => Links σ vs bs
  | _, _ => True
theorem BRs.links {A : AS} {H : Hp} {σ : L2.St} : ∀ {vs : List V} {bs : List Bor}, BRs A H σ vs bs → Links σ vs bs
  | [], [], _ => trivial
  | v :: vs, .r i :: bs, h => ⟨h.1, BRs.links h.2⟩
  | v :: vs, .v d :: bs, h => BRs.links (vs := vs) (bs := bs) h.2
  | [], _ :: _, h => h.elim
  | _ :: _, [], h => h.elim
theorem back_ok {A : AS} {H : Hp} {σ : L2.St} : ∀ {bs : List Bor} {vs : List V} {M N : AS} {ρ ρ' : Rho} {as : List Arg} {ss : List Slot}, RE A M H ρ σ → RE A N H ss (vs.map some) → (∀ a, N a → ¬ M a) → Links σ vs bs → back ρ bs as ss = some ρ' →
    RE A (fun a => M a ∨ N a) H ρ' σ
  | [], vs, M, N, ρ, ρ', as, ss, r, q, dis, l, h => by
    have h' : some ρ = some ρ' := by simpa [back] using h
    cases h'
    exact r.monoM (fun _ z => .inl z) fun a z => by
      rcases z with z | z
      · exact r.sub a z
      · exact q.sub a z
  | b :: bs, vs, M, N, ρ, ρ', as, ss, r, q, dis, l, h => by
    cases as with
    | nil => cases b <;> simp [back] at h
    | cons x as =>
      obtain ⟨d, w⟩ := x
      cases ss with
      | nil => cases b <;> cases w <;> simp [back] at h
      | cons s ss =>
        cases vs with
        | nil => have := q.len; simp at this
        | cons v vs =>
          have q' : RE A N H (s :: ss) (some v :: vs.map some) := q
          cases w with
          | false =>
            have h' : back ρ bs as ss = some ρ' := by cases b <;> simpa [back] using h
            have l' : Links σ vs bs := by
              cases b with
              | v _ => exact l
              | r _ => exact l.2
            exact back_ok r q'.tail dis l' h'
          | true =>
            cases b with
            | v _ => simp [back] at h
            | r i =>
              have h' : back (ρ.set i s) bs as ss = some ρ' := by simpa [back] using h
              cases s with
              | no => exact back_ok r.setNo' q'.tail dis l.2 h'
              | dat e =>
                obtain ⟨w, e1, rel⟩ := q'.dat 0 e rfl
                cases e1
                exact back_ok (r.setDat' l.1 rel) q'.tail dis l.2 h'
              | own e =>
                obtain ⟨a, e1, hm, ho⟩ := q'.own 0 e rfl
                cases e1
                have z := back_ok (r.setOwn l.1 (q'.sub a hm) (dis a hm) ho) q'.tailOwn (fun x hx hy => by
                  rcases hy with hy | hy
                  · exact dis x hx.1 hy
                  · exact hx.2 hy) l.2 h'
                refine z.monoM (fun x hx => ?_) fun x hx => ?_
                · rcases hx with (hx | hx) | hx
                  · exact .inl hx
                  · exact .inr (hx ▸ hm)
                  · exact .inr hx.1
                · rcases hx with hx | hx
                  · exact r.sub x hx
                  · exact q.sub x hx

/-! ### a def's promise by the interpreter -/
def spF (F : Fns) (id : Nat) : Sp := fun vs H Q _ => ∃ A M as d fr ss, RE A M H (as.map argSlot) (vs.map some) ∧ F id as = some (d, fr, ss) ∧ ∀ v H', Pst A M H ss (vs.map some) d fr v H' → Q v H'
/-- as FnOk, where no repr is under way -/
structure FnG (P : Program) (w : World) (K : PySem.W.Frag) (mg : Str → Option Value) (base : Heap) (k : Nat) (f : Addr) (fd : FuncData) (ps : List Str) (sp : Sp) : Prop where
  len : ∀ vs H Q, sp vs H Q E0 → vs.length = ps.length
  run : ∀ (A : Around) (outer : List Env) (s : Shared) (H : Hp) (args : Args) (us : List Value) (vs : List V) (Q : VK), A.guards = some [] → Room k A → Env0 P w K mg base A outer s H → BindsTo s fd args (ps.zip us) → Vals vs us → sp vs H Q E0 →
    codeAny (model P w) A (.call (.ref f) args) (CR CX0 outer P w H s Q E0) s
section
variable {X : Cx} {k : Nat} {f : Addr} {fd : FuncData} {ps : List Str} {sp : Sp} {x : Str} {p pos : Pos} {e : Expr} {es : List Expr} {t : TA} {F : Fns} {m : ME} {id : Nat}
theorem run_g {pins : List (Addr × Obj)} {σ : L2.St} {H : Hp} {s : Shared} {Q : VK} {us : List Value} {vs : List V} (G : FnG X.prog X.w X.K X.mg X.base k f fd ps sp) (hg : X.A.guards = some []) (hr : Room k X.A) (hb : Binds X.K fd ps [])
    (I : L2.Inv X pins σ H s) (r : Vals vs us) (h : sp vs H Q E0) : wpAny (model X.prog X.w) X.A (call (.ref f) us) (EP X pins σ Q) X.xe s := by
  have hl : us.length = ps.length := r.length.symm.trans (G.len _ _ _ h)
  have bb : BindsTo s fd ⟨us, []⟩ (ps.zip us) := by
    have q := hb s us I.kIn (by rw [List.append_nil]; exact hl)
    rw [List.append_nil] at q
    exact q
  refine wpAny_call (codeAny_mono (G.run X.A X.stack s H ⟨us, []⟩ us vs Q hg hr I.env0 bb r h) fun res s' hq => ?_)
  match res, hq with
  | .error _, z => exact z.elim
  | .ok (.ret u), z => exact I.after z
theorem pe_callG (G : FnG X.prog X.w X.K X.mg X.base k f fd ps sp) (hgd : X.A.guards = some []) (hr : Room k X.A) (hg : Gl X x) (hm : X.mg x = some (.ref f)) (hk : PySem.W.keepIn X.K (.ref f) = true) (hb : Binds X.K fd ps [])
    (ha : PA X (e :: es) t) (hdb : (x == ("__debug__" : Str)) = false) (ns : (e :: es).all noStar = true) : PE X (.Call (.Name x p) (e :: es) [] pos) (fun σ H Q => t σ H fun vs H1 => sp vs H1 Q E0) := by
  rw [List.all_cons, Bool.and_eq_true] at ns
  exact ⟨fun pins s σ H Q I h => wpAny_Call_Name_kw (ld_glob I hg hm (PySem.W.callWith_K (h₀ := X.base) I.ok.mod.kin hk
    (thn (ha.run pos pins s σ H _ I h) fun us s1 ⟨vs, H1, I1, r, q⟩ => ⟨I1.kIn, run_g G hgd hr hb I1 r q⟩) (star_no ns.1) (star_any ns.2)) hdb)⟩
theorem pe_callG0 (G : FnG X.prog X.w X.K X.mg X.base k f fd ps sp) (hgd : X.A.guards = some []) (hr : Room k X.A) (hg : Gl X x) (hm : X.mg x = some (.ref f)) (hk : PySem.W.keepIn X.K (.ref f) = true) (hb : Binds X.K fd ps [])
    (hdb : (x == ("__debug__" : Str)) = false) : PE X (.Call (.Name x p) [] [] pos) (fun σ H Q => tNil σ H fun vs H1 => sp vs H1 Q E0) :=
  ⟨fun pins s σ H Q I h => wpAny_Call_Name_kw (ld_glob I hg hm (PySem.W.callWith_K0 I.kIn hk (run_g (us := []) G hgd hr hb I .nil h)) hdb)⟩
theorem call_read {σ : L2.St} {H : Hp} {Q : VK} (h : tE F (.call id m) σ H Q) : tL F m σ H fun vs H1 => spF F id vs H1 Q E0 := by
  obtain ⟨A, M, ρ, d, fr, ρ', r, ev, q⟩ := h
  simp only [evE, Option.bind_eq_some_iff, Option.map_eq_some_iff] at ev
  obtain ⟨⟨bs, ρ1⟩, h1, ⟨as, ρ2⟩, h2, ⟨d1, fr1, ss⟩, h3, ρ3, h4, h5⟩ := ev
  cases h5
  refine ⟨A, M, ρ, bs, ρ1, r, h1, fun vs H1 A1 M1 s1 k1 r1 b1 => ?_⟩
  obtain ⟨M2, q1, q2, q3⟩ := lend_ok r1 b1 h2
  refine ⟨A1, _, as, _, _, ss, q3, h3, fun v H' pst => q v H' ?_⟩
  obtain ⟨A', Mc, s, k, rc, p1, p2⟩ := pst
  have kN : ∀ a, (M1 a ∧ ¬ M2 a) → A1 a := fun a z => r1.sub a z.1
  have m2 : ∀ a, M2 a → A' a := fun a z => Classical.byContradiction fun n => (s.d a (r1.sub a (q1 a z)) n).2 z
  have dis : ∀ a, Mc a → ¬ M2 a := fun a z => (s.m a z).2
  have rb : RE A' M2 H' ρ2 σ := q2.gen k kN (fun a z y => y.2 z) (fun a z => .inl (s.a a z)) m2 rc.live
  have r3 := back_ok rb rc dis b1.links h4
  refine ⟨A', _, ⟨fun a z => s1.a a (s.a a z), fun a z => ?_, fun a z n => ?_⟩, k1.comp s1 (k.mono fun a z => z.1), r3, p1, fun e => ?_⟩
  · rcases z with z | z
    · exact s1.m a (q1 a z)
    · exact s1.m a (s.m a z).1
  · by_cases hA : A1 a
    · exact s1.m a (s.d a hA n).1
    · exact s1.d a z hA
  · obtain ⟨a, rfl, ha, ra, oa⟩ := p2 e
    have H0 : H a = none := by
      cases e0 : H a with
      | none => rfl
      | some o => obtain ⟨o', e'⟩ := k1.live a o e0; rw [ha] at e'; cases e'
    refine ⟨a, rfl, H0, ?_, oa⟩
    have rb2 : RE (orA A' a) M2 H' ρ2 σ := q2.gen k kN (fun a z y => y.2 z) (fun b z => by
      rcases z with z | z
      · exact .inl (s.a b z)
      · exact .inr (z ▸ ha)) (fun b z => .inl (m2 b z)) ra.live
    exact back_ok rb2 ra dis b1.links h4
theorem e_call (G : FnG X.prog X.w X.K X.mg X.base k f fd ps (spF F id)) (hgd : X.A.guards = some []) (hr : Room k X.A) (hg : Gl X x) (hm : X.mg x = some (.ref f)) (hk : PySem.W.keepIn X.K (.ref f) = true) (hb : Binds X.K fd ps [])
    (ha : PA X (e :: es) (tL F m)) (hdb : (x == ("__debug__" : Str)) = false) (ns : (e :: es).all noStar = true) : Eb X F (.Call (.Name x p) (e :: es) [] pos) (.call id m) :=
  Eb.of ((pe_callG G hgd hr hg hm hk hb ha hdb ns).imp fun σ H Q h => call_read h) fun _ => nofun
theorem e_call0 (G : FnG X.prog X.w X.K X.mg X.base k f fd ps (spF F id)) (hgd : X.A.guards = some []) (hr : Room k X.A) (hg : Gl X x) (hm : X.mg x = some (.ref f)) (hk : PySem.W.keepIn X.K (.ref f) = true) (hb : Binds X.K fd ps [])
    (hdb : (x == ("__debug__" : Str)) = false) : Eb X F (.Call (.Name x p) [] [] pos) (.call id .nil) :=
  Eb.of ((pe_callG0 G hgd hr hg hm hk hb hdb).imp fun σ H Q h => by
    obtain ⟨A, M, ρ, bs, ρ', r, ev, q⟩ := call_read h
    cases ev
    exact q [] H A M (Shr.refl _ _) (Kp.refl _ _) r trivial) fun _ => nofun
end
end MI

/-! MI8: statements. -/
namespace MI
open PySem PySem.Spec PyProof.Rows L2
variable [EK]

/-- how the frame's sets change through statements -/
structure Chg (A M : AS) (H : Hp) (A' M' : AS) : Prop where
  a : ∀ x, A' x → A x ∨ H x = none
  m : ∀ x, M' x → M x ∨ H x = none
  d : ∀ x, A x → ¬ A' x → M x
section
variable {A M A1 M1 A2 M2 : AS} {H H1 H2 : Hp}
theorem Shr.chg (s : Shr A M A1 M1) : Chg A M H A1 M1 := ⟨fun x z => .inl (s.a x z), fun x z => .inl (s.m x z), s.d⟩
theorem Chg.refl (A M : AS) (H : Hp) : Chg A M H A M := (Shr.refl A M).chg
theorem Kp.back {p : Addr} (k : Kp M H H1) (h : H1 p = none) : H p = none := by
  cases e : H p with
  | none => rfl
  | some o => obtain ⟨o', e'⟩ := k.live p o e; rw [h] at e'; cases e'
theorem Chg.trans (l : ∀ a, A a → ∃ o, H a = some o) (c : Chg A M H A1 M1) (k : Kp M H H1) (c' : Chg A1 M1 H1 A2 M2) : Chg A M H A2 M2 := by
  refine ⟨fun x z => ?_, fun x z => ?_, fun x h n => ?_⟩
  · rcases c'.a x z with q | q
    · exact c.a x q
    · exact .inr (k.back q)
  · rcases c'.m x z with q | q
    · exact c.m x q
    · exact .inr (k.back q)
  · by_cases h1 : A1 x
    · rcases c.m x (c'.d x h1 n) with q | q
      · exact q
      · obtain ⟨o, e⟩ := l x h; rw [q] at e; cases e
    · exact c.d x h h1
theorem Kp.chg (k : Kp M H H1) (c : Chg A M H A1 M1) (k' : Kp M1 H1 H2) : Kp M H H2 :=
  ⟨fun x o h n => k'.same x o (k.same x o h n) fun z => (c.m x z).elim n fun q => absurd h (by rw [q]; exact fun y => nomatch y), fun x o h => let ⟨o1, h1⟩ := k.live x o h; k'.live x o1 h1⟩
end
/-- behind a block that goes on -/
def PN (A M : AS) (H : Hp) (σ : L2.St) (l : List Nat) (ρ' : Rho) (σ' : L2.St) (H' : Hp) : Prop := ∃ A' M', Chg A M H A' M' ∧ Kp M H H' ∧ RE A' M' H' ρ' σ' ∧ Agree l σ σ'
/-- .. that returns -/
def PR (A M : AS) (H : Hp) (σ : L2.St) (l : List Nat) (d : PyData) (fr : Bool) (ρ' : Rho) (v : V) (σ' : L2.St) (H' : Hp) : Prop :=
  ∃ A' M', Chg A M H A' M' ∧ Kp M H H' ∧ RE A' M' H' ρ' σ' ∧ Agree l σ σ' ∧ (fr = false → Rel A' H' v d) ∧ (fr = true → ∃ a, v = .ref a ∧ H a = none ∧ RE (orA A' a) M' H' ρ' σ' ∧ Own (orA A' a) H' a d)
def Gs (A M : AS) (H : Hp) (σ : L2.St) (l : List Nat) : Out → Ends → Prop
  | .nx ρ', D => ∀ σ' H', PN A M H σ l ρ' σ' H' → D.nx σ' H'
  | .bk ρ', D => ∀ σ' H', PN A M H σ l ρ' σ' H' → D.bk σ' H'
  | .ct ρ', D => ∀ σ' H', PN A M H σ l ρ' σ' H' → D.ct σ' H'
  | .rt d fr ρ', D => ∀ v σ' H', PR A M H σ l d fr ρ' v σ' H' → D.rt v H'
def tS (F : Fns) (W : Nat) (m : MS) : TS := fun D σ H => ∃ A M ρ o, RE A M H ρ σ ∧ evS F W m ρ = some o ∧ Gs A M H σ (asgd m) o D
section
variable {A M A1 M1 A2 M2 : AS} {H H1 H2 H' : Hp} {σ σ1 σ' : L2.St} {l l1 l2 : List Nat} {ρ ρ' : Rho} {D : Ends} {o : Out} {d : PyData} {fr : Bool} {v : V}
theorem Agree.mono (h : ∀ i ∈ l1, i ∈ l2) (a : Agree l1 σ σ') : Agree l2 σ σ' := fun i hi => a i fun z => hi (h i z)
theorem Agree.refl (l : List Nat) (σ : L2.St) : Agree l σ σ := fun _ _ => rfl
theorem PN.mono (h : ∀ i ∈ l1, i ∈ l2) (p : PN A M H σ l1 ρ' σ' H') : PN A M H σ l2 ρ' σ' H' := let ⟨A', M', c, k, r, a⟩ := p; ⟨A', M', c, k, r, a.mono h⟩
theorem PR.mono (h : ∀ i ∈ l1, i ∈ l2) (p : PR A M H σ l1 d fr ρ' v σ' H') : PR A M H σ l2 d fr ρ' v σ' H' := let ⟨A', M', c, k, r, a, q⟩ := p; ⟨A', M', c, k, r, a.mono h, q⟩
theorem PN.after (l0 : ∀ a, A a → ∃ o, H a = some o) (c : Chg A M H A1 M1) (k : Kp M H H1) (ag : Agree l1 σ σ1) (p : PN A1 M1 H1 σ1 l2 ρ' σ' H') : PN A M H σ (l1 ++ l2) ρ' σ' H' := by
  obtain ⟨A', M', c', k', r, a⟩ := p
  exact ⟨A', M', c.trans l0 k c', k.chg c k', r, ag.trans a⟩
theorem PR.after (l0 : ∀ a, A a → ∃ o, H a = some o) (c : Chg A M H A1 M1) (k : Kp M H H1) (ag : Agree l1 σ σ1) (p : PR A1 M1 H1 σ1 l2 d fr ρ' v σ' H') : PR A M H σ (l1 ++ l2) d fr ρ' v σ' H' := by
  obtain ⟨A', M', c', k', r, a, q1, q2⟩ := p
  exact ⟨A', M', c.trans l0 k c', k.chg c k', r, ag.trans a, q1, fun e => let ⟨p, e1, e2, e3⟩ := q2 e; ⟨p, e1, k.back e2, e3⟩⟩
theorem Gs.after (l0 : ∀ a, A a → ∃ o, H a = some o) (c : Chg A M H A1 M1) (k : Kp M H H1) (ag : Agree l1 σ σ1) (g : Gs A M H σ (l1 ++ l2) o D) : Gs A1 M1 H1 σ1 l2 o D := by
  cases o with
  | nx ρ' => exact fun σ' H' p => g σ' H' (p.after l0 c k ag)
  | bk ρ' => exact fun σ' H' p => g σ' H' (p.after l0 c k ag)
  | ct ρ' => exact fun σ' H' p => g σ' H' (p.after l0 c k ag)
  | rt d fr ρ' => exact fun v σ' H' p => g v σ' H' (p.after l0 c k ag)
theorem Gs.less (h : ∀ i ∈ l1, i ∈ l2) (g : Gs A M H σ l2 o D) : Gs A M H σ l1 o D := by
  cases o with
  | nx ρ' => exact fun σ' H' p => g σ' H' (p.mono h)
  | bk ρ' => exact fun σ' H' p => g σ' H' (p.mono h)
  | ct ρ' => exact fun σ' H' p => g σ' H' (p.mono h)
  | rt d fr ρ' => exact fun v σ' H' p => g v σ' H' (p.mono h)
/-- ahead of it an expression or a test -/
theorem Gs.expr (r : RE A M H ρ σ) (s : Shr A M A1 M1) (k : Kp M H H1) (g : Gs A M H σ l o D) : Gs A1 M1 H1 σ l o D := Gs.after (l1 := []) r.live s.chg k (Agree.refl _ _) g
theorem _root_.L2.PS.imp {X : Cx} {st : Stmt} {t t' : TS} (h : PS X st t) (f : ∀ D σ H, t' D σ H → t D σ H) : PS X st t' := ⟨fun pins s σ H D I q => h.run pins s σ H D I (f D σ H q)⟩
theorem _root_.L2.PSs.imp {X : Cx} {st : List Stmt} {t t' : TS} (h : PSs X st t) (f : ∀ D σ H, t' D σ H → t D σ H) : PSs X st t' := ⟨fun pins s σ H D I q => h.run pins s σ H D I (f D σ H q)⟩
end
section
variable {X : Cx} {F : Fns} {W : Nat} {e a b c tg : Expr} {es : List Expr} {st : Stmt} {sts sts' : List Stmt} {m ma mb mc : ME} {n n' : MS} {pos : Pos} {t : MT} {sts0 : List Expr}
theorem ss_nil : PSs X [] (tS F W .skip) := pss_nil.imp fun D σ H ⟨A, M, ρ, o, r, ev, g⟩ => by
  cases ev
  exact g σ H ⟨A, M, Chg.refl _ _ _, Kp.refl _ _, r, Agree.refl _ _⟩
theorem s_pass : PS X (.Pass pos) (tS F W .skip) := ps_pass.imp fun D σ H ⟨A, M, ρ, o, r, ev, g⟩ => by
  cases ev
  exact g σ H ⟨A, M, Chg.refl _ _ _, Kp.refl _ _, r, Agree.refl _ _⟩
theorem s_break : PS X (.Break pos) (tS F W .brk) := ps_break.imp fun D σ H ⟨A, M, ρ, o, r, ev, g⟩ => by
  cases ev
  exact g σ H ⟨A, M, Chg.refl _ _ _, Kp.refl _ _, r, Agree.refl _ _⟩
theorem s_continue : PS X (.Continue pos) (tS F W .cont) := ps_continue.imp fun D σ H ⟨A, M, ρ, o, r, ev, g⟩ => by
  cases ev
  exact g σ H ⟨A, M, Chg.refl _ _ _, Kp.refl _ _, r, Agree.refl _ _⟩
theorem s_stuck : PS X st (tS F W .stuck) := ps_never.imp fun D σ H ⟨A, M, ρ, o, r, ev, g⟩ => by cases ev
theorem ss_cons (h : PS X st (tS F W n)) (hr : PSs X sts (tS F W n')) : PSs X (st :: sts) (tS F W (.seq n n')) := by
  refine (pss_cons h hr).imp fun D σ H ⟨A, M, ρ, o, r, ev, g⟩ => ?_
  simp only [evS, Option.bind_eq_some_iff] at ev
  obtain ⟨o1, h1, h2⟩ := ev
  refine ⟨A, M, ρ, o1, r, h1, ?_⟩
  have gl : Gs A M H σ (asgd n ++ asgd n') o D := g
  cases o1 with
  | nx ρ1 =>
    intro σ1 H1 p
    obtain ⟨A1, M1, c, k, r1, ag⟩ := p
    exact ⟨A1, M1, ρ1, o, r1, h2, gl.after r.live c k ag⟩
  | bk ρ1 => cases h2; exact gl.less fun i h => List.mem_append_left _ h
  | ct ρ1 => cases h2; exact gl.less fun i h => List.mem_append_left _ h
  | rt d fr ρ1 => cases h2; exact gl.less fun i h => List.mem_append_left _ h
theorem ss_one (h : PS X st (tS F W n)) : PSs X [st] (tS F W n) := pss_one h
theorem s_expr (he : Eb X F e m) (hs : swapsWith e none pos.line X.env = pure false) : PS X (.Expr e pos) (tS F W (.expr m)) := by
  refine (ps_expr he.ev hs).imp fun D σ H ⟨A, M, ρ, o, r, ev, g⟩ => ?_
  simp only [evS, Option.map_eq_some_iff] at ev
  obtain ⟨⟨d, fr, ρ1⟩, h1, h2⟩ := ev
  cases h2
  refine ⟨A, M, ρ, d, fr, ρ1, r, h1, fun v H1 p => ?_⟩
  obtain ⟨A1, M1, s1, k1, r1, _⟩ := p
  exact g σ H1 ⟨A1, M1, s1.chg, k1, r1, Agree.refl _ _⟩
theorem s_ret (he : Eb X F e m) : PS X (.Return (some e) pos) (tS F W (.ret m)) := by
  refine (ps_ret he.ev).imp fun D σ H ⟨A, M, ρ, o, r, ev, g⟩ => ?_
  simp only [evS, Option.map_eq_some_iff] at ev
  obtain ⟨⟨d, fr, ρ1⟩, h1, h2⟩ := ev
  cases h2
  refine ⟨A, M, ρ, d, fr, ρ1, r, h1, fun v H1 p => ?_⟩
  obtain ⟨A1, M1, s1, k1, r1, q1, q2⟩ := p
  exact g v σ H1 ⟨A1, M1, s1.chg, k1, r1, Agree.refl _ _, q1, q2⟩
theorem s_retN : PS X (.Return none pos) (tS F W (.ret (.lit .none))) := by
  refine ps_retN.imp fun D σ H ⟨A, M, ρ, o, r, ev, g⟩ => ?_
  cases ev
  exact g .non σ H ⟨A, M, Chg.refl _ _ _, Kp.refl _ _, r, Agree.refl _ _, fun _ => .non, fun e => nomatch e⟩
theorem s_ite (hc : PT X c (tT F mc)) (ha : PSs X sts (tS F W n)) (hb : PSs X sts' (tS F W n')) : PS X (.If c sts sts' pos) (tS F W (.ite mc n n')) := by
  refine (ps_if hc ha hb).imp fun D σ H ⟨A, M, ρ, o, r, ev, g⟩ => ?_
  simp only [evS, Option.bind_eq_some_iff] at ev
  obtain ⟨⟨k, ρ1⟩, h1, h2⟩ := ev
  refine ⟨A, M, ρ, k, ρ1, r, h1, fun H1 A1 M1 s1 k1 r1 => ?_⟩
  have gl : Gs A M H σ (asgd n ++ asgd n') o D := g
  cases k with
  | true => exact iteT ⟨A1, M1, ρ1, o, r1, h2, (gl.expr r s1 k1).less fun i h => List.mem_append_left _ h⟩
  | false => exact iteF ⟨A1, M1, ρ1, o, r1, h2, (gl.expr r s1 k1).less fun i h => List.mem_append_right _ h⟩

/-! ### stores -/
theorem RE.setFresh {A M : AS} {H : Hp} {ρ : Rho} {σ : L2.St} {d : PyData} {p : Addr} {i : Nat} (r : RE A M H ρ σ) (hA : A p) (nM : ¬ M p) (ho : Own A H p d) : RE A (orA M p) H (ρ.set i (.own d)) (σ.set i (some (.ref p))) := by
  by_cases hi : i < ρ.length
  · have hσ : (σ.set i (some (V.ref p)))[i]? = some (some (.ref p)) := List.getElem?_set_self (r.len ▸ hi)
    have r0 : RE A M H (ρ.set i .no) (σ.set i (some (V.ref p))) := by
      have ne : ∀ {j : Nat} {s : Slot}, (ρ.set i .no)[j]? = some s → s = .no ∨ (ρ[j]? = some s ∧ (σ.set i (some (V.ref p)))[j]? = σ[j]?) := fun {j s} h => by
        rcases set_cases h with ⟨_, q⟩ | ⟨n, q⟩
        · exact .inl q
        · exact .inr ⟨q, List.getElem?_set_ne (Ne.symm n)⟩
      refine ⟨by rw [List.length_set, List.length_set]; exact r.len, r.sub, r.live, fun j x e => ?_, fun j x e => ?_, fun j k x y a e1 e2 e3 e4 => ?_⟩
      · rcases ne e with q | ⟨q, z⟩
        · cases q
        · obtain ⟨w, e1, e2⟩ := r.dat j x q
          exact ⟨w, z.trans e1, e2⟩
      · rcases ne e with q | ⟨q, z⟩
        · cases q
        · obtain ⟨w, e1, e2⟩ := r.own j x q
          exact ⟨w, z.trans e1, e2⟩
      · rcases ne e1 with q | ⟨q1, z1⟩
        · cases q
        · rcases ne e2 with q | ⟨q2, z2⟩
          · cases q
          · exact r.inj j k x y a q1 q2 (z1.symm.trans e3) (z2.symm.trans e4)
    have r1 := r0.setOwn hσ hA nM ho
    rw [List.set_set] at r1
    exact r1
  · rw [List.set_eq_of_length_le (by omega), List.set_eq_of_length_le (by rw [← r.len]; omega)]
    exact r.monoM (fun _ z => .inl z) fun b z => by
      rcases z with z | z
      · exact r.sub b z
      · rw [z]; exact hA
/-- a value is stored in a variable -/
theorem Pst.store {A M : AS} {H H1 : Hp} {ρ1 : Rho} {σ : L2.St} {d : PyData} {fr : Bool} {v : V} {i : Nat} {l : List Nat} (hl : i ∈ l) (l0 : ∀ a, A a → ∃ o, H a = some o) (p : Pst A M H ρ1 σ d fr v H1) : PN A M H σ l (ρ1.set i (slotOf d fr)) (σ.set i (some v)) H1 := by
  obtain ⟨A1, M1, s1, k1, r1, q1, q2⟩ := p
  cases fr with
  | false => exact ⟨A1, M1, s1.chg, k1, r1.setDat (q1 rfl), Agree.set hl⟩
  | true =>
    obtain ⟨p, rfl, hp, ra, ho⟩ := q2 rfl
    have nA : ¬ A p := fun z => by obtain ⟨o, e⟩ := l0 p z; rw [hp] at e; cases e
    refine ⟨orA A1 p, orA M1 p, ⟨fun x z => ?_, fun x z => ?_, fun x h n => s1.d x h fun z => n (.inl z)⟩, k1, ra.setFresh (.inr rfl) (fun z => nA (s1.a p (r1.sub p z))) ho, Agree.set hl⟩
    · rcases z with z | z
      · exact .inl (s1.a x z)
      · exact .inr (z ▸ hp)
    · rcases z with z | z
      · exact .inl (s1.m x z)
      · exact .inr (z ▸ hp)
theorem s_asgN {i : Nat} (he : PS X st (tAsg (tE F m) (gName i))) : PS X st (tS F W (.asg (.nm i) m)) := by
  refine he.imp fun D σ H ⟨A, M, ρ, o, r, ev, g⟩ => ?_
  simp only [evS, setT, Option.bind_eq_some_iff, Option.map_some, Option.some.injEq] at ev
  obtain ⟨⟨d, fr, ρ1⟩, h1, h2⟩ := ev
  cases h2
  exact ⟨A, M, ρ, d, fr, ρ1, r, h1, fun v H1 p => g _ _ (p.store (by simp [asgd, slotsT]) r.live)⟩
theorem s_asgT {ts : MT} (he : PS X st (tAsg (tE F m) (gM (.tp ts)))) : PS X st (tS F W (.asg (.tp ts) m)) := by
  refine he.imp fun D σ H ⟨A, M, ρ, o, r, ev, g⟩ => ?_
  simp only [evS, setT, Option.bind_eq_some_iff, Option.map_eq_some_iff] at ev
  obtain ⟨⟨d, fr, ρ1⟩, h1, ρ2, h2, h3⟩ := ev
  cases h3
  refine ⟨A, M, ρ, d, fr, ρ1, r, h1, fun v H1 p => ?_⟩
  obtain ⟨A1, M1, s1, k1, r1, b1⟩ := p.std r.live
  exact ⟨A1, M1, ρ1, d, ρ2, r1, b1, h2, fun σ' r' ag => g σ' H1 ⟨A1, M1, s1.chg, k1, r', ag⟩⟩

/-! ### several values at once -/
inductive FR (A M : AS) (H0 H : Hp) : AS → List V → List (PyData × Bool) → Prop
  | nil {U : AS} : FR A M H0 H U [] []
  | dat {U : AS} {v : V} {d : PyData} {vs : List V} {r : List (PyData × Bool)} : Rel A H v d → FR A M H0 H U vs r → FR A M H0 H U (v :: vs) ((d, false) :: r)
  | own {U : AS} {p : Addr} {d : PyData} {vs : List V} {r : List (PyData × Bool)} : H0 p = none → A p → ¬ M p → ¬ U p → Own A H p d → FR A M H0 H (orA U p) vs r → FR A M H0 H U (.ref p :: vs) ((d, true) :: r)
theorem FR.more {A M : AS} {H0 H1 H : Hp} {q : Addr} (hq : ∃ o, H0 q = some o) (hb : ∀ p, H0 p = none → H1 p = none) : ∀ {U : AS} {vs : List V} {r : List (PyData × Bool)}, FR A M H0 H U vs r → FR A M H1 H (orA U q) vs r
  | _, _, _, .nil => .nil
  | _, _, _, .dat a r => .dat a (FR.more hq hb r)
  | U, _, _, .own (p := p) h a m u o r => .own (hb _ h) a m (fun z => by
      rcases z with z | z
      · exact u z
      · obtain ⟨o', e⟩ := hq; rw [z] at h; rw [h] at e; cases e) o (by
      have z := FR.more hq hb r
      have e : orA (orA U p) q = orA (orA U q) p := funext fun x => propext ⟨fun z => by
        rcases z with (z | z) | z
        · exact .inl (.inl z)
        · exact .inr z
        · exact .inl (.inr z), fun z => by
        rcases z with (z | z) | z
        · exact .inl (.inl z)
        · exact .inr z
        · exact .inl (.inr z)⟩
      rw [e] at z
      exact z)
theorem FR.base {A M : AS} {H0 H1 H : Hp} (hb : ∀ p, H0 p = none → H1 p = none) : ∀ {U : AS} {vs : List V} {r : List (PyData × Bool)}, FR A M H0 H U vs r → FR A M H1 H U vs r
  | _, _, _, .nil => .nil
  | _, _, _, .dat a r => .dat a (FR.base hb r)
  | _, _, _, .own h a m u o r => .own (hb _ h) a m u o (FR.base hb r)
def tP (F : Fns) (m : ME) : TA := fun σ H Q => ∃ A M ρ ds ρ', RE A M H ρ σ ∧ evP F m ρ = some (ds, ρ') ∧ ∀ vs H' A' M', Chg A M H A' M' → (∀ x, M' x → M x) → Kp M H H' → RE A' M' H' ρ' σ → FR A' M' H H' No vs ds → Q vs H'
theorem p_nil : PA X [] (tP F .nil) := pa_nil.imp fun σ H Q ⟨A, M, ρ, bs, ρ', r, ev, q⟩ => by
  cases ev
  exact q [] H A M (Chg.refl _ _ _) (fun _ z => z) (Kp.refl _ _) r .nil
theorem p_cons {r : ME} (he : Eb X F e m) (hr : PA X es (tP F r)) (ns : noStar e = true) : PA X (e :: es) (tP F (.cons m r)) := by
  refine (pa_cons he.ev hr (star_no ns)).imp fun σ H Q ⟨A, M, ρ, ds, ρ', r, ev, q⟩ => ?_
  simp only [evP, Option.bind_eq_some_iff, Option.map_eq_some_iff] at ev
  obtain ⟨⟨d, fr, ρ1⟩, h1, ⟨ds1, ρ2⟩, h2, h3⟩ := ev
  cases h3
  refine ⟨A, M, ρ, d, fr, ρ1, r, h1, fun v H1 p => ?_⟩
  obtain ⟨A1, M1, s1, k1, r1, q1, q2⟩ := p
  cases fr with
  | false =>
    refine ⟨A1, M1, ρ1, ds1, _, r1, h2, fun vs H2 A2 M2 c2 m2 k2 r2 f2 => q (v :: vs) H2 A2 M2 (s1.chg.trans r.live k1 c2) (fun x z => s1.m x (m2 x z)) (k1.comp s1 k2) r2 (.dat ?_ (f2.base fun p z => k1.back z))⟩
    exact (q1 rfl).lat ⟨k2.mono r1.sub, fun a z => c2.a a z⟩
  | true =>
    obtain ⟨p, rfl, hp, ra, ho⟩ := q2 rfl
    have nA1 : ¬ A1 p := fun z => by obtain ⟨o, e⟩ := r.live p (s1.a p z); rw [hp] at e; cases e
    have nM1 : ¬ M1 p := fun z => nA1 (r1.sub p z)
    have hp1 : ∃ o, H1 p = some o := let ⟨o, e, _⟩ := ho.live; ⟨o, e⟩
    refine ⟨orA A1 p, M1, ρ1, ds1, _, ra, h2, fun vs H2 A2 M2 c2 m2 k2 r2 f2 => q (.ref p :: vs) H2 A2 M2 ⟨fun x z => ?_, fun x z => .inl (s1.m x (m2 x z)), fun x h n => ?_⟩ (fun x z => s1.m x (m2 x z)) (k1.comp s1 k2) r2 (.own hp ?_ (fun z => nM1 (m2 p z)) (fun z => z) ?_ (f2.more hp1 fun p z => k1.back z))⟩
    · rcases c2.a x z with (z | z) | z
      · exact .inl (s1.a x z)
      · exact .inr (z ▸ hp)
      · exact .inr (k1.back z)
    · by_cases h1 : A1 x
      · exact s1.m x (c2.d x (.inl h1) n)
      · exact s1.d x h h1
    · exact Classical.byContradiction fun n => nM1 (c2.d p (.inr rfl) n)
    · refine ho.map (H' := H2) (A' := A2) (fun a o h z => k2.same a o h fun y => z (.inl (r1.sub a y))) (fun a o h z n _ => ?_) ?_
      · rcases c2.a a z with y | y
        · exact n y
        · rw [y] at h; cases h
      · obtain ⟨o, e, mu⟩ := ho.live
        rw [e]
        exact k2.same p o e fun z => absurd z nM1
/-- the stores, one behind the other -/
theorem FR.bind {A M : AS} {H0 H : Hp} : ∀ {t : MT} {vs : List V} {ds : List (PyData × Bool)} {U : AS} {ρ ρ' : Rho} {σ : L2.St} {l : List Nat}, FR A M H0 H U vs ds → RE A (fun x => M x ∨ U x) H ρ σ → (∀ x, U x → H0 x = none) → bindP t ds ρ = some ρ' →
    ∀ is : List Nat, (∀ i ∈ is, i ∈ l) → t = is.foldr (fun i r => MT.cons (.nm i) r) .nil → ∃ U' : AS, RE A (fun x => M x ∨ U' x) H ρ' ((is.zip vs).foldl (fun s p => s.set p.1 (some p.2)) σ) ∧ (∀ x, U' x → H0 x = none) ∧ Agree l σ ((is.zip vs).foldl (fun s p => s.set p.1 (some p.2)) σ)
  | t, vs, ds, U, ρ, ρ', σ, l, f, r, hU, h, [], hl, e => by
    subst e
    cases f with
    | nil =>
      have h' : some ρ = some ρ' := by simpa [bindP] using h
      cases h'
      exact ⟨U, r, hU, Agree.refl _ _⟩
    | dat _ _ => simp [bindP] at h
    | own _ _ _ _ _ _ => simp [bindP] at h
  | t, vs, ds, U, ρ, ρ', σ, l, f, r, hU, h, i :: is, hl, e => by
    subst e
    have hi : i ∈ l := hl i List.mem_cons_self
    cases f with
    | nil => simp [bindP] at h
    | @dat _ v d vs dr a f =>
      have h' : bindP (is.foldr (fun i r => MT.cons (.nm i) r) .nil) dr (ρ.set i (.dat d)) = some ρ' := by simpa [bindP, slotOf] using h
      obtain ⟨U', q1, q2, q3⟩ := FR.bind (l := l) f (r.setDat (i := i) a) hU h' is (fun j hj => hl j (List.mem_cons_of_mem _ hj)) rfl
      exact ⟨U', q1, q2, fun j hj => (q3 j hj).trans (Agree.set hi j hj)⟩
    | @own _ p d vs dr hp ha nm nu o f =>
      have h' : bindP (is.foldr (fun i r => MT.cons (.nm i) r) .nil) dr (ρ.set i (.own d)) = some ρ' := by simpa [bindP, slotOf] using h
      have r1 := r.setFresh (i := i) ha (fun z => by
        rcases z with z | z
        · exact nm z
        · exact nu z) o
      have e2 : (orA (fun x => M x ∨ U x) p) = (fun x => M x ∨ orA U p x) := funext fun x => propext ⟨fun z => by
        rcases z with (z | z) | z
        · exact .inl z
        · exact .inr (.inl z)
        · exact .inr (.inr z), fun z => by
        rcases z with z | z | z
        · exact .inl (.inl z)
        · exact .inl (.inr z)
        · exact .inr z⟩
      rw [e2] at r1
      obtain ⟨U', q1, q2, q3⟩ := FR.bind (l := l) f r1 (fun x z => by
        rcases z with z | z
        · exact hU x z
        · rw [z]; exact hp) h' is (fun j hj => hl j (List.mem_cons_of_mem _ hj)) rfl
      exact ⟨U', q1, q2, fun j hj => (q3 j hj).trans (Agree.set hi j hj)⟩
def nmT (is : List Nat) : MT := is.foldr (fun i r => MT.cons (.nm i) r) .nil
theorem slots_nmT : ∀ is : List Nat, slotsT (nmT is) = is
  | [] => rfl
  | i :: is => by
    show [i] ++ slotsT (nmT is) = _
    rw [slots_nmT is]
    rfl
theorem FR.length {A M : AS} {H0 H : Hp} : ∀ {U : AS} {vs : List V} {ds : List (PyData × Bool)}, FR A M H0 H U vs ds → vs.length = ds.length
  | _, _, _, .nil => rfl
  | _, _, _, .dat _ f => congrArg (· + 1) (FR.length f)
  | _, _, _, .own _ _ _ _ _ f => congrArg (· + 1) (FR.length f)
theorem bindP_len : ∀ {t : MT} {ds : List (PyData × Bool)} {ρ ρ' : Rho}, bindP t ds ρ = some ρ' → ds.length = lenT t
  | .nil, [], _, _, _ => rfl
  | .nil, _ :: _, _, _, h => by simp [bindP] at h
  | .cons _ _, [], _, _, h => by simp [bindP] at h
  | .nm _, _, _, _, h => by simp [bindP] at h
  | .tp _, _, _, _, h => by simp [bindP] at h
  | .cons (.nm i) r, (d, fr) :: ds, ρ, ρ', h => by
    have h' : bindP r ds (ρ.set i (slotOf d fr)) = some ρ' := by simpa [bindP] using h
    exact congrArg (· + 1) (bindP_len h')
  | .cons (.tp t) r, (d, fr) :: ds, ρ, ρ', h => by
    simp only [bindP, Option.bind_eq_some_iff] at h
    obtain ⟨ρ1, _, h2⟩ := h
    exact congrArg (· + 1) (bindP_len h2)
  | .cons .nil r, (d, fr) :: ds, ρ, ρ', h => by
    simp only [bindP, Option.bind_eq_some_iff] at h
    obtain ⟨ρ1, _, h2⟩ := h
    exact congrArg (· + 1) (bindP_len h2)
  | .cons (.cons a b) r, (d, fr) :: ds, ρ, ρ', h => by
    simp only [bindP, Option.bind_eq_some_iff] at h
    obtain ⟨ρ1, _, h2⟩ := h
    exact congrArg (· + 1) (bindP_len h2)
theorem lenT_nmT : ∀ is : List Nat, lenT (nmT is) = is.length
  | [] => rfl
  | i :: is => congrArg (· + 1) (lenT_nmT is)
/-- plain names, whatever way the model stores them -/
theorem par_read {is : List Nat} {D : Ends} {σ : L2.St} {H : Hp} (h : tS F W (.par (nmT is) m) D σ H) : tP F m σ H fun vs H1 => vs.length = is.length ∧ D.nx ((is.zip vs).foldl (fun s p => s.set p.1 (some p.2)) σ) H1 := by
  obtain ⟨A, M, ρ, o, r, ev, g⟩ := h
  simp only [evS, Option.bind_eq_some_iff, Option.map_eq_some_iff] at ev
  obtain ⟨⟨ds, ρ1⟩, h1, ρ2, h2, h3⟩ := ev
  cases h3
  refine ⟨A, M, ρ, ds, ρ1, r, h1, fun vs H1 A1 M1 c1 m1 k1 r1 f1 => ⟨?_, ?_⟩⟩
  · rw [f1.length, bindP_len h2, lenT_nmT]
  have e0 : (fun x => M1 x ∨ No x) = M1 := funext fun x => propext ⟨fun z => z.elim id fun y => y.elim, .inl⟩
  obtain ⟨U', q1, q2, q3⟩ := FR.bind (l := asgd (.par (nmT is) m)) f1 (by rw [e0]; exact r1) (fun x z => z.elim) h2 is (fun i hi => by show i ∈ slotsT (nmT is); rw [slots_nmT]; exact hi) rfl
  exact g _ _ ⟨A1, _, ⟨c1.a, fun x z => z.elim (fun y => .inl (m1 x y)) fun y => .inr (q2 x y), c1.d⟩, k1, q1, q3⟩
theorem s_par2 {i j : Nat} (h : PS X st (tPar i j (tP F m))) : PS X st (tS F W (.par (nmT [i, j]) m)) := h.imp fun D σ H q => by
  obtain ⟨A, M, ρ, ds, ρ', r, ev, g⟩ := par_read q
  refine ⟨A, M, ρ, ds, ρ', r, ev, fun vs H' A' M' c m' k r' f => ?_⟩
  obtain ⟨hl, hq⟩ := g vs H' A' M' c m' k r' f
  match vs, hl, hq with
  | [v, w], _, hq => exact ⟨v, w, rfl, hq⟩
theorem s_par3 {i j l : Nat} (h : PS X st (tPar3 i j l (tP F m))) : PS X st (tS F W (.par (nmT [i, j, l]) m)) := h.imp fun D σ H q => by
  obtain ⟨A, M, ρ, ds, ρ', r, ev, g⟩ := par_read q
  refine ⟨A, M, ρ, ds, ρ', r, ev, fun vs H' A' M' c m' k r' f => ?_⟩
  obtain ⟨hl, hq⟩ := g vs H' A' M' c m' k r' f
  match vs, hl, hq with
  | [u, v, w], _, hq => exact ⟨u, v, w, rfl, hq⟩
/-- the stores of a tuple that was made, one by one -/
def gPs (t : MT) : TGs := fun vs σ H Q => ∃ (A M : AS) (H0 : Hp) (U : AS) (ρ : Rho) (ds : List (PyData × Bool)) (ρ' : Rho), FR A M H0 H U vs ds ∧ RE A (fun x => M x ∨ U x) H ρ σ ∧ (∀ x, U x → H0 x = none) ∧ bindP t ds ρ = some ρ' ∧
  ∀ (σ' : L2.St) (U' : AS), RE A (fun x => M x ∨ U' x) H ρ' σ' → (∀ x, U' x → H0 x = none) → Agree (slotsT t) σ σ' → Q σ' H
theorem gp_nil : PGs X [] (gPs .nil) := pgs_nil.imp fun v σ H Q ⟨A, M, H0, U, ρ, ds, ρ', f, r, hU, ev, q⟩ => by
  cases f with
  | nil =>
    have h' : some ρ = some ρ' := by simpa [bindP] using ev
    cases h'
    exact ⟨rfl, q σ U r hU (Agree.refl _ _)⟩
  | dat _ _ => simp [bindP] at ev
  | own _ _ _ _ _ _ => simp [bindP] at ev
theorem gp_name {i : Nat} {u : MT} (h : PG X e (gName i)) (hr : PGs X es (gPs u)) (h1 : (assignEach (e :: es) X.env).map (·.2) = assign e X.env :: (assignEach es X.env).map (·.2)) : PGs X (e :: es) (gPs (.cons (.nm i) u)) :=
  (pgs_cons h hr h1).imp fun v σ H Q ⟨A, M, H0, U, ρ, ds, ρ', f, r, hU, ev, q⟩ => by
  have hi : i ∈ slotsT (.cons (.nm i) u) := List.mem_append_left _ List.mem_cons_self
  have hu : ∀ j ∈ slotsT u, j ∈ slotsT (.cons (.nm i) u) := fun j hj => List.mem_append_right _ hj
  have hl : ∀ {σ1 σ2 : L2.St}, Agree (slotsT (.cons (.nm i) u)) σ σ1 → Agree (slotsT u) σ1 σ2 → Agree (slotsT (.cons (.nm i) u)) σ σ2 := fun a b j hj => (b j fun z => hj (hu j z)).trans (a j hj)
  cases f with
  | nil => simp [bindP] at ev
  | @dat _ v d vs dr a f =>
    have h' : bindP u dr (ρ.set i (.dat d)) = some ρ' := by simpa [bindP, slotOf] using ev
    exact ⟨v, vs, rfl, A, M, H0, U, _, dr, ρ', f, r.setDat a, hU, h', fun σ' U' r' hU' ag => q σ' U' r' hU' (hl (Agree.set hi) ag)⟩
  | @own _ p d vs dr hp ha nm nu o f =>
    have h' : bindP u dr (ρ.set i (.own d)) = some ρ' := by simpa [bindP, slotOf] using ev
    have r1 := r.setFresh (i := i) ha (fun z => z.elim nm nu) o
    have e2 : (orA (fun x => M x ∨ U x) p) = (fun x => M x ∨ orA U p x) := funext fun x => propext ⟨fun z => by
      rcases z with (z | z) | z
      · exact .inl z
      · exact .inr (.inl z)
      · exact .inr (.inr z), fun z => by
      rcases z with z | z | z
      · exact .inl (.inl z)
      · exact .inl (.inr z)
      · exact .inr z⟩
    rw [e2] at r1
    exact ⟨_, vs, rfl, A, M, H0, orA U p, _, dr, ρ', f, r1, fun x z => z.elim (hU x) fun y => y ▸ hp, h', fun σ' U' r' hU' ag => q σ' U' r' hU' (hl (Agree.set hi) ag)⟩
theorem gp_tup {t u : MT} (h : PG X e (gM (.tp t))) (hr : PGs X es (gPs u)) (h1 : (assignEach (e :: es) X.env).map (·.2) = assign e X.env :: (assignEach es X.env).map (·.2)) : PGs X (e :: es) (gPs (.cons (.tp t) u)) :=
  (pgs_cons h hr h1).imp fun v σ H Q ⟨A, M, H0, U, ρ, ds, ρ', f, r, hU, ev, q⟩ => by
  cases f with
  | nil => simp [bindP] at ev
  | @dat _ v d vs dr a f =>
    simp only [bindP, Option.bind_eq_some_iff] at ev
    obtain ⟨ρ1, h1, h2⟩ := ev
    exact ⟨v, vs, rfl, A, _, ρ, d, ρ1, r, a, h1, fun σ1 r1 a1 => ⟨A, M, H0, U, ρ1, dr, ρ', f, r1, hU, h2, fun σ' U' r' hU' ag => q σ' U' r' hU' (a1.trans ag)⟩⟩
  | @own _ p d vs dr hp ha nm nu o f =>
    simp only [bindP, Option.bind_eq_some_iff] at ev
    obtain ⟨ρ1, h1, h2⟩ := ev
    rcases o with ⟨_, _, rfl, _⟩ | ⟨_, _, rfl, _⟩
    · simp [bindT] at h1
    · simp [bindT] at h1
theorem FR.keep {A M : AS} {H0 H H' : Hp} (k : Kp No H H') : ∀ {U : AS} {vs : List V} {ds : List (PyData × Bool)}, FR A M H0 H U vs ds → FR A M H0 H' U vs ds
  | _, _, _, .nil => .nil
  | _, _, _, .dat a f => .dat (a.keep (M := No) (fun _ z => z.elim) k) (FR.keep k f)
  | _, _, _, .own h a m u o f => .own h a m u (o.keep (M := No) (fun _ z => z.elim) k fun z => z) (FR.keep k f)
theorem s_parG {k k2 : Nat} {p1 p2 : Pos} (hc : X.calm = true) (ha : PA X sts0 (tP F m)) (hg : PGs X es (gPs t)) (hn : (assignEach es X.env).length = lenT t) (hst : (assignEach es X.env).findIdx? (·.1) = none)
    (hs : swapsWithSole [.Tuple es k p1] (.Tuple sts0 k2 p2) pos.line X.env = pure false) (hw : swappedStores [.Tuple es k p1] (.Tuple sts0 k2 p2) X.env = pure none) (hl : ∀ ρ ds ρ', evP F m ρ = some (ds, ρ') → ds.length ≤ sizeLine) :
    PS X (.Assign [.Tuple es k p1] (.Tuple sts0 k2 p2) pos) (tS F W (.par t m)) := by
  refine (ps_asg (pe_tup ha) (pg_tup hc hg hn hst) hs hw).imp fun D σ H ⟨A, M, ρ, o, r, ev, g⟩ => ?_
  simp only [evS, Option.bind_eq_some_iff, Option.map_eq_some_iff] at ev
  obtain ⟨⟨ds, ρ1⟩, h1, ρ2, h2, h3⟩ := ev
  cases h3
  refine ⟨A, M, ρ, ds, ρ1, r, h1, fun vs H1 A1 M1 c1 m1 k1 r1 f1 => ⟨by rw [f1.length]; exact hl _ _ _ h1, fun p hp => ?_⟩⟩
  have kn : Kp No H1 (upd H1 p (.tup vs)) := Kp.new hp
  have e0 : (fun x => M1 x ∨ No x) = M1 := funext fun x => propext ⟨fun z => z.elim (fun y => y) fun y => y.elim, .inl⟩
  refine ⟨p, vs, rfl, SqT.of upd_same, by rw [f1.length]; exact bindP_len h2, A1, M1, H, No, ρ1, ds, ρ2, f1.keep kn, by rw [e0]; exact r1.keep kn, fun x z => z.elim, h2, fun σ' U' r' hU' ag => ?_⟩
  exact g _ _ ⟨A1, _, ⟨c1.a, fun x z => z.elim (fun y => .inl (m1 x y)) fun y => .inr (hU' x y), c1.d⟩, k1.trans kn.of, r', ag⟩
end
end MI

/-! MI9: lists that change, loops. -/
namespace MI
open PySem PySem.Spec PyProof.Rows L2
variable [EK]

section
variable {X : Cx} {F : Fns} {W : Nat} {e a b c tg iter : Expr} {es : List Expr} {st : Stmt} {sts sts' : List Stmt} {m ma mb mc mi : ME} {n n' : MS} {pos : Pos} {t : MT} {i : Nat}
/-- a list of one's own is written -/
theorem RE.write {A M : AS} {H : Hp} {ρ : Rho} {σ : L2.St} {d d' : PyData} {p : Addr} {o : HO} (r : RE A M H ρ σ) (e : ρ[i]? = some (Slot.own d)) (hσ : σ[i]? = some (some (.ref p))) (ho : Own A (upd H p o) p d') : RE A M (upd H p o) (ρ.set i (.own d')) σ ∧ Kp M H (upd H p o) := by
  obtain ⟨p', e1, hm, hown⟩ := r.own i d e
  rw [hσ] at e1
  cases e1
  obtain ⟨o0, h0, mu⟩ := hown.live
  have k : Kp M H (upd H p o) := Kp.wr hm h0 mu
  refine ⟨⟨by rw [List.length_set]; exact r.len, r.sub, fun x z => let ⟨u, h⟩ := r.live x z; k.live x u h, fun j x h => ?_, fun j x h => ?_, fun j k x y b h1 h2 h3 h4 => ?_⟩, k⟩
  · rcases set_cases h with ⟨_, q⟩ | ⟨_, q⟩
    · cases q
    · obtain ⟨v, q1, q2⟩ := r.dat j x q
      exact ⟨v, q1, q2.keep r.sub k⟩
  · rcases set_cases h with ⟨rfl, q⟩ | ⟨ne, q⟩
    · cases q; exact ⟨p, hσ, hm, ho⟩
    · obtain ⟨b, q1, q2, q3⟩ := r.own j x q
      have nb : b ≠ p := fun z => ne (r.inj j i x d p q e (z ▸ q1) hσ)
      have kp : Kp (fun x => x = p) H (upd H p o) := Kp.wr rfl h0 mu
      exact ⟨b, q1, q2, q3.keep (M := fun x => x = p) (fun x z => z ▸ r.sub p hm) kp nb⟩
  · have own : ∀ {j : Nat} {x : PyData}, (ρ.set i (.own d'))[j]? = some (Slot.own x) → ∃ y, ρ[j]? = some (Slot.own y) := fun {j x} h => by
      rcases set_cases h with ⟨rfl, _⟩ | ⟨_, q⟩
      · exact ⟨d, e⟩
      · exact ⟨x, q⟩
    obtain ⟨x', q1⟩ := own h1
    obtain ⟨y', q2⟩ := own h2
    exact r.inj j k x' y' b q1 q2 h3 h4
theorem own_lst {A M : AS} {H : Hp} {ρ : Rho} {σ : L2.St} {ds : List PyData} (r : RE A M H ρ σ) (e : ρ[i]? = some (Slot.own (.list ds))) : ∃ p xs, σ[i]? = some (some (.ref p)) ∧ M p ∧ H p = some (.lst xs) ∧ RelAll A H xs ds := by
  obtain ⟨p, e1, hm, ho⟩ := r.own i _ e
  rcases ho with ⟨xs, ds', e2, h, rr⟩ | ⟨_, _, e2, _⟩
  · cases e2; exact ⟨p, xs, e1, hm, h, rr⟩
  · cases e2
theorem isOwnL_iff {s : Option Slot} (h : isOwnL s = true) : ∃ ds, s = some (.own (.list ds)) := by
  unfold isOwnL at h
  split at h
  · exact ⟨_, rfl⟩
  · cases h
theorem hfew1 {cp : Pos} (ns : noStar e = true) : ((backTo cp (starEach [e] X.env)).all (fun x => !x.1) && (backToKw cp (keywordEach [] X.env)).all (fun x => x.1.isSome)
      && decide ([e].length + ([] : List Keyword).length + (if ([] : List Keyword).isEmpty then 0 else 1) < 30)) = true := by
  rw [star_no ns]
  rfl
theorem s_app {x : Str} {px ap cp : Pos} (hx : PE X (.Name x px) (tVar i)) (he : Eb X F e m) (ns : noStar e = true) (hl : (ap.endLine == cp.line) = true) : PS X (.Expr (.Call (.Attribute (.Name x px) "append" ap) [e] [] cp) pos) (tS F W (.app i m)) := by
  refine (ps_expr (pe_bm PySem.F.plainAttrs_list PySem.F.slot_list_append PySem.F.type_list_append mt_append hx (pa_cons he.ev pa_nil (star_no ns)) rfl (hfew1 ns) hl (star_no ns) rfl) rfl).imp fun D σ H ⟨A, M, ρ, o, r, ev, g⟩ => ?_
  simp only [evS] at ev
  split at ev
  · rename_i hown
    obtain ⟨ds0, e0⟩ := isOwnL_iff hown
    obtain ⟨p0, xs0, hσ, _, hp0, _⟩ := own_lst r e0
    simp only [Option.bind_eq_some_iff] at ev
    obtain ⟨⟨d, fr, ρ1⟩, h1, h2⟩ := ev
    refine ⟨.ref p0, hσ, .inl ⟨rfl, xs0, SqL.of hp0⟩, A, M, ρ, d, fr, ρ1, r, h1, fun v H1 p => ?_⟩
    obtain ⟨A1, M1, s1, k1, r1, b1⟩ := p.std r.live
    dsimp only at h2
    split at h2
    · rename_i xs hx1
      split at h2
      · rename_i hlen
        cases h2
        obtain ⟨p1, ys, hσ1, hm1, hp1, rr⟩ := own_lst r1 hx1
        rw [hσ] at hσ1
        cases hσ1
        have k : Kp M1 H1 (upd H1 p0 (.lst (ys ++ [v]))) := Kp.wr hm1 hp1 trivial
        obtain ⟨r2, k2⟩ := r1.write (d' := .list (xs ++ [d])) hx1 hσ (.inl ⟨_, _, rfl, upd_same, (rr.append (.cons b1 .nil)).keep r1.sub k⟩)
        exact ⟨p0, ys, v, rfl, rfl, hp1, by rw [rr.length]; exact hlen, g _ _ ⟨A1, M1, s1.chg, k1.comp s1 k2, r2, Agree.refl _ _⟩⟩
      · cases h2
    · cases h2
  · cases ev
theorem s_ext {x : Str} {px ap cp : Pos} (hx : PE X (.Name x px) (tVar i)) (he : Eb X F e m) (ns : noStar e = true) (hl : (ap.endLine == cp.line) = true) : PS X (.Expr (.Call (.Attribute (.Name x px) "extend" ap) [e] [] cp) pos) (tS F W (.ext i m)) := by
  refine (ps_expr (pe_bm PySem.F.plainAttrs_list PySem.F.slot_list_extend PySem.F.type_list_extend mt_extend hx (pa_cons he.ev pa_nil (star_no ns)) rfl (hfew1 ns) hl (star_no ns) rfl) rfl).imp fun D σ H ⟨A, M, ρ, o, r, ev, g⟩ => ?_
  simp only [evS] at ev
  split at ev
  · rename_i hown
    obtain ⟨ds0, e0⟩ := isOwnL_iff hown
    obtain ⟨p0, xs0, hσ, _, hp0, _⟩ := own_lst r e0
    simp only [Option.bind_eq_some_iff] at ev
    obtain ⟨⟨d, fr, ρ1⟩, h1, h2⟩ := ev
    refine ⟨.ref p0, hσ, .inl ⟨rfl, xs0, SqL.of hp0⟩, A, M, ρ, d, fr, ρ1, r, h1, fun v H1 p => ?_⟩
    obtain ⟨A1, M1, s1, k1, r1, b1⟩ := p.std r.live
    dsimp only at h2
    split at h2
    · rename_i xs zs hx1
      split at h2
      · rename_i hlen
        cases h2
        obtain ⟨p1, ys, hσ1, hm1, hp1, rr⟩ := own_lst r1 hx1
        rw [hσ] at hσ1
        cases hσ1
        have k : ∀ ws, Kp M1 H1 (upd H1 p0 (.lst ws)) := fun ws => Kp.wr hm1 hp1 trivial
        cases b1 with
        | @lst q ws _ hh hn r3 =>
          obtain ⟨r2, k2⟩ := r1.write (d' := .list (xs ++ _)) hx1 hσ (.inl ⟨_, _, rfl, upd_same, (rr.append r3).keep r1.sub (k _)⟩)
          exact ⟨p0, q, ys, ws, rfl, rfl, hp1, hh, by rw [rr.length, r3.length]; exact hlen, g _ _ ⟨A1, M1, s1.chg, k1.comp s1 k2, r2, Agree.refl _ _⟩⟩
      · cases h2
    · cases h2
  · cases ev
theorem _root_.L2.PS.or {X : Cx} {st : Stmt} {t t' : TS} (h : PS X st t) (h' : PS X st t') : PS X st (fun D σ H => t D σ H ∨ t' D σ H) := ⟨fun pins s σ H D I q => q.elim (h.run pins s σ H D I) (h'.run pins s σ H D I)⟩
theorem isOwn_iff {s : Option Slot} (h : isOwn s = true) : ∃ d, s = some (.own d) := by
  unfold isOwn at h
  split at h
  · exact ⟨_, rfl⟩
  · cases h
theorem s_put {x : Str} {px sp : Pos} (hu : X.A.units + 1 < cLine) (hx : PE X (.Name x px) (tVar i)) (hk : Eb X F b mb) (he : Eb X F e m) (hs : swapsWith e (some (.Subscript (.Name x px) b sp)) pos.line X.env = pure false) (hw : swappedStores [.Subscript (.Name x px) b sp] e X.env = pure none)
    (ha : ∀ v, assign (.Subscript (.Name x px) b sp) X.env v = (do
      let ov ← holding [v] (eval (.Name x px) X.env)
      let iv ← holding [v, ov] (eval b X.env)
      standAt sp
      holding [v, ov, iv] (setItem ov iv v)
      release [v, ov, iv] [])) : PS X (.Assign [.Subscript (.Name x px) b sp] e pos) (tS F W (.put i mb m)) := by
  refine ((ps_asg he.ev (pg_sub hx hk.ev set_list ha) hs hw).or (ps_dput hu hx hk.ev he.ev hs)).imp fun D σ H ⟨A, M, ρ, o, r, ev, g⟩ => ?_
  simp only [evS] at ev
  split at ev
  · rename_i hown
    obtain ⟨ds0, e0⟩ := isOwn_iff hown
    obtain ⟨p0, hσ, _, _⟩ := r.own i _ e0
    simp only [Option.bind_eq_some_iff] at ev
    obtain ⟨⟨d, fr, ρ1⟩, h1, ⟨j, fr2, ρ2⟩, h2, h3⟩ := ev
    dsimp only at h3
    split at h3
    · rename_i x0 hx1
      simp only [Option.map_eq_some_iff] at h3
      obtain ⟨y0, h3, h4⟩ := h3
      cases h4
      unfold putD at h3
      split at h3
      · rename_i xs kk
        simp only [Option.map_eq_some_iff] at h3
        obtain ⟨jj, h3, rfl⟩ := h3
        refine .inl ⟨A, M, ρ, d, fr, ρ1, r, h1, fun v H1 p => ?_⟩
        obtain ⟨A1, M1, s1, k1, r1, b1⟩ := p.std r.live
        refine ⟨.ref p0, hσ, A1, M1, ρ1, _, fr2, ρ2, r1, h2, fun y H2 p2 => ?_⟩
        obtain ⟨A2, M2, s2, k2, r2, b2⟩ := p2.std r1.live
        have b1' := (b1.keep r1.sub k2).anti s2.a
        obtain ⟨p1, ys, hσ1, hm1, hp1, rr⟩ := own_lst r2 hx1
        rw [hσ] at hσ1
        cases hσ1
        cases b2
        have k : Kp M2 H2 (upd H2 p0 (.lst (ys.set jj v))) := Kp.wr hm1 hp1 trivial
        obtain ⟨r3, k3⟩ := r2.write (d' := .list (xs.set jj d)) hx1 hσ (.inl ⟨_, _, rfl, upd_same, (rr.set b1' jj).keep r2.sub k⟩)
        exact ⟨p0, ys, kk, jj, rfl, rfl, hp1, by rw [rr.length]; exact h3, g _ _ ⟨A2, M2, (s1.trans s2).chg, (k1.comp s1 k2).comp (s1.trans s2) k3, r3, Agree.refl _ _⟩⟩
      · rename_i es
        split at h3
        · rename_i hc
          cases h3
          simp only [Bool.and_eq_true, Bool.not_eq_true', decide_eq_true_iff] at hc
          refine .inr ⟨A, M, ρ, d, fr, ρ1, r, h1, fun v H1 p => ?_⟩
          obtain ⟨A1, M1, s1, k1, r1, b1⟩ := p.std r.live
          refine ⟨.ref p0, hσ, A1, M1, ρ1, _, fr2, ρ2, r1, h2, fun y H2 p2 => ?_⟩
          obtain ⟨A2, M2, s2, k2, r2, b2⟩ := p2.std r1.live
          have b1' := (b1.keep r1.sub k2).anti s2.a
          obtain ⟨p1, hσ1, hm1, ho1⟩ := r2.own i _ hx1
          rw [hσ] at hσ1
          cases hσ1
          rcases ho1 with ⟨_, _, z, _⟩ | ⟨kvs, _, z, hp1, rr⟩
          · cases z
          · cases z
            obtain ⟨q, rfl, rfl⟩ := key_rel b2 hc.1.1
            have k : Kp M2 H2 (upd H2 p0 (.dK (putK kvs q v))) := Kp.wr hm1 hp1 trivial
            obtain ⟨r3, k3⟩ := r2.write (d' := .dict (dPut es (keyD q) d)) hx1 hσ (.inr ⟨_, _, rfl, upd_same, (put_rel b1' rr).keep r2.sub k⟩)
            exact ⟨p0, _, rfl, DPut.k hp1 (by rw [rr.length]; exact hc.2), g _ _ ⟨A2, M2, (s1.trans s2).chg, (k1.comp s1 k2).comp (s1.trans s2) k3, r3, Agree.refl _ _⟩⟩
        · cases h3
      · cases h3
    · cases h3
  · cases ev

/-! ### loops -/
theorem tb_mono {X : Cx} {t : TS} : True := trivial
theorem s_loop (hp : PassesOwn (model X.prog X.w) X.A X.env X.xe) (hc : X.calm = true) (hi : PI X tg iter (tI F mi)) (hg : PG X tg (gM t)) (hb : PSs X sts (tS F W n)) (hs : ∀ x, foldedSetIterable iter X.env x = pure x) :
    PS X (.For tg iter sts [] pos) (tS F W (.loop t mi n)) := by
  refine (ps_for hp hc hi hg hb hs).imp fun D σ H ⟨A, M, ρ, o, r, ev, g⟩ => ?_
  simp only [evS, Option.bind_eq_some_iff] at ev
  obtain ⟨⟨ds, ρ1⟩, h1, h2⟩ := ev
  refine ⟨A, M, ρ, ds, ρ1, r, h1, fun J H1 A1 M1 s1 k1 r1 it => ?_⟩
  obtain ⟨G, Y, w, hG, hY⟩ := it
  have g1 : Gs A1 M1 H1 σ (slotsT t ++ asgd n) o D := g.expr r s1 k1
  have idem : ∀ {σ σ1 σ2 : L2.St}, Agree (slotsT t ++ asgd n) σ σ1 → Agree (slotsT t ++ asgd n) σ1 σ2 → Agree (slotsT t ++ asgd n) σ σ2 := fun a b i hi => (b i hi).trans (a i hi)
  refine for_it w (fun i σ' H' => ∃ A2 M2 ρ2, Chg A1 M1 H1 A2 M2 ∧ Kp M1 H1 H' ∧ RE A2 M2 H' ρ2 σ' ∧ Agree (slotsT t ++ asgd n) σ σ' ∧ loopS t (evS F W n) (ds.drop i) ρ2 = some o) ⟨A1, M1, ρ1, Chg.refl _ _ _, Kp.refl _ _, r1, Agree.refl _ _, h2⟩
    (fun i σ' H' _ ⟨A2, M2, ρ2, c2, k2, _⟩ => hG H' (k2.mono r1.sub)) (fun i x σ' H' H'' hi ⟨A2, M2, ρ2, c2, k2, r2, a2, e2⟩ y => ?_) fun σ' H' ⟨A2, M2, ρ2, c2, k2, r2, a2, e2⟩ => ?_
  · obtain ⟨kn, d, hd, rel⟩ := hY i A2 H' x H'' hi ⟨k2.mono r1.sub, c2.a⟩ y
    rw [drop_cons hd] at e2
    simp only [loopS, Option.bind_eq_some_iff] at e2
    obtain ⟨ρ3, f1, o1, f2, f3⟩ := e2
    refine ⟨A2, M2, ρ2, d, ρ3, r2.keep kn, rel, f1, fun σ3 r3 a3 => ⟨A2, M2, ρ3, o1, r3, f2, ?_⟩⟩
    have k3 : Kp M1 H1 H'' := k2.chg c2 kn.of
    have a3' : Agree (slotsT t ++ asgd n) σ σ3 := idem a2 (a3.mono fun i h => List.mem_append_left _ h)
    have nxt : ∀ ρ4, loopS t (evS F W n) (ds.drop (i + 1)) ρ4 = some o → ∀ σ4 H4, PN A2 M2 H'' σ3 (asgd n) ρ4 σ4 H4 → ∃ A2 M2 ρ2, Chg A1 M1 H1 A2 M2 ∧ Kp M1 H1 H4 ∧ RE A2 M2 H4 ρ2 σ4 ∧ Agree (slotsT t ++ asgd n) σ σ4 ∧ loopS t (evS F W n) (ds.drop (i + 1)) ρ2 = some o := fun ρ4 f4 σ4 H4 ⟨A4, M4, c4, k4, r4, a4⟩ =>
      ⟨A4, M4, ρ4, c2.trans r1.live k3 c4, k3.chg c2 k4, r4, idem a3' (a4.mono fun i h => List.mem_append_right _ h), f4⟩
    have fin : ∀ ρ4, o = .nx ρ4 → ∀ σ4 H4, PN A2 M2 H'' σ3 (asgd n) ρ4 σ4 H4 → D.nx σ4 H4 := fun ρ4 f4 σ4 H4 ⟨A4, M4, c4, k4, r4, a4⟩ => by
      subst f4
      exact g1 σ4 H4 ⟨A4, M4, c2.trans r1.live k3 c4, k3.chg c2 k4, r4, idem a3' (a4.mono fun i h => List.mem_append_right _ h)⟩
    cases o1 with
    | nx ρ4 => exact nxt ρ4 f3
    | ct ρ4 => exact nxt ρ4 f3
    | bk ρ4 => exact fin ρ4 (Option.some.inj f3).symm
    | rt d fr ρ4 =>
      intro v σ4 H4 ⟨A4, M4, c4, k4, r4, a4, q1, q2⟩
      have eo : o = .rt d fr ρ4 := (Option.some.inj f3).symm
      subst eo
      exact g1 v σ4 H4 ⟨A4, M4, c2.trans r1.live k3 c4, k3.chg c2 k4, r4, idem a3' (a4.mono fun i h => List.mem_append_right _ h), q1, fun e => let ⟨p, e1, e2, e3⟩ := q2 e; ⟨p, e1, k3.back e2, e3⟩⟩
  · rw [List.drop_length] at e2
    have eo : o = .nx ρ2 := (Option.some.inj e2).symm
    subst eo
    exact g1 σ' H' ⟨A2, M2, c2, k2, r2, a2⟩
theorem s_while (hp : PassesOwn (model X.prog X.w) X.A X.env X.xe) (hc : PT X c (tT F mc)) (hb : PSs X sts (tS F W n)) : PS X (.While c sts [] pos) (tS F W (.while mc n)) := by
  refine (ps_while hp hc hb).imp fun D σ H ⟨A, M, ρ, o, r, ev, g⟩ => ?_
  simp only [evS] at ev
  have g1 : Gs A M H σ (asgd n) o D := g
  have idem : ∀ {σ σ1 σ2 : L2.St}, Agree (asgd n) σ σ1 → Agree (asgd n) σ1 σ2 → Agree (asgd n) σ σ2 := fun a b i hi => (b i hi).trans (a i hi)
  refine ⟨fun q σ' H' => ∃ A2 M2 ρ2, Chg A M H A2 M2 ∧ Kp M H H' ∧ RE A2 M2 H' ρ2 σ' ∧ Agree (asgd n) σ σ' ∧ whileS (evT F mc) (evS F W n) q ρ2 = some o, ⟨W, A, M, ρ, Chg.refl _ _ _, Kp.refl _ _, r, Agree.refl _ _, ev⟩, fun q σ' H' hw => ?_⟩
  obtain ⟨A2, M2, ρ2, c2, k2, r2, a2, e2⟩ := hw
  cases q with
  | zero => cases e2
  | succ q =>
    simp only [whileS, Option.bind_eq_some_iff] at e2
    obtain ⟨⟨b, ρ3⟩, f1, f2⟩ := e2
    refine ⟨A2, M2, ρ2, b, ρ3, r2, f1, fun H3 A3 M3 s3 k3 r3 => ?_⟩
    have c3 : Chg A M H A3 M3 := c2.trans r.live k2 s3.chg
    have k3' : Kp M H H3 := k2.chg c2 k3
    cases b with
    | false =>
      have eo : o = .nx ρ3 := (Option.some.inj f2).symm
      subst eo
      exact iteF (g1 σ' H3 ⟨A3, M3, c3, k3', r3, a2⟩)
    | true =>
      rw [if_pos rfl] at f2
      simp only [Option.bind_eq_some_iff] at f2
      obtain ⟨o1, f3, f4⟩ := f2
      refine iteT ⟨fun σ4 H4 => ∃ A2 M2 ρ2, Chg A M H A2 M2 ∧ Kp M H H4 ∧ RE A2 M2 H4 ρ2 σ4 ∧ Agree (asgd n) σ σ4 ∧ whileS (evT F mc) (evS F W n) q ρ2 = some o, fun σ4 H4 z => ⟨q, Nat.lt_succ_self q, z⟩, A3, M3, ρ3, o1, r3, f3, ?_⟩
      have nxt : ∀ ρ4, whileS (evT F mc) (evS F W n) q ρ4 = some o → ∀ σ4 H4, PN A3 M3 H3 σ' (asgd n) ρ4 σ4 H4 → ∃ A2 M2 ρ2, Chg A M H A2 M2 ∧ Kp M H H4 ∧ RE A2 M2 H4 ρ2 σ4 ∧ Agree (asgd n) σ σ4 ∧ whileS (evT F mc) (evS F W n) q ρ2 = some o := fun ρ4 f4 σ4 H4 ⟨A4, M4, c4, k4, r4, a4⟩ =>
        ⟨A4, M4, ρ4, c3.trans r.live k3' c4, k3'.chg c3 k4, r4, idem a2 a4, f4⟩
      cases o1 with
      | nx ρ4 => exact nxt ρ4 f4
      | ct ρ4 => exact nxt ρ4 f4
      | bk ρ4 =>
        have eo : o = .nx ρ4 := (Option.some.inj f4).symm
        subst eo
        exact fun σ4 H4 ⟨A4, M4, c4, k4, r4, a4⟩ => g1 σ4 H4 ⟨A4, M4, c3.trans r.live k3' c4, k3'.chg c3 k4, r4, idem a2 a4⟩
      | rt d fr ρ4 =>
        have eo : o = .rt d fr ρ4 := (Option.some.inj f4).symm
        subst eo
        exact fun v σ4 H4 ⟨A4, M4, c4, k4, r4, a4, q1, q2⟩ => g1 v σ4 H4 ⟨A4, M4, c3.trans r.live k3' c4, k3'.chg c3 k4, r4, idem a2 a4, q1, fun e => let ⟨p, e1, e2, e3⟩ := q2 e; ⟨p, e1, k3'.back e2, e3⟩⟩
end
end MI

/-! MIA: a def by its body; the law's call. -/
namespace MI
open PySem PySem.Spec PyProof.Rows L2
variable [EK]

theorem finals_len : ∀ (as : List Arg) (ρ : Rho), (finals as ρ).length = as.length
  | [], _ => rfl
  | (_, true) :: as, s :: ρ => congrArg (· + 1) (finals_len as ρ)
  | (_, true) :: as, [] => congrArg (· + 1) (finals_len as _)
  | (_, false) :: as, ρ => congrArg (· + 1) (finals_len as _)
theorem finals_at : ∀ {as : List Arg} {ρ : Rho} {i : Nat} {s : Slot}, (finals as ρ)[i]? = some s → s = .no ∨ ((∃ d, as[i]? = some (d, true)) ∧ ρ[i]? = some s)
  | [], _, _, _, h => by simp [finals] at h
  | (d, true) :: as, s :: ρ, 0, _, h => .inr ⟨⟨d, rfl⟩, h⟩
  | (d, true) :: as, s :: ρ, i + 1, x, h => (finals_at (as := as) (ρ := ρ) (i := i) h).imp id fun z => z
  | (d, true) :: as, [], 0, _, h => .inl (Option.some.inj h).symm
  | (d, true) :: as, [], i + 1, x, h => (finals_at (as := as) (ρ := []) (i := i) h).imp id fun z => z
  | (d, false) :: as, ρ, 0, _, h => .inl (Option.some.inj h).symm
  | (d, false) :: as, ρ, i + 1, x, h => by
    rcases finals_at (as := as) (ρ := ρ.tail) (i := i) h with z | ⟨z1, z2⟩
    · exact .inl z
    · refine .inr ⟨z1, ?_⟩
      cases ρ with
      | nil => simp at z2
      | cons a r => exact z2
theorem lent_not {l : List Nat} : ∀ {as : List Arg} {k i : Nat} {d : PyData}, lentOk l k as = true → as[i]? = some (d, true) → (k + i) ∉ l
  | (d, true) :: as, k, 0, _, h, _ => by
    simp only [lentOk, Bool.and_eq_true, Bool.not_eq_true'] at h
    intro z
    have := List.contains_iff_mem.mpr z
    simp only [Nat.add_zero] at this
    rw [h.1] at this
    cases this
  | (d, true) :: as, k, i + 1, _, h, e => by
    simp only [lentOk, Bool.and_eq_true] at h
    have := lent_not (k := k + 1) (i := i) h.2 e
    rw [show k + (i + 1) = k + 1 + i by omega]
    exact this
  | (d, false) :: as, k, 0, _, h, e => by cases e
  | (d, false) :: as, k, i + 1, _, h, e => by
    simp only [lentOk] at h
    have := lent_not (k := k + 1) (i := i) h e
    rw [show k + (i + 1) = k + 1 + i by omega]
    exact this
  | [], _, _, _, _, e => by simp at e
theorem RE.pad {A M : AS} {H : Hp} {ρ : Rho} {σ : L2.St} (r : RE A M H ρ σ) (n : Nat) : RE A M H (ρ ++ List.replicate n .no) (σ ++ List.replicate n none) := by
  have old : ∀ {i : Nat} {s : Slot}, (ρ ++ List.replicate n Slot.no)[i]? = some s → s = .no ∨ (ρ[i]? = some s ∧ (σ ++ List.replicate n none)[i]? = σ[i]?) := fun {i s} h => by
    by_cases hi : i < ρ.length
    · rw [List.getElem?_append_left hi] at h
      exact .inr ⟨h, List.getElem?_append_left (r.len ▸ hi)⟩
    · rw [List.getElem?_append_right (by omega), List.getElem?_replicate] at h
      split at h
      · exact .inl (Option.some.inj h).symm
      · cases h
  refine ⟨by simp [r.len], r.sub, r.live, fun i d h => ?_, fun i d h => ?_, fun i j d e a h1 h2 h3 h4 => ?_⟩
  · rcases old h with z | ⟨z1, z2⟩
    · cases z
    · obtain ⟨v, q1, q2⟩ := r.dat i d z1
      exact ⟨v, z2.trans q1, q2⟩
  · rcases old h with z | ⟨z1, z2⟩
    · cases z
    · obtain ⟨v, q1, q2⟩ := r.own i d z1
      exact ⟨v, z2.trans q1, q2⟩
  · rcases old h1 with z | ⟨z1, z2⟩
    · cases z
    · rcases old h2 with z | ⟨z3, z4⟩
      · cases z
      · exact r.inj i j d e a z1 z3 (z2.symm.trans h3) (z4.symm.trans h4)
/-- what comes back to the caller -/
theorem fin_ok {A M A' M' A2 : AS} {H H' : Hp} {as : List Arg} {vs : List V} {ρ' : Rho} {σ σ' : L2.St} {l : List Nat} (r : RE A M H (as.map argSlot) (vs.map some)) (r' : RE A' M' H' ρ' σ') (hσ : ∀ i, i < vs.length → σ[i]? = (vs.map some)[i]?) (ag : Agree l σ σ') (lo : lentOk l 0 as = true)
    (h2 : ∀ a, A2 a → A' a) (hm : ∀ a, M' a → M a → A2 a) : RE A2 (fun a => M' a ∧ M a) H' (finals as ρ') (vs.map some) := by
  have len : as.length = vs.length := by simpa using r.len
  have at_ : ∀ {i : Nat} {d : PyData}, as[i]? = some (d, true) → σ'[i]? = (vs.map some)[i]? := fun {i d} e => by
    have hi : i < vs.length := by rw [← len]; exact (List.getElem?_eq_some_iff.mp e).1
    have z := lent_not lo e
    rw [Nat.zero_add] at z
    rw [ag i z, hσ i hi]
  refine ⟨by rw [finals_len, List.length_map]; exact len, fun a z => hm a z.1 z.2, fun a z => r'.live a (h2 a z), fun i d h => ?_, fun i d h => ?_, fun i j d e a h1 h2' h3 h4 => ?_⟩
  · rcases finals_at h with z | ⟨⟨d0, z1⟩, z2⟩
    · cases z
    · obtain ⟨v, q1, q2⟩ := r'.dat i d z2
      exact ⟨v, (at_ z1).symm.trans q1, q2.anti h2⟩
  · rcases finals_at h with z | ⟨⟨d0, z1⟩, z2⟩
    · cases z
    · obtain ⟨a, q1, q2, q3⟩ := r'.own i d z2
      have e1 : (vs.map some)[i]? = some (some (.ref a)) := (at_ z1).symm.trans q1
      have z3 : (as.map argSlot)[i]? = some (Slot.own d0) := by rw [List.getElem?_map, z1]; rfl
      obtain ⟨a', p1, p2, _⟩ := r.own i d0 z3
      rw [e1] at p1
      cases p1
      exact ⟨a, e1, ⟨q2, p2⟩, q3.anti h2⟩
  · rcases finals_at h1 with z | ⟨⟨d0, z1⟩, z2⟩
    · cases z
    · rcases finals_at h2' with z | ⟨⟨d1, z3⟩, z4⟩
      · cases z
      · exact r'.inj i j d e a z2 z4 ((at_ z1).trans h3) ((at_ z3).trans h4)
theorem ret_pst {A M : AS} {H H' : Hp} {as : List Arg} {vs : List V} {ρ' : Rho} {σ σ' : L2.St} {l : List Nat} {d : PyData} {fr : Bool} {v : V} (r : RE A M H (as.map argSlot) (vs.map some)) (hσ : ∀ i, i < vs.length → σ[i]? = (vs.map some)[i]?) (lo : lentOk l 0 as = true)
    (p : PR A M H σ l d fr ρ' v σ' H') : Pst A M H (finals as ρ') (vs.map some) d fr v H' := by
  obtain ⟨A', M', c, k, r', ag, q1, q2⟩ := p
  refine ⟨fun a => A' a ∧ A a, fun a => M' a ∧ M a, ⟨fun x z => z.2, fun x z => z.2, fun x h n => c.d x h fun z => n ⟨z, h⟩⟩, k, fin_ok r r' hσ ag lo (fun a z => z.1) fun a z y => ⟨r'.sub a z, r.sub a y⟩, fun e => (q1 e).anti fun a z => z.1, fun e => ?_⟩
  obtain ⟨p, rfl, hp, ra, ho⟩ := q2 e
  have sub : ∀ a, orA (fun a => A' a ∧ A a) p a → orA A' p a := fun a z => z.imp (fun y => y.1) id
  exact ⟨p, rfl, hp, fin_ok r ra hσ ag lo sub fun a z y => .inl ⟨r'.sub a z, r.sub a y⟩, ho.anti sub⟩
section
variable {P : Program} {w : World} {K : PySem.W.Frag} {mg : Str → Option Value} {base : Heap}
/-- a def of the program by the interpreter's run of its body -/
theorem fn_g {x qual : Str} {st : Stmt} {f : Addr} {fd : FuncData} {N ps : List Str} {k W id : Nat} {F F' : Fns} {fn : Fn} (U : L2.Fun K x qual st f fd) (S : FnScope N ps (defScope st)) (hnp : fn.np = ps.length) (hnv : fn.nv = N.length)
    (hF : ∀ as, F' id as = runFn F W fn as)
    (hbody : ∀ (cdv : Value) (A : Around) (outer : List Env) (s : Shared) (H : Hp), A.guards = some [] → Room k (A.deeper (envOfC qual (defScope st) s.heap.objs.size f cdv)) → PSs (cxOf CX0 P w K mg base N qual (defScope st) f cdv A outer s H E0).nox (defBody st) (tS F W fn.body)) :
    FnG P w K mg base (k + 1) f fd ps (spF F' id) := by
  obtain ⟨oc, od, kV, doc, pm, an, cdv, ct, osl, rfl, lk, hcd⟩ := U.ex
  have inv : ∀ {vs : List V} {H : Hp} {Q : VK}, spF F' id vs H Q E0 → ∃ A M as d fr ss, RE A M H (as.map argSlot) (vs.map some) ∧ runFn F W fn as = some (d, fr, ss) ∧ as.length = vs.length ∧ vs.length = ps.length ∧ ∀ v H', Pst A M H ss (vs.map some) d fr v H' → Q v H' := fun {vs H Q} h => by
    obtain ⟨A, M, as, d, fr, ss, r, e, q⟩ := h
    rw [hF] at e
    have l1 : as.length = vs.length := by simpa using r.len
    have l2 : as.length = fn.np := by
      unfold runFn at e
      split at e
      · rename_i z; exact z.1
      · cases e
    exact ⟨A, M, as, d, fr, ss, r, e, l1, by omega, q⟩
  refine ⟨fun vs H Q h => let ⟨_, _, _, _, _, _, _, _, _, l, _⟩ := inv h; l, fun A outer s H args us vs Q hgd hr e0 hb rv hsp => ?_⟩
  obtain ⟨AA, MM, as, d, fr, ss, r, e, l1, l2, q⟩ := inv hsp
  unfold runFn at e
  split at e
  case isFalse => cases e
  rename_i hc
  simp only [Option.bind_eq_some_iff] at e
  obtain ⟨o, e1, e2⟩ := e
  have KX : K.In s.heap := e0.mod.kin.keeps fun b o e => (e0.bs b o e).1
  have lim : s.heap.NoLimit := e0.mod.nolimit.keeps fun b o e => (e0.bs b o e).1
  have hkind : ∀ y ∈ ps.zip us, (defScope st).names.lookup y.1 = some .local ∨ ((defScope st).names.lookup y.1 = some .cell ∧ ((cellsFrom (s.heap.objs.size + 1) (defScope st).names []).lookup y.1).isSome = true) := by
    rintro ⟨nm, v⟩ hy
    refine (S.par nm (List.of_mem_zip hy).1).imp (fun z => z) fun q => ⟨q, PySem.W.cellsFrom_some _ _ _ (.inl q)⟩
  refine codeAny_call_function hr.depth (KX _ _ lk) rfl S.co S.gen rfl (PySem.W.codeRec_of KX hcd) (hb _ _ _ _ (wpAny_newFunctionEnv_cells S.kind hkind fun env he s1 x => ?_))
  subst he
  refine ⟨lim.keeps x.toInCall.keep, codeAny_func ?_⟩
  have I := inv_start (CX := CX0) (E := E0) S hr.hd e0 l2 rv x
  have st0 : start N vs = vs.map some ++ List.replicate (N.length - vs.length) none := rfl
  have hσ : ∀ i, i < vs.length → (start N vs)[i]? = (vs.map some)[i]? := fun i hi => by
    rw [st0, List.getElem?_append_left (by simpa using hi)]
  have r0 : RE AA MM H (as.map argSlot ++ List.replicate (fn.nv - fn.np) .no) (start N vs) := by
    rw [st0, hnv, hnp, ← l2]
    exact r.pad _
  have go := (hbody cdv A outer s H hgd (hr.deeper _)).nox.run [] s1 (start N vs) H { nx := fun _ H' => Q .non H', rt := Q } I ⟨AA, MM, _, o, r0, e1, ?_⟩
  · refine wpAny_mono go (fun fl s' hs => ?_) fun _ _ z => z
    match fl, hs with
    | .ret u, ⟨v, σ', H', J, rv', q'⟩ => exact ⟨v, H', J.os, J.bare, J.base, J.hok, rv', q'⟩
    | .next, ⟨σ', H', J, q'⟩ => exact ⟨.non, H', J.os, J.bare, J.base, J.hok, rfl, q'⟩
    | .brk, ⟨_, _, _, q'⟩ => exact q'.elim
    | .cont, ⟨_, _, _, q'⟩ => exact q'.elim
  · cases o with
    | nx ρ' =>
      cases e2
      exact fun σ' H' ⟨A', M', c, k, r', ag⟩ => q .non H' (ret_pst (l := asgd fn.body) r hσ hc.2 ⟨A', M', c, k, r', ag, fun _ => .non, fun z => nomatch z⟩)
    | bk ρ' => cases e2
    | ct ρ' => cases e2
    | rt d fr ρ' =>
      cases e2
      exact fun v σ' H' p => q v H' (ret_pst r hσ hc.2 p)
/-- the abstract heap at the law's entry: the script alone, if it isn't the module's own -/
def entryH (K : PySem.W.Frag) (a : Addr) (o : Obj) (xs : List V) : Hp := fun b => if b = a ∧ K.lookup a = none then some (.frz o (.lst xs)) else none
theorem entry_cases {K : PySem.W.Frag} {a b : Addr} {o : Obj} {xs : List V} {u : HO} (h : entryH K a o xs b = some u) : b = a ∧ K.lookup a = none ∧ u = .frz o (.lst xs) := by
  unfold entryH at h
  split at h
  · rename_i z
    exact ⟨z.1, z.2, (Option.some.inj h).symm⟩
  · cases h
/-- the law's call -/
theorem law_g {mb : Str → Option Value} {k id : Nat} {fa a : Addr} {fd : FuncData} {x : Str} {F : Fns} {s₁ : Shared} {vs : List Value} {ns : List Int} {fr : Bool} {ss : List Slot} (hK : K = EK.k)
    (KX : K.In s₁.heap) (hmod : s₁.heap.Ns mainGlobals mg) (hblt : s₁.heap.Ns builtinsNs mb) (hb0 : ∀ y : Str, y ≠ "__name__" → mb y = bootBuiltins y) (hlim : s₁.heap.NoLimit) (hgens : s₁.gens = #[])
    (hlist : s₁.heap.get? a = some { cls := .type "list", data := .seq vs.toArray }) (hints : IntsAre vs ns) (hlen : ns.length ≤ sizeLine) (room : Room k callerA)
    (G : ∀ base : Heap, K.In base → base.Ns mainGlobals mg → FnG P w K mg base k fa fd [x] (spF F id)) (hbind : ∀ (s : Shared) (u : Value), BindsTo s fd ⟨[u], []⟩ [(x, u)])
    (hev : F id [(scr (ns.map PyData.int), false)] = some (.bool true, fr, ss)) :
    codeAny (model P w) callerA (.call (.ref fa) ⟨[.ref a], []⟩) (fun r s' => r = .ok (.ret (.bool true)) ∧ OldK s₁.heap s'.heap ∧ s'.os = s₁.os ∧ AllBare s'.gens) s₁ := by
  obtain ⟨o, ho⟩ : ∃ o : Obj, o = { cls := .type "list", data := .seq vs.toArray } := ⟨_, rfl⟩
  have vals := vals_ints hints
  have hsize : (ns.map V.int).length ≤ sizeLine := by rw [List.length_map]; exact hlen
  obtain ⟨H, hH⟩ : ∃ H, H = entryH K a o (ns.map V.int) := ⟨_, rfl⟩
  have only : ∀ {b u}, H b = some u → b = a ∧ K.lookup a = none ∧ u = .frz o (.lst (ns.map V.int)) := fun {b u} z => entry_cases (hH ▸ z)
  have hobj : s₁.heap.get? a = some o := ho ▸ hlist
  have okH : HOk P w H s₁.heap := fun b u z => by
    obtain ⟨rfl, _, rfl⟩ := only z
    exact ⟨hobj, hsize, vs, _, vals, hlist⟩
  have noneOf : ∀ {b : Addr}, (b = a → ∃ ob, K.lookup a = some ob) → H b = none := fun {b} z => by
    cases e : H b with
    | none => rfl
    | some u =>
      obtain ⟨e1, e2, _⟩ := only e
      obtain ⟨ob, e3⟩ := z e1
      rw [e2] at e3
      cases e3
  have keepD : ∀ {b : Addr} {ob : Obj} {es : Array DictEntry} {ep : Nat}, s₁.heap.get? b = some ob → ob.data = .dict es ep → (hidT s₁.heap H).get? b = some ob := fun {b ob es ep} e dd => hidT_get e (by
    cases q : H b with
    | none => rfl
    | some u =>
      obtain ⟨rfl, _, _⟩ := only q
      rw [hlist] at e
      cases e
      exact absurd dd (fun z => by injection z))
  have nsOf : ∀ {b : Addr} {m : Str → Option Value}, s₁.heap.Ns b m → (hidT s₁.heap H).Ns b m := fun {b m} z => by
    obtain ⟨ob, es, ep, e, dd, rest⟩ := z
    exact ⟨ob, es, ep, keepD e dd, dd, rest⟩
  have kin : K.In (hidT s₁.heap H) := fun b ob e => hidT_get (KX b ob e) (noneOf fun z => ⟨ob, z ▸ e⟩)
  have md : Mod K mg (hidT s₁.heap H) := by
    obtain ⟨mc, l1, l2⟩ := hlim
    exact ⟨kin, nsOf hmod, ⟨mb, nsOf hblt, hb0⟩, mc, nsOf l1, l2⟩
  have env : Env0 P w K mg (hidT s₁.heap H) callerA [] s₁ H :=
    { frames := rfl, mod := md, bs := fun b ob e => of_hidT e, bsz := Nat.le_of_eq (hidT_size _ _), funs := trivial, frf := fun b z => (List.not_mem_nil z).elim, hok := okH, bare := .of_eq hgens }
  have scrA : ScrAt H a (ns.map V.int) := by
    cases e : K.lookup a with
    | none => exact .inl ⟨o, by rw [hH]; exact if_pos ⟨rfl, e⟩⟩
    | some ob =>
      have z := KX a ob e
      rw [hlist] at z
      cases z
      exact .inr ⟨_, vs.toArray, _, hK ▸ e, rfl, rfl, rfl, by rw [List.size_toArray, hints.length]; exact hlen, vals⟩
  have re : RE No No H [Slot.dat (scr (ns.map PyData.int))] [some (V.ref a)] := (RE.nil (A := No) (M := No) (H := H) (fun _ z => z) fun _ z => z.elim).consDat (.scr scrA (ints_all ns))
  have sp : spF F id [V.ref a] H (fun v _ => v = .bl true) E0 := ⟨No, No, [(scr (ns.map PyData.int), false)], _, _, _, re, hev, fun v H' p => by
    obtain ⟨A', M', _, _, _, rel⟩ := p.std fun _ z => z.elim
    cases rel
    rfl⟩
  refine codeAny_mono ((G _ kin (nsOf hmod)).run callerA [] s₁ H ⟨[.ref a], []⟩ [.ref a] [.ref a] _ rfl room env (hbind s₁ (.ref a)) (.cons rfl .nil) sp) fun res s' z => ?_
  match res, z with
  | .error _, z => exact z.elim
  | .ok (.ret u), ⟨v, H', os, bare, un, ok', rel, q⟩ =>
    have qv : v = .bl true := q
    subst qv
    cases rel
    refine ⟨rfl, OldK.of_keep fun b ob e => ?_, os, bare⟩
    cases q : H b with
    | none => exact un.keep b ob e q (fun z => (List.not_mem_nil z).elim) (fun z => (List.not_mem_nil z).elim)
    | some u =>
      obtain ⟨rfl, _, rfl⟩ := only q
      have z1 := (ok' _ _ (un.frzs _ _ _ q)).1
      rw [hobj] at e
      cases e
      exact z1
end
end MI

/-! MIB: from the model's syntax to the interpreter's: expressions. -/
namespace MI
open PySem PySem.Spec PyProof.Rows L2
variable [EK]

structure Sig where
  fns : List (Str × Nat)
  cst : List (Str × PyData)
  blt : List Str
def posOf : List Str → Str → Option Nat
  | [], _ => none
  | y :: r, x => if y = x then some 0 else (posOf r x).map (· + 1)
theorem posOf_ok : ∀ {N : List Str} {x : Str} {i : Nat}, posOf N x = some i → N[i]? = some x
  | [], _, _, h => by cases h
  | y :: r, x, i, h => by
    unfold posOf at h
    split at h
    · rename_i e
      cases h
      exact congrArg some e
    · simp only [Option.map_eq_some_iff] at h
      obtain ⟨j, h1, rfl⟩ := h
      have z := posOf_ok h1
      exact z
def vis (sc : Scope) (x : Str) : Bool := match sc.names.lookup x with
  | some .local => true
  | some .cell => true
  | some .free => true
  | _ => false
def glb (sc : Scope) (x : Str) : Bool := match sc.names.lookup x with
  | some .globalImplicit => true
  | _ => false
def fine (x : Str) : Bool := !(x == ("__debug__" : Str)) && !(x == ("__classdict__" : Str)) && !(x == ("__name__" : Str))
theorem vis_ok {sc : Scope} {x : Str} (h : vis sc x = true) : Vis sc x := by
  unfold vis at h
  split at h
  · rename_i e; exact .inl e
  · rename_i e; exact .inr (.inl e)
  · rename_i e; exact .inr (.inr e)
  · cases h
theorem glb_ok {sc : Scope} {x : Str} (h : glb sc x = true) : sc.names.lookup x = some .globalImplicit := by
  unfold glb at h
  split at h
  · rename_i e; exact e
  · cases h
theorem fine_ok {x : Str} (h : fine x = true) : (x == ("__debug__" : Str)) = false ∧ (x == ("__classdict__" : Str)) = false ∧ x ≠ "__name__" := by
  unfold fine at h
  simp only [Bool.and_eq_true, Bool.not_eq_true'] at h
  refine ⟨h.1.1, h.1.2, fun e => ?_⟩
  have := h.2
  rw [e] at this
  simp at this
def bopOf : Operator → Option Bop
  | .Add => some .add | .Sub => some .sub | .Mult => some .mul | .FloorDiv => some .fdiv | .Mod => some .mod | .Pow => some .pow
  | _ => none
theorem bopOf_ok {o : Operator} {b : Bop} (h : bopOf o = some b) : o = opOf b := by
  cases o <;> cases h <;> rfl
def cmpOf : CmpOp → Option Cop
  | .Eq => some .eq | .NotEq => some .ne | .Lt => some .lt | .LtE => some .le | .Gt => some .gt | .GtE => some .ge | .In => some .isin | .NotIn => some .notin
  | _ => none
theorem cmpOf_ok {o : CmpOp} {b : Cop} (h : cmpOf o = some b) : o = copOf b := by
  cases o <;> cases h <;> rfl
def litOf : Const → Option ME
  | .int i => some (.lit (.int i))
  | .bool b => some (.lit (.bool b))
  | .none => some (.lit .none)
  | .str x => some (.lit (.str x))
  | _ => none
def biTab : List (Str × Nat × Bi) := [("len", 1, .len), ("all", 1, .all), ("any", 1, .any), ("tuple", 1, .tuple), ("list", 1, .list), ("sorted", 1, .sorted), ("sum", 1, .sum), ("max", 1, .max1), ("min", 1, .min1), ("max", 2, .max2), ("min", 2, .min2), ("repr", 1, .repr), ("int", 1, .int)]
def isTab : List (Str × Bi) := [("int", .isInt), ("bool", .isBool), ("tuple", .isTuple), ("str", .isStr), ("list", .isList)]
def biOf (x : Str) (n : Nat) : Option Bi := (biTab.find? fun p => p.1 == x && p.2.1 == n).map (·.2.2)
def isOf (x : Str) : Option Bi := (isTab.find? fun p => p.1 == x).map (·.2)
def BiFact (x : Str) (b : Bi) : Prop := tyOf b = none ∧ ((∃ id, fnBi b = .builtin id ∧ bootBuiltins x = some (.builtin id)) ∨ ∃ id, fnBi b = .type id ∧ bootBuiltins x = some (.type id))
theorem biTab_ok : ∀ p ∈ biTab, BiFact p.1 p.2.2 := by
  intro p hp
  simp only [biTab, List.mem_cons, List.not_mem_nil, or_false] at hp
  rcases hp with rfl | rfl | rfl | rfl | rfl | rfl | rfl | rfl | rfl | rfl | rfl | rfl | rfl <;> first
    | exact ⟨rfl, .inl ⟨_, rfl, by decide +kernel⟩⟩
    | exact ⟨rfl, .inr ⟨_, rfl, by decide +kernel⟩⟩
theorem isTab_ok : ∀ p ∈ isTab, ∃ nm, tyOf p.2 = some nm ∧ bootBuiltins p.1 = some (.type nm) := by
  intro p hp
  simp only [isTab, List.mem_cons, List.not_mem_nil, or_false] at hp
  rcases hp with rfl | rfl | rfl | rfl | rfl <;> exact ⟨_, rfl, by decide +kernel⟩
theorem biOf_ok {x : Str} {n : Nat} {b : Bi} (h : biOf x n = some b) : BiFact x b := by
  unfold biOf at h
  simp only [Option.map_eq_some_iff] at h
  obtain ⟨p, h1, rfl⟩ := h
  have e := List.find?_some h1
  simp only [Bool.and_eq_true, beq_iff_eq] at e
  rw [← e.1]
  exact biTab_ok p (List.mem_of_find?_eq_some h1)
theorem isOf_ok {x : Str} {b : Bi} (h : isOf x = some b) : ∃ nm, tyOf b = some nm ∧ bootBuiltins x = some (.type nm) := by
  unfold isOf at h
  simp only [Option.map_eq_some_iff] at h
  obtain ⟨p, h1, rfl⟩ := h
  have e := List.find?_some h1
  simp only [beq_iff_eq] at e
  rw [← e]
  exact isTab_ok p (List.mem_of_find?_eq_some h1)
def isTupE : Expr → Bool
  | .Tuple .. => true
  | _ => false
def isSetE : Expr → Bool
  | .Set .. => true
  | _ => false
def isSlE : Expr → Bool
  | .Slice .. => true
  | _ => false
/-- a comprehension's own names by their slots -/
def ownOf (N : List Str) (scope : Scope) : List (Str × Nat) := scope.names.filterMap fun (x, k) => match k with
  | .local => (posOf N x).map fun i => (x, i)
  | .cell => (posOf N x).map fun i => (x, i)
  | _ => none
/-- may this name be stored: pm tells the comprehension's scope, if one stands in one -/
def stOk (sc : Scope) (pm : Option Scope) (x : Str) : Bool := match sc.names.lookup x with
  | some .local => true
  | some .cell => (match pm with | none => true | some s => s.names.lookup x == some .cell)
  | _ => false
mutual
def cG (N : List Str) (sc : Scope) (pm : Option Scope) : Nat → Expr → Option MT
  | n + 1, .Name x _ => if stOk sc pm x then (posOf N x).map .nm else none
  | n + 1, .Tuple es _ _ => (cGs N sc pm n es).map .tp
  | _, _ => none
def cGs (N : List Str) (sc : Scope) (pm : Option Scope) : Nat → List Expr → Option MT
  | _, [] => some .nil
  | n + 1, e :: es => if noStar e then (cG N sc pm n e).bind fun t => (cGs N sc pm n es).map fun u => .cons t u else none
  | _, _ => none
end
def inS (l vs : List Nat) : Bool := l.all fun i => vs.contains i
theorem inS_ok {l vs : List Nat} (h : inS l vs = true) : ∀ i ∈ l, i ∈ vs := fun i hi => by
  unfold inS at h
  exact List.contains_iff_mem.mp (List.all_eq_true.mp h i hi)
mutual
def cE (S : Sig) (N : List Str) : Nat → Scope → Expr → Option ME
  | 0, _, _ => none
  | n + 1, sc, .Constant c _ _ => litOf c
  | n + 1, sc, .Name x _ => if fine x then (if vis sc x then (posOf N x).map .var else if glb sc x then (S.cst.lookup x).map .lit else none) else none
  | n + 1, sc, .BinOp a op b _ => (bopOf op).bind fun o => (cE S N n sc a).bind fun ma => (cE S N n sc b).map fun mb => .bin o ma mb
  | n + 1, sc, .UnaryOp .USub a _ => (cE S N n sc a).map .neg
  | n + 1, sc, .UnaryOp .Not a _ => (cE S N n sc a).map .not
  | n + 1, sc, .BoolOp .And (a :: b :: r) _ => (cE S N n sc a).bind fun ma => (cB S N n sc .And (b :: r)).map fun mb => .and ma mb
  | n + 1, sc, .BoolOp .Or (a :: b :: r) _ => (cE S N n sc a).bind fun ma => (cB S N n sc .Or (b :: r)).map fun mb => .or ma mb
  | n + 1, sc, .Compare a ops cs _ => cCmp S N n sc a ops cs
  | n + 1, sc, .IfExp c a b _ => (cT S N n sc c).bind fun mc => (cE S N n sc a).bind fun ma => (cE S N n sc b).map fun mb => .ite mc ma mb
  | n + 1, sc, .Call (.Name f _) args [] _ => cCall S N n sc f args
  | n + 1, sc, .Subscript a (.Slice lo hi none _) _ => (cE S N n sc a).bind fun ma => (cO S N n sc lo).bind fun ml => (cO S N n sc hi).map fun mh => .sl ma ml mh
  | n + 1, sc, .Subscript a i _ => if isSlE i then none else (cE S N n sc a).bind fun ma => (cE S N n sc i).map fun mi => .idx ma mi
  | n + 1, sc, .Tuple es _ _ => (cA S N n sc es).map .tup
  | n + 1, sc, .List es _ => (cA S N n sc es).map .lst
  | n + 1, sc, .Dict [] [] _ => some .dic
  | n + 1, sc, .ListComp elt gens scope _ => cComp S N n sc elt gens scope
  | _, _, _ => none
/-- and, or, as values -/
def cB (S : Sig) (N : List Str) : Nat → Scope → BoolOp → List Expr → Option ME
  | n + 1, sc, _, [a] => cE S N n sc a
  | n + 1, sc, .And, a :: b :: r => (cE S N n sc a).bind fun ma => (cB S N n sc .And (b :: r)).map fun mb => .and ma mb
  | n + 1, sc, .Or, a :: b :: r => (cE S N n sc a).bind fun ma => (cB S N n sc .Or (b :: r)).map fun mb => .or ma mb
  | _, _, _, _ => none
/-- tests -/
def cT (S : Sig) (N : List Str) : Nat → Scope → Expr → Option ME
  | 0, _, _ => none
  | n + 1, sc, .UnaryOp .Not a _ => (cT S N n sc a).map .not
  | n + 1, sc, .BoolOp .And (a :: b :: r) _ => (cT S N n sc a).bind fun ma => (cBT S N n sc .And (b :: r)).map fun mb => .and ma mb
  | n + 1, sc, .BoolOp .Or (a :: b :: r) _ => (cT S N n sc a).bind fun ma => (cBT S N n sc .Or (b :: r)).map fun mb => .or ma mb
  | n + 1, sc, .Compare a ops cs _ => (cCmp S N n sc a ops cs).map .tst
  | n + 1, sc, e => if plainT e then (cE S N n sc e).map .tst else none
def cBT (S : Sig) (N : List Str) : Nat → Scope → BoolOp → List Expr → Option ME
  | n + 1, sc, _, [a] => cT S N n sc a
  | n + 1, sc, .And, a :: b :: r => (cT S N n sc a).bind fun ma => (cBT S N n sc .And (b :: r)).map fun mb => .and ma mb
  | n + 1, sc, .Or, a :: b :: r => (cT S N n sc a).bind fun ma => (cBT S N n sc .Or (b :: r)).map fun mb => .or ma mb
  | _, _, _, _ => none
def cCmp (S : Sig) (N : List Str) : Nat → Scope → Expr → List CmpOp → List Expr → Option ME
  | n + 1, sc, a, [.Is], [.Constant .none _ _] => (cE S N n sc a).map .isN
  | n + 1, sc, a, [.IsNot], [.Constant .none _ _] => (cE S N n sc a).map .notN
  | n + 1, sc, a, [op], [b] => (cmpOf op).bind fun o => if isSetE b then none else (cE S N n sc a).bind fun ma => (cE S N n sc b).map fun mb => .cmp o ma mb
  | n + 1, sc, a, [op, op'], [b, c] => (cmpOf op).bind fun o => (cmpOf op').bind fun o' => if isSetE c then none else (cE S N n sc a).bind fun ma => (cE S N n sc b).bind fun mb => (cE S N n sc c).map fun mc => .cmp2 o o' ma mb mc
  | _, _, _, _, _ => none
def cCall (S : Sig) (N : List Str) : Nat → Scope → Str → List Expr → Option ME
  | 0, _, _, _ => none
  | n + 1, sc, f, args => if glb sc f && fine f then
      match S.fns.lookup f with
      | some id => if args.all noStar then (cL S N n sc args).map fun m => .call id m else none
      | none => if S.blt.contains f then
          (if f = "isinstance" then (match args with
            | [a, .Name t _] => if glb sc t && fine t && S.blt.contains t && noStar a then (isOf t).bind fun b => (cE S N n sc a).map fun ma => .bi b (.cons ma .nil) else none
            | _ => none)
          else match args with
            | [] => none
            | e :: es => if (e :: es).all noStar then (biOf f (e :: es).length).bind fun b => (cL S N n sc (e :: es)).map fun m => .bi b m else none)
        else none
    else none
def cL (S : Sig) (N : List Str) : Nat → Scope → List Expr → Option ME
  | n + 1, _, [] => some .nil
  | n + 1, sc, e :: es => if noStar e then (cE S N n sc e).bind fun m => (cL S N n sc es).map fun r => .cons m r else none
  | _, _, _ => none
def cA (S : Sig) (N : List Str) : Nat → Scope → List Expr → Option ME
  | n + 1, _, [] => some .nil
  | n + 1, sc, .Starred e _ :: es => (cE S N n sc e).bind fun m => (cA S N n sc es).map fun r => .star m r
  | n + 1, sc, e :: es => if noStar e then (cE S N n sc e).bind fun m => (cA S N n sc es).map fun r => .cons m r else none
  | _, _, _ => none
def cO (S : Sig) (N : List Str) : Nat → Scope → Option Expr → Option ME
  | n + 1, _, none => some .nil
  | n + 1, sc, some e => (cE S N n sc e).map fun m => .cons m .nil
  | _, _, _ => none
/-- what is walked over, for a target -/
def cI (S : Sig) (N : List Str) : Nat → Scope → Expr → Expr → Option ME
  | 0, _, _, _ => none
  | n + 1, sc, tg, .Call (.Name f p) args [] pos =>
      if f = "range" then (if glb sc f && S.blt.contains f then (match args with
        | [a] => if noStar a then (cE S N n sc a).map .rng1 else none
        | [a, b] => if noStar a && noStar b then (cE S N n sc a).bind fun ma => (cE S N n sc b).map fun mb => .rng2 ma mb else none
        | _ => none) else none)
      else if f = "zip" then (if glb sc f && S.blt.contains f && isTupE tg then (match args with
        | [a, b] => if noStar a && noStar b then (cE S N n sc a).bind fun ma => (cE S N n sc b).map fun mb => .zp ma mb else none
        | _ => none) else none)
      else if f = "enumerate" then (if glb sc f && S.blt.contains f && isTupE tg then (match args with
        | [a] => if noStar a then (cE S N n sc a).map .enm else none
        | _ => none) else none)
      else (cE S N n sc (.Call (.Name f p) args [] pos)).map .it
  | n + 1, sc, _, e => if isSetE e then none else (cE S N n sc e).map .it
def cIfs (S : Sig) (N : List Str) : Nat → Scope → List Expr → Option ME
  | n + 1, _, [] => some .nil
  | n + 1, sc, [c] => cT S N n sc c
  | _, _, _ => none
def cComp (S : Sig) (N : List Str) : Nat → Scope → Expr → List Comprehension → Scope → Option ME
  | n + 1, sc, elt, [⟨tg, it, ifs, 0⟩], scope => if blkC N sc scope (ownOf N scope) then
      (cI S N n sc tg it).bind fun mi => (cG N (relS scope sc) (some scope) n tg).bind fun t => (cIfs S N n (relS scope sc) ifs).bind fun mc => (cE S N n (relS scope sc) elt).bind fun me =>
        if inS (slotsT t) ((ownOf N scope).map (·.2)) then some (.comp ((ownOf N scope).map (·.2)) t mi mc me) else none
    else none
  | n + 1, sc, elt, [⟨tg, it, ifs, 0⟩, ⟨tg1, it1, ifs1, 0⟩], scope => if blkC N sc scope (ownOf N scope) then
      (cI S N n sc tg it).bind fun mi => (cG N (relS scope sc) (some scope) n tg).bind fun t => (cIfs S N n (relS scope sc) ifs).bind fun mc =>
      (cI S N n (relS scope sc) tg1 it1).bind fun mi1 => (cG N (relS scope sc) (some scope) n tg1).bind fun t1 => (cIfs S N n (relS scope sc) ifs1).bind fun mc1 => (cE S N n (relS scope sc) elt).bind fun me =>
        if inS (slotsT t) ((ownOf N scope).map (·.2)) && inS (slotsT t1) ((ownOf N scope).map (·.2)) then some (.comp2 ((ownOf N scope).map (·.2)) (slotsT t1) t mi mc t1 mi1 mc1 me) else none
    else none
  | _, _, _, _, _ => none
end

/-! ### the context -/
structure CxG (S : Sig) (F : Fns) (k : Nat) (N : List Str) (pm : Option Scope) (X : Cx) : Prop where
  hK : X.K = EK.k
  hN : X.N = N
  nd : N.Nodup
  calm : X.calm = true
  gd : X.A.guards = some []
  room : Room k X.A
  xe : X.xe = fun _ _ => False
  st : ∀ x, stOk X.env.scope pm x = true → X.fn x = true ∨ X.env.scope.names.lookup x = some .local
  fns : ∀ x id, S.fns.lookup x = some id → ∃ f fd ps, X.mg x = some (.ref f) ∧ PySem.W.keepIn X.K (.ref f) = true ∧ Binds X.K fd ps [] ∧ FnG X.prog X.w X.K X.mg X.base k f fd ps (spF F id)
  cst : ∀ x d, S.cst.lookup x = some d → ∃ v u, X.mg x = some u ∧ RelV v u ∧ ∀ A H, Rel A H v d
  blt : ∀ x, S.blt.contains x = true → X.mg x = none
section
variable {S : Sig} {F : Fns} {k : Nat} {N : List Str} {pm : Option Scope} {X : Cx}
theorem CxG.units (c : CxG S F k N pm X) : X.A.units + 64 < cLine := c.room.units
theorem CxG.units2 (c : CxG S F k N pm X) : X.A.units + 100 < cLine := by have := c.room.un; omega
theorem CxG.blk (c : CxG S F k N pm X) (scope : Scope) (s : Shared) (H : Hp) (C : Addr) (cl : List (Str × Addr)) (fp : List Addr) : CxG S F k N (some scope) (X.blk s H scope (compEnvC scope cl C X.env) fp) := by
  refine ⟨c.hK, c.hN, c.nd, c.calm, c.gd, c.room, rfl, fun x h => ?_, c.fns, c.cst, c.blt⟩
  unfold stOk at h
  split at h
  · rename_i e; exact .inr e
  · exact .inl h
  · cases h
end
end MI

/-! MIC: what is compiled runs alike: expressions. -/
namespace MI
open PySem PySem.Spec PyProof.Rows L2
variable [EK]

section
variable {S : Sig} {F : Fns} {k : Nat} {N : List Str} {pm : Option Scope} {X : Cx}
theorem assign_no {e : Expr} {es : List Expr} {env : Env} (h : noStar e = true) : assignEach (e :: es) env = (false, assign e env) :: assignEach es env := by
  cases e <;> first | rfl | cases h
theorem loc_of {sc : Scope} {x : Str} (h : stOk sc pm x = true) : Loc sc x := by
  unfold stOk at h
  split at h
  · rename_i e; exact .inl e
  · rename_i e; exact .inr e
  · cases h
theorem g_nm (c : CxG S F k N pm X) {x : Str} {i : Nat} {p : Pos} (h : stOk X.env.scope pm x = true) (hi : posOf N x = some i) : PG X (.Name x p) (gName i) :=
  pg_name (by rw [c.hN]; exact c.nd) (by rw [c.hN]; exact posOf_ok hi) (loc_of h) (c.st x h)
mutual
theorem cG_ok (c : CxG S F k N pm X) : ∀ {n : Nat} {e : Expr} {t : MT}, cG N X.env.scope pm n e = some t → PG X e (gM t)
  | 0, e, t, h => by cases e <;> simp [cG] at h
  | n + 1, .Name x p, t, h => by
    simp only [cG] at h
    split at h
    · rename_i hs
      simp only [Option.map_eq_some_iff] at h
      obtain ⟨i, h1, rfl⟩ := h
      exact g_name (g_nm c hs h1)
    · cases h
  | n + 1, .Tuple es q p, t, h => by
    simp only [cG, Option.map_eq_some_iff] at h
    obtain ⟨u, h1, rfl⟩ := h
    obtain ⟨q1, q2, q3⟩ := cGs_ok c h1
    exact g_tup c.calm q1 q2 q3
  | n + 1, .BoolOp .., t, h => by simp [cG] at h
  | n + 1, .NamedExpr .., t, h => by simp [cG] at h
  | n + 1, .BinOp .., t, h => by simp [cG] at h
  | n + 1, .UnaryOp .., t, h => by simp [cG] at h
  | n + 1, .Lambda .., t, h => by simp [cG] at h
  | n + 1, .IfExp .., t, h => by simp [cG] at h
  | n + 1, .Dict .., t, h => by simp [cG] at h
  | n + 1, .Set .., t, h => by simp [cG] at h
  | n + 1, .ListComp .., t, h => by simp [cG] at h
  | n + 1, .SetComp .., t, h => by simp [cG] at h
  | n + 1, .DictComp .., t, h => by simp [cG] at h
  | n + 1, .GeneratorExp .., t, h => by simp [cG] at h
  | n + 1, .Await .., t, h => by simp [cG] at h
  | n + 1, .Yield .., t, h => by simp [cG] at h
  | n + 1, .YieldFrom .., t, h => by simp [cG] at h
  | n + 1, .Compare .., t, h => by simp [cG] at h
  | n + 1, .Call .., t, h => by simp [cG] at h
  | n + 1, .FormattedValue .., t, h => by simp [cG] at h
  | n + 1, .JoinedStr .., t, h => by simp [cG] at h
  | n + 1, .Constant .., t, h => by simp [cG] at h
  | n + 1, .Attribute .., t, h => by simp [cG] at h
  | n + 1, .Subscript .., t, h => by simp [cG] at h
  | n + 1, .Starred .., t, h => by simp [cG] at h
  | n + 1, .List .., t, h => by simp [cG] at h
  | n + 1, .Slice .., t, h => by simp [cG] at h
theorem cGs_ok (c : CxG S F k N pm X) : ∀ {n : Nat} {es : List Expr} {t : MT}, cGs N X.env.scope pm n es = some t → PGs X es (gMs t) ∧ (assignEach es X.env).length = lenT t ∧ (assignEach es X.env).findIdx? (·.1) = none
  | n, [], t, h => by
    have h' : some MT.nil = some t := by cases n <;> simpa [cGs] using h
    cases h'
    exact ⟨gs_nil, rfl, rfl⟩
  | 0, e :: es, t, h => by simp [cGs] at h
  | n + 1, e :: es, t, h => by
    simp only [cGs] at h
    split at h
    · rename_i ns
      simp only [Option.bind_eq_some_iff, Option.map_eq_some_iff] at h
      obtain ⟨t1, h1, u, h2, rfl⟩ := h
      obtain ⟨q1, q2, q3⟩ := cGs_ok c h2
      refine ⟨gs_cons (cG_ok c h1) q1 (by rw [assign_no ns]; rfl), by rw [assign_no ns]; exact congrArg (· + 1) q2, ?_⟩
      rw [assign_no ns, List.findIdx?_cons, q3]
      rfl
    · cases h
end
theorem nmark {b : Expr} (h : isSetE b = false) (op : CmpOp) : behindInMarks op b = false := by
  cases b <;> first | rfl | cases h
theorem noFold {e : Expr} (h : isSetE e = false) (env : Env) (x : Value) : foldedSetIterable e env x = pure x := by
  cases e <;> first | rfl | cases h
theorem plainIx {b : Expr} (h : isSlE b = false) : PlainIx b := by
  intro o i
  cases b <;> first | rfl | cases h
structure Sn (S : Sig) (F : Fns) (k : Nat) (N : List Str) (n : Nat) : Prop where
  e : ∀ {X pm e m}, CxG S F k N pm X → cE S N n X.env.scope e = some m → Eb X F e m
  b : ∀ {X pm op vs m} (pos : Pos), CxG S F k N pm X → cB S N n X.env.scope op vs = some m → PE X (.BoolOp op vs pos) (tE F m)
  t : ∀ {X pm e m}, CxG S F k N pm X → cT S N n X.env.scope e = some m → PT X e (tT F m)
  bt : ∀ {X pm op vs m} (pos : Pos), CxG S F k N pm X → cBT S N n X.env.scope op vs = some m → PW X (.BoolOp op vs pos) (tT F m)
  cmp : ∀ {X pm a ops cs m} (pos : Pos), CxG S F k N pm X → cCmp S N n X.env.scope a ops cs = some m → Eb X F (.Compare a ops cs pos) m ∧ PT X (.Compare a ops cs pos) (tT F (.tst m))
  call : ∀ {X pm f args m} (p pos : Pos), CxG S F k N pm X → cCall S N n X.env.scope f args = some m → Eb X F (.Call (.Name f p) args [] pos) m
  l : ∀ {X pm es m}, CxG S F k N pm X → cL S N n X.env.scope es = some m → PA X es (tL F m) ∧ (es = [] → m = .nil)
  a : ∀ {X pm es m}, CxG S F k N pm X → cA S N n X.env.scope es = some m → PA X es (tA F m)
  o : ∀ {X pm e m}, CxG S F k N pm X → cO S N n X.env.scope e = some m → PO X e (tO F m)
  i : ∀ {X pm tg e m}, CxG S F k N pm X → cI S N n X.env.scope tg e = some m → PI X tg e (tI F m) ∧ isSetE e = false
  ifs : ∀ {X pm es m}, CxG S F k N pm X → cIfs S N n X.env.scope es = some m → PTs X es (tT F m)
  comp : ∀ {X pm elt gens scope m} (pos : Pos), CxG S F k N pm X → cComp S N n X.env.scope elt gens scope = some m → Eb X F (.ListComp elt gens scope pos) m
variable {n : Nat}
theorem sn_l (I : Sn S F k N n) {es : List Expr} {m : ME} (c : CxG S F k N pm X) (h : cL S N (n + 1) X.env.scope es = some m) : PA X es (tL F m) ∧ (es = [] → m = .nil) := by
  cases es with
  | nil =>
    simp only [cL, Option.some.injEq] at h
    subst h
    exact ⟨l_nil, fun _ => rfl⟩
  | cons e es =>
    simp only [cL] at h
    split at h
    · rename_i ns
      simp only [Option.bind_eq_some_iff, Option.map_eq_some_iff] at h
      obtain ⟨m1, h1, r, h2, rfl⟩ := h
      exact ⟨l_cons (I.e c h1) (I.l c h2).1 ns, fun z => nomatch z⟩
    · cases h
theorem sn_a (I : Sn S F k N n) {es : List Expr} {m : ME} (c : CxG S F k N pm X) (h : cA S N (n + 1) X.env.scope es = some m) : PA X es (tA F m) := by
  unfold cA at h
  split at h
  · cases h
    exact a_nil
  · simp only [Option.bind_eq_some_iff, Option.map_eq_some_iff] at h
    rename_i q
    cases q
    obtain ⟨m1, h1, r, h2, rfl⟩ := h
    exact a_star (I.e c h1) (I.a c h2)
  · rename_i q
    cases q
    split at h
    · rename_i ns
      simp only [Option.bind_eq_some_iff, Option.map_eq_some_iff] at h
      obtain ⟨m1, h1, r, h2, rfl⟩ := h
      exact a_cons (I.e c h1) (I.a c h2) ns
    · cases h
  · cases h
theorem sn_o (I : Sn S F k N n) {e : Option Expr} {m : ME} (c : CxG S F k N pm X) (h : cO S N (n + 1) X.env.scope e = some m) : PO X e (tO F m) := by
  cases e with
  | none =>
    simp only [cO, Option.some.injEq] at h
    subst h
    exact o_none
  | some e =>
    simp only [cO, Option.map_eq_some_iff] at h
    obtain ⟨m1, h1, rfl⟩ := h
    exact o_some (I.e c h1)
theorem sn_ifs (I : Sn S F k N n) {es : List Expr} {m : ME} (c : CxG S F k N pm X) (h : cIfs S N (n + 1) X.env.scope es = some m) : PTs X es (tT F m) := by
  match es, h with
  | [], h =>
    simp only [cIfs, Option.some.injEq] at h
    subst h
    exact ⟨fun pins s σ H Q J ⟨A, M, ρ, b, ρ', r, ev, q⟩ => pts_nil.run pins s σ H Q J (by
      cases ev
      exact q H A M (Shr.refl _ _) (Kp.refl _ _) r)⟩
  | [e], h =>
    simp only [cIfs] at h
    exact pts_one (I.t c h)
  | _ :: _ :: _, h => simp [cIfs] at h
theorem sn_b (I : Sn S F k N n) {op : BoolOp} {vs : List Expr} {m : ME} (pos : Pos) (c : CxG S F k N pm X) (h : cB S N (n + 1) X.env.scope op vs = some m) : PE X (.BoolOp op vs pos) (tE F m) := by
  match op, vs, h with
  | _, [], h => simp [cB] at h
  | op, [a], h => exact pe_one (I.e c (by simpa [cB] using h)).ev
  | .And, a :: b :: r, h =>
    simp only [cB, Option.bind_eq_some_iff, Option.map_eq_some_iff] at h
    obtain ⟨ma, h1, mb, h2, rfl⟩ := h
    exact (e_and (I.e c h1) (I.b pos c h2)).ev
  | .Or, a :: b :: r, h =>
    simp only [cB, Option.bind_eq_some_iff, Option.map_eq_some_iff] at h
    obtain ⟨ma, h1, mb, h2, rfl⟩ := h
    exact (e_or (I.e c h1) (I.b pos c h2)).ev
theorem sn_bt (I : Sn S F k N n) {op : BoolOp} {vs : List Expr} {m : ME} (pos : Pos) (c : CxG S F k N pm X) (h : cBT S N (n + 1) X.env.scope op vs = some m) : PW X (.BoolOp op vs pos) (tT F m) := by
  match op, vs, h with
  | _, [], h => simp [cBT] at h
  | .And, [a], h => exact pw_and1 (I.t c (by simpa [cBT] using h))
  | .Or, [a], h => exact pw_or1 (I.t c (by simpa [cBT] using h))
  | .And, a :: b :: r, h =>
    simp only [cBT, Option.bind_eq_some_iff, Option.map_eq_some_iff] at h
    obtain ⟨ma, h1, mb, h2, rfl⟩ := h
    exact w_and (I.t c h1) (I.bt pos c h2)
  | .Or, a :: b :: r, h =>
    simp only [cBT, Option.bind_eq_some_iff, Option.map_eq_some_iff] at h
    obtain ⟨ma, h1, mb, h2, rfl⟩ := h
    exact w_or (I.t c h1) (I.bt pos c h2)
theorem sn_t (I : Sn S F k N n) {e : Expr} {m : ME} (c : CxG S F k N pm X) (h : cT S N (n + 1) X.env.scope e = some m) : PT X e (tT F m) := by
  unfold cT at h
  split at h
  · rename_i e1
    cases e1
  · rename_i e1; cases e1
    simp only [Option.map_eq_some_iff] at h
    obtain ⟨m1, h1, rfl⟩ := h
    exact t_not (I.t c h1)
  · rename_i e1; cases e1
    simp only [Option.bind_eq_some_iff, Option.map_eq_some_iff] at h
    obtain ⟨ma, h1, mb, h2, rfl⟩ := h
    exact (w_and (I.t c h1) (I.bt _ c h2)).pt
  · rename_i e1; cases e1
    simp only [Option.bind_eq_some_iff, Option.map_eq_some_iff] at h
    obtain ⟨ma, h1, mb, h2, rfl⟩ := h
    exact (w_or (I.t c h1) (I.bt _ c h2)).pt
  · rename_i e1; cases e1
    simp only [Option.map_eq_some_iff] at h
    obtain ⟨m1, h1, rfl⟩ := h
    exact (I.cmp _ c h1).2
  · cases ‹n + 1 = _›
    split at h
    · rename_i hp
      simp only [Option.map_eq_some_iff] at h
      obtain ⟨m1, h1, rfl⟩ := h
      exact t_val (I.e c h1) hp
    · cases h
theorem sn_cmp (I : Sn S F k N n) {a : Expr} {ops : List CmpOp} {cs : List Expr} {m : ME} (pos : Pos) (c : CxG S F k N pm X) (h : cCmp S N (n + 1) X.env.scope a ops cs = some m) :
    Eb X F (.Compare a ops cs pos) m ∧ PT X (.Compare a ops cs pos) (tT F (.tst m)) := by
  unfold cCmp at h
  split at h
  · rename_i e1; cases e1
    simp only [Option.map_eq_some_iff] at h
    obtain ⟨m1, h1, rfl⟩ := h
    exact ⟨e_isN (I.e c h1), t_isN (I.e c h1)⟩
  · rename_i e1; cases e1
    simp only [Option.map_eq_some_iff] at h
    obtain ⟨m1, h1, rfl⟩ := h
    exact ⟨e_notN (I.e c h1), t_notN (I.e c h1)⟩
  · rename_i e1; cases e1
    simp only [Option.bind_eq_some_iff] at h
    obtain ⟨o, h0, h⟩ := h
    split at h
    · cases h
    · rename_i hs
      simp only [Option.bind_eq_some_iff, Option.map_eq_some_iff] at h
      obtain ⟨ma, h1, mb, h2, rfl⟩ := h
      rw [cmpOf_ok h0]
      have nm := nmark (by simpa using hs) (copOf o)
      exact ⟨e_cmp c.units (I.e c h1) (I.e c h2) nm, t_cmp c.units (I.e c h1) (I.e c h2) nm⟩
  · rename_i e1; cases e1
    simp only [Option.bind_eq_some_iff] at h
    obtain ⟨o, h0, o', h0', h⟩ := h
    split at h
    · cases h
    · rename_i hs
      simp only [Option.bind_eq_some_iff, Option.map_eq_some_iff] at h
      obtain ⟨ma, h1, mb, h2, mc, h3, rfl⟩ := h
      rw [cmpOf_ok h0, cmpOf_ok h0']
      have nm := nmark (by simpa using hs) (copOf o')
      exact ⟨e_cmp2 c.units (I.e c h1) (I.e c h2) (I.e c h3) nm, t_cmp2 c.units (I.e c h1) (I.e c h2) (I.e c h3) nm⟩
  · cases h
theorem sn_call (I : Sn S F k N n) {f : Str} {args : List Expr} {m : ME} (p pos : Pos) (c : CxG S F k N pm X) (h : cCall S N (n + 1) X.env.scope f args = some m) : Eb X F (.Call (.Name f p) args [] pos) m := by
  simp only [cCall] at h
  split at h
  · rename_i hg
    rw [Bool.and_eq_true] at hg
    have hgl : Gl X f := glb_ok hg.1
    obtain ⟨f1, f2, f3⟩ := fine_ok hg.2
    split at h
    · rename_i id hid
      obtain ⟨fa, fd, ps, g1, g2, g3, g4⟩ := c.fns f id hid
      split at h
      · rename_i ns
        simp only [Option.map_eq_some_iff] at h
        obtain ⟨m1, h1, rfl⟩ := h
        obtain ⟨pa, pn⟩ := I.l c h1
        cases args with
        | nil => rw [pn rfl]; exact e_call0 g4 c.gd c.room hgl g1 g2 g3 f1
        | cons e es => exact e_call g4 c.gd c.room hgl g1 g2 g3 pa f1 ns
      · cases h
    · split at h
      · rename_i hb
        have hm := c.blt f hb
        split at h
        · rename_i hi
          subst hi
          split at h
          · split at h
            · rename_i hc
              simp only [Bool.and_eq_true] at hc
              obtain ⟨⟨⟨c1, c2⟩, c3⟩, c4⟩ := hc
              simp only [Option.bind_eq_some_iff, Option.map_eq_some_iff] at h
              obtain ⟨b, h0, ma, h1, rfl⟩ := h
              obtain ⟨nm, t1, t2⟩ := isOf_ok h0
              obtain ⟨k1, k2, k3⟩ := fine_ok c2
              exact e_is t1 hgl hm (by decide +kernel) (glb_ok c1) (c.blt _ c3) t2 k3 k1 (I.e c h1) c4
            · cases h
          · cases h
        · split at h
          · cases h
          · split at h
            · rename_i ns
              simp only [Option.bind_eq_some_iff, Option.map_eq_some_iff] at h
              obtain ⟨b, h0, m1, h1, rfl⟩ := h
              obtain ⟨t1, t2⟩ := biOf_ok h0
              rcases t2 with ⟨id, t2, t3⟩ | ⟨id, t2, t3⟩
              · exact e_biB c.hK c.calm c.gd c.units2 t1 t2 hgl hm t3 (I.l c h1).1 ns f3 f1
              · exact e_biT c.hK c.calm c.gd c.units2 t1 t2 hgl hm t3 (I.l c h1).1 ns f3 f1
            · cases h
      · cases h
  · cases h
theorem tup_of {e : Expr} (h : isTupE e = true) : ∃ es kk tp, e = .Tuple es kk tp := by
  cases e <;> first | exact ⟨_, _, _, rfl⟩ | cases h
theorem sn_i (I : Sn S F k N n) {tg e : Expr} {m : ME} (c : CxG S F k N pm X) (h : cI S N (n + 1) X.env.scope tg e = some m) : PI X tg e (tI F m) ∧ isSetE e = false := by
  unfold cI at h
  split at h
  · rename_i q; cases q
  · rename_i q; cases q
    refine ⟨?_, rfl⟩
    split at h
    · rename_i hf
      subst hf
      split at h
      · rename_i hg
        rw [Bool.and_eq_true] at hg
        have hgl : Gl X "range" := glb_ok hg.1
        have hm := c.blt _ hg.2
        split at h
        · split at h
          · rename_i ns
            simp only [Option.map_eq_some_iff] at h
            obtain ⟨m1, h1, rfl⟩ := h
            exact i_rng1 hgl hm (I.e c h1) ns
          · cases h
        · split at h
          · rename_i ns
            rw [Bool.and_eq_true] at ns
            simp only [Option.bind_eq_some_iff, Option.map_eq_some_iff] at h
            obtain ⟨ma, h1, mb, h2, rfl⟩ := h
            exact i_rng2 hgl hm (I.e c h1) (I.e c h2) ns.1 ns.2
          · cases h
        · cases h
      · cases h
    · split at h
      · rename_i hf
        subst hf
        split at h
        · rename_i hg
          simp only [Bool.and_eq_true] at hg
          have hgl : Gl X "zip" := glb_ok hg.1.1
          have hm := c.blt _ hg.1.2
          split at h
          · split at h
            · rename_i ns
              rw [Bool.and_eq_true] at ns
              simp only [Option.bind_eq_some_iff, Option.map_eq_some_iff] at h
              obtain ⟨ma, h1, mb, h2, rfl⟩ := h
              obtain ⟨es, kk, tp, rfl⟩ := tup_of hg.2
              exact i_zp hgl hm (I.e c h1) (I.e c h2) ns.1 ns.2
            · cases h
          · cases h
        · cases h
      · split at h
        · rename_i hf
          subst hf
          split at h
          · rename_i hg
            simp only [Bool.and_eq_true] at hg
            have hgl : Gl X "enumerate" := glb_ok hg.1.1
            have hm := c.blt _ hg.1.2
            split at h
            · split at h
              · rename_i ns
                simp only [Option.map_eq_some_iff] at h
                obtain ⟨m1, h1, rfl⟩ := h
                obtain ⟨es, kk, tp, rfl⟩ := tup_of hg.2
                exact i_enm hgl hm (I.e c h1) ns
              · cases h
            · cases h
          · cases h
        · simp only [Option.map_eq_some_iff] at h
          obtain ⟨m1, h1, rfl⟩ := h
          exact i_it (I.e c h1)
  · cases ‹n + 1 = _›
    split at h
    · cases h
    · rename_i hs
      simp only [Option.map_eq_some_iff] at h
      obtain ⟨m1, h1, rfl⟩ := h
      exact ⟨i_it (I.e c h1), by simpa using hs⟩
/-- the parts of a comprehension -/
theorem sn_comp (I : Sn S F k N n) {elt : Expr} {gens : List Comprehension} {scope : Scope} {m : ME} (pos : Pos) (c : CxG S F k N pm X) (h : cComp S N (n + 1) X.env.scope elt gens scope = some m) : Eb X F (.ListComp elt gens scope pos) m := by
  unfold cComp at h
  split at h
  · rename_i q; cases q
    split at h
    · rename_i hb
      simp only [Option.bind_eq_some_iff] at h
      obtain ⟨mi, h1, t, h2, mc, h3, me, h4, h⟩ := h
      split at h
      · rename_i hi
        cases h
        have hN := c.hN
        subst hN
        have hb' := blkOk_by hb
        obtain ⟨pi, ns⟩ := I.i c h1
        exact Eb.of (e_comp c.calm c.nd pi hb' (inS_ok hi) (fun s H C cl fp => cG_ok (c.blk _ s H C cl fp) h2) (fun s H C cl fp => I.ifs (c.blk _ s H C cl fp) h3) (fun s H C cl fp => (I.e (c.blk _ s H C cl fp) h4).ev) (noFold ns _)) fun _ => nofun
      · cases h
    · cases h
  · rename_i q; cases q
    split at h
    · rename_i hb
      simp only [Option.bind_eq_some_iff] at h
      obtain ⟨mi, h1, t, h2, mc, h3, mi1, h5, t1, h6, mc1, h7, me, h4, h⟩ := h
      split at h
      · rename_i hi
        rw [Bool.and_eq_true] at hi
        cases h
        have hN := c.hN
        subst hN
        have hb' := blkOk_by hb
        obtain ⟨pi, ns⟩ := I.i c h1
        have ns1 := fun (s : Shared) (H : Hp) (C : Addr) (cl : List (Str × Addr)) (fp : List Addr) => (I.i (c.blk _ s H C cl fp) h5)
        have ns2 := (ns1 X.s_0 (fun _ => none) 0 [] []).2
        exact Eb.of (e_comp2 c.calm c.nd pi hb' (inS_ok hi.1) (inS_ok hi.2) (fun i z => z) (fun s H C cl fp => cG_ok (c.blk _ s H C cl fp) h2) (fun s H C cl fp => I.ifs (c.blk _ s H C cl fp) h3)
          (fun s H C cl fp => (ns1 s H C cl fp).1) (fun s H C cl fp => cG_ok (c.blk _ s H C cl fp) h6) (fun s H C cl fp => I.ifs (c.blk _ s H C cl fp) h7) (fun s H C cl fp => (I.e (c.blk _ s H C cl fp) h4).ev) (noFold ns _) (fun env x => noFold ns2 env x)) fun _ => nofun
      · cases h
    · cases h
  · cases h
theorem lit_ok {q : Const} {m : ME} {j : Nat} {p : Pos} (h : litOf q = some m) : Eb X F (.Constant q j p) m := by
  cases q <;> cases h
  · exact e_const pe_non fun _ _ => .non
  · exact e_const pe_bl fun _ _ => .bl _
  · exact e_const pe_int fun _ _ => .int _
  · exact e_const pe_str fun _ _ => .str _
theorem sn_e (I : Sn S F k N n) {e : Expr} {m : ME} (c : CxG S F k N pm X) (h : cE S N (n + 1) X.env.scope e = some m) : Eb X F e m := by
  unfold cE at h
  split at h
  · rename_i q; cases q
  · rename_i q; cases q
    exact lit_ok h
  · rename_i q; cases q
    split at h
    · rename_i hf
      obtain ⟨f1, f2, f3⟩ := fine_ok hf
      split at h
      · rename_i hv
        simp only [Option.map_eq_some_iff] at h
        obtain ⟨i, h1, rfl⟩ := h
        exact e_var (pe_var (by rw [c.hN]; exact posOf_ok h1) (vis_ok hv) f1 f2)
      · split at h
        · rename_i hg
          simp only [Option.map_eq_some_iff] at h
          obtain ⟨d, h1, rfl⟩ := h
          obtain ⟨v, u, g1, g2, g3⟩ := c.cst _ d h1
          exact e_const (pe_glob (glb_ok hg) g1 g2 f1) g3
        · cases h
    · cases h
  · rename_i q; cases q
    simp only [Option.bind_eq_some_iff, Option.map_eq_some_iff] at h
    obtain ⟨o, h0, ma, h1, mb, h2, rfl⟩ := h
    rw [bopOf_ok h0]
    exact e_bin (I.e c h1) (I.e c h2)
  · rename_i q; cases q
    simp only [Option.map_eq_some_iff] at h
    obtain ⟨ma, h1, rfl⟩ := h
    exact e_neg (I.e c h1)
  · rename_i q; cases q
    simp only [Option.map_eq_some_iff] at h
    obtain ⟨ma, h1, rfl⟩ := h
    exact e_not (I.e c h1)
  · rename_i q; cases q
    simp only [Option.bind_eq_some_iff, Option.map_eq_some_iff] at h
    obtain ⟨ma, h1, mb, h2, rfl⟩ := h
    exact e_and (I.e c h1) (I.b _ c h2)
  · rename_i q; cases q
    simp only [Option.bind_eq_some_iff, Option.map_eq_some_iff] at h
    obtain ⟨ma, h1, mb, h2, rfl⟩ := h
    exact e_or (I.e c h1) (I.b _ c h2)
  · rename_i q; cases q
    exact (I.cmp _ c h).1
  · rename_i q; cases q
    simp only [Option.bind_eq_some_iff, Option.map_eq_some_iff] at h
    obtain ⟨mc, h1, ma, h2, mb, h3, rfl⟩ := h
    exact e_ite (I.t c h1) (I.e c h2) (I.e c h3)
  · rename_i q; cases q
    exact I.call _ _ c h
  · rename_i q; cases q
    simp only [Option.bind_eq_some_iff, Option.map_eq_some_iff] at h
    obtain ⟨ma, h1, ml, h2, mh, h3, rfl⟩ := h
    exact e_sl c.hK (I.e c h1) (I.o c h2) (I.o c h3)
  · cases ‹n + 1 = _›
    split at h
    · cases h
    · rename_i hs
      simp only [Option.bind_eq_some_iff, Option.map_eq_some_iff] at h
      obtain ⟨ma, h1, mi, h2, rfl⟩ := h
      exact e_idx c.hK (I.e c h1) (I.e c h2) (plainIx (by simpa using hs))
  · rename_i q; cases q
    simp only [Option.map_eq_some_iff] at h
    obtain ⟨ma, h1, rfl⟩ := h
    exact e_tup (I.a c h1)
  · rename_i q; cases q
    simp only [Option.map_eq_some_iff] at h
    obtain ⟨ma, h1, rfl⟩ := h
    exact e_lst (I.a c h1)
  · rename_i q; cases q
    cases h
    exact e_dic
  · rename_i q; cases q
    exact I.comp _ c h
  · cases h
theorem sn_all (S : Sig) (F : Fns) (k : Nat) (N : List Str) : ∀ n, Sn S F k N n
  | 0 => ⟨fun _ h => by simp [cE] at h, fun _ _ h => by simp [cB] at h, fun _ h => by simp [cT] at h, fun _ _ h => by simp [cBT] at h, fun _ _ h => by simp [cCmp] at h, fun _ _ _ h => by simp [cCall] at h, fun _ h => by simp [cL] at h, fun _ h => by simp [cA] at h,
      fun _ h => by simp [cO] at h, fun _ h => by simp [cI] at h, fun _ h => by simp [cIfs] at h, fun _ _ h => by simp [cComp] at h⟩
  | n + 1 =>
    have I := sn_all S F k N n
    ⟨sn_e I, sn_b I, sn_t I, sn_bt I, sn_cmp I, sn_call I, sn_l I, sn_a I, sn_o I, sn_i I, sn_ifs I, sn_comp I⟩
end
end MI

/-! MID: from the model's syntax to the interpreter's: statements, defs, the program. -/
namespace MI
open PySem PySem.Spec PyProof.Rows L2
variable [EK]

def notComp : Expr → Bool
  | .ListComp .. => false
  | .SetComp .. => false
  | .DictComp .. => false
  | _ => true
def blkK (sc : Scope) : ScopeKind := if sc.kind.isAnnotationScope then .function else sc.kind
def swL (sc scope : Scope) (x : Str) (px p : Pos) : Bool :=
  blkK sc == .function && sc.names.lookup x == some .local && px.line == p.line && !(scope.names.any fun (n, k) => n == x && (k == .local || k == .cell))
theorem sw_name {e : Expr} {x : Str} {p : Pos} {l : Nat} {env : Env} (h : notComp e = true) : swapsWith e (some (.Name x p)) l env = pure false := by
  cases e <;> first | rfl | cases h
theorem sw_none {e : Expr} {l : Nat} {env : Env} (h : notComp e = true) : swapsWith e none l env = pure false := by
  cases e <;> first | rfl | cases h
theorem sw_sub {e o i : Expr} {p : Pos} {l : Nat} {env : Env} : swapsWith e (some (.Subscript o i p)) l env = pure false := by
  cases e <;> rfl
theorem sw_tup {e : Expr} {ts : List Expr} {q : Nat} {p : Pos} {l : Nat} {env : Env} : swapsWith e (some (.Tuple ts q p)) l env = pure false := by
  cases e <;> rfl
theorem sw_comp {elt : Expr} {gens : List Comprehension} {scope : Scope} {p px : Pos} {x : Str} {l : Nat} {env : Env} : swapsWith (.ListComp elt gens scope p) (some (.Name x px)) l env = pure (swL env.scope scope x px p) := rfl
theorem st_sub {e o i : Expr} {p : Pos} {env : Env} : swappedStores [.Subscript o i p] e env = pure none := by
  cases e <;> rfl
theorem st_tup {e : Expr} {ts : List Expr} {q : Nat} {p : Pos} {env : Env} (h : isTupE e = false) : swappedStores [.Tuple ts q p] e env = pure none := by
  cases e <;> first | rfl | cases h
/-- how the model stores the parts of one tuple into another -/
inductive Sw where
  | no | yes (names : List Str) | bad
def isStE : Expr → Bool
  | .Starred .. => true
  | _ => false
def swNames (sc : Scope) (ts : List Expr) : List Str := ts.filterMap fun
  | .Name id pos => if sc.names.lookup id == some .local && pos.line == (ts.head?.map (·.pos.line)).getD 0 then some id else none
  | _ => none
def swC (sc : Scope) (ts vs : List Expr) : Sw :=
  if !(ts.length == 2 || ts.length == 3) || vs.length != ts.length || blkK sc != .function then .no
  else if vs.any isStE then .no
  else if (swNames sc ts).length != ts.length || (swNames sc ts).eraseDups.length != (swNames sc ts).length then .no
  else if vs.all (foldedForSure 8) then .no
  else if vs.all (constantsAlone 8) then .bad
  else .yes (swNames sc ts)
theorem swC_eq {ts vs : List Expr} {q q2 : Nat} {p p2 : Pos} {env : Env} (nb : swC env.scope ts vs ≠ .bad) : swappedStores [.Tuple ts q p] (.Tuple vs q2 p2) env = (match swC env.scope ts vs with
    | .yes ns => pure (some ns)
    | _ => pure none) := by
  show (if (!(ts.length == 2 || ts.length == 3) || vs.length != ts.length || blkK env.scope != .function) = true then pure none
    else if vs.any isStE = true then pure none
    else if ((swNames env.scope ts).length != ts.length || (swNames env.scope ts).eraseDups.length != (swNames env.scope ts).length) = true then pure none
    else if vs.all (foldedForSure 8) = true then pure none
    else if vs.all (constantsAlone 8) = true then _ else pure (some (swNames env.scope ts))) = _
  unfold swC at nb ⊢
  by_cases h1 : (!(ts.length == 2 || ts.length == 3) || vs.length != ts.length || blkK env.scope != .function) = true
  · rw [if_pos h1, if_pos h1]
  · rw [if_neg h1] at nb
    rw [if_neg h1, if_neg h1]
    by_cases h2 : vs.any isStE = true
    · rw [if_pos h2, if_pos h2]
    · rw [if_neg h2] at nb
      rw [if_neg h2, if_neg h2]
      by_cases h3 : ((swNames env.scope ts).length != ts.length || (swNames env.scope ts).eraseDups.length != (swNames env.scope ts).length) = true
      · rw [if_pos h3, if_pos h3]
      · rw [if_neg h3] at nb
        rw [if_neg h3, if_neg h3]
        by_cases h4 : vs.all (foldedForSure 8) = true
        · rw [if_pos h4, if_pos h4]
        · rw [if_neg h4] at nb
          rw [if_neg h4, if_neg h4]
          by_cases h5 : vs.all (constantsAlone 8) = true
          · rw [if_pos h5] at nb
            exact absurd rfl nb
          · rw [if_neg h5, if_neg h5]

/-! ### statements -/
def fuel : Nat := 60
def cP (S : Sig) (N : List Str) (sc : Scope) : List Expr → Option ME
  | [] => some .nil
  | e :: es => if noStar e then (cE S N fuel sc e).bind fun m => (cP S N sc es).map fun r => .cons m r else none
def lenE : ME → Nat
  | .cons _ r => lenE r + 1
  | _ => 0
theorem evP_len {F : Fns} : ∀ {m : ME} {ρ : Rho} {ds : List (PyData × Bool)} {ρ' : Rho}, evP F m ρ = some (ds, ρ') → ds.length = lenE m
  | .nil, ρ, ds, ρ', h => by cases h; rfl
  | .cons a r, ρ, ds, ρ', h => by
    simp only [evP, Option.bind_eq_some_iff, Option.map_eq_some_iff] at h
    obtain ⟨⟨d, fr, ρ1⟩, h1, ⟨ds1, ρ2⟩, h2, h3⟩ := h
    cases h3
    exact congrArg (· + 1) (evP_len h2)
  | .lit _, _, _, _, h => by simp [evP] at h
  | .var _, _, _, _, h => by simp [evP] at h
  | .bin _ _ _, _, _, _, h => by simp [evP] at h
  | .neg _, _, _, _, h => by simp [evP] at h
  | .not _, _, _, _, h => by simp [evP] at h
  | .and _ _, _, _, _, h => by simp [evP] at h
  | .or _ _, _, _, _, h => by simp [evP] at h
  | .cmp _ _ _, _, _, _, h => by simp [evP] at h
  | .cmp2 _ _ _ _ _, _, _, _, h => by simp [evP] at h
  | .isN _, _, _, _, h => by simp [evP] at h
  | .notN _, _, _, _, h => by simp [evP] at h
  | .ite _ _ _, _, _, _, h => by simp [evP] at h
  | .call _ _, _, _, _, h => by simp [evP] at h
  | .bi _ _, _, _, _, h => by simp [evP] at h
  | .idx _ _, _, _, _, h => by simp [evP] at h
  | .sl _ _ _, _, _, _, h => by simp [evP] at h
  | .tup _, _, _, _, h => by simp [evP] at h
  | .lst _, _, _, _, h => by simp [evP] at h
  | .dic, _, _, _, h => by simp [evP] at h
  | .comp _ _ _ _ _, _, _, _, h => by simp [evP] at h
  | .comp2 _ _ _ _ _ _ _ _ _, _, _, _, h => by simp [evP] at h
  | .rng1 _, _, _, _, h => by simp [evP] at h
  | .rng2 _ _, _, _, _, h => by simp [evP] at h
  | .rng3 _ _ _, _, _, _, h => by simp [evP] at h
  | .enm _, _, _, _, h => by simp [evP] at h
  | .zp _ _, _, _, _, h => by simp [evP] at h
  | .it _, _, _, _, h => by simp [evP] at h
  | .tst _, _, _, _, h => by simp [evP] at h
  | .star _ _, _, _, _, h => by simp [evP] at h
/-- targets of a written tuple -/
def cGP (N : List Str) (sc : Scope) : List Expr → Option MT
  | [] => some .nil
  | .Name x _ :: es => if stOk sc none x then (posOf N x).bind fun i => (cGP N sc es).map fun u => .cons (.nm i) u else none
  | .Tuple ts _ _ :: es => (cGs N sc none fuel ts).bind fun t => (cGP N sc es).map fun u => .cons (.tp t) u
  | _ => none
def cAsg (S : Sig) (N : List Str) (sc : Scope) : Expr → Expr → Option MS
  | .Name x px, .ListComp elt gens scope p => if stOk sc none x then (posOf N x).bind fun i => (cComp S N fuel sc elt gens scope).map fun m => .asg (.nm i) m else none
  | .Name x px, e => if notComp e && stOk sc none x then (posOf N x).bind fun i => (cE S N fuel sc e).map fun m => .asg (.nm i) m else none
  | .Tuple ts _ _, .Tuple vs _ _ => match swC sc ts vs with
    | .bad => none
    | .yes _ => (match ts with
      | [.Name x _, .Name y _] => (posOf N x).bind fun i => (posOf N y).bind fun j => if i = j then none else if sc.names.lookup x == some .local && sc.names.lookup y == some .local then (match vs with
        | [a, b] => (cP S N sc [a, b]).map fun m => .par (nmT [i, j]) m
        | _ => none) else none
      | [.Name x _, .Name y _, .Name z _] => (posOf N x).bind fun i => (posOf N y).bind fun j => (posOf N z).bind fun l => if i = j ∨ i = l ∨ j = l then none else if sc.names.lookup x == some .local && sc.names.lookup y == some .local && sc.names.lookup z == some .local then (match vs with
        | [a, b, c] => (cP S N sc [a, b, c]).map fun m => .par (nmT [i, j, l]) m
        | _ => none) else none
      | _ => none)
    | .no => (cGP N sc ts).bind fun t => (cP S N sc vs).bind fun m => if lenE m ≤ 1000 then some (.par t m) else none
  | .Tuple ts _ _, e => if isTupE e then none else (cGs N sc none fuel ts).bind fun t => (cE S N fuel sc e).map fun m => .asg (.tp t) m
  | .Subscript (.Name x _) k _, e => if fine x && vis sc x && !(isSlE k) then (posOf N x).bind fun i => (cE S N fuel sc k).bind fun mk => (cE S N fuel sc e).map fun m => .put i mk m else none
  | _, _ => none
def cMeth (S : Sig) (N : List Str) (sc : Scope) (x f : Str) (e : Expr) (ap cp : Pos) : Option MS :=
  if fine x && vis sc x && noStar e && ap.endLine == cp.line then (posOf N x).bind fun i => (cE S N fuel sc e).bind fun m =>
      if f = "append" then some (.app i m) else if f = "extend" then some (.ext i m) else none
    else none
mutual
def cS (S : Sig) (N : List Str) (sc : Scope) : Nat → Stmt → MS
  | n + 1, .Pass _ => .skip
  | n + 1, .Break _ => .brk
  | n + 1, .Continue _ => .cont
  | n + 1, .Return none _ => .ret (.lit .none)
  | n + 1, .Return (some e) _ => ((cE S N fuel sc e).map .ret).getD .stuck
  | n + 1, .If c a b _ => ((cT S N fuel sc c).map fun mc => .ite mc (cSs S N sc n a) (cSs S N sc n b)).getD .stuck
  | n + 1, .For tg it body [] _ => ((cI S N fuel sc tg it).bind fun mi => (cG N sc none fuel tg).map fun t => .loop t mi (cSs S N sc n body)).getD .stuck
  | n + 1, .While c body [] _ => ((cT S N fuel sc c).map fun mc => .while mc (cSs S N sc n body)).getD .stuck
  | n + 1, .Assign [tg] e _ => (cAsg S N sc tg e).getD .stuck
  | n + 1, .Expr (.Call (.Attribute (.Name x _) f ap) [e] [] cp) _ => (cMeth S N sc x f e ap cp).getD .stuck
  | n + 1, .Expr e _ => if notComp e then ((cE S N fuel sc e).map .expr).getD .stuck else .stuck
  | _, _ => .stuck
def cSs (S : Sig) (N : List Str) (sc : Scope) : Nat → List Stmt → MS
  | _, [] => .skip
  | n + 1, [s] => cS S N sc n s
  | n + 1, s :: r => .seq (cS S N sc n s) (cSs S N sc n r)
  | _, _ => .stuck
end
section
variable {S : Sig} {F : Fns} {k W : Nat} {N : List Str} {X : Cx}
theorem cP_ok (c : CxG S F k N none X) : ∀ {es : List Expr} {m : ME}, cP S N X.env.scope es = some m → PA X es (tP F m)
  | [], m, h => by
    simp only [cP, Option.some.injEq] at h
    subst h
    exact p_nil
  | e :: es, m, h => by
    simp only [cP] at h
    split at h
    · rename_i ns
      simp only [Option.bind_eq_some_iff, Option.map_eq_some_iff] at h
      obtain ⟨m1, h1, r, h2, rfl⟩ := h
      exact p_cons ((sn_all S F k N fuel).e c h1) (cP_ok c h2) ns
    · cases h
theorem cGP_ok (c : CxG S F k N none X) : ∀ {es : List Expr} {t : MT}, cGP N X.env.scope es = some t → PGs X es (gPs t) ∧ (assignEach es X.env).length = lenT t ∧ (assignEach es X.env).findIdx? (·.1) = none := by
  intro es t h
  induction es generalizing t with
  | nil =>
    simp only [cGP, Option.some.injEq] at h
    subst h
    exact ⟨gp_nil, rfl, rfl⟩
  | cons e es ih =>
    have tail : ∀ {u : MT} {t' : MT}, noStar e = true → cGP N X.env.scope es = some u → (∀ q : PGs X es (gPs u), PGs X (e :: es) (gPs t')) → lenT t' = lenT u + 1 → PGs X (e :: es) (gPs t') ∧ (assignEach (e :: es) X.env).length = lenT t' ∧ (assignEach (e :: es) X.env).findIdx? (·.1) = none := fun {u t'} ns hu f hl => by
      obtain ⟨q1, q2, q3⟩ := ih hu
      refine ⟨f q1, ?_, ?_⟩
      · rw [assign_no ns, List.length_cons, q2, hl]
      · rw [assign_no ns, List.findIdx?_cons, q3]
        rfl
    unfold cGP at h
    split at h
    · rename_i q; cases q
    · rename_i q; cases q
      split at h
      · rename_i hs
        simp only [Option.bind_eq_some_iff, Option.map_eq_some_iff] at h
        obtain ⟨i, h1, u, h2, rfl⟩ := h
        exact tail rfl h2 (fun q => gp_name (g_nm c hs h1) q rfl) rfl
      · cases h
    · rename_i q; cases q
      simp only [Option.bind_eq_some_iff, Option.map_eq_some_iff] at h
      obtain ⟨t1, h1, u, h2, rfl⟩ := h
      obtain ⟨q1, q2, q3⟩ := cGs_ok c h1
      exact tail rfl h2 (fun q => gp_tup (g_tup c.calm q1 q2 q3) q rfl) rfl
    · cases h
theorem lk {sc : Scope} {x : Str} (h : (sc.names.lookup x == some .local) = true) : sc.names.lookup x = some .local := by simpa using h
theorem swL_loc {sc scope : Scope} {x : Str} {px p : Pos} (h : swL sc scope x px p = true) : sc.names.lookup x = some .local := by
  unfold swL at h
  simp only [Bool.and_eq_true] at h
  exact lk h.1.1.2
theorem setComp (c : CxG S F k N none X) {elt : Expr} {gens : List Comprehension} {scope : Scope} {m : ME} {x : Str} {px p pos : Pos} {i : Nat} (hs : stOk X.env.scope none x = true) (hi : posOf N x = some i) (h : cComp S N fuel X.env.scope elt gens scope = some m) :
    PS X (.Assign [.Name x px] (.ListComp elt gens scope p) pos) (tAsg (tE F m) (gName i)) := by
  have hN := c.hN
  subst hN
  cases hsw : swL X.env.scope scope x px p with
  | false =>
    have e : swapsWith (.ListComp elt gens scope p) (some (.Name x px)) pos.line X.env = pure false := by rw [sw_comp, hsw]
    exact ps_set c.nd (posOf_ok hi) (loc_of hs) ((sn_all S F k X.N fuel).comp p c h).ev e (c.st x hs)
  | true =>
    have e : swapsWith (.ListComp elt gens scope p) (some (.Name x px)) pos.line X.env = pure true := by rw [sw_comp, hsw]
    have I := sn_all S F k X.N 59
    have hl := swL_loc hsw
    unfold fuel cComp at h
    split at h
    · rename_i q; cases q
      split at h
      · rename_i hb
        simp only [Option.bind_eq_some_iff] at h
        obtain ⟨mi, h1, t, h2, mc, h3, me, h4, h⟩ := h
        split at h
        · rename_i hin
          cases h
          obtain ⟨pi, ns⟩ := I.i c h1
          exact (ps_setLc c.calm c.nd (posOf_ok hi) hl e pi (blkOk_by hb) (fun s H C cl fp => cG_ok (c.blk _ s H C cl fp) h2) (fun s H C cl fp => I.ifs (c.blk _ s H C cl fp) h3) (fun s H C cl fp => (I.e (c.blk _ s H C cl fp) h4).ev) (noFold ns _)).imp
            fun D σ H q => e_comp.comp_read (inS_ok hin) q
        · cases h
      · cases h
    · rename_i q; cases q
      split at h
      · rename_i hb
        simp only [Option.bind_eq_some_iff] at h
        obtain ⟨mi, h1, t, h2, mc, h3, mi1, h5, t1, h6, mc1, h7, me, h4, h⟩ := h
        split at h
        · rename_i hin
          rw [Bool.and_eq_true] at hin
          cases h
          obtain ⟨pi, ns⟩ := I.i c h1
          have ns1 := fun (s : Shared) (H : Hp) (C : Addr) (cl : List (Str × Addr)) (fp : List Addr) => (I.i (c.blk _ s H C cl fp) h5)
          have ns2 := (ns1 X.s_0 (fun _ => none) 0 [] []).2
          exact (ps_setLc2 c.calm c.nd (posOf_ok hi) hl e pi (blkOk_by hb) (inS_ok hin.2) (fun s H C cl fp => cG_ok (c.blk _ s H C cl fp) h2) (fun s H C cl fp => I.ifs (c.blk _ s H C cl fp) h3) (fun s H C cl fp => (ns1 s H C cl fp).1)
            (fun s H C cl fp => cG_ok (c.blk _ s H C cl fp) h6) (fun s H C cl fp => I.ifs (c.blk _ s H C cl fp) h7) (fun s H C cl fp => (I.e (c.blk _ s H C cl fp) h4).ev) (noFold ns _) (fun env x => noFold ns2 env x)).imp
            fun D σ H q => e_comp2.comp2_read (inS_ok hin.1) (inS_ok hin.2) (fun i z => z) q
        · cases h
      · cases h
    · cases h
theorem sole {t e : Expr} {l : Nat} {env : Env} : swapsWithSole [t] e l env = swapsWith e (some t) l env := rfl
theorem sw_yes {ts vs : List Expr} {q q2 : Nat} {p p2 : Pos} {ns : List Str} {env : Env} (h : swC env.scope ts vs = .yes ns) : swappedStores [.Tuple ts q p] (.Tuple vs q2 p2) env = pure (some ns) :=
  (swC_eq (by rw [h]; exact fun z => nomatch z)).trans (by rw [h])
theorem sw_no {ts vs : List Expr} {q q2 : Nat} {p p2 : Pos} {env : Env} (h : swC env.scope ts vs = .no) : swappedStores [.Tuple ts q p] (.Tuple vs q2 p2) env = pure none :=
  (swC_eq (by rw [h]; exact fun z => nomatch z)).trans (by rw [h])
theorem sw_ns {sc : Scope} {ts vs : List Expr} {ns : List Str} (h : swC sc ts vs = .yes ns) : ns = swNames sc ts ∧ ns.length = ts.length := by
  unfold swC at h
  split at h
  · cases h
  · split at h
    · cases h
    · split at h
      · cases h
      · rename_i h3
        split at h
        · cases h
        · split at h
          · cases h
          · cases h
            simp only [Bool.or_eq_true, not_or, bne_iff_ne, ne_eq, Decidable.not_not] at h3
            exact ⟨rfl, h3.1⟩
theorem names_len2 {sc : Scope} {x y : Str} {px py : Pos} {ns : List Str} (e : ns = swNames sc [.Name x px, .Name y py]) (l : ns.length = 2) : ns = [x, y] := by
  subst e
  unfold swNames at l ⊢
  simp only [List.filterMap_cons, List.filterMap_nil] at l ⊢
  split at l <;> split at l <;> simp_all
theorem names_len3 {sc : Scope} {x y z : Str} {px py pz : Pos} {ns : List Str} (e : ns = swNames sc [.Name x px, .Name y py, .Name z pz]) (l : ns.length = 3) : ns = [x, y, z] := by
  subst e
  unfold swNames at l ⊢
  simp only [List.filterMap_cons, List.filterMap_nil] at l ⊢
  split at l <;> split at l <;> split at l <;> simp_all
theorem asg_sub {x : Str} {px sp : Pos} {b : Expr} {env : Env} (h : isSlE b = false) (v : Value) : assign (.Subscript (.Name x px) b sp) env v = (do
      let ov ← holding [v] (eval (.Name x px) env)
      let iv ← holding [v, ov] (eval b env)
      standAt sp
      holding [v, ov, iv] (setItem ov iv v)
      release [v, ov, iv] []) := by
  cases b <;> first | rfl | cases h
theorem cAsg_ok (c : CxG S F k N none X) {tg e : Expr} {m : MS} {pos : Pos} (h : cAsg S N X.env.scope tg e = some m) : PS X (.Assign [tg] e pos) (tS F W m) := by
  have I := sn_all S F k N fuel
  unfold cAsg at h
  split at h
  · split at h
    · rename_i hs
      simp only [Option.bind_eq_some_iff, Option.map_eq_some_iff] at h
      obtain ⟨i, h1, m1, h2, rfl⟩ := h
      exact s_asgN (setComp c hs h1 h2)
    · cases h
  · split at h
    · rename_i hs
      rw [Bool.and_eq_true] at hs
      simp only [Option.bind_eq_some_iff, Option.map_eq_some_iff] at h
      obtain ⟨i, h1, m1, h2, rfl⟩ := h
      exact s_asgN (ps_set (by rw [c.hN]; exact c.nd) (by rw [c.hN]; exact posOf_ok h1) (loc_of hs.2) (I.e c h2).ev (sw_name hs.1) (c.st _ hs.2))
    · cases h
  · split at h
    · cases h
    · rename_i hsw
      obtain ⟨n1, n2⟩ := sw_ns hsw
      split at h
      · simp only [Option.bind_eq_some_iff] at h
        obtain ⟨i, h1, j, h2, h⟩ := h
        split at h
        · cases h
        · rename_i hij
          split at h
          · rename_i hl
            rw [Bool.and_eq_true] at hl
            split at h
            · simp only [Option.map_eq_some_iff] at h
              obtain ⟨m1, h3, rfl⟩ := h
              have n3 := names_len2 n1 n2
              subst n3
              exact s_par2 (ps_par c.calm (by rw [c.hN]; exact c.nd) (by rw [c.hN]; exact posOf_ok h1) (by rw [c.hN]; exact posOf_ok h2) hij (lk hl.1) (lk hl.2) (cP_ok c h3) (sw_yes hsw) (sole.trans sw_tup))
            · cases h
          · cases h
      · simp only [Option.bind_eq_some_iff] at h
        obtain ⟨i, h1, j, h2, l, h0, h⟩ := h
        split at h
        · cases h
        · rename_i hij
          simp only [not_or] at hij
          split at h
          · rename_i hl
            simp only [Bool.and_eq_true] at hl
            split at h
            · simp only [Option.map_eq_some_iff] at h
              obtain ⟨m1, h3, rfl⟩ := h
              have n3 := names_len3 n1 n2
              subst n3
              exact s_par3 (ps_par3 c.calm (by rw [c.hN]; exact c.nd) (by rw [c.hN]; exact posOf_ok h1) (by rw [c.hN]; exact posOf_ok h2) (by rw [c.hN]; exact posOf_ok h0) hij.1 hij.2.1 hij.2.2 (lk hl.1.1) (lk hl.1.2) (lk hl.2) (cP_ok c h3) (sw_yes hsw) (sole.trans sw_tup))
            · cases h
          · cases h
      · cases h
    · rename_i hsw
      simp only [Option.bind_eq_some_iff] at h
      obtain ⟨t, h1, m1, h2, h⟩ := h
      split at h
      · rename_i hle
        cases h
        obtain ⟨q1, q2, q3⟩ := cGP_ok c h1
        exact s_parG c.calm (cP_ok c h2) q1 q2 q3 (sole.trans sw_tup) (sw_no hsw) fun ρ ds ρ' hh => by rw [evP_len hh]; exact Nat.le_trans hle (by decide)
      · cases h
  · split at h
    · cases h
    · rename_i ht
      simp only [Option.bind_eq_some_iff, Option.map_eq_some_iff] at h
      obtain ⟨t, h1, m1, h2, rfl⟩ := h
      obtain ⟨q1, q2, q3⟩ := cGs_ok c h1
      exact s_asgT (ps_asg (I.e c h2).ev (g_tup c.calm q1 q2 q3) (sole.trans sw_tup) (st_tup (by simpa using ht)))
  · split at h
    · rename_i hc
      simp only [Bool.and_eq_true, Bool.not_eq_true'] at hc
      simp only [Option.bind_eq_some_iff, Option.map_eq_some_iff] at h
      obtain ⟨i, h1, mk, h2, m1, h3, rfl⟩ := h
      obtain ⟨f1, f2, f3⟩ := fine_ok hc.1.1
      exact s_put (by have := c.units; omega) (pe_var (by rw [c.hN]; exact posOf_ok h1) (vis_ok hc.1.2) f1 f2) (I.e c h2) (I.e c h3) sw_sub st_sub (asg_sub hc.2)
    · cases h
  · cases h
theorem cMeth_ok (c : CxG S F k N none X) {x f : Str} {e : Expr} {ap cp px pos : Pos} {m : MS} (h : cMeth S N X.env.scope x f e ap cp = some m) : PS X (.Expr (.Call (.Attribute (.Name x px) f ap) [e] [] cp) pos) (tS F W m) := by
  have I := sn_all S F k N fuel
  unfold cMeth at h
  split at h
  · rename_i hc
    simp only [Bool.and_eq_true] at hc
    obtain ⟨⟨⟨c1, c2⟩, c3⟩, c4⟩ := hc
    obtain ⟨f1, f2, f3⟩ := fine_ok c1
    simp only [Option.bind_eq_some_iff] at h
    obtain ⟨i, h1, m1, h2, h⟩ := h
    have pv : PE X (.Name x px) (tVar i) := pe_var (by rw [c.hN]; exact posOf_ok h1) (vis_ok c2) f1 f2
    split at h
    · rename_i hf
      subst hf
      cases h
      exact s_app pv (I.e c h2) c3 c4
    · split at h
      · rename_i hf
        subst hf
        cases h
        exact s_ext pv (I.e c h2) c3 c4
      · cases h
  · cases h
theorem getD_ok {o : Option MS} {st : Stmt} (h : ∀ m, o = some m → PS X st (tS F W m)) : PS X st (tS F W (o.getD .stuck)) := by
  cases o with
  | none => exact s_stuck
  | some m => exact h m rfl
mutual
theorem cS_ok (c : CxG S F k N none X) (hp : PassesOwn (model X.prog X.w) X.A X.env X.xe) : ∀ (n : Nat) (st : Stmt), PS X st (tS F W (cS S N X.env.scope n st))
  | 0, st => by
    have e : cS S N X.env.scope 0 st = .stuck := by cases st <;> rfl
    rw [e]
    exact s_stuck
  | n + 1, st => by
    have I := sn_all S F k N fuel
    unfold cS
    split
    · exact s_pass
    · exact s_break
    · exact s_continue
    · exact s_retN
    · refine getD_ok fun m h => ?_
      simp only [Option.map_eq_some_iff] at h
      obtain ⟨m1, h1, rfl⟩ := h
      exact s_ret (I.e c h1)
    · refine getD_ok fun m h => ?_
      simp only [Option.map_eq_some_iff] at h
      obtain ⟨m1, h1, rfl⟩ := h
      exact s_ite (I.t c h1) (cSs_ok c hp _ _) (cSs_ok c hp _ _)
    · refine getD_ok fun m h => ?_
      simp only [Option.bind_eq_some_iff, Option.map_eq_some_iff] at h
      obtain ⟨m1, h1, t, h2, rfl⟩ := h
      obtain ⟨pi, ns⟩ := I.i c h1
      exact s_loop hp c.calm pi (cG_ok c h2) (cSs_ok c hp _ _) (noFold ns _)
    · refine getD_ok fun m h => ?_
      simp only [Option.map_eq_some_iff] at h
      obtain ⟨m1, h1, rfl⟩ := h
      exact s_while hp (I.t c h1) (cSs_ok c hp _ _)
    · exact getD_ok fun m h => cAsg_ok c h
    · exact getD_ok fun m h => cMeth_ok c h
    · split
      · rename_i hn
        refine getD_ok fun m h => ?_
        simp only [Option.map_eq_some_iff] at h
        obtain ⟨m1, h1, rfl⟩ := h
        exact s_expr (I.e c h1) (sw_none hn)
      · exact s_stuck
    · exact s_stuck
theorem cSs_ok (c : CxG S F k N none X) (hp : PassesOwn (model X.prog X.w) X.A X.env X.xe) : ∀ (n : Nat) (sts : List Stmt), PSs X sts (tS F W (cSs S N X.env.scope n sts))
  | n, [] => by
    have e : cSs S N X.env.scope n [] = .skip := by cases n <;> rfl
    rw [e]
    exact ss_nil
  | 0, s :: r => by
    have e : cSs S N X.env.scope 0 (s :: r) = .stuck := by cases r <;> rfl
    rw [e]
    exact pss_never.imp fun D σ H ⟨A, M, ρ, o, _, ev, _⟩ => by cases ev
  | n + 1, [s] => by
    have e : cSs S N X.env.scope (n + 1) [s] = cS S N X.env.scope n s := rfl
    rw [e]
    exact ss_one (cS_ok c hp n s)
  | n + 1, s :: s' :: r => by
    have e : cSs S N X.env.scope (n + 1) (s :: s' :: r) = .seq (cS S N X.env.scope n s) (cSs S N X.env.scope n (s' :: r)) := rfl
    rw [e]
    exact ss_cons (cS_ok c hp n s) (cSs_ok c hp n (s' :: r))
end
end
end MI

/-! MIE: a whole program. -/
namespace MI
open PySem PySem.Spec PyProof.Rows L2

/-- a def of the program: its name, its number, its statement, its names by slot, its parameters -/
structure Ent where
  name : Str
  id : Nat
  st : Stmt
  N : List Str
  ps : List Str
def Ent.fn (S : Sig) (e : Ent) : Fn := ⟨e.ps.length, e.N.length, cSs S e.N (defScope e.st) 400 (defBody e.st)⟩
structure EntAt (K : PySem.W.Frag) (mg : Str → Option Value) (e : Ent) (f : Addr) (fd : FuncData) : Prop where
  fn : L2.Fun K e.name e.name e.st f fd
  at_ : mg e.name = some (.ref f)
  bind : ∀ us : List Value, us.length = e.ps.length → bindArgs fd ⟨us, []⟩ = pure (e.ps.zip us)
  sc : FnScope e.N e.ps (defScope e.st)
def EntOk (K : PySem.W.Frag) (mg : Str → Option Value) (e : Ent) : Prop := ∃ f fd, EntAt K mg e f fd
def CstOk (mg : Str → Option Value) : Str × PyData → Prop
  | (x, .int i) => ∃ t, mg x = some (.int i t)
  | (x, .str z) => ∃ t, mg x = some (.str z t)
  | _ => False
theorem lookup_mem {α : Type} : ∀ {l : List (Str × α)} {x : Str} {a : α}, l.lookup x = some a → (x, a) ∈ l
  | [], _, _, h => by cases h
  | (y, b) :: r, x, a, h => by
    rw [List.lookup_cons] at h
    split at h
    · rename_i e
      cases h
      rw [beq_iff_eq.mp e]
      exact List.mem_cons_self
    · exact List.mem_cons_of_mem _ (lookup_mem h)
section
variable {P : Program} {w : World} {mg : Str → Option Value} {base : Heap}
theorem prog_ok [EK] {S : Sig} {tab : List Ent} {T : Nat → Option Fn} {W : Nat} (hS : S.fns = tab.map fun e => (e.name, e.id)) (hT : ∀ e ∈ tab, T e.id = some (e.fn S)) (hE : ∀ e ∈ tab, EntOk EK.k mg e) (hC : ∀ p ∈ S.cst, CstOk mg p) (hB : ∀ x, S.blt.contains x = true → mg x = none) :
    ∀ (k : Nat), ∀ e ∈ tab, ∀ f fd, EntAt EK.k mg e f fd → FnG P w EK.k mg base k f fd e.ps (spF (evF T W k) e.id)
  | 0, e, he, f, fd, U => ⟨fun vs H Q ⟨_, _, _, _, _, _, _, z, _⟩ => (nomatch z), fun A outer s H args us vs Q _ _ _ _ _ ⟨_, _, _, _, _, _, _, z, _⟩ => (nomatch z)⟩
  | k + 1, e, he, f, fd, U => by
    have ih := prog_ok (W := W) hS hT hE hC hB k
    have sc := U.sc
    refine fn_g (F := evF T W k) (W := W) (fn := e.fn S) U.fn sc rfl rfl (fun as => ?_) fun cdv A outer s H hg hr => ?_
    · show (T e.id).bind _ = _
      rw [hT e he]
      rfl
    · have c : CxG S (evF T W k) k e.N none (cxOf CX0 P w EK.k mg base e.N e.name (defScope e.st) f cdv A outer s H E0).nox :=
        { hK := rfl, hN := rfl, nd := sc.nd, calm := rfl, gd := hg, room := hr, xe := rfl, st := fun x _ => .inl rfl, blt := hB
          fns := fun x id hx => by
            have hm := lookup_mem hx
            rw [hS, List.mem_map] at hm
            obtain ⟨e', he', q⟩ := hm
            cases q
            obtain ⟨f', fd', U'⟩ := hE e' he'
            exact ⟨f', fd', e'.ps, U'.at_, U'.fn.kp, Binds.all U'.bind, ih e' he' f' fd' U'⟩
          cst := fun x d hx => by
            have q := hC _ (lookup_mem hx)
            unfold CstOk at q
            split at q
            · rename_i e1; cases e1
              obtain ⟨t, q⟩ := q
              exact ⟨.int _, _, q, ⟨t, rfl⟩, fun _ _ => .int _⟩
            · rename_i e1; cases e1
              obtain ⟨t, q⟩ := q
              exact ⟨.str _, _, q, ⟨t, rfl⟩, fun _ _ => .str _⟩
            · exact q.elim }
      exact cSs_ok c PassesOwn.never 400 (defBody e.st)
/-- what the top has left of a def -/
theorem ent_ok {K : PySem.W.Frag} {h : Heap} {e : Ent} (X : K.In h) (G : h.Ns mainGlobals mg) {f : Addr} {oc kV doc pm cdv ct : Value} {od an : Option Addr} {osl : Array (Option Value)}
    (a : PySem.W.nsIn K mainGlobals e.name = some (some (.ref f))) (l : K.lookup f = some ⟨oc, od, .func (PySem.W.fnOf e.name e.name (defArgs e.st) (defBody e.st) (defScope e.st) .none kV doc pm an cdv ct), osl⟩) (cd : PySem.W.codeIn K cdv e.name = true) (kp : PySem.W.keepIn K (.ref f) = true)
    (hb : ∀ us : List Value, us.length = e.ps.length → bindArgs (PySem.W.fnOf e.name e.name (defArgs e.st) (defBody e.st) (defScope e.st) .none kV doc pm an cdv ct) ⟨us, []⟩ = pure (e.ps.zip us)) (sc : FnScope e.N e.ps (defScope e.st)) : EntOk K mg e :=
  ⟨f, _, fun_mk (st := e.st) l cd kp, PySem.W.mg_of X G a, hb, sc⟩
/-- the law's def -/
theorem law_ok {K : PySem.W.Frag} {S : Sig} {tab : List Ent} {T : Nat → Option Fn} {W k : Nat} {e : Ent} {fa : Addr} {x : Str} (he : e ∈ tab) (hx : e.ps = [x]) (hfa : mg e.name = some (.ref fa)) (hS : S.fns = tab.map fun e => (e.name, e.id)) (hT : ∀ e ∈ tab, T e.id = some (e.fn S))
    (hE : ∀ e ∈ tab, EntOk K mg e) (hC : ∀ p ∈ S.cst, CstOk mg p) (hB : ∀ x, S.blt.contains x = true → mg x = none) :
    ∃ fd : FuncData, (∀ (s : Shared) (u : Value), BindsTo s fd ⟨[u], []⟩ [(x, u)]) ∧ ∀ base : Heap, K.In base → base.Ns mainGlobals mg → FnG P w K mg base k fa fd [x] (@spF ⟨K⟩ (evF T W k) e.id) := by
  obtain ⟨f, fd, U⟩ := hE e he
  have z := U.at_
  rw [hfa] at z
  cases z
  refine ⟨fd, fun s u => .of_eq ?_, fun base _ _ => ?_⟩
  · have q := U.bind [u] (by rw [hx]; rfl)
    rw [hx] at q
    exact q
  · have q := @prog_ok P w mg base ⟨K⟩ S tab T W hS hT hE hC hB k e he fa fd U
    rw [hx] at q
    exact q
/-- from the interpreter's answer to the row -/
theorem walk_g {l : PySem.W.OpenLaw} {n k id : Nat} {q : Program} {loose : List Str} {XP : (Str → Option Value) → Heap → Prop} {YP : World → Heap → Prop} {d : DefRec} {KK : Params → PySem.W.Frag} {x : Str} {F : Fns}
    (hn : l.most = some n) (hn2 : n ≤ sizeLine) (hdf : d.params.defaults = []) (room : Room k callerA) (hY : ∀ (w : World) (h : Heap), YP w h → (KK w.params).In h)
    (hG : ∀ (w : World) (mg : Str → Option Value) (fa : Addr) (h : Heap), (KK w.params).In h → h.Ns mainGlobals mg → mg d.name = some (.ref fa) →
      ∃ fd : FuncData, (∀ (s : Shared) (u : Value), BindsTo s fd ⟨[u], []⟩ [(x, u)]) ∧ ∀ base : Heap, (KK w.params).In base → base.Ns mainGlobals mg → @FnG l.prog w (KK w.params) mg base k fa fd [x] (@spF ⟨KK w.params⟩ F id))
    (hev : ∀ ns : List Int, ns.length ≤ n → ∃ fr ss, F id [(scr (ns.map PyData.int), false)] = some (.bool true, fr, ss)) :
    PySem.W.WalkO q loose XP YP l.row.toRowW d [] (fun f vs => PySem.call f vs) := by
  refine Att.attach_call hn hdf fun w s₀ s₁ mg mb fa o pm cd doc a vs ns G Y ho hd hcd hmg hobj hints hlen hg => ?_
  obtain ⟨fd, hb, hF⟩ := hG w mg fa _ (hY w _ Y) G.T.g hmg
  obtain ⟨fr, ss, ev⟩ := hev ns hlen
  exact @law_g ⟨KK w.params⟩ l.prog w (KK w.params) mg mb k id fa a fd x F s₁ vs ns fr ss rfl (hY w _ Y) G.T.g G.T.b G.T.builtins G.T.nolimit hg hobj hints (Nat.le_trans hlen hn2) room hF hb ev
theorem cst_i {K : PySem.W.Frag} {h : Heap} {x : Str} {i : Int} {t : Tok} (X : K.In h) (G : h.Ns mainGlobals mg) (a : PySem.W.nsIn K mainGlobals x = some (some (.int i t))) : CstOk mg (x, .int i) := ⟨t, PySem.W.mg_of X G a⟩
theorem cst_s {K : PySem.W.Frag} {h : Heap} {x z : Str} {t : Tok} (X : K.In h) (G : h.Ns mainGlobals mg) (a : PySem.W.nsIn K mainGlobals x = some (some (.str z t))) : CstOk mg (x, .str z) := ⟨t, PySem.W.mg_of X G a⟩
theorem blt_all {l : List Str} (h : ∀ x ∈ l, mg x = none) : ∀ x, l.contains x = true → mg x = none := fun x hx => h x (List.contains_iff_mem.mp hx)
end
end MI
namespace MI
/-- a table has a def at a number -/
class Has (T : Nat → Option Fn) (i : Nat) (f : Fn) : Prop where
  h : T i = some f
theorem evF_has {T : Nat → Option Fn} {W k i : Nat} {f : Fn} [q : Has T i f] (as : List Arg) : evF T W (k + 1) i as = runFn (evF T W k) W f as := by
  show (T i).bind _ = _
  rw [q.h]
  rfl
end MI

/-! MIF: reasoning about runs: Wp and its rules. -/
namespace MI
open PySem

/-- it answers, and the answer is such -/
inductive Tg {α : Sort u} (a : α) : Type
  | mk
def Wp {α : Type} (o : Option α) (Q : α → Prop) (u : Tg Q := Tg.mk) : Prop := ∃ a, o = some a ∧ Q a
def Wp0 {α : Type} (o : Option α) (Q : α → Prop) : Prop := ∃ a, o = some a ∧ Q a
def Wif0 (c A B : Prop) : Prop := (c → A) ∧ (¬ c → B)
theorem pw {α : Type} {o : Option α} {Q : α → Prop} {u : Tg Q} : Wp o Q u = Wp0 o Q := rfl
section
variable {α β : Type} {Q : α → Prop}
theorem Wp0_some {a : α} : Wp0 (some a) Q = Q a := by simp [Wp0]
theorem Wp0_none : Wp0 (none : Option α) Q = False := by simp [Wp0]
theorem Wp0_bind {o : Option β} {f : β → Option α} : Wp0 (o.bind f) Q = Wp0 o (fun b => Wp0 (f b) Q) := by
  cases o <;> simp [Wp0]
theorem Wp0_map {o : Option β} {f : β → α} : Wp0 (o.map f) Q = Wp0 o (fun b => Q (f b)) := by
  cases o <;> simp [Wp0]
theorem Wp0_ite {c : Prop} [Decidable c] {x y : Option α} : Wp0 (if c then x else y) Q = Wif0 c (Wp0 x Q) (Wp0 y Q) := by
  by_cases h : c <;> simp [h, Wif0]
end
def W2 {α β : Type} (o : Option (α × β)) (Q : α → β → Prop) (u : Tg Q := Tg.mk) : Prop := ∃ a, o = some a ∧ Q a.1 a.2
def W3 {α β γ : Type} (o : Option (α × β × γ)) (Q : α → β → γ → Prop) (u : Tg Q := Tg.mk) : Prop := ∃ a, o = some a ∧ Q a.1 a.2.1 a.2.2
theorem p2 {α β : Type} {o : Option (α × β)} {Q : α → β → Prop} {u : Tg Q} : W2 o Q u = Wp0 o (fun a => Q a.1 a.2) := rfl
theorem p3 {α β γ : Type} {o : Option (α × β × γ)} {Q : α → β → γ → Prop} {u : Tg Q} : W3 o Q u = Wp0 o (fun a => Q a.1 a.2.1 a.2.2) := rfl
theorem Wp_ext {α : Type} {o : Option α} {Q Q' : α → Prop} (h : ∀ a, Q a = Q' a) : Wp o Q = Wp o Q' := by
  have : Q = Q' := funext h
  subst this; rfl
/-- two ways, by a condition -/
def Wif (c A B : Prop) (u : Tg A := Tg.mk) (v : Tg B := Tg.mk) : Prop := (c → A) ∧ (¬ c → B)
@[simp] theorem Wif_true {A B : Prop} : Wif True A B = A := by simp [Wif]
@[simp] theorem Wif_false {A B : Prop} : Wif False A B = B := by simp [Wif]
theorem pif {c A B : Prop} {u : Tg A} {v : Tg B} : Wif c A B u v = Wif0 c A B := rfl
theorem Wif_ext {c A A' B : Prop} (h : A = A') : Wif c A B = Wif c A' B := by subst h; rfl
theorem Wif_i {c A B : Prop} (h : c → A) (h' : ¬ c → B) : Wif c A B := ⟨h, h'⟩
theorem Wif_t {c A B : Prop} (h : c) (h' : A) : Wif c A B := ⟨fun _ => h', fun n => (n h).elim⟩
theorem Wif_f {c A B : Prop} (h : ¬ c) (h' : B) : Wif c A B := ⟨fun n => (h n).elim, fun _ => h'⟩
theorem Wp_mono {α : Type} {o : Option α} {Q Q' : α → Prop} (h : Wp o Q) (g : ∀ a, Q a → Q' a) : Wp o Q' := by
  obtain ⟨a, h1, h2⟩ := h; exact ⟨a, h1, g a h2⟩
theorem Wp_eq {α : Type} {o : Option α} {a : α} {Q : α → Prop} (h : o = some a) (g : Q a) : Wp o Q := ⟨a, h, g⟩
theorem Wp_of {α : Type} {o : Option α} {a : α} (h : Wp o (fun b => b = a)) : o = some a := by
  obtain ⟨b, h1, h2⟩ := h; rw [h1, h2]

@[simp ↓] theorem W2_some {α β : Type} {a : α} {b : β} {Q : α → β → Prop} : W2 (some (a, b)) Q = Q a b := by simp [W2]
@[simp ↓] theorem W3_some {α β γ : Type} {a : α} {b : β} {c : γ} {Q : α → β → γ → Prop} : W3 (some (a, b, c)) Q = Q a b c := by simp [W3]
theorem W2_mono {α β : Type} {o : Option (α × β)} {Q Q' : α → β → Prop} (h : W2 o Q) (g : ∀ a b, Q a b → Q' a b) : W2 o Q' := by
  obtain ⟨a, h1, h2⟩ := h; exact ⟨a, h1, g _ _ h2⟩
theorem W3_mono {α β γ : Type} {o : Option (α × β × γ)} {Q Q' : α → β → γ → Prop} (h : W3 o Q) (g : ∀ a b c, Q a b c → Q' a b c) : W3 o Q' := by
  obtain ⟨a, h1, h2⟩ := h; exact ⟨a, h1, g _ _ _ h2⟩
theorem W3_eq {α β γ : Type} {o : Option (α × β × γ)} {a : α} {b : β} {c : γ} {Q : α → β → γ → Prop} (h : o = some (a, b, c)) (g : Q a b c) : W3 o Q := ⟨_, h, g⟩
theorem W3_of {α β γ : Type} {o : Option (α × β × γ)} {a : α} {b : β} {c : γ} (h : W3 o (fun x y z => x = a ∧ y = b ∧ z = c)) : o = some (a, b, c) := by
  obtain ⟨⟨x, y, z⟩, h1, h2, h3, h4⟩ := h; subst h2; subst h3; subst h4; exact h1
section
variable {α β : Type} {Q : α → Prop}
@[simp ↓] theorem Wp_some {a : α} : Wp (some a) Q = Q a := by simp [Wp]
@[simp ↓] theorem Wp_none : Wp (none : Option α) Q = False := by simp [Wp]
@[simp ↓] theorem Wp_bind {o : Option β} {f : β → Option α} : Wp (o.bind f) Q = Wp o (fun b => Wp (f b) Q) := by
  cases o <;> simp [Wp]
@[simp ↓] theorem Wp_map {o : Option β} {f : β → α} : Wp (o.map f) Q = Wp o (fun b => Q (f b)) := by
  cases o <;> simp [Wp]
@[simp ↓] theorem Wp_ite {c : Prop} [Decidable c] {x y : Option α} : Wp (if c then x else y) Q = Wif c (Wp x Q) (Wp y Q) := by
  by_cases h : c <;> simp [h, Wif]
end
/-! ### operands -/
def isV : ME → Bool
  | .var _ => true
  | _ => false
def borV (ρ : Rho) (i : Nat) : Option (Bor × Rho) :=
  match ρ[i]? with
  | some (.own _) => some (.r i, ρ)
  | some (.dat d) => some (.v d, ρ)
  | _ => none
def putV (o : Option Slot) (f : PyData → Option PyData) : Option PyData :=
  match o with
  | some (.own x) => f x
  | _ => none
def intK (d : PyData) (k : Int → Prop) (u : Tg k := Tg.mk) : Prop :=
  match d with
  | .int i => k i
  | _ => False
def boolK (d : PyData) (k : Bool → Prop) (u : Tg k := Tg.mk) : Prop :=
  match d with
  | .bool b => k b
  | _ => False
@[simp] theorem intK_int {i : Int} {k} : intK (.int i) k = k i := rfl
@[simp] theorem boolK_bool {b : Bool} {k} : boolK (.bool b) k = k b := rfl
def slotK (o : Option Slot) (A B : PyData → Prop) (u : Tg A := Tg.mk) (v : Tg B := Tg.mk) : Prop :=
  match o with
  | some (.dat d) => A d
  | some (.own d) => B d
  | _ => False
@[simp] theorem slotK_dat {d A B} : slotK (some (.dat d)) A B = A d := rfl
@[simp] theorem slotK_own {d A B} : slotK (some (.own d)) A B = B d := rfl
@[simp ↓] theorem w_borV {ρ : Rho} {i : Nat} {Q} : W2 (borV ρ i) Q = slotK ρ[i]? (fun d => Q (.v d) ρ) (fun _ => Q (.r i) ρ) := by
  rcases h : ρ[i]? with _ | (_ | d | d) <;> simp [borV, h, slotK, W2]
@[simp ↓] theorem w_rdVar {ρ : Rho} {i : Nat} {Q} : W3 (rdVar ρ i) Q = slotK ρ[i]? (fun d => Q d false ρ) (fun d => Q d false (ρ.set i (.dat d))) := by
  rcases h : ρ[i]? with _ | (_ | d | d) <;> simp [rdVar, h, slotK, W3]
section
variable {F : Fns} {ρ : Rho} {Q : Bor → Rho → Prop} {ev : Rho → Option (PyData × Bool × Rho)}
@[simp ↓] theorem wB_var {i : Nat} : W2 (bor ev (.var i) ρ) Q = W2 (borV ρ i) Q := rfl
theorem wB_nv {m : ME} (h : isV m = false) : W2 (bor ev m ρ) Q = W3 (ev ρ) (fun xa xb xc => Q (.v xa) xc) := by
  cases m <;> first | (simp [isV] at h; done) | (simp only [pw, p2, p3, bor, Wp0_map])
@[simp ↓] theorem wB_lit {d} : W2 (bor ev (ME.lit d) ρ) Q = W3 (ev ρ) (fun xa xb xc => Q (.v xa) xc) := wB_nv rfl
@[simp ↓] theorem wB_bin {o a b} : W2 (bor ev (ME.bin o a b) ρ) Q = W3 (ev ρ) (fun xa xb xc => Q (.v xa) xc) := wB_nv rfl
@[simp ↓] theorem wB_neg {a} : W2 (bor ev (ME.neg a) ρ) Q = W3 (ev ρ) (fun xa xb xc => Q (.v xa) xc) := wB_nv rfl
@[simp ↓] theorem wB_cmp {o a b} : W2 (bor ev (ME.cmp o a b) ρ) Q = W3 (ev ρ) (fun xa xb xc => Q (.v xa) xc) := wB_nv rfl
@[simp ↓] theorem wB_cmp2 {o o2 a b c} : W2 (bor ev (ME.cmp2 o o2 a b c) ρ) Q = W3 (ev ρ) (fun xa xb xc => Q (.v xa) xc) := wB_nv rfl
@[simp ↓] theorem wB_isN {a} : W2 (bor ev (ME.isN a) ρ) Q = W3 (ev ρ) (fun xa xb xc => Q (.v xa) xc) := wB_nv rfl
@[simp ↓] theorem wB_notN {a} : W2 (bor ev (ME.notN a) ρ) Q = W3 (ev ρ) (fun xa xb xc => Q (.v xa) xc) := wB_nv rfl
@[simp ↓] theorem wB_ite {c a b} : W2 (bor ev (ME.ite c a b) ρ) Q = W3 (ev ρ) (fun xa xb xc => Q (.v xa) xc) := wB_nv rfl
@[simp ↓] theorem wB_call {f a} : W2 (bor ev (ME.call f a) ρ) Q = W3 (ev ρ) (fun xa xb xc => Q (.v xa) xc) := wB_nv rfl
@[simp ↓] theorem wB_bi {f a} : W2 (bor ev (ME.bi f a) ρ) Q = W3 (ev ρ) (fun xa xb xc => Q (.v xa) xc) := wB_nv rfl
@[simp ↓] theorem wB_idx {a b} : W2 (bor ev (ME.idx a b) ρ) Q = W3 (ev ρ) (fun xa xb xc => Q (.v xa) xc) := wB_nv rfl
@[simp ↓] theorem wB_sl {a b c} : W2 (bor ev (ME.sl a b c) ρ) Q = W3 (ev ρ) (fun xa xb xc => Q (.v xa) xc) := wB_nv rfl
@[simp ↓] theorem wB_tup {a} : W2 (bor ev (ME.tup a) ρ) Q = W3 (ev ρ) (fun xa xb xc => Q (.v xa) xc) := wB_nv rfl
@[simp ↓] theorem wB_lst {a} : W2 (bor ev (ME.lst a) ρ) Q = W3 (ev ρ) (fun xa xb xc => Q (.v xa) xc) := wB_nv rfl
@[simp ↓] theorem wB_dic : W2 (bor ev (ME.dic) ρ) Q = W3 (ev ρ) (fun xa xb xc => Q (.v xa) xc) := wB_nv rfl
@[simp ↓] theorem wB_comp {vs tg it c e} : W2 (bor ev (ME.comp vs tg it c e) ρ) Q = W3 (ev ρ) (fun xa xb xc => Q (.v xa) xc) := wB_nv rfl
@[simp ↓] theorem wB_comp2 {vs vs1 tg it c tg1 it1 c1 e} : W2 (bor ev (ME.comp2 vs vs1 tg it c tg1 it1 c1 e) ρ) Q = W3 (ev ρ) (fun xa xb xc => Q (.v xa) xc) := wB_nv rfl
@[simp ↓] theorem wB_not {a} : W2 (bor ev (ME.not a) ρ) Q = W3 (ev ρ) (fun xa xb xc => Q (.v xa) xc) := wB_nv rfl
@[simp ↓] theorem wB_and {a b} : W2 (bor ev (ME.and a b) ρ) Q = W3 (ev ρ) (fun xa xb xc => Q (.v xa) xc) := wB_nv rfl
@[simp ↓] theorem wB_or {a b} : W2 (bor ev (ME.or a b) ρ) Q = W3 (ev ρ) (fun xa xb xc => Q (.v xa) xc) := wB_nv rfl
end
@[simp ↓] theorem wG_v {ρ : Rho} {d : PyData} {Q : PyData → Prop} : Wp (Bor.get ρ (.v d)) Q = Q d := by simp [Bor.get]
@[simp ↓] theorem wG_r {ρ : Rho} {i : Nat} {Q : PyData → Prop} : Wp (Bor.get ρ (.r i)) Q = slotK ρ[i]? Q Q := by
  rcases h : ρ[i]? with _ | (_ | d | d) <;> simp [Bor.get, getR, h, slotK, Wp, Slot.get]
@[simp] theorem sget_dat {d : PyData} : Slot.get (.dat d) = some d := rfl
@[simp] theorem sget_own {d : PyData} : Slot.get (.own d) = some d := rfl
section
variable {F : Fns} {ρ : Rho} {Q : PyData → Bool → Rho → Prop}
@[simp ↓] theorem wE_lit {d : PyData} : W3 (evE F (.lit d) ρ) Q = Q d false ρ := by simp only [p3, evE, Wp0_some]
@[simp ↓] theorem wE_var {i : Nat} : W3 (evE F (.var i) ρ) Q = W3 (rdVar ρ i) Q := by simp only [p3, evE]
@[simp ↓] theorem wE_bin {op a b} : W3 (evE F (.bin op a b) ρ) Q = W2 (bor (evE F a) a ρ) fun xa xb => W2 (bor (evE F b) b xb) fun ya yb =>
    Wp (xa.get yb) fun d => Wp (ya.get yb) fun e => W2 (binD op d e) fun za zb => Q za zb yb := by simp only [pw, p2, p3, pif, evE, Wp0_bind, Wp0_map, Wp0_ite, Wp0_some, Wp0_none]
@[simp ↓] theorem wE_neg {a} : W3 (evE F (.neg a) ρ) Q = W3 (evE F a ρ) fun xa xb xc => intK xa fun i => Q (.int (-i)) false xc := by
  simp only [pw, p2, p3, pif, evE, Wp0_bind]; refine congrArg _ (funext fun x => ?_); rcases x with ⟨d, b, r⟩; cases d <;> simp only [pw, p2, p3, pif, intK, Wp0_ite, Wp0_some, Wp0_none, Wp0_map, Wp0_bind, Bool.or_eq_true, Bool.and_eq_true, Bool.not_eq_true']
@[simp ↓] theorem wE_not {a} : W3 (evE F (.not a) ρ) Q = W3 (evE F a ρ) fun xa xb xc => boolK xa fun b => Q (.bool (!b)) false xc := by
  simp only [pw, p2, p3, pif, evE, Wp0_bind]; refine congrArg _ (funext fun x => ?_); rcases x with ⟨d, b, r⟩; cases d <;> simp only [boolK, Wp0_some, Wp0_none]
@[simp ↓] theorem wE_and {a b} : W3 (evE F (.and a b) ρ) Q = W3 (evE F a ρ) fun xa xb xc => boolK xa fun t => Wif (t = true) (W3 (evE F b xc) Q) (Q (.bool false) false xc) := by
  simp only [pw, p2, p3, pif, evE, Wp0_bind]; refine congrArg _ (funext fun x => ?_); rcases x with ⟨d, c, r⟩; cases d <;> simp only [boolK, Wp0_none]
  rename_i t; cases t <;> simp [Wif0, Wp0_some]
@[simp ↓] theorem wE_or {a b} : W3 (evE F (.or a b) ρ) Q = W3 (evE F a ρ) fun xa xb xc => boolK xa fun t => Wif (t = true) (Q (.bool true) false xc) (W3 (evE F b xc) Q) := by
  simp only [pw, p2, p3, pif, evE, Wp0_bind]; refine congrArg _ (funext fun x => ?_); rcases x with ⟨d, c, r⟩; cases d <;> simp only [boolK, Wp0_none]
  rename_i t; cases t <;> simp [Wif0, Wp0_some]
@[simp ↓] theorem wE_cmp {op a b} : W3 (evE F (.cmp op a b) ρ) Q = W2 (bor (evE F a) a ρ) fun xa xb => W2 (bor (evE F b) b xb) fun ya yb =>
    Wp (xa.get yb) fun d => Wp (ya.get yb) fun e => Wp (cmpD op d e) fun z => Q (.bool z) false yb := by simp only [pw, p2, p3, pif, evE, Wp0_bind, Wp0_map, Wp0_ite, Wp0_some, Wp0_none]
@[simp ↓] theorem wE_cmp2 {op op' a b c} : W3 (evE F (.cmp2 op op' a b c) ρ) Q = W2 (bor (evE F a) a ρ) fun xa xb => W2 (bor (evE F b) b xb) fun ya yb =>
    Wp (xa.get yb) fun d => Wp (ya.get yb) fun e => Wp (cmpD op d e) fun z => Wif (z = true) (W2 (bor (evE F c) c yb) fun wa wb =>
      Wp (ya.get wb) fun e3 => Wp (wa.get wb) fun f => Wp (cmpD op' e3 f) fun z' => Q (.bool z') false wb) (Q (.bool false) false yb) := by
  simp only [pw, p2, p3, pif, evE, Wp0_bind, Wp0_map, Wp0_ite, Wp0_some, Wp0_none]
@[simp ↓] theorem wE_isN {a} : W3 (evE F (.isN a) ρ) Q = W2 (bor (evE F a) a ρ) fun xa xb => Wp (xa.get xb) fun d => Q (.bool (isNone d)) false xb := by
  simp only [pw, p2, p3, pif, evE, Wp0_bind, Wp0_map, Wp0_ite, Wp0_some, Wp0_none]
@[simp ↓] theorem wE_notN {a} : W3 (evE F (.notN a) ρ) Q = W2 (bor (evE F a) a ρ) fun xa xb => Wp (xa.get xb) fun d => Q (.bool (!isNone d)) false xb := by
  simp only [pw, p2, p3, pif, evE, Wp0_bind, Wp0_map, Wp0_ite, Wp0_some, Wp0_none]
@[simp ↓] theorem wE_ite {c a b} : W3 (evE F (.ite c a b) ρ) Q = W2 (evT F c ρ) fun xa xb => Wif (xa = true) (W3 (evE F a xb) Q) (W3 (evE F b xb) Q) := by
  simp only [pw, p2, p3, pif, evE, Wp0_bind, Wp0_map, Wp0_ite, Wp0_some, Wp0_none]
@[simp ↓] theorem wE_call {f as} : W3 (evE F (.call f as) ρ) Q = W2 (evL F as ρ) fun xa xb => W2 (lend xb xa) fun ya yb => W3 (F f ya) fun za zb zc => Wp (back yb xa ya zc) fun r => Q za zb r := by
  simp only [pw, p2, p3, pif, evE, Wp0_bind, Wp0_map, Wp0_ite, Wp0_some, Wp0_none]
@[simp ↓] theorem wE_bi {b as} : W3 (evE F (.bi b as) ρ) Q = W2 (evL F as ρ) fun xa xb => Wp (getAll xb xa) fun ds => W2 (biD b ds) fun za zb => Q za zb xb := by
  simp only [pw, p2, p3, pif, evE, Wp0_bind, Wp0_map, Wp0_ite, Wp0_some, Wp0_none]
@[simp ↓] theorem wE_idx {a i} : W3 (evE F (.idx a i) ρ) Q = W2 (bor (evE F a) a ρ) fun xa xb => W3 (evE F i xb) fun ya yb yc => Wp (xa.get yc) fun d => Wp (idxD d ya) fun z => Q z false yc := by
  simp only [pw, p2, p3, pif, evE, Wp0_bind, Wp0_map, Wp0_ite, Wp0_some, Wp0_none]
@[simp ↓] theorem wE_sl {a lo hi} : W3 (evE F (.sl a lo hi) ρ) Q = W2 (bor (evE F a) a ρ) fun xa xb => W2 (evO F lo xb) fun ya yb => W2 (evO F hi yb) fun wa wb => Wp (xa.get wb) fun d => W2 (slD d ya wa) fun za zb => Q za zb wb := by
  simp only [pw, p2, p3, pif, evE, Wp0_bind, Wp0_map, Wp0_ite, Wp0_some, Wp0_none]
@[simp ↓] theorem wE_tup {as} : W3 (evE F (.tup as) ρ) Q = W2 (evA F as ρ) fun xa xb => Wif (xa.length ≤ sizeLine) (Q (.tuple xa) false xb) False := by
  simp only [pw, p2, p3, pif, evE, Wp0_bind, Wp0_map, Wp0_ite, Wp0_some, Wp0_none]
@[simp ↓] theorem wE_lst {as} : W3 (evE F (.lst as) ρ) Q = W2 (evA F as ρ) fun xa xb => Wif (xa.length ≤ sizeLine) (Q (.list xa) true xb) False := by
  simp only [pw, p2, p3, pif, evE, Wp0_bind, Wp0_map, Wp0_ite, Wp0_some, Wp0_none]
@[simp ↓] theorem wE_dic : W3 (evE F .dic ρ) Q = Q (.dict []) true ρ := by simp only [pw, p2, p3, pif, evE, Wp0_bind, Wp0_map, Wp0_ite, Wp0_some, Wp0_none]
/-- the turn of a comprehension -/
def cturn (F : Fns) (c e : ME) (ρ : Rho) (acc : List PyData) : Option (Rho × List PyData) :=
  (evT F c ρ).bind fun x => if x.1 then (evE F e x.2).bind fun y => if acc.length < sizeLine then some (y.2.2, acc ++ [y.1]) else none else some (x.2, acc)
@[simp ↓] theorem wE_comp {vs tg it c e} : W3 (evE F (.comp vs tg it c e) ρ) Q = W2 (evI F it ρ) fun xa xb =>
    W2 (turns tg (cturn F c e) vs xa (wipeR xb vs) []) fun ya yb => Q (.list yb) true ya := by
  simp only [pw, p2, p3, pif, evE, Wp0_bind, Wp0_map, Wp0_ite, Wp0_some, Wp0_none]; rfl
@[simp ↓] theorem wE_comp2 {vs vs1 tg it c tg1 it1 c1 e} : W3 (evE F (.comp2 vs vs1 tg it c tg1 it1 c1 e) ρ) Q = W2 (evI F it ρ) fun xa xb =>
    W2 (turns tg (fun ρ acc => (evT F c ρ).bind fun t => if t.1 then (evI F it1 t.2).bind fun y => turns tg1 (cturn F c1 e) vs1 y.1 (wipeR y.2 vs1) acc else some (t.2, acc)) vs xa (wipeR xb vs) [])
      fun ya yb => Q (.list yb) true ya := by
  simp only [pw, p2, p3, pif, evE, Wp0_bind, Wp0_map, Wp0_ite, Wp0_some, Wp0_none]; rfl
@[simp ↓] theorem wturn {c e acc} {Q : Rho → List PyData → Prop} : W2 (cturn F c e ρ acc) Q = W2 (evT F c ρ) fun xa xb => Wif (xa = true) (W3 (evE F e xb) fun ya yb yc => Wif (acc.length < sizeLine) (Q yc (acc ++ [ya])) False) (Q xb acc) := by
  simp only [pw, p2, p3, pif, cturn, Wp0_bind, Wp0_map, Wp0_ite, Wp0_some, Wp0_none]
end
section
variable {F : Fns} {ρ : Rho} {Q : Bool → Rho → Prop}
@[simp ↓] theorem wT_not {a} : W2 (evT F (.not a) ρ) Q = W2 (evT F a ρ) fun xa xb => Q (!xa) xb := by simp only [pw, p2, p3, pif, evT, Wp0_bind, Wp0_map, Wp0_ite, Wp0_some, Wp0_none]
@[simp ↓] theorem wT_and {a b} : W2 (evT F (.and a b) ρ) Q = W2 (evT F a ρ) fun xa xb => Wif (xa = true) (W2 (evT F b xb) Q) (Q false xb) := by
  simp only [pw, p2, p3, pif, evT, Wp0_bind, Wp0_map, Wp0_ite, Wp0_some, Wp0_none]
@[simp ↓] theorem wT_or {a b} : W2 (evT F (.or a b) ρ) Q = W2 (evT F a ρ) fun xa xb => Wif (xa = true) (Q true xb) (W2 (evT F b xb) Q) := by
  simp only [pw, p2, p3, pif, evT, Wp0_bind, Wp0_map, Wp0_ite, Wp0_some, Wp0_none]
@[simp ↓] theorem wT_nil : W2 (evT F .nil ρ) Q = Q true ρ := by simp only [pw, p2, p3, pif, evT, Wp0_bind, Wp0_map, Wp0_ite, Wp0_some, Wp0_none]
@[simp ↓] theorem wT_tst {a} : W2 (evT F (.tst a) ρ) Q = W2 (bor (evE F a) a ρ) fun xa xb => Wp (xa.get xb) fun d => Wp (truthD d) fun b => Q b xb := by
  simp only [pw, p2, p3, pif, evT, Wp0_bind, Wp0_map, Wp0_ite, Wp0_some, Wp0_none]
end
@[simp ↓] theorem wL_nil {F ρ Q} : W2 (evL F .nil ρ) Q = Q [] ρ := by simp only [pw, p2, p3, pif, evL, Wp0_bind, Wp0_map, Wp0_ite, Wp0_some, Wp0_none]
@[simp ↓] theorem wL_cons {F ρ Q a r} : W2 (evL F (.cons a r) ρ) Q = W2 (bor (evE F a) a ρ) fun xa xb => W2 (evL F r xb) fun ya yb => Q (xa :: ya) yb := by
  simp only [pw, p2, p3, pif, evL, Wp0_bind, Wp0_map, Wp0_ite, Wp0_some, Wp0_none]
@[simp ↓] theorem wA_nil {F ρ Q} : W2 (evA F .nil ρ) Q = Q [] ρ := by simp only [pw, p2, p3, pif, evA, Wp0_bind, Wp0_map, Wp0_ite, Wp0_some, Wp0_none]
@[simp ↓] theorem wA_cons {F ρ Q a r} : W2 (evA F (.cons a r) ρ) Q = W3 (evE F a ρ) fun xa xb xc => W2 (evA F r xc) fun ya yb => Q (xa :: ya) yb := by
  simp only [pw, p2, p3, pif, evA, Wp0_bind, Wp0_map, Wp0_ite, Wp0_some, Wp0_none]
@[simp ↓] theorem wA_star {F ρ Q a r} : W2 (evA F (.star a r) ρ) Q = W3 (evE F a ρ) fun xa xb xc => Wp (seqOf xa) fun es => W2 (evA F r xc) fun ya yb => Q (es ++ ya) yb := by
  simp only [pw, p2, p3, pif, evA, Wp0_bind, Wp0_map, Wp0_ite, Wp0_some, Wp0_none]
@[simp ↓] theorem wO_nil {F ρ Q} : W2 (evO F .nil ρ) Q = Q none ρ := by simp only [pw, p2, p3, pif, evO, Wp0_bind, Wp0_map, Wp0_ite, Wp0_some, Wp0_none]
@[simp ↓] theorem wO_cons {F ρ Q a r} : W2 (evO F (.cons a r) ρ) Q = W3 (evE F a ρ) fun xa xb xc => intK xa fun i => Q (some i) xc := by
  simp only [pw, p2, p3, pif, evO, Wp0_bind]; refine congrArg _ (funext fun x => ?_); rcases x with ⟨d, b, r⟩; cases d <;> simp only [pw, p2, p3, pif, intK, Wp0_ite, Wp0_some, Wp0_none, Wp0_map, Wp0_bind, Bool.or_eq_true, Bool.and_eq_true, Bool.not_eq_true']
section
variable {F : Fns} {ρ : Rho} {Q : List PyData → Rho → Prop}
@[simp ↓] theorem wI_rng1 {a} : W2 (evI F (.rng1 a) ρ) Q = W3 (evE F a ρ) fun xa xb xc => intK xa fun i => Wif (lineI i = true) (Q (rangeD 0 i) xc) False := by
  simp only [pw, p2, p3, pif, evI, Wp0_bind]; refine congrArg _ (funext fun x => ?_); rcases x with ⟨d, b, r⟩; cases d <;> simp only [pw, p2, p3, pif, intK, Wp0_ite, Wp0_some, Wp0_none, Wp0_map, Wp0_bind, Bool.or_eq_true, Bool.and_eq_true, Bool.not_eq_true']
@[simp ↓] theorem wI_rng2 {a b} : W2 (evI F (.rng2 a b) ρ) Q = W3 (evE F a ρ) fun xa xb xc => W3 (evE F b xc) fun ya yb yc => intK xa fun i => intK ya fun j => Wif (lineI i = true ∧ lineI j = true) (Q (rangeD i j) yc) False := by
  simp only [pw, p2, p3, pif, evI, Wp0_bind]; refine congrArg _ (funext fun x => congrArg _ (funext fun y => ?_)); rcases x with ⟨d, b, r⟩; rcases y with ⟨e, b', r'⟩
  cases d <;> cases e <;> simp only [pw, p2, p3, pif, intK, Wp0_ite, Wp0_some, Wp0_none, Wp0_map, Wp0_bind, Bool.or_eq_true, Bool.and_eq_true, Bool.not_eq_true']
def zipK : PyData → PyData → Option (List PyData)
  | .list xs, .list ys => some ((xs.zip ys).map fun p => .tuple [p.1, p.2])
  | .tuple xs, .tuple ys => some ((xs.zip ys).map fun p => .tuple [p.1, p.2])
  | _, _ => none
@[simp ↓] theorem wI_zp {a b} : W2 (evI F (.zp a b) ρ) Q = W3 (evE F a ρ) fun xa xb xc => W3 (evE F b xc) fun ya yb yc => Wp (zipK xa ya) fun zs => Q zs yc := by
  simp only [pw, p2, p3, pif, evI, Wp0_bind]; refine congrArg _ (funext fun x => congrArg _ (funext fun y => ?_)); rcases x with ⟨d, b, r⟩; rcases y with ⟨e, b', r'⟩
  cases d <;> cases e <;> simp only [pw, p2, p3, pif, zipK, Wp0_ite, Wp0_some, Wp0_none, Wp0_map, Wp0_bind, Bool.or_eq_true, Bool.and_eq_true, Bool.not_eq_true']
def enmK : PyData → Option (List PyData)
  | .list xs => some (xs.zipIdx.map fun p => .tuple [.int p.2, p.1])
  | _ => none
@[simp ↓] theorem wI_enm {a} : W2 (evI F (.enm a) ρ) Q = W3 (evE F a ρ) fun xa xb xc => Wp (enmK xa) fun zs => Q zs xc := by
  simp only [pw, p2, p3, pif, evI, Wp0_bind]; refine congrArg _ (funext fun x => ?_); rcases x with ⟨d, b, r⟩; cases d <;> simp only [enmK, Wp0_some, Wp0_none]
@[simp ↓] theorem wI_it {a} : W2 (evI F (.it a) ρ) Q = W3 (evE F a ρ) fun xa xb xc => Wp (seqOf xa) fun zs => Q zs xc := by
  simp only [pw, p2, p3, pif, evI, Wp0_bind, Wp0_map, Wp0_ite, Wp0_some, Wp0_none]
end
/-! ### values -/
section
variable {Q : PyData → Bool → Prop} {a b : Int}
@[simp ↓] theorem wD_add : W2 (binD .add (.int a) (.int b)) Q = Q (.int (a + b)) false := by simp only [pw, p2, p3, pif, binD, Wp0_ite, Wp0_some, Wp0_none, Wp0_map, Wp0_bind, Bool.or_eq_true, Bool.and_eq_true, Bool.not_eq_true']
@[simp ↓] theorem wD_sub : W2 (binD .sub (.int a) (.int b)) Q = Q (.int (a - b)) false := by simp only [pw, p2, p3, pif, binD, Wp0_ite, Wp0_some, Wp0_none, Wp0_map, Wp0_bind, Bool.or_eq_true, Bool.and_eq_true, Bool.not_eq_true']
@[simp ↓] theorem wD_mul : W2 (binD .mul (.int a) (.int b)) Q = Wif (small a = true ∨ small b = true) (Q (.int (a * b)) false) False := by simp only [pw, p2, p3, pif, binD, Wp0_ite, Wp0_some, Wp0_none, Wp0_map, Wp0_bind, Bool.or_eq_true, Bool.and_eq_true, Bool.not_eq_true']
@[simp ↓] theorem wD_fdiv : W2 (binD .fdiv (.int a) (.int b)) Q = Wif (0 < b ∧ b < 1073741824) (Q (.int (a / b)) false) False := by simp only [pw, p2, p3, pif, binD, Wp0_ite, Wp0_some, Wp0_none, Wp0_map, Wp0_bind, Bool.or_eq_true, Bool.and_eq_true, Bool.not_eq_true']
@[simp ↓] theorem wD_mod : W2 (binD .mod (.int a) (.int b)) Q = Wif (0 < b) (Q (.int (a % b)) false) False := by simp only [pw, p2, p3, pif, binD, Wp0_ite, Wp0_some, Wp0_none, Wp0_map, Wp0_bind, Bool.or_eq_true, Bool.and_eq_true, Bool.not_eq_true']
@[simp ↓] theorem wD_pow : W2 (binD .pow (.int a) (.int b)) Q = Wif (0 ≤ b ∧ b ≤ 1000000 ∧ a.natAbs < 2 ^ 64) (Q (.int (a ^ b.toNat)) false) False := by simp only [pw, p2, p3, pif, binD, Wp0_ite, Wp0_some, Wp0_none, Wp0_map, Wp0_bind, Bool.or_eq_true, Bool.and_eq_true, Bool.not_eq_true']
@[simp ↓] theorem wD_addL {xs ys} : W2 (binD .add (.list xs) (.list ys)) Q = Wif (xs.length + ys.length ≤ sizeLine) (Q (.list (xs ++ ys)) true) False := by simp only [pw, p2, p3, pif, binD, Wp0_ite, Wp0_some, Wp0_none, Wp0_map, Wp0_bind, Bool.or_eq_true, Bool.and_eq_true, Bool.not_eq_true']
@[simp ↓] theorem wD_addT {xs ys} : W2 (binD .add (.tuple xs) (.tuple ys)) Q = Wif (xs.length + ys.length ≤ sizeLine) (Q (.tuple (xs ++ ys)) false) False := by simp only [pw, p2, p3, pif, binD, Wp0_ite, Wp0_some, Wp0_none, Wp0_map, Wp0_bind, Bool.or_eq_true, Bool.and_eq_true, Bool.not_eq_true']
@[simp ↓] theorem wD_mulL {xs} : W2 (binD .mul (.list xs) (.int b)) Q = Wif (-(2 ^ 63) ≤ b ∧ b < 2 ^ 63 ∧ xs.length * b.toNat ≤ sizeLine) (Q (.list (List.replicate b.toNat xs).flatten) true) False := by simp only [pw, p2, p3, pif, binD, Wp0_ite, Wp0_some, Wp0_none, Wp0_map, Wp0_bind, Bool.or_eq_true, Bool.and_eq_true, Bool.not_eq_true']
@[simp ↓] theorem wD_mulT {xs} : W2 (binD .mul (.tuple xs) (.int b)) Q = Wif (xs ≠ [] ∧ 2 ≤ b ∧ b ≤ 1000 ∧ xs.length ≤ 1000) (Q (.tuple (List.replicate b.toNat xs).flatten) false) False := by simp only [pw, p2, p3, pif, binD, Wp0_ite, Wp0_some, Wp0_none, Wp0_map, Wp0_bind, Bool.or_eq_true, Bool.and_eq_true, Bool.not_eq_true']
end
section
variable {Q : Bool → Prop} {a b : Int}
@[simp ↓] theorem wC_eq : Wp (cmpD .eq (.int a) (.int b)) Q = Q (decide (a = b)) := by simp only [pw, p2, p3, pif, cmpD, Wp0_ite, Wp0_some, Wp0_none, Wp0_map, Wp0_bind, Bool.or_eq_true, Bool.and_eq_true, Bool.not_eq_true']
@[simp ↓] theorem wC_ne : Wp (cmpD .ne (.int a) (.int b)) Q = Q (!decide (a = b)) := by simp only [pw, p2, p3, pif, cmpD, Wp0_ite, Wp0_some, Wp0_none, Wp0_map, Wp0_bind, Bool.or_eq_true, Bool.and_eq_true, Bool.not_eq_true']
@[simp ↓] theorem wC_lt : Wp (cmpD .lt (.int a) (.int b)) Q = Q (decide (a < b)) := by simp only [pw, p2, p3, pif, cmpD, Wp0_ite, Wp0_some, Wp0_none, Wp0_map, Wp0_bind, Bool.or_eq_true, Bool.and_eq_true, Bool.not_eq_true']
@[simp ↓] theorem wC_le : Wp (cmpD .le (.int a) (.int b)) Q = Q (decide (a ≤ b)) := by simp only [pw, p2, p3, pif, cmpD, Wp0_ite, Wp0_some, Wp0_none, Wp0_map, Wp0_bind, Bool.or_eq_true, Bool.and_eq_true, Bool.not_eq_true']
@[simp ↓] theorem wC_gt : Wp (cmpD .gt (.int a) (.int b)) Q = Q (decide (b < a)) := by simp only [pw, p2, p3, pif, cmpD, Wp0_ite, Wp0_some, Wp0_none, Wp0_map, Wp0_bind, Bool.or_eq_true, Bool.and_eq_true, Bool.not_eq_true']
@[simp ↓] theorem wC_ge : Wp (cmpD .ge (.int a) (.int b)) Q = Q (decide (b ≤ a)) := by simp only [pw, p2, p3, pif, cmpD, Wp0_ite, Wp0_some, Wp0_none, Wp0_map, Wp0_bind, Bool.or_eq_true, Bool.and_eq_true, Bool.not_eq_true']
@[simp ↓] theorem wC_eqS {s t} : Wp (cmpD .eq (.str s) (.str t)) Q = Q (decide (s = t)) := by simp only [pw, p2, p3, pif, cmpD, Wp0_ite, Wp0_some, Wp0_none, Wp0_map, Wp0_bind, Bool.or_eq_true, Bool.and_eq_true, Bool.not_eq_true']
@[simp ↓] theorem wC_neS {s t} : Wp (cmpD .ne (.str s) (.str t)) Q = Q (!decide (s = t)) := by simp only [pw, p2, p3, pif, cmpD, Wp0_ite, Wp0_some, Wp0_none, Wp0_map, Wp0_bind, Bool.or_eq_true, Bool.and_eq_true, Bool.not_eq_true']
@[simp ↓] theorem wC_eqL {xs ys} : Wp (cmpD .eq (.list xs) (.list ys)) Q = Wif (lay (.list xs) = true ∧ lay (.list ys) = true) (Q (PyData.eqv (.list xs) (.list ys))) False := by simp only [pw, p2, p3, pif, cmpD, Wp0_ite, Wp0_some, Wp0_none, Wp0_map, Wp0_bind, Bool.or_eq_true, Bool.and_eq_true, Bool.not_eq_true']
@[simp ↓] theorem wC_eqT {xs ys} : Wp (cmpD .eq (.tuple xs) (.tuple ys)) Q = Wif (lay (.tuple xs) = true ∧ lay (.tuple ys) = true) (Q (PyData.eqv (.tuple xs) (.tuple ys))) False := by simp only [pw, p2, p3, pif, cmpD, Wp0_ite, Wp0_some, Wp0_none, Wp0_map, Wp0_bind, Bool.or_eq_true, Bool.and_eq_true, Bool.not_eq_true']
@[simp ↓] theorem wC_neL {xs ys} : Wp (cmpD .ne (.list xs) (.list ys)) Q = Wif (lay (.list xs) = true ∧ lay (.list ys) = true) (Q (!PyData.eqv (.list xs) (.list ys))) False := by simp only [pw, p2, p3, pif, cmpD, Wp0_ite, Wp0_some, Wp0_none, Wp0_map, Wp0_bind, Bool.or_eq_true, Bool.and_eq_true, Bool.not_eq_true']
@[simp ↓] theorem wC_neT {xs ys} : Wp (cmpD .ne (.tuple xs) (.tuple ys)) Q = Wif (lay (.tuple xs) = true ∧ lay (.tuple ys) = true) (Q (!PyData.eqv (.tuple xs) (.tuple ys))) False := by simp only [pw, p2, p3, pif, cmpD, Wp0_ite, Wp0_some, Wp0_none, Wp0_map, Wp0_bind, Bool.or_eq_true, Bool.and_eq_true, Bool.not_eq_true']
@[simp ↓] theorem wC_inL {x ys} : Wp (cmpD .isin x (.list ys)) Q = Wp (inD x ys) Q := by simp only [pw, p2, p3, pif, cmpD, Wp0_ite, Wp0_some, Wp0_none, Wp0_map, Wp0_bind, Bool.or_eq_true, Bool.and_eq_true, Bool.not_eq_true']
@[simp ↓] theorem wC_inT {x ys} : Wp (cmpD .isin x (.tuple ys)) Q = Wp (inD x ys) Q := by simp only [pw, p2, p3, pif, cmpD, Wp0_ite, Wp0_some, Wp0_none, Wp0_map, Wp0_bind, Bool.or_eq_true, Bool.and_eq_true, Bool.not_eq_true']
@[simp ↓] theorem wC_niL {x ys} : Wp (cmpD .notin x (.list ys)) Q = Wp (inD x ys) fun b => Q (!b) := by simp only [pw, p2, p3, pif, cmpD, Wp0_ite, Wp0_some, Wp0_none, Wp0_map, Wp0_bind, Bool.or_eq_true, Bool.and_eq_true, Bool.not_eq_true']
@[simp ↓] theorem wC_niT {x ys} : Wp (cmpD .notin x (.tuple ys)) Q = Wp (inD x ys) fun b => Q (!b) := by simp only [pw, p2, p3, pif, cmpD, Wp0_ite, Wp0_some, Wp0_none, Wp0_map, Wp0_bind, Bool.or_eq_true, Bool.and_eq_true, Bool.not_eq_true']
@[simp ↓] theorem wC_inD {x es} : Wp (cmpD .isin x (.dict es)) Q = Wif (isKey x = true ∧ isScr es = false) (Q (dGet es x).isSome) False := by simp only [pw, p2, p3, pif, cmpD, Wp0_ite, Wp0_some, Wp0_none, Wp0_map, Wp0_bind, Bool.or_eq_true, Bool.and_eq_true, Bool.not_eq_true']
@[simp ↓] theorem wC_niD {x es} : Wp (cmpD .notin x (.dict es)) Q = Wif (isKey x = true ∧ isScr es = false) (Q (!(dGet es x).isSome)) False := by simp only [pw, p2, p3, pif, cmpD, Wp0_ite, Wp0_some, Wp0_none, Wp0_map, Wp0_bind, Bool.or_eq_true, Bool.and_eq_true, Bool.not_eq_true']
end
theorem inD_ints {x : Int} {ys : List Int} : inD (.int x) (ys.map PyData.int) = some (decide (x ∈ ys)) := by
  have h : ((ys.map PyData.int).all flat) = true := by simp [flat]
  simp only [inD, flat, Bool.true_and, h, if_true, Option.some.injEq]
  rw [Bool.eq_iff_iff]
  simp only [List.any_eq_true, List.mem_map, decide_eq_true_eq]
  constructor
  · rintro ⟨z, ⟨y, hy, rfl⟩, hz⟩; simp [eqF] at hz; exact hz ▸ hy
  · intro h1; exact ⟨.int x, ⟨x, h1, rfl⟩, by simp [eqF]⟩
@[simp ↓] theorem wIn_ints {x : Int} {ys : List Int} {Q} : Wp (inD (.int x) (ys.map PyData.int)) Q = Q (decide (x ∈ ys)) := by rw [inD_ints]; simp
/-! ### statements -/
def outK (o : Out) (k : Rho → Prop) (Q : Out → Prop) (u : Tg k := Tg.mk) (v : Tg Q := Tg.mk) : Prop :=
  match o with
  | .nx ρ => k ρ
  | o => Q o
@[simp] theorem outK_nx {ρ k Q} : outK (.nx ρ) k Q = k ρ := rfl
@[simp ↓] theorem outK_rt {d fr ρ k Q} : outK (.rt d fr ρ) k Q = Q (.rt d fr ρ) := rfl
@[simp ↓] theorem outK_bk {ρ k Q} : outK (.bk ρ) k Q = Q (.bk ρ) := rfl
@[simp ↓] theorem outK_ct {ρ k Q} : outK (.ct ρ) k Q = Q (.ct ρ) := rfl
def ownK (o : Option Slot) (k : PyData → Prop) (u : Tg k := Tg.mk) : Prop :=
  match o with
  | some (.own x) => k x
  | _ => False
@[simp] theorem ownK_own {x k} : ownK (some (.own x)) k = k x := rfl
def listK (d : PyData) (k : List PyData → Prop) (u : Tg k := Tg.mk) : Prop :=
  match d with
  | .list x => k x
  | _ => False
@[simp] theorem listK_own {x k} : listK (.list x) k = k x := rfl
section
variable {F : Fns} {W : Nat} {ρ : Rho} {Q : Out → Prop}
@[simp ↓] theorem wS_skip : Wp (evS F W .skip ρ) Q = Q (.nx ρ) := by simp only [pw, p2, p3, pif, evS, Wp0_bind, Wp0_map, Wp0_ite, Wp0_some, Wp0_none]
@[simp ↓] theorem wS_brk : Wp (evS F W .brk ρ) Q = Q (.bk ρ) := by simp only [pw, p2, p3, pif, evS, Wp0_bind, Wp0_map, Wp0_ite, Wp0_some, Wp0_none]
@[simp ↓] theorem wS_cont : Wp (evS F W .cont ρ) Q = Q (.ct ρ) := by simp only [pw, p2, p3, pif, evS, Wp0_bind, Wp0_map, Wp0_ite, Wp0_some, Wp0_none]
@[simp ↓] theorem wS_seq {s t} : Wp (evS F W (.seq s t) ρ) Q = Wp (evS F W s ρ) fun o => outK o (fun ρ1 => Wp (evS F W t ρ1) Q) Q := by
  simp only [pw, evS, Wp0_bind]; refine congrArg _ (funext fun o => ?_); cases o <;> simp only [outK, pw, Wp0_some]
@[simp ↓] theorem wS_asg {tg e} : Wp (evS F W (.asg tg e) ρ) Q = W3 (evE F e ρ) fun xa xb xc => Wp (setT tg xa xb xc) fun r => Q (.nx r) := by
  simp only [pw, p2, p3, pif, evS, Wp0_bind, Wp0_map, Wp0_ite, Wp0_some, Wp0_none]
@[simp ↓] theorem wS_par {tg e} : Wp (evS F W (.par tg e) ρ) Q = W2 (evP F e ρ) fun xa xb => Wp (bindP tg xa xb) fun r => Q (.nx r) := by
  simp only [pw, p2, p3, pif, evS, Wp0_bind, Wp0_map, Wp0_ite, Wp0_some, Wp0_none]
@[simp ↓] theorem wS_put {i k e} : Wp (evS F W (.put i k e) ρ) Q = Wif (isOwn ρ[i]? = true) (W3 (evE F e ρ) fun xa xb xc => W3 (evE F k xc) fun ya yb yc =>
    ownK yc[i]? fun z => Wp (putD z ya xa) fun w => Q (.nx (yc.set i (.own w)))) False := by
  simp only [evS, pw, p2, p3, pif, Wp0_ite, Wp0_some, Wp0_none, Wp0_map, Wp0_bind]; refine congrArg (fun z => Wif0 _ z _) (congrArg _ (funext fun x => congrArg _ (funext fun y => ?_)))
  rcases h : y.2.2[i]? with _ | (_ | d | d) <;> simp only [h, ownK, pw, Wp0_ite, Wp0_some, Wp0_none, Wp0_map, Wp0_bind]
@[simp ↓] theorem wS_app {i e} : Wp (evS F W (.app i e) ρ) Q = Wif (isOwnL ρ[i]? = true) (W3 (evE F e ρ) fun xa xb xc =>
    ownK xc[i]? fun z => listK z fun xs => Wif (xs.length < sizeLine) (Q (.nx (xc.set i (.own (.list (xs ++ [xa])))))) False) False := by
  simp only [evS, pw, p2, p3, pif, Wp0_ite, Wp0_some, Wp0_none, Wp0_map, Wp0_bind]; refine congrArg (fun z => Wif0 _ z _) (congrArg _ (funext fun x => ?_))
  rcases h : x.2.2[i]? with _ | (_ | d | d) <;> simp only [h, ownK, pw, Wp0_ite, Wp0_some, Wp0_none, Wp0_map, Wp0_bind]
  cases d <;> simp only [listK, pif, Wp0_ite, Wp0_some, Wp0_none, Wp0_map, Wp0_bind]
@[simp ↓] theorem wS_ext {i e} : Wp (evS F W (.ext i e) ρ) Q = Wif (isOwnL ρ[i]? = true) (W3 (evE F e ρ) fun xa xb xc =>
    ownK xc[i]? fun z => listK z fun xs => listK xa fun ys => Wif (xs.length + ys.length ≤ sizeLine) (Q (.nx (xc.set i (.own (.list (xs ++ ys)))))) False) False := by
  simp only [evS, pw, p2, p3, pif, Wp0_ite, Wp0_some, Wp0_none, Wp0_map, Wp0_bind]; refine congrArg (fun z => Wif0 _ z _) (congrArg _ (funext fun x => ?_))
  rcases h : x.2.2[i]? with _ | (_ | d | d) <;> simp only [h, ownK, pw, Wp0_ite, Wp0_some, Wp0_none, Wp0_map, Wp0_bind]
  cases d <;> simp only [listK, pif, Wp0_ite, Wp0_some, Wp0_none, Wp0_map, Wp0_bind]
  cases x.1 <;> simp only [listK, pif, Wp0_ite, Wp0_some, Wp0_none, Wp0_map, Wp0_bind]
@[simp ↓] theorem wS_expr {e} : Wp (evS F W (.expr e) ρ) Q = W3 (evE F e ρ) fun xa xb xc => Q (.nx xc) := by simp only [pw, p2, p3, pif, evS, Wp0_bind, Wp0_map, Wp0_ite, Wp0_some, Wp0_none]
@[simp ↓] theorem wS_ret {e} : Wp (evS F W (.ret e) ρ) Q = W3 (evE F e ρ) fun xa xb xc => Q (.rt xa xb xc) := by simp only [pw, p2, p3, pif, evS, Wp0_bind, Wp0_map, Wp0_ite, Wp0_some, Wp0_none]
@[simp ↓] theorem wS_ite {c s t} : Wp (evS F W (.ite c s t) ρ) Q = W2 (evT F c ρ) fun xa xb => Wif (xa = true) (Wp (evS F W s xb) Q) (Wp (evS F W t xb) Q) := by
  simp only [pw, p2, p3, pif, evS, Wp0_bind, Wp0_map, Wp0_ite, Wp0_some, Wp0_none]
@[simp ↓] theorem wS_loop {tg it s} : Wp (evS F W (.loop tg it s) ρ) Q = W2 (evI F it ρ) fun xa xb => Wp (loopS tg (evS F W s) xa xb) Q := by
  simp only [pw, p2, p3, pif, evS, Wp0_bind, Wp0_map, Wp0_ite, Wp0_some, Wp0_none]
@[simp ↓] theorem wS_while {c s} : Wp (evS F W (.while c s) ρ) Q = Wp (whileS (evT F c) (evS F W s) W ρ) Q := by simp only [pw, p2, p3, pif, evS, Wp0_bind, Wp0_map, Wp0_ite, Wp0_some, Wp0_none]
end
@[simp ↓] theorem wP_nil {F ρ Q} : W2 (evP F .nil ρ) Q = Q [] ρ := by simp only [pw, p2, p3, pif, evP, Wp0_bind, Wp0_map, Wp0_ite, Wp0_some, Wp0_none]
@[simp ↓] theorem wP_cons {F ρ Q a r} : W2 (evP F (.cons a r) ρ) Q = W3 (evE F a ρ) fun xa xb xc => W2 (evP F r xc) fun ya yb => Q ((xa, xb) :: ya) yb := by
  simp only [pw, p2, p3, pif, evP, Wp0_bind, Wp0_map, Wp0_ite, Wp0_some, Wp0_none]
def endK (o : Out) (as : List Arg) (Q : PyData → Bool → List Slot → Prop) (u : Tg Q := Tg.mk) : Prop :=
  match o with
  | .nx ρ => Q .none false (finals as ρ)
  | .rt d fr ρ => Q d fr (finals as ρ)
  | _ => False
@[simp] theorem endK_nx {ρ as Q} : endK (.nx ρ) as Q = Q .none false (finals as ρ) := rfl
@[simp] theorem endK_rt {d fr ρ as Q} : endK (.rt d fr ρ) as Q = Q d fr (finals as ρ) := rfl
theorem w_run {F W f as Q} (h : as.length = f.np ∧ lentOk (asgd f.body) 0 as = true) (h' : Wp (evS F W f.body (as.map argSlot ++ List.replicate (f.nv - f.np) .no)) fun o => endK o as Q) : W3 (runFn F W f as) Q := by
  rw [runFn, if_pos h, p3, Wp0_bind]
  obtain ⟨o, h1, h2⟩ := h'
  refine ⟨o, h1, ?_⟩
  cases o <;> simp_all [endK, Wp0]
theorem w_fn {T : Nat → Option Fn} {W k i f as} [Has T i f] {Q} (h : W3 (runFn (evF T W k) W f as) Q) : W3 (evF T W (k + 1) i as) Q := by
  rw [evF_has (f := f)]; exact h
/-- kept as it is -/
def Kd (P : Prop) (u : Tg P := Tg.mk) : Prop := P
theorem Kd_i {P : Prop} (h : P) : Kd P := h
/-- loops -/
def turnK (I : Rho → Prop) (Q : Out → Prop) : Out → Prop
  | .nx ρ => Kd (I ρ)
  | .ct ρ => Kd (I ρ)
  | .bk ρ => Q (.nx ρ)
  | .rt d fr ρ => Q (.rt d fr ρ)
@[simp ↓] theorem turnK_nx {I Q ρ} : turnK I Q (.nx ρ) = Kd (I ρ) := rfl
@[simp ↓] theorem turnK_ct {I Q ρ} : turnK I Q (.ct ρ) = Kd (I ρ) := rfl
@[simp ↓] theorem turnK_bk {I Q ρ} : turnK I Q (.bk ρ) = Q (.nx ρ) := rfl
@[simp ↓] theorem turnK_rt {I Q d fr ρ} : turnK I Q (.rt d fr ρ) = Q (.rt d fr ρ) := rfl
theorem w_loop {tg : MT} {ev : Rho → Option Out} {ds : List PyData} {ρ : Rho} {Q : Out → Prop} (I : List PyData → Rho → Prop) (h0 : I [] ρ)
    (h1 : ∀ done d rest ρ, ds = done ++ d :: rest → I done ρ → Wp (bindT tg d ρ) fun ρ1 => Wp (ev ρ1) (turnK (I (done ++ [d])) Q))
    (h2 : ∀ ρ, I ds ρ → Q (.nx ρ)) : Wp (loopS tg ev ds ρ) Q := by
  suffices H : ∀ rest done ρ, ds = done ++ rest → I done ρ → Wp (loopS tg ev rest ρ) Q from H ds [] ρ rfl h0
  intro rest
  induction rest with
  | nil => intro done ρ h hI; rw [List.append_nil] at h; subst h; exact ⟨_, rfl, h2 _ hI⟩
  | cons d rest ih =>
    intro done ρ h hI
    simp only [loopS, Wp_bind]
    refine Wp_mono (h1 done d rest ρ h hI) fun ρ1 h3 => ?_
    rw [Wp_bind]; refine Wp_mono h3 fun o ho => ?_
    cases o with
    | nx ρ2 => exact ih (done ++ [d]) ρ2 (by simp [h]) ho
    | ct ρ2 => exact ih (done ++ [d]) ρ2 (by simp [h]) ho
    | bk ρ2 => exact ⟨_, rfl, ho⟩
    | rt d fr ρ2 => exact ⟨_, rfl, ho⟩
/-- the turns of a comprehension, by an invariant -/
theorem w_turns {tg : MT} {ev : Rho → List PyData → Option (Rho × List PyData)} {vs : List Nat} {ds : List PyData} {ρ : Rho} {acc0 : List PyData} {Q : Rho → List PyData → Prop}
    (I : List PyData → Rho → List PyData → Prop) (h0 : I [] ρ acc0)
    (h1 : ∀ done d rest ρ acc, ds = done ++ d :: rest → I done ρ acc → Wp (bindT tg d ρ) fun ρ1 => W2 (ev ρ1 acc) fun xa xb => Kd (I (done ++ [d]) (wipeR xa vs) xb))
    (h2 : ∀ ρ acc, I ds ρ acc → Q ρ acc) : W2 (turns tg ev vs ds ρ acc0) Q := by
  suffices H : ∀ rest done ρ acc, ds = done ++ rest → I done ρ acc → W2 (turns tg ev vs rest ρ acc) Q from H ds [] ρ acc0 rfl h0
  intro rest
  induction rest with
  | nil => intro done ρ acc h hI; rw [List.append_nil] at h; subst h; exact ⟨_, rfl, h2 _ _ hI⟩
  | cons d rest ih =>
    intro done ρ acc h hI
    simp only [turns, p2, Wp0_bind]
    obtain ⟨ρ1, h3, x, h4, h5⟩ := h1 done d rest ρ acc h hI
    exact ⟨ρ1, h3, x, h4, ih (done ++ [d]) _ _ (by simp [h]) h5⟩
/-- a comprehension whose turns change nothing: each item gives some parts -/
theorem w_comp {tg : MT} {ev : Rho → List PyData → Option (Rho × List PyData)} {vs : List Nat} {ds : List PyData} {ρ : Rho} {Q : Rho → List PyData → Prop}
    (g : PyData → Option PyData) (hn : ds.length ≤ sizeLine)
    (h1 : ∀ d acc, d ∈ ds → acc.length < sizeLine → Wp (bindT tg d ρ) fun ρ1 => W2 (ev ρ1 acc) fun xa xb => wipeR xa vs = ρ ∧ xb = acc ++ (g d).toList)
    (h2 : Q ρ (ds.filterMap g)) : W2 (turns tg ev vs ds ρ []) Q := by
  refine w_turns (fun done ρ' acc => ρ' = ρ ∧ acc = done.filterMap g) ⟨rfl, rfl⟩ ?_ ?_
  · intro done d rest ρ' acc hd ⟨hr, ha⟩
    subst hr
    have hl : acc.length ≤ done.length := by rw [ha]; exact List.length_filterMap_le _ _
    have hd' : done.length < ds.length := by rw [hd]; simp
    refine Wp_mono (h1 d acc (by rw [hd]; simp) (by omega)) fun ρ1 h3 => W2_mono h3 fun x y hx => ⟨hx.1, ?_⟩
    rw [hx.2, ha, List.filterMap_append]
    cases hg : g d <;> simp [hg]
  · intro ρ' acc ⟨hr, ha⟩; subst hr; subst ha; exact h2
end MI

/-! MIG: rules for values: places, built-ins, arguments. -/
namespace MI
open PySem
@[simp ↓] theorem w_ixOf {n : Nat} {i : Int} {Q} : Wp (ixOf n i) Q = Wif (0 ≤ i ∧ i < n) (Q i.toNat) (Wif (i < 0 ∧ -(n : Int) ≤ i) (Q (i + n).toNat) False) := by
  simp only [ixOf, Wp_ite, Wp_some, Wp_none, Wif, eq_iff_iff]
  constructor
  · rintro ⟨h1, h2⟩
    refine ⟨fun ⟨a, b⟩ => (h1 a).1 b, fun hn => ⟨fun ⟨a, b⟩ => (h2 (by omega)).1 b, fun hm => ?_⟩⟩
    by_cases h : 0 ≤ i
    · exact (h1 h).2 (fun hb => hn ⟨h, hb⟩)
    · exact (h2 h).2 (fun hb => hm ⟨by omega, hb⟩)
  · rintro ⟨h1, h2⟩
    refine ⟨fun a => ⟨fun b => h1 ⟨a, b⟩, fun hb => (h2 (fun c => hb c.2)).2 (fun c => by omega)⟩, fun a => ⟨fun b => (h2 (fun c => a c.1)).1 ⟨by omega, b⟩, fun b => (h2 (fun c => a c.1)).2 (fun c => b c.2)⟩⟩
/-- the item at a place -/
def nthI {α : Type} (xs : List α) (i : Int) : Option α := (ixOf xs.length i).bind (xs[·]?)
section
variable {α : Type} {a b c e : α} {l : List α}
theorem nthI_pos {xs : List α} {i : Int} (h : 0 ≤ i) (h' : i < xs.length) : nthI xs i = xs[i.toNat]? := by
  simp [nthI, ixOf, h, h']
@[simp] theorem nthI_0 : nthI (a :: l) 0 = some a := by rw [nthI_pos (by simp) (by simp)]; rfl
@[simp] theorem nthI_1 : nthI (a :: b :: l) 1 = some b := by rw [nthI_pos (by simp) (by simp; omega)]; rfl
@[simp] theorem nthI_2 : nthI (a :: b :: c :: l) 2 = some c := by rw [nthI_pos (by simp) (by simp; omega)]; rfl
@[simp] theorem nthI_3 : nthI (a :: b :: c :: e :: l) 3 = some e := by rw [nthI_pos (by simp) (by simp; omega)]; rfl
theorem nthI_get {xs : List α} {i : Int} (h : 0 ≤ i) (h' : i < xs.length) : nthI xs i = some (xs[i.toNat]'(by omega)) := by
  rw [nthI_pos h h', List.getElem?_eq_getElem]
theorem nthI_last {xs : List α} {y : α} : nthI (xs ++ [y]) (-1) = some y := by
  have : ¬ (0 ≤ (-1 : Int)) := by omega
  simp only [nthI, ixOf, List.length_append, List.length_singleton]
  rw [if_neg this, if_pos (by omega)]
  have e : (-1 + ((xs.length + 1 : Nat) : Int)).toNat = xs.length := by omega
  rw [e]; simp
end
section
variable {xs : List PyData} {i : Int} {Q : PyData → Prop}
@[simp ↓] theorem wX_list : Wp (idxD (.list xs) (.int i)) Q = Wp (nthI xs i) Q := rfl
@[simp ↓] theorem wX_tup : Wp (idxD (.tuple xs) (.int i)) Q = Wp (nthI xs i) Q := rfl
@[simp ↓] theorem wX_scr : Wp (idxD (scr xs) (.int i)) Q = Wp (nthI xs i) Q := rfl
@[simp ↓] theorem wU_list {d} : Wp (putD (.list xs) (.int i) d) Q = Wp (ixOf xs.length i) fun j => Q (.list (xs.set j d)) := by simp only [putD, Wp_map]
@[simp ↓] theorem wU_dict {es k d} : Wp (putD (.dict es) k d) Q = Wif (isKey k = true ∧ isScr es = false ∧ es.length < sizeLine) (Q (.dict (dPut es k d))) False := by
  simp only [putD, pw, pif, and_assoc, Bool.and_eq_true, Bool.not_eq_true', decide_eq_true_eq, Wp0_ite, Wp0_some, Wp0_none, Wp0_map, Wp0_bind]
end
section
variable {xs : List PyData} {lo hi : Option Int} {Q : PyData → Bool → Prop}
@[simp ↓] theorem wSl_list : W2 (slD (.list xs) lo hi) Q = Q (.list (cut xs lo hi)) true := by simp only [p2, slD, Wp0_some]
@[simp ↓] theorem wSl_tup : W2 (slD (.tuple xs) lo hi) Q = Q (.tuple (cut xs lo hi)) false := by simp only [p2, slD, Wp0_some]
@[simp ↓] theorem wSl_scr : W2 (slD (scr xs) lo hi) Q = Q (.list (cut xs lo hi)) true := by simp only [p2, slD, scr, Wp0_some]
variable {a b : Int} {ys : List PyData}
@[simp ↓] theorem wbi_lenL : W2 (biD .len [.list xs]) Q = Q (.int xs.length) false := by simp only [biD, pw, p2, p3, pif, Wp0_ite, Wp0_some, Wp0_none, Wp0_map, Wp0_bind]
@[simp ↓] theorem wbi_lenT : W2 (biD .len [.tuple xs]) Q = Q (.int xs.length) false := by simp only [biD, pw, p2, p3, pif, Wp0_ite, Wp0_some, Wp0_none, Wp0_map, Wp0_bind]
@[simp ↓] theorem wbi_lenS : W2 (biD .len [scr xs]) Q = Q (.int xs.length) false := by simp only [biD, scr, pw, p2, p3, pif, Wp0_ite, Wp0_some, Wp0_none, Wp0_map, Wp0_bind]
@[simp ↓] theorem wbi_all : W2 (biD .all [.list xs]) Q = Wp (boolsOf xs) fun bs => Q (.bool (bs.all id)) false := by simp only [biD, pw, p2, p3, pif, Wp0_ite, Wp0_some, Wp0_none, Wp0_map, Wp0_bind]
@[simp ↓] theorem wbi_any : W2 (biD .any [.list xs]) Q = Wp (boolsOf xs) fun bs => Q (.bool (bs.any id)) false := by simp only [biD, pw, p2, p3, pif, Wp0_ite, Wp0_some, Wp0_none, Wp0_map, Wp0_bind]
@[simp ↓] theorem wbi_tupL : W2 (biD .tuple [.list xs]) Q = Q (.tuple xs) false := by simp only [biD, pw, p2, p3, pif, Wp0_ite, Wp0_some, Wp0_none, Wp0_map, Wp0_bind]
@[simp ↓] theorem wbi_tupT : W2 (biD .tuple [.tuple xs]) Q = Q (.tuple xs) false := by simp only [biD, pw, p2, p3, pif, Wp0_ite, Wp0_some, Wp0_none, Wp0_map, Wp0_bind]
@[simp ↓] theorem wbi_listL : W2 (biD .list [.list xs]) Q = Q (.list xs) true := by simp only [biD, pw, p2, p3, pif, Wp0_ite, Wp0_some, Wp0_none, Wp0_map, Wp0_bind]
@[simp ↓] theorem wbi_listT : W2 (biD .list [.tuple xs]) Q = Q (.list xs) true := by simp only [biD, pw, p2, p3, pif, Wp0_ite, Wp0_some, Wp0_none, Wp0_map, Wp0_bind]
@[simp ↓] theorem wbi_sum : W2 (biD .sum [.list xs]) Q = Wp (intsOf xs) fun ns => Q (.int ns.sum) false := by simp only [biD, pw, p2, p3, pif, Wp0_ite, Wp0_some, Wp0_none, Wp0_map, Wp0_bind]
@[simp ↓] theorem wbi_max2 : W2 (biD .max2 [.int a, .int b]) Q = Q (.int (max a b)) false := by
  have : (if b > a then b else a) = max a b := by split <;> omega
  simp only [biD, this, pw, p2, p3, pif, Wp0_ite, Wp0_some, Wp0_none, Wp0_map, Wp0_bind]
@[simp ↓] theorem wbi_min2 : W2 (biD .min2 [.int a, .int b]) Q = Q (.int (min a b)) false := by
  have : (if b < a then b else a) = min a b := by split <;> omega
  simp only [biD, this, pw, p2, p3, pif, Wp0_ite, Wp0_some, Wp0_none, Wp0_map, Wp0_bind]
@[simp ↓] theorem wbi_sorted : W2 (biD .sorted [.list xs]) Q = Wp (intsOf xs) fun ns => Q (.list ((sortI ns).map .int)) true := by simp only [biD, pw, p2, p3, pif, Wp0_ite, Wp0_some, Wp0_none, Wp0_map, Wp0_bind]
@[simp ↓] theorem wbi_repr {d} : W2 (biD .repr [d]) Q = Wif (shows d = true) (Q (.str d.shown) false) False := by simp only [biD, pw, p2, p3, pif, Wp0_ite, Wp0_some, Wp0_none, Wp0_map, Wp0_bind]
@[simp ↓] theorem wbi_intI : W2 (biD .int [.int a]) Q = Q (.int a) false := by simp only [biD, pw, p2, p3, pif, Wp0_ite, Wp0_some, Wp0_none, Wp0_map, Wp0_bind]
@[simp ↓] theorem wbi_intB {t} : W2 (biD .int [.bool t]) Q = Q (.int (if t then 1 else 0)) false := by simp only [biD, pw, p2, p3, pif, Wp0_ite, Wp0_some, Wp0_none, Wp0_map, Wp0_bind]
@[simp ↓] theorem wbi_isInt {d} : W2 (biD .isInt [d]) Q = Wp (isaD .isInt d) fun b => Q (.bool b) false := by simp only [biD, pw, p2, p3, pif, Wp0_ite, Wp0_some, Wp0_none, Wp0_map, Wp0_bind]
@[simp ↓] theorem wbi_isBool {d} : W2 (biD .isBool [d]) Q = Wp (isaD .isBool d) fun b => Q (.bool b) false := by simp only [biD, pw, p2, p3, pif, Wp0_ite, Wp0_some, Wp0_none, Wp0_map, Wp0_bind]
@[simp ↓] theorem wbi_isTuple {d} : W2 (biD .isTuple [d]) Q = Wp (isaD .isTuple d) fun b => Q (.bool b) false := by simp only [biD, pw, p2, p3, pif, Wp0_ite, Wp0_some, Wp0_none, Wp0_map, Wp0_bind]
@[simp ↓] theorem wbi_isStr {d} : W2 (biD .isStr [d]) Q = Wp (isaD .isStr d) fun b => Q (.bool b) false := by simp only [biD, pw, p2, p3, pif, Wp0_ite, Wp0_some, Wp0_none, Wp0_map, Wp0_bind]
@[simp ↓] theorem wbi_isList {d} : W2 (biD .isList [d]) Q = Wp (isaD .isList d) fun b => Q (.bool b) false := by simp only [biD, pw, p2, p3, pif, Wp0_ite, Wp0_some, Wp0_none, Wp0_map, Wp0_bind]
end
@[simp] theorem isa_i {a} : isaD .isInt (.int a) = some true := rfl
@[simp] theorem isa_ib {a} : isaD .isInt (.bool a) = some true := rfl
@[simp] theorem isa_it {a} : isaD .isInt (.tuple a) = some false := rfl
@[simp] theorem isa_il {a} : isaD .isInt (.list a) = some false := rfl
@[simp] theorem isa_is {a} : isaD .isInt (.str a) = some false := rfl
@[simp] theorem isa_in : isaD .isInt .none = some false := rfl
@[simp] theorem isa_bi {a} : isaD .isBool (.int a) = some false := rfl
@[simp] theorem isa_bb {a} : isaD .isBool (.bool a) = some true := rfl
@[simp] theorem isa_ti {a} : isaD .isTuple (.int a) = some false := rfl
@[simp] theorem isa_tb {a} : isaD .isTuple (.bool a) = some false := rfl
@[simp] theorem isa_tt {a} : isaD .isTuple (.tuple a) = some true := rfl
@[simp] theorem isa_tl {a} : isaD .isTuple (.list a) = some false := rfl
@[simp] theorem isa_ts {a} : isaD .isTuple (.str a) = some false := rfl
@[simp] theorem isa_tn : isaD .isTuple .none = some false := rfl
@[simp] theorem truthD_b {b} : truthD (.bool b) = some b := rfl
@[simp] theorem truthD_n : truthD .none = some false := rfl
@[simp] theorem truthD_i {i} : truthD (.int i) = some (i != 0) := rfl
@[simp] theorem truthD_l {xs} : truthD (.list xs) = some (!xs.isEmpty) := rfl
@[simp] theorem truthD_t {xs} : truthD (.tuple xs) = some (!xs.isEmpty) := rfl
@[simp] theorem seqOf_l {xs} : seqOf (.list xs) = some xs := rfl
@[simp] theorem seqOf_t {xs} : seqOf (.tuple xs) = some xs := rfl
@[simp] theorem isNone_n : isNone .none = true := rfl
@[simp] theorem isNone_i {a} : isNone (.int a) = false := rfl
@[simp] theorem isNone_t {a} : isNone (.tuple a) = false := rfl
@[simp] theorem isNone_l {a} : isNone (.list a) = false := rfl
@[simp] theorem isNone_b {a} : isNone (.bool a) = false := rfl
@[simp] theorem isKey_i {a} : isKey (.int a) = true := rfl
@[simp] theorem isKey_s {a} : isKey (.str a) = true := rfl
@[simp] theorem isOwn_o {d} : isOwn (some (.own d)) = true := rfl
@[simp] theorem isOwnL_o {d} : isOwnL (some (.own (.list d))) = true := rfl
@[simp] theorem zipK_t {xs ys} : zipK (.tuple xs) (.tuple ys) = some ((xs.zip ys).map fun p => .tuple [p.1, p.2]) := rfl
@[simp] theorem zipK_l {xs ys} : zipK (.list xs) (.list ys) = some ((xs.zip ys).map fun p => .tuple [p.1, p.2]) := rfl
@[simp] theorem enmK_l {xs} : enmK (.list xs) = some (xs.zipIdx.map fun p => .tuple [.int p.2, p.1]) := rfl
@[simp] theorem intsOf_map {l : List Int} : intsOf (l.map PyData.int) = some l := by
  induction l with
  | nil => rfl
  | cons a r ih => simp [intsOf, ih]
@[simp] theorem boolsOf_map {l : List Bool} : boolsOf (l.map PyData.bool) = some l := by
  induction l with
  | nil => rfl
  | cons a r ih => simp [boolsOf, ih]
@[simp] theorem boolsOf_map' {α : Type} {p : α → Bool} {l : List α} : boolsOf (l.map fun x => PyData.bool (p x)) = some (l.map p) := by
  induction l with
  | nil => rfl
  | cons a r ih => simp [boolsOf, ih]
@[simp] theorem intsOf_map' {α : Type} {p : α → Int} {l : List α} : intsOf (l.map fun x => PyData.int (p x)) = some (l.map p) := by
  induction l with
  | nil => rfl
  | cons a r ih => simp [intsOf, ih]
@[simp ↓] theorem wN_nil {ρ Q} : W2 (lend ρ []) Q = Q [] ρ := by simp only [lend, pw, p2, p3, pif, Wp0_ite, Wp0_some, Wp0_none, Wp0_map, Wp0_bind]
@[simp ↓] theorem wN_v {ρ Q d r} : W2 (lend ρ (.v d :: r)) Q = W2 (lend ρ r) fun xa xb => Q ((d, false) :: xa) xb := by simp only [lend, pw, p2, p3, pif, Wp0_ite, Wp0_some, Wp0_none, Wp0_map, Wp0_bind]
@[simp ↓] theorem wN_r {ρ : Rho} {Q i r} : W2 (lend ρ (.r i :: r)) Q = slotK ρ[i]? (fun d => W2 (lend ρ r) fun xa xb => Q ((d, false) :: xa) xb) (fun d => W2 (lend (ρ.set i .no) r) fun xa xb => Q ((d, true) :: xa) xb) := by
  rcases h : ρ[i]? with _ | (_ | d | d) <;> simp only [lend, h, slotK, pw, p2, p3, pif, Wp0_ite, Wp0_some, Wp0_none, Wp0_map, Wp0_bind]
@[simp ↓] theorem wK_nil {ρ Q as ss} : Wp (back ρ [] as ss) Q = Q ρ := by simp [back]
@[simp ↓] theorem wK_t {ρ Q i d s as ss r} : Wp (back ρ (.r i :: r) ((d, true) :: as) (s :: ss)) Q = Wp (back (ρ.set i s) r as ss) Q := by simp [back]
@[simp ↓] theorem wK_f {ρ Q b d s as ss r} : Wp (back ρ (b :: r) ((d, false) :: as) (s :: ss)) Q = Wp (back ρ r as ss) Q := by cases b <;> simp [back]
@[simp ↓] theorem wGA_nil {ρ Q} : Wp (getAll ρ []) Q = Q [] := by simp [getAll]
@[simp ↓] theorem wGA_cons {ρ Q b r} : Wp (getAll ρ (b :: r)) Q = Wp (b.get ρ) fun d => Wp (getAll ρ r) fun ds => Q (d :: ds) := by simp only [getAll, pw, Wp0_ite, Wp0_some, Wp0_none, Wp0_map, Wp0_bind]
@[simp ↓] theorem wSt_nm {i d fr ρ Q} : Wp (setT (.nm i) d fr ρ) Q = Q (ρ.set i (slotOf d fr)) := by simp [setT]
@[simp ↓] theorem wSt_tp {ts d fr ρ Q} : Wp (setT (.tp ts) d fr ρ) Q = Wp (bindT (.tp ts) d ρ) Q := by simp [setT]
@[simp] theorem slotOf_t {d} : slotOf d true = .own d := rfl
@[simp] theorem slotOf_f {d} : slotOf d false = .dat d := rfl
@[simp ↓] theorem wBt_nm {i d ρ Q} : Wp (bindT (.nm i) d ρ) Q = Q (ρ.set i (.dat d)) := by simp [bindT]
@[simp ↓] theorem wBt_tp {ts ds ρ Q} : Wp (bindT (.tp ts) (.tuple ds) ρ) Q = Wp (bindTs ts ds ρ) Q := by simp [bindT]
@[simp ↓] theorem wBs_nil {ρ Q} : Wp (bindTs .nil [] ρ) Q = Q ρ := by simp [bindTs]
@[simp ↓] theorem wBs_cons {a r d ds ρ Q} : Wp (bindTs (.cons a r) (d :: ds) ρ) Q = Wp (bindT a d ρ) fun ρ1 => Wp (bindTs r ds ρ1) Q := by simp [bindTs]
@[simp ↓] theorem wBp_nil {ρ Q} : Wp (bindP .nil [] ρ) Q = Q ρ := by simp [bindP]
@[simp ↓] theorem wBp_nm {i r d fr ds ρ Q} : Wp (bindP (.cons (.nm i) r) ((d, fr) :: ds) ρ) Q = Wp (bindP r ds (ρ.set i (slotOf d fr))) Q := by simp [bindP]
@[simp ↓] theorem wBp_tp {ts r d fr ds ρ Q} : Wp (bindP (.cons (.tp ts) r) ((d, fr) :: ds) ρ) Q = Wp (bindT (.tp ts) d ρ) fun ρ1 => Wp (bindP r ds ρ1) Q := by simp [bindP]
@[simp] theorem argSlot_t {d} : argSlot (d, true) = .own d := rfl
@[simp] theorem argSlot_f {d} : argSlot (d, false) = .dat d := rfl
@[simp] theorem finals_nil {ρ} : finals [] ρ = [] := rfl
@[simp] theorem finals_t {d as s ρ} : finals ((d, true) :: as) (s :: ρ) = s :: finals as ρ := rfl
@[simp] theorem finals_f {d as s ρ} : finals ((d, false) :: as) (s :: ρ) = .no :: finals as ρ := rfl
@[simp] theorem small_lit {i : Int} : (small i = true) = (-(2 ^ 64) < i ∧ i < 2 ^ 64) := by simp [small]
@[simp] theorem lineI_lit {i : Int} : (lineI i = true) = (-(2 ^ 62) ≤ i ∧ i < 2 ^ 62) := by simp [lineI]
@[simp] theorem wipeR_nil {ρ} : wipeR ρ [] = ρ := rfl
@[simp] theorem wipeR_cons {ρ v vs} : wipeR ρ (v :: vs) = (wipeR ρ vs).set v .no := rfl
/-! small sizes -/
@[simp] theorem szl_0 : (0 ≤ sizeLine) = True := by decide
@[simp] theorem szl_1 : (1 ≤ sizeLine) = True := by decide
@[simp] theorem szl_2 : (2 ≤ sizeLine) = True := by decide
@[simp] theorem szl_3 : (3 ≤ sizeLine) = True := by decide
@[simp] theorem szl_4 : (4 ≤ sizeLine) = True := by decide
@[simp] theorem szl_5 : (5 ≤ sizeLine) = True := by decide
@[simp] theorem szl_6 : (6 ≤ sizeLine) = True := by decide
@[simp] theorem szl_7 : (7 ≤ sizeLine) = True := by decide
@[simp] theorem szl_8 : (8 ≤ sizeLine) = True := by decide
@[simp] theorem szl_9 : (9 ≤ sizeLine) = True := by decide
@[simp] theorem szl_10 : (10 ≤ sizeLine) = True := by decide
@[simp] theorem szl_11 : (11 ≤ sizeLine) = True := by decide
@[simp] theorem szl_12 : (12 ≤ sizeLine) = True := by decide
@[simp] theorem szl_13 : (13 ≤ sizeLine) = True := by decide
@[simp] theorem szl_14 : (14 ≤ sizeLine) = True := by decide
@[simp] theorem szl_15 : (15 ≤ sizeLine) = True := by decide
/-- a def run: its parameters, then its variables -/
theorem w_go {T : Nat → Option Fn} {W k i as} (f : Fn) [Has T i f] {Q} (h : as.length = f.np ∧ lentOk (asgd f.body) 0 as = true)
    (h' : Wp (evS (evF T W k) W f.body (as.map argSlot ++ List.replicate (f.nv - f.np) .no)) fun o => endK o as Q) : W3 (evF T W (k + 1) i as) Q :=
  w_fn (f := f) (w_run h h')
end MI

/-! MIH: loops and comprehensions over lists of known make. -/
namespace MI
open PySem
section
variable {α : Type} {tg : MT} {ev : Rho → List PyData → Option (Rho × List PyData)} {vs : List Nat} {f : α → PyData} {l : List α} {ρ : Rho} {Q : Rho → List PyData → Prop}
theorem w_turnsm {acc0 : List PyData} (I : List α → Rho → List PyData → Prop) (h0 : I [] ρ acc0)
    (h1 : ∀ done d rest ρ acc, l = done ++ d :: rest → I done ρ acc → Wp (bindT tg (f d) ρ) fun ρ1 => W2 (ev ρ1 acc) fun xa xb => Kd (I (done ++ [d]) (wipeR xa vs) xb))
    (h2 : ∀ ρ acc, I l ρ acc → Q ρ acc) : W2 (turns tg ev vs (l.map f) ρ acc0) Q := by
  suffices H : ∀ rest done ρ acc, l = done ++ rest → I done ρ acc → W2 (turns tg ev vs (rest.map f) ρ acc) Q from H l [] ρ acc0 rfl h0
  intro rest
  induction rest with
  | nil => intro done ρ acc h hI; rw [List.append_nil] at h; subst h; exact ⟨_, rfl, h2 _ _ hI⟩
  | cons d rest ih =>
    intro done ρ acc h hI
    simp only [List.map_cons, turns, p2, Wp0_bind]
    obtain ⟨ρ1, h3, x, h4, h5⟩ := h1 done d rest ρ acc h hI
    exact ⟨ρ1, h3, x, h4, ih (done ++ [d]) _ _ (by simp [h]) h5⟩
/-- parts by a function that may leave some out -/
theorem w_compf (g : α → Option PyData) (hn : l.length ≤ sizeLine)
    (h1 : ∀ x acc, x ∈ l → acc.length < sizeLine → Wp (bindT tg (f x) ρ) fun ρ1 => W2 (ev ρ1 acc) fun xa xb => wipeR xa vs = ρ ∧ xb = acc ++ (g x).toList)
    (h2 : Q ρ (l.filterMap g)) : W2 (turns tg ev vs (l.map f) ρ []) Q := by
  refine w_turnsm (fun done ρ' acc => ρ' = ρ ∧ acc = done.filterMap g) ⟨rfl, rfl⟩ ?_ ?_
  · intro done d rest ρ' acc hd ⟨hr, ha⟩
    subst hr
    have hl : acc.length ≤ done.length := by rw [ha]; exact List.length_filterMap_le _ _
    have hd' : done.length < l.length := by rw [hd]; simp
    refine Wp_mono (h1 d acc (by rw [hd]; simp) (by omega)) fun ρ1 h3 => W2_mono h3 fun x y hx => ⟨hx.1, ?_⟩
    rw [hx.2, ha, List.filterMap_append]
    cases hg : g d <;> simp [hg]
  · intro ρ' acc ⟨hr, ha⟩; subst hr; subst ha; exact h2
/-- parts one by one -/
theorem w_compm (g : α → PyData) (hn : l.length ≤ sizeLine)
    (h1 : ∀ x acc, x ∈ l → acc.length < sizeLine → Wp (bindT tg (f x) ρ) fun ρ1 => W2 (ev ρ1 acc) fun xa xb => wipeR xa vs = ρ ∧ xb = acc ++ [g x])
    (h2 : Q ρ (l.map g)) : W2 (turns tg ev vs (l.map f) ρ []) Q :=
  w_compf (fun x => some (g x)) hn (fun x acc hx ha => h1 x acc hx ha) (by rw [List.filterMap_eq_map']; exact h2)
/-- some of the parts -/
theorem w_compp (p : α → Bool) (g : α → PyData) (hn : l.length ≤ sizeLine)
    (h1 : ∀ x acc, x ∈ l → acc.length < sizeLine → Wp (bindT tg (f x) ρ) fun ρ1 => W2 (ev ρ1 acc) fun xa xb => wipeR xa vs = ρ ∧ xb = acc ++ if p x then [g x] else [])
    (h2 : Q ρ ((l.filter p).map g)) : W2 (turns tg ev vs (l.map f) ρ []) Q := by
  refine w_compf (fun x => if p x then some (g x) else none) hn (fun x acc hx ha => ?_) ?_
  · refine Wp_mono (h1 x acc hx ha) fun ρ1 h3 => W2_mono h3 fun a b h => ⟨h.1, ?_⟩
    rw [h.2]; cases hp : p x <;> simp [hp]
  · have : l.filterMap (fun x => if p x then some (g x) else none) = (l.filter p).map g := by
      clear h1 h2 hn
      induction l with
      | nil => rfl
      | cons a r ih => cases hp : p a <;> simp [hp, ih]
    rw [this]; exact h2
end
section
variable {α : Type} {tg : MT} {ev : Rho → Option Out} {f : α → PyData} {l : List α} {ρ : Rho} {Q : Out → Prop}
theorem w_loopm (I : List α → Rho → Prop) (h0 : I [] ρ)
    (h1 : ∀ done d rest ρ, l = done ++ d :: rest → I done ρ → Wp (bindT tg (f d) ρ) fun ρ1 => Wp (ev ρ1) (turnK (I (done ++ [d])) Q))
    (h2 : ∀ ρ, I l ρ → Q (.nx ρ)) : Wp (loopS tg ev (l.map f) ρ) Q := by
  suffices H : ∀ rest done ρ, l = done ++ rest → I done ρ → Wp (loopS tg ev (rest.map f) ρ) Q from H l [] ρ rfl h0
  intro rest
  induction rest with
  | nil => intro done ρ h hI; rw [List.append_nil] at h; subst h; exact ⟨_, rfl, h2 _ hI⟩
  | cons d rest ih =>
    intro done ρ h hI
    simp only [List.map_cons, loopS, Wp_bind]
    refine Wp_mono (h1 done d rest ρ h hI) fun ρ1 h3 => ?_
    rw [Wp_bind]; refine Wp_mono h3 fun o ho => ?_
    cases o with
    | nx ρ2 => exact ih (done ++ [d]) ρ2 (by simp [h]) ho
    | ct ρ2 => exact ih (done ++ [d]) ρ2 (by simp [h]) ho
    | bk ρ2 => exact ⟨_, rfl, ho⟩
    | rt d fr ρ2 => exact ⟨_, rfl, ho⟩
/-- an invariant that does not count -/
theorem w_loops (I : Rho → Prop) (h0 : I ρ)
    (h1 : ∀ d ρ, d ∈ l → I ρ → Wp (bindT tg (f d) ρ) fun ρ1 => Wp (ev ρ1) (turnK I Q))
    (h2 : ∀ ρ, I ρ → Q (.nx ρ)) : Wp (loopS tg ev (l.map f) ρ) Q :=
  w_loopm (fun _ => I) h0 (fun done d rest ρ hl hI => h1 d ρ (by rw [hl]; simp) hI) h2
end
/-- the integers from one on -/
def intR (lo hi : Int) : List Int := (List.range (hi - lo).toNat).map fun k : Nat => lo + (k : Int)
theorem rangeD_eq {lo hi : Int} : rangeD lo hi = (intR lo hi).map .int := by simp [rangeD, intR]
theorem mem_intR {lo hi x : Int} : x ∈ intR lo hi ↔ lo ≤ x ∧ x < hi := by
  simp only [intR, List.mem_map, List.mem_range]
  constructor
  · rintro ⟨k, h, rfl⟩; omega
  · intro h; exact ⟨(x - lo).toNat, by omega, by omega⟩
theorem length_intR {lo hi : Int} : (intR lo hi).length = (hi - lo).toNat := by simp [intR]
theorem intR_sorted {lo hi : Int} : (intR lo hi).Pairwise (· < ·) := by
  rw [intR, List.pairwise_map]
  exact List.Pairwise.imp (fun h => by omega) List.pairwise_lt_range
/-- neighbours ascend: all do -/
theorem zip_lt {S : List Int} : (∀ p ∈ S.zip (S.drop 1), p.1 < p.2) ↔ S.Pairwise (· < ·) := by
  induction S with
  | nil => simp
  | cons a r ih =>
    cases r with
    | nil => simp
    | cons b t =>
      simp only [List.drop_one, List.tail_cons, List.zip_cons_cons, List.mem_cons, forall_eq_or_imp] at ih ⊢
      rw [List.pairwise_cons, ← ih]
      constructor
      · rintro ⟨h1, h2⟩
        refine ⟨?_, h2⟩
        have h3 := ih.1 h2
        rw [List.pairwise_cons] at h3
        intro x hx
        rcases List.mem_cons.1 hx with rfl | hx
        · exact h1
        · have := h3.1 x hx; omega
      · rintro ⟨h1, h2⟩; exact ⟨h1 b (List.mem_cons_self), h2⟩
theorem cut_from {α : Type} {xs : List α} {i : Int} (h : 0 ≤ i) : cut xs (some i) none = xs.drop i.toNat := by
  have : ¬ i < 0 := by omega
  simp only [cut, cutIx, if_neg this]
  by_cases hl : i.toNat ≤ xs.length
  · rw [Nat.min_eq_left hl, List.take_of_length_le (by simp)]
  · rw [Nat.min_eq_right (by omega), Nat.sub_self, List.take_zero, List.drop_eq_nil_of_le (by omega)]
theorem cut_upto {α : Type} {xs : List α} {i : Int} (h : 0 ≤ i) : cut xs none (some i) = xs.take i.toNat := by
  have : ¬ i < 0 := by omega
  simp only [cut, cutIx, if_neg this, List.drop_zero, Nat.sub_zero]
  by_cases hl : i.toNat ≤ xs.length
  · rw [Nat.min_eq_left hl]
  · rw [Nat.min_eq_right (by omega), List.take_of_length_le (by omega), List.take_of_length_le (by omega)]
theorem cut_both {α : Type} {xs : List α} {i j : Int} (h : 0 ≤ i) (h' : 0 ≤ j) : cut xs (some i) (some j) = (xs.drop i.toNat).take (j.toNat - i.toNat) := by
  have hi : ¬ i < 0 := by omega
  have hj : ¬ j < 0 := by omega
  simp only [cut, cutIx, if_neg hi, if_neg hj]
  by_cases hl : i.toNat ≤ xs.length
  · rw [Nat.min_eq_left hl]
    by_cases hl2 : j.toNat ≤ xs.length
    · rw [Nat.min_eq_left hl2]
    · rw [Nat.min_eq_right (by omega), List.take_of_length_le (by simp), List.take_of_length_le (by simp; omega)]
  · rw [Nat.min_eq_right (a := i.toNat) (by omega), List.drop_eq_nil_of_le (Nat.le_refl _), List.drop_eq_nil_of_le (by omega)]; simp
@[simp] theorem cut_1 {α : Type} {xs : List α} : cut xs (some 1) none = xs.tail := by rw [cut_from (by omega)]; simp
theorem zip_ints {S R : List Int} : ((S.map PyData.int).zip (R.map PyData.int)).map (fun p => PyData.tuple [p.1, p.2]) = (S.zip R).map (fun p => PyData.tuple [.int p.1, .int p.2]) := by
  rw [List.zip_map, List.map_map]; rfl
end MI

/-! MII: data of which repr and == can be told. -/
namespace MI
open PySem
mutual
/-- no dicts, numbers not too long -/
def mild : PyData → Bool
  | .none => true
  | .bool _ => true
  | .int i => decide (i.natAbs < 2 ^ 80)
  | .str s => PyData.strOk s
  | .list xs => mildAll xs
  | .tuple xs => mildAll xs
  | .dict _ => false
def mildAll : List PyData → Bool
  | [] => true
  | x :: r => mild x && mildAll r
end
theorem mildAll_iff {xs : List PyData} : mildAll xs = true ↔ ∀ x ∈ xs, mild x = true := by
  induction xs with
  | nil => simp [mildAll]
  | cons a r ih => simp [mildAll, ih]
theorem log2_lt {n : Nat} (h : n < 2 ^ 80) : n.log2 < 80 := by
  rcases Nat.eq_zero_or_pos n with rfl | h0
  · decide
  · exact (Nat.log2_lt (by omega)).2 h
mutual
theorem mild_canLay : ∀ d : PyData, mild d = true → d.canLay0 = true
  | .none, _ => by simp only [PyData.canLay0]
  | .bool _, _ => by simp only [PyData.canLay0]
  | .int _, _ => by simp only [PyData.canLay0]
  | .str s, h => by simp only [mild] at h; simp only [PyData.canLay0, h]
  | .list xs, h => by simp only [mild] at h; simp only [PyData.canLay0]; exact mildAll_canLay xs h
  | .tuple xs, h => by simp only [mild] at h; simp only [PyData.canLay0]; exact mildAll_canLay xs h
  | .dict _, h => by simp only [mild] at h; cases h
theorem mildAll_canLay : ∀ xs : List PyData, mildAll xs = true → PyData.canLayAll0 xs = true
  | [], _ => by simp only [PyData.canLayAll0]
  | x :: r, h => by
    simp only [mildAll, Bool.and_eq_true] at h
    simp only [PyData.canLayAll0, mild_canLay x h.1, mildAll_canLay r h.2, Bool.and_self]
end
mutual
theorem mild_show : ∀ d : PyData, mild d = true → d.showable = true ∧ d.hasDict = false ∧ d.leavesShort 96 = true
  | .none, _ => by simp [PyData.showable, PyData.hasDict, PyData.leavesShort]
  | .bool _, _ => by simp [PyData.showable, PyData.hasDict, PyData.leavesShort]
  | .int i, h => by
    simp only [mild, decide_eq_true_eq] at h
    have h1 := log2_lt h
    have h2 : (Str.ofString (toString i)).length ≤ 96 := by
      rw [PySem.ofString_length]
      exact Nat.le_trans (PySem.int_text_length_le (k := 80) (by decide) h1) (by decide)
    exact ⟨by simp only [PyData.showable, decide_eq_true_eq]; omega, by simp only [PyData.hasDict], by simp only [PyData.leavesShort, PyData.shown]; exact decide_eq_true h2⟩
  | .str s, h => by
    exact ⟨by simp only [PyData.showable], by simp only [PyData.hasDict], PyData.leavesShort_of_canLay0 96 _ (mild_canLay _ h) (by simp only [PyData.intsShort])⟩
  | .list xs, h => by
    simp only [mild] at h
    have := mildAll_show xs h
    simp [PyData.showable, PyData.hasDict, PyData.leavesShort, this]
  | .tuple xs, h => by
    simp only [mild] at h
    have := mildAll_show xs h
    simp [PyData.showable, PyData.hasDict, PyData.leavesShort, this]
  | .dict _, h => by simp only [mild] at h; cases h
theorem mildAll_show : ∀ xs : List PyData, mildAll xs = true → PyData.showableAll xs = true ∧ PyData.hasDictAll xs = false ∧ PyData.leavesShortAll 96 xs = true
  | [], _ => by simp [PyData.showableAll, PyData.hasDictAll, PyData.leavesShortAll]
  | x :: r, h => by
    simp only [mildAll, Bool.and_eq_true] at h
    have h1 := mild_show x h.1
    have h2 := mildAll_show r h.2
    simp [PyData.showableAll, PyData.hasDictAll, PyData.leavesShortAll, h1, h2]
end
theorem mild_lay {d : PyData} (h : mild d = true) (h2 : d.depth ≤ 64) : lay d = true := by
  simp only [lay, SeqAt.shaped, mild_canLay d h, Bool.true_and, decide_eq_true_eq]; exact h2
theorem mild_shows {d : PyData} (h : mild d = true) (h2 : d.depth ≤ 64) (h3 : d.weight ≤ 170000) : shows d = true := by
  have h4 := mild_show d h
  have h5 := PyData.shown_le 96 (by decide) d h4.2.2
  have h6 : d.shown.length ≤ sizeLine := Nat.le_trans h5 (Nat.le_trans (Nat.add_le_add_right (Nat.mul_le_mul_left _ h3) _) (by decide))
  simp [shows, h4, h2, h6]
@[simp] theorem eqv_ints {S R : List Int} : PyData.eqvAll (S.map .int) (R.map .int) = decide (S = R) := by
  induction S generalizing R with
  | nil => cases R <;> simp [PyData.eqvAll]
  | cons a r ih => cases R with
    | nil => simp [PyData.eqvAll]
    | cons b t => simp [PyData.eqvAll, PyData.eqv, ih, Bool.decide_and]; rfl
@[simp] theorem eqv_nil {S : List PyData} : PyData.eqvAll S [] = S.isEmpty := by cases S <;> simp [PyData.eqvAll]
@[simp] theorem eqv_nil' {S : List PyData} : PyData.eqvAll [] S = S.isEmpty := by cases S <;> simp [PyData.eqvAll]
@[simp] theorem eqv_l {S R : List PyData} : PyData.eqv (.list S) (.list R) = PyData.eqvAll S R := by simp [PyData.eqv]
@[simp] theorem eqv_t {S R : List PyData} : PyData.eqv (.tuple S) (.tuple R) = PyData.eqvAll S R := by simp [PyData.eqv]
@[simp] theorem eqv_c {x y : PyData} {S R : List PyData} : PyData.eqvAll (x :: S) (y :: R) = (PyData.eqv x y && PyData.eqvAll S R) := by simp [PyData.eqvAll]
@[simp] theorem eqv_i {x y : Int} : PyData.eqv (.int x) (.int y) = decide (x = y) := by simp only [PyData.eqv]; rfl
theorem depth_ints {S : List Int} : PyData.depthAll (S.map .int) = 0 := by
  induction S with
  | nil => simp [PyData.depthAll]
  | cons a r ih => simp [PyData.depthAll, PyData.depth, ih]
theorem mild_ints {S : List Int} (h : ∀ s ∈ S, s.natAbs < 2 ^ 80) : mildAll (S.map .int) = true := by
  rw [mildAll_iff]; intro x hx
  obtain ⟨s, hs, rfl⟩ := List.mem_map.1 hx
  simp only [mild, decide_eq_true_eq]; exact h s hs
theorem lay_ints {S : List Int} (h : ∀ s ∈ S, s.natAbs < 2 ^ 80) : lay (.list (S.map .int)) = true :=
  mild_lay (by simp only [mild]; exact mild_ints h) (by simp [PyData.depth, depth_ints])
theorem lay_intsT {S : List Int} (h : ∀ s ∈ S, s.natAbs < 2 ^ 80) : lay (.tuple (S.map .int)) = true :=
  mild_lay (by simp only [mild]; exact mild_ints h) (by simp [PyData.depth, depth_ints])
@[simp] theorem lay_nil : lay (.list []) = true := by decide
@[simp] theorem lay_nilT : lay (.tuple []) = true := by decide
end MI

namespace LW
open PySem MI L2
abbrev WW : Nat := 100000
abbrev i_is_integer : Nat := 0
abbrev i_is_between : Nat := 1
abbrev i_is_set : Nat := 2
abbrev i_is_pattern : Nat := 3
abbrev i_need_pattern : Nat := 21
abbrev i_does_send : Nat := 22
abbrev i_sends : Nat := 23
abbrev i_cell : Nat := 4
abbrev i_pen : Nat := 5
abbrev i_draw : Nat := 6
abbrev i_same : Nat := 8
abbrev i_beat_of : Nat := 12
abbrev i_again : Nat := 14
abbrev i_beat : Nat := 13
abbrev i_taken : Nat := 24
abbrev i_is_right_2 : Nat := 25
abbrev i_law_k02 : Nat := 26
def f_is_integer : Fn := ⟨1, 1,
  (.ret (.and (.bi .isInt (.cons (.var 0) .nil)) (.not (.bi .isBool (.cons (.var 0) .nil)))))⟩
def f_is_between : Fn := ⟨3, 3,
  (.ret (.and (.call i_is_integer (.cons (.var 0) .nil)) (.cmp2 .le .le (.var 1) (.var 0) (.var 2))))⟩
def f_is_set : Fn := ⟨3, 5,
  (.seq (.ite (.or (.not (.tst (.bi .isTuple (.cons (.var 0) .nil)))) (.not (.tst (.bi .all (.cons (.comp [3] (.nm 3) (.it (.var 0)) .nil (.call i_is_between (.cons (.var 3) (.cons (.var 1) (.cons (.var 2) .nil))))) .nil))))) (.ret (.lit (.bool false))) .skip)
    (.ret (.bi .all (.cons (.comp [3, 4] (.tp (.cons (.nm 3) (.cons (.nm 4) .nil))) (.zp (.var 0) (.sl (.var 0) (.cons (.lit (.int 1)) .nil) .nil)) .nil (.cmp .lt (.var 3) (.var 4))) .nil))))⟩
def f_is_pattern : Fn := ⟨1, 1,
  (.seq (.ite (.or (.not (.tst (.bi .isTuple (.cons (.var 0) .nil)))) (.or (.tst (.cmp .ne (.bi .len (.cons (.var 0) .nil)) (.lit (.int 2)))) (.not (.tst (.call i_is_between (.cons (.idx (.var 0) (.lit (.int 0))) (.cons (.lit (.int 2)) (.cons (.lit (.int 60)) .nil)))))))) (.ret (.lit (.bool false))) .skip)
    (.ret (.and (.call i_is_set (.cons (.idx (.var 0) (.lit (.int 1))) (.cons (.lit (.int 0)) (.cons (.bin .sub (.idx (.var 0) (.lit (.int 0))) (.lit (.int 1))) .nil)))) (.cmp2 .le .lt (.lit (.int 1)) (.bi .len (.cons (.idx (.var 0) (.lit (.int 1))) .nil)) (.idx (.var 0) (.lit (.int 0)))))))⟩
def f_need_pattern : Fn := ⟨1, 1,
  (.ite (.not (.tst (.call i_is_pattern (.cons (.var 0) .nil)))) .stuck .skip)⟩
def f_does_send : Fn := ⟨3, 3,
  (.ret (.cmp .isin (.bin .mod (.bin .sub (.var 2) (.var 1)) (.idx (.var 0) (.lit (.int 0)))) (.idx (.var 0) (.lit (.int 1)))))⟩
def f_sends : Fn := ⟨3, 3,
  (.seq (.expr (.call i_need_pattern (.cons (.var 0) .nil)))
    (.seq (.ite (.not (.tst (.call i_is_between (.cons (.var 1) (.cons (.lit (.int 0)) (.cons (.bin .sub (.idx (.var 0) (.lit (.int 0))) (.lit (.int 1))) .nil)))))) .stuck .skip)
    (.seq (.ite (.not (.tst (.call i_is_integer (.cons (.var 2) .nil)))) .stuck .skip)
    (.ret (.call i_does_send (.cons (.var 0) (.cons (.var 1) (.cons (.var 2) .nil))))))))⟩
def f_cell : Fn := ⟨2, 2,
  (.ret (.ite (.tst (.cmp .lt (.var 1) (.bi .len (.cons (.var 0) .nil)))) (.idx (.var 0) (.var 1)) (.lit (.int 0))))⟩
def f_pen : Fn := ⟨1, 1,
  (.ret (.lst (.cons (.bi .max2 (.cons (.lit (.int 0)) (.cons (.bin .sub (.var 0) (.bin .pow (.lit (.int 10)) (.lit (.int 18)))) .nil))) (.cons (.bin .add (.bin .mod (.var 0) (.lit (.int 2147483629))) (.lit (.int 1))) (.cons (.lit (.int 0)) .nil)))))⟩
def f_draw : Fn := ⟨2, 4,
  (.seq (.ite (.tst (.cmp .gt (.idx (.var 0) (.lit (.int 0))) (.lit (.int 0)))) (.seq (.asg (.nm 2) (.bin .mod (.idx (.var 0) (.lit (.int 0))) (.var 1)))
    (.seq (.put 0 (.lit (.int 0)) (.bin .fdiv (.idx (.var 0) (.lit (.int 0))) (.var 1)))
    (.ret (.var 2)))) .skip)
    (.seq (.put 0 (.lit (.int 2)) (.bin .add (.idx (.var 0) (.lit (.int 2))) (.lit (.int 1))))
    (.seq (.put 0 (.lit (.int 1)) (.bin .mod (.bin .add (.bin .add (.bin .mul (.idx (.var 0) (.lit (.int 1))) (.lit (.int 48271))) (.bin .mul (.lit (.int 1009)) (.idx (.var 0) (.lit (.int 2))))) (.lit (.int 7))) (.lit (.int 2147483647))))
    (.seq (.asg (.nm 3) (.bin .mod (.bin .add (.bin .add (.bin .mul (.idx (.var 0) (.lit (.int 1))) (.idx (.var 0) (.lit (.int 1)))) (.bin .mul (.lit (.int 69621)) (.idx (.var 0) (.lit (.int 1))))) (.lit (.int 11))) (.lit (.int 2147483629))))
    (.seq (.asg (.nm 3) (.bin .mod (.bin .add (.bin .mul (.var 3) (.var 3)) (.bin .mul (.lit (.int 40014)) (.var 3))) (.lit (.int 2147483587))))
    (.ret (.bin .mod (.bin .fdiv (.var 3) (.lit (.int 16))) (.var 1))))))))⟩
def f_same : Fn := ⟨2, 2,
  (.ret (.cmp .eq (.bi .repr (.cons (.var 0) .nil)) (.bi .repr (.cons (.var 1) .nil))))⟩
def f_beat_of : Fn := ⟨2, 5,
  (.seq (.asg (.nm 2) (.bin .add (.lit (.int 1)) (.call i_draw (.cons (.var 0) (.cons (.lit (.int 4)) .nil)))))
    (.seq (.asg (.nm 3) (.comp [4] (.nm 4) (.rng1 (.var 1)) (.tst (.cmp .eq (.call i_draw (.cons (.var 0) (.cons (.var 2) .nil))) (.lit (.int 0)))) (.var 4)))
    (.seq (.ite (.or (.tst (.cmp .eq (.var 3) (.lst .nil))) (.tst (.cmp .eq (.bi .len (.cons (.var 3) .nil)) (.var 1)))) (.asg (.nm 3) (.lst (.cons (.call i_draw (.cons (.var 0) (.cons (.var 1) .nil))) .nil))) .skip)
    (.ret (.tup (.cons (.var 1) (.cons (.bi .tuple (.cons (.var 3) .nil)) .nil)))))))⟩
def f_again : Fn := ⟨2, 7,
  (.seq (.asg (.tp (.cons (.nm 2) (.cons (.nm 3) .nil))) (.var 0))
    (.seq (.asg (.nm 4) (.lst .nil))
    (.seq (.loop (.nm 5) (.rng1 (.var 1)) (.ext 4 (.comp [6] (.nm 6) (.it (.var 3)) .nil (.bin .add (.bin .mul (.var 5) (.var 2)) (.var 6)))))
    (.ret (.tup (.cons (.bin .mul (.var 1) (.var 2)) (.cons (.bi .tuple (.cons (.var 4) .nil)) .nil)))))))⟩
def f_beat : Fn := ⟨2, 3,
  (.seq (.ite (.and (.tst (.cmp .eq (.call i_draw (.cons (.var 0) (.cons (.lit (.int 3)) .nil))) (.lit (.int 0)))) (.tst (.cmp .gt (.var 1) (.lit (.int 3))))) (.seq (.asg (.nm 2) (.call i_beat_of (.cons (.var 0) (.cons (.bin .add (.lit (.int 2)) (.call i_draw (.cons (.var 0) (.cons (.bin .sub (.bin .fdiv (.var 1) (.lit (.int 2))) (.lit (.int 1))) .nil)))) .nil))))
    (.ret (.call i_again (.cons (.var 2) (.cons (.bin .add (.lit (.int 1)) (.call i_draw (.cons (.var 0) (.cons (.bin .fdiv (.var 1) (.idx (.var 2) (.lit (.int 0)))) .nil)))) .nil))))) .skip)
    (.ret (.call i_beat_of (.cons (.var 0) (.cons (.bin .add (.lit (.int 2)) (.call i_draw (.cons (.var 0) (.cons (.bin .sub (.var 1) (.lit (.int 1))) .nil)))) .nil)))))⟩
def f_taken : Fn := ⟨2, 7,
  (.seq (.par (.cons (.nm 2) (.cons (.tp (.cons (.nm 3) (.cons (.nm 4) .nil))) .nil)) (.cons .dic (.cons (.var 0) .nil)))
    (.seq (.loop (.nm 5) (.rng2 (.neg (.lit (.int 90))) (.lit (.int 91))) (.loop (.nm 6) (.it (.var 4)) (.put 2 (.bin .add (.bin .add (.var 1) (.var 6)) (.bin .mul (.var 5) (.var 3))) (.lit (.bool true)))))
    (.ret (.var 2))))⟩
def f_is_right_2 : Fn := ⟨3, 7,
  (.seq (.asg (.nm 3) (.call i_taken (.cons (.var 0) (.cons (.var 1) .nil))))
    (.seq (.loop (.nm 4) (.rng2 (.neg (.lit (.int 61))) (.lit (.int 62))) (.seq (.asg (.nm 5) (.cmp .isin (.var 4) (.var 3)))
    (.seq (.asg (.nm 6) (.lst (.cons (.call i_sends (.cons (.var 0) (.cons (.var 1) (.cons (.var 4) .nil)))) (.cons (.call i_sends (.cons (.var 0) (.cons (.var 1) (.cons (.var 4) .nil)))) (.cons (.call i_sends (.cons (.var 0) (.cons (.var 1) (.cons (.bin .add (.var 4) (.bin .mul (.var 2) (.idx (.var 0) (.lit (.int 0))))) .nil)))) .nil)))))
    (.ite (.not (.tst (.call i_same (.cons (.bin .add (.var 6) (.lst (.cons (.call i_sends (.cons (.var 0) (.cons (.var 1) (.cons (.bin .sub (.var 4) (.bin .mul (.var 2) (.idx (.var 0) (.lit (.int 0))))) .nil)))) .nil))) (.cons (.bin .mul (.lst (.cons (.var 5) .nil)) (.lit (.int 4))) .nil))))) (.ret (.lit (.bool false))) .skip))))
    (.ret (.lit (.bool true)))))⟩
def f_law_k02 : Fn := ⟨1, 5,
  (.seq (.loop (.nm 1) (.it (.bin .add (.lst (.cons (.call i_cell (.cons (.var 0) (.cons (.lit (.int 0)) .nil))) .nil)) (.sl (.var 0) (.cons (.lit (.int 1)) .nil) (.cons (.lit (.int 3)) .nil)))) (.seq (.asg (.nm 2) (.call i_pen (.cons (.var 1) .nil)))
    (.loop (.nm 3) (.rng1 (.lit (.int 8))) (.seq (.asg (.nm 4) (.call i_beat (.cons (.var 2) (.cons (.idx (.lst (.cons (.lit (.int 4)) (.cons (.lit (.int 9)) (.cons (.lit (.int 60)) (.cons (.lit (.int 60)) .nil))))) (.bin .mod (.var 3) (.lit (.int 4)))) .nil))))
    (.ite (.not (.tst (.call i_is_right_2 (.cons (.var 4) (.cons (.call i_draw (.cons (.var 2) (.cons (.idx (.var 4) (.lit (.int 0))) .nil))) (.cons (.call i_draw (.cons (.var 2) (.cons (.bin .pow (.lit (.int 10)) (.lit (.int 9))) .nil))) .nil)))))) (.ret (.lit (.bool false))) .skip)))))
    (.ret (.lit (.bool true))))⟩
section
/-! LA: pens, draws, patterns. -/
variable {T : Nat → Option Fn} {k : Nat}
theorem sizeLine_ge : 1000000 ≤ sizeLine := by decide
/-- a pen -/
def Pen (d : PyData) : Prop := ∃ a b c : Int, d = .list [.int a, .int b, .int c] ∧ 0 ≤ a ∧ 0 ≤ b ∧ b < 2147483648
theorem w_draw [Has T i_draw f_draw] {p : PyData} {m : Int} {Q} (hp : Pen p) (h0 : 0 < m) (h1 : m < 1073741824)
    (hq : ∀ r p', Pen p' → 0 ≤ r → r < m → Q (.int r) false [.own p', .no]) : W3 (evF T WW (k + 1) i_draw [(p, true), (.int m, false)]) Q := by
  obtain ⟨a, b, c, rfl, ha, hb, hb2⟩ := hp
  refine w_go f_draw ⟨rfl, rfl⟩ ?_
  simp -dsimp [f_draw]
  refine Wif_i (fun hpos => ?_) (fun hneg => ?_)
  · simp -dsimp [h0, h1]
    exact hq _ _ ⟨_, _, _, rfl, Int.ediv_nonneg ha (by omega), hb, hb2⟩ (Int.emod_nonneg _ (by omega)) (Int.emod_lt_of_pos _ h0)
  · have e1 : ∀ z : Int, 0 ≤ z % 2147483647 := fun z => Int.emod_nonneg _ (by omega)
    have e2 : ∀ z : Int, z % 2147483647 < 2147483647 := fun z => Int.emod_lt_of_pos _ (by omega)
    have e3 : ∀ z : Int, 0 ≤ z % 2147483629 := fun z => Int.emod_nonneg _ (by omega)
    have e4 : ∀ z : Int, z % 2147483629 < 2147483629 := fun z => Int.emod_lt_of_pos _ (by omega)
    have s1 : ∀ z : Int, (-18446744073709551616 < z % 2147483647) = True := fun z => eq_true (by have := e1 z; omega)
    have s2 : ∀ z : Int, (z % 2147483647 < 18446744073709551616) = True := fun z => eq_true (by have := e2 z; omega)
    have s3 : ∀ z : Int, (-18446744073709551616 < z % 2147483629) = True := fun z => eq_true (by have := e3 z; omega)
    have s4 : ∀ z : Int, (z % 2147483629 < 18446744073709551616) = True := fun z => eq_true (by have := e4 z; omega)
    simp -dsimp [h0, h1, s1, s2, s3, s4]
    exact hq _ _ ⟨_, _, _, rfl, ha, e1 _, by have := e2 ((b * 48271 + 1009 * (c + 1) + 7)); omega⟩ (Int.emod_nonneg _ (by omega)) (Int.emod_lt_of_pos _ h0)
theorem w_pen [Has T i_pen f_pen] {n : Int} {Q} (hq : ∀ p, Pen p → Q p true [.no]) : W3 (evF T WW (k + 1) i_pen [(.int n, false)]) Q := by
  refine w_go f_pen ⟨rfl, rfl⟩ ?_
  simp -dsimp [f_pen]
  exact hq _ ⟨_, _, _, rfl, by omega, by have := Int.emod_nonneg n (b := 2147483629) (by omega); omega, by have := Int.emod_lt_of_pos n (b := 2147483629) (by omega); omega⟩
theorem e_cell [Has T i_cell f_cell] {ns : List Int} {i : Int} (h : 0 ≤ i) : evF T WW (k + 1) i_cell [(scr (ns.map .int), false), (.int i, false)] = some (.int (ns.getD i.toNat 0), false, [.no, .no]) := by
  refine W3_of ?_
  refine w_go f_cell ⟨rfl, rfl⟩ ?_
  simp -dsimp [f_cell]
  refine Wif_i (fun hi => ?_) (fun hi => ?_)
  · simp -dsimp
    rw [nthI_get h (by simpa using hi)]
    simp -dsimp
    rw [List.getElem?_eq_getElem (by omega)]; rfl
  · simp -dsimp
    rw [List.getElem?_eq_none (by omega)]; rfl
theorem e_is_integer [Has T i_is_integer f_is_integer] {n : Int} : evF T WW (k + 1) i_is_integer [(.int n, false)] = some (.bool true, false, [.no]) := by
  refine W3_of ?_
  refine w_go f_is_integer ⟨rfl, rfl⟩ ?_
  simp -dsimp [f_is_integer]
theorem e_is_between [Has T i_is_integer f_is_integer] [Has T i_is_between f_is_between] {n lo hi : Int} :
    evF T WW (k + 2) i_is_between [(.int n, false), (.int lo, false), (.int hi, false)] = some (.bool (decide (lo ≤ n ∧ n ≤ hi)), false, [.no, .no, .no]) := by
  refine W3_of ?_
  refine w_go f_is_between ⟨rfl, rfl⟩ ?_
  simp -dsimp [f_is_between, e_is_integer]
  refine Wif_i (fun hi => ?_) (fun hi => ?_)
  · simp -dsimp [hi]
  · simp -dsimp [hi]
/-! LB: patterns. -/
variable {T : Nat → Option Fn} {k : Nat}
/-- a pattern as a value -/
def patD (L : Int) (S : List Int) : PyData := .tuple [.int L, .tuple (S.map .int)]
structure IsPat (L : Int) (S : List Int) : Prop where
  lo : 2 ≤ L
  hi : L ≤ 60
  ne : S ≠ []
  few : (S.length : Int) < L
  asc : S.Pairwise (· < ·)
  mem : ∀ s ∈ S, 0 ≤ s ∧ s < L
theorem asc_len {S : List Int} {lo hi : Int} (h : S.Pairwise (· < ·)) (hm : ∀ s ∈ S, lo ≤ s ∧ s < hi) : (S.length : Int) ≤ max 0 (hi - lo) := by
  induction S generalizing lo with
  | nil => simp; omega
  | cons a r ih =>
    rw [List.pairwise_cons] at h
    have ha := hm a List.mem_cons_self
    have := ih (lo := a + 1) h.2 (fun s hs => ⟨by have := h.1 s hs; omega, (hm s (List.mem_cons_of_mem _ hs)).2⟩)
    simp; omega
theorem e_is_set [Has T i_is_integer f_is_integer] [Has T i_is_between f_is_between] [Has T i_is_set f_is_set] {S : List Int} {lo hi : Int} (hl : S.length ≤ sizeLine) :
    evF T WW (k + 3) i_is_set [(.tuple (S.map .int), false), (.int lo, false), (.int hi, false)]
      = some (.bool (decide ((∀ s ∈ S, lo ≤ s ∧ s ≤ hi) ∧ S.Pairwise (· < ·))), false, [.no, .no, .no]) := by
  refine W3_of ?_
  refine w_go f_is_set ⟨rfl, rfl⟩ ?_
  simp -dsimp [f_is_set]
  refine w_compm (fun x => .bool (decide (lo ≤ x ∧ x ≤ hi))) hl ?_ ?_
  · intro x acc hx ha
    simp -dsimp [e_is_between, ha]
  · simp -dsimp
    refine Wif_i (fun h => ?_) (fun h => ?_)
    · obtain ⟨x, hx, hb⟩ := h
      simp -dsimp
      intro ha; have := ha x hx; omega
    · simp -dsimp
      rw [← List.map_tail, zip_ints]
      refine w_compm (fun p => .bool (decide (p.1 < p.2))) (by simp; omega) ?_ ?_
      · intro p acc hp ha
        simp -dsimp [ha]
      · simp -dsimp
        have e : (∀ s ∈ S, lo ≤ s ∧ s ≤ hi) := fun s hs => by
          refine Classical.byContradiction fun hn => h ⟨s, hs, fun h1 => ?_⟩
          exact Int.not_le.1 fun h2 => hn ⟨h1, h2⟩
        have z := zip_lt (S := S)
        rw [List.drop_one] at z
        rw [Bool.eq_iff_iff, Bool.and_eq_true]
        simp only [List.all_eq_true, decide_eq_true_eq]
        exact ⟨fun h2 => ⟨e, z.1 h2⟩, fun h2 => z.2 h2.2⟩
theorem e_is_pattern [Has T i_is_integer f_is_integer] [Has T i_is_between f_is_between] [Has T i_is_set f_is_set] [Has T i_is_pattern f_is_pattern] {L : Int} {S : List Int} (h : IsPat L S) :
    evF T WW (k + 4) i_is_pattern [(patD L S, false)] = some (.bool true, false, [.no]) := by
  obtain ⟨h1, h2, h3, h4, h5, h6⟩ := h
  refine W3_of ?_
  refine w_go f_is_pattern ⟨rfl, rfl⟩ ?_
  have hl : S.length ≤ sizeLine := by have := sizeLine_ge; omega
  have hs : (∀ s ∈ S, 0 ≤ s ∧ s ≤ L - 1) ∧ S.Pairwise (· < ·) := ⟨fun s hs => by have := h6 s hs; omega, h5⟩
  have hn : 0 < S.length := List.length_pos_iff.2 h3
  have hn1 : (1 : Int) ≤ S.length := by omega
  simp -dsimp [f_is_pattern, patD, e_is_between, h1, h2, e_is_set hl, h5]
  refine Wif_t hs.1 ?_
  simp -dsimp [hn1, h4]
theorem e_need_pattern [Has T i_is_integer f_is_integer] [Has T i_is_between f_is_between] [Has T i_is_set f_is_set] [Has T i_is_pattern f_is_pattern] [Has T i_need_pattern f_need_pattern]
    {L : Int} {S : List Int} (h : IsPat L S) : evF T WW (k + 5) i_need_pattern [(patD L S, false)] = some (.none, false, [.no]) := by
  refine W3_of ?_
  refine w_go f_need_pattern ⟨rfl, rfl⟩ ?_
  simp -dsimp [f_need_pattern, e_is_pattern h]
theorem e_does_send [Has T i_does_send f_does_send] {L : Int} {S : List Int} {o t : Int} (h : 0 < L) :
    evF T WW (k + 1) i_does_send [(patD L S, false), (.int o, false), (.int t, false)] = some (.bool (decide ((t - o) % L ∈ S)), false, [.no, .no, .no]) := by
  refine W3_of ?_
  refine w_go f_does_send ⟨rfl, rfl⟩ ?_
  simp -dsimp [f_does_send, patD, h]
theorem e_sends [Has T i_is_integer f_is_integer] [Has T i_is_between f_is_between] [Has T i_is_set f_is_set] [Has T i_is_pattern f_is_pattern] [Has T i_need_pattern f_need_pattern] [Has T i_does_send f_does_send] [Has T i_sends f_sends]
    {L : Int} {S : List Int} {o t : Int} (h : IsPat L S) (h0 : 0 ≤ o) (h1 : o < L) :
    evF T WW (k + 6) i_sends [(patD L S, false), (.int o, false), (.int t, false)] = some (.bool (decide ((t - o) % L ∈ S)), false, [.no, .no, .no]) := by
  refine W3_of ?_
  refine w_go f_sends ⟨rfl, rfl⟩ ?_
  have h2 : o ≤ L - 1 := by omega
  have h3 : 0 < L := by have := h.lo; omega
  simp -dsimp [f_sends, e_need_pattern h]
  simp -dsimp [patD, e_is_between, e_is_integer, h0, h2]
  rw [← patD, e_does_send h3]
  simp -dsimp
theorem e_same [Has T i_same f_same] {a b : PyData} (ha : shows a = true) (hb : shows b = true) :
    evF T WW (k + 1) i_same [(a, false), (b, false)] = some (.bool (decide (a.shown = b.shown)), false, [.no, .no]) := by
  refine W3_of ?_
  refine w_go f_same ⟨rfl, rfl⟩ ?_
  simp -dsimp [f_same, ha, hb]
/-- a drawn pattern -/
theorem w_beat_of [Has T i_draw f_draw] [Has T i_beat_of f_beat_of] {p : PyData} {L : Int} {Q} (hp : Pen p) (h0 : 2 ≤ L) (h1 : L ≤ 60)
    (hq : ∀ p' S, Pen p' → IsPat L S → Q (patD L S) false [.own p', .no]) : W3 (evF T WW (k + 2) i_beat_of [(p, true), (.int L, false)]) Q := by
  refine w_go f_beat_of ⟨rfl, rfl⟩ ?_
  simp -dsimp [f_beat_of]
  refine w_draw hp (by omega) (by omega) fun r p1 hp1 hr0 hr1 => ?_
  have hl : -4611686018427387904 ≤ L ∧ L < 4611686018427387904 := by omega
  simp -dsimp [hl, rangeD_eq]
  refine w_turnsm (fun done ρ acc => ∃ p S, Pen p ∧ acc = S.map PyData.int ∧ S.Sublist done ∧ ρ = [.own p, .dat (.int L), .dat (.int (1 + r)), .no, .no]) ⟨p1, [], hp1, rfl, List.Sublist.refl _, rfl⟩ ?_ ?_
  · rintro done d rest ρ acc hd ⟨p2, S, hp2, rfl, hS, rfl⟩
    simp -dsimp
    refine w_draw hp2 (by omega) (by omega) fun r2 p3 hp3 _ _ => ?_
    have hSl : S.length < sizeLine := by
      have e1 := hS.length_le
      have e2 : (intR 0 L).length = (L - 0).toNat := length_intR
      rw [hd] at e2; simp at e2
      have := sizeLine_ge; omega
    simp -dsimp
    refine Wif_i (fun _ => ?_) (fun _ => ?_)
    · simp -dsimp [hSl]
      exact Kd_i ⟨p3, S ++ [d], hp3, by simp, hS.append (List.Sublist.refl _), rfl⟩
    · exact Kd_i ⟨p3, S, hp3, rfl, hS.trans (List.sublist_append_left _ _), rfl⟩
  · rintro ρ acc ⟨p2, S, hp2, rfl, hS, rfl⟩
    have hm : ∀ s ∈ S, 0 ≤ s ∧ s < L := fun s hs => mem_intR.1 (hS.subset hs)
    have hlay : lay (.list (S.map .int)) = true := lay_ints fun s hs => by have := hm s hs; omega
    have hasc : S.Pairwise (· < ·) := List.Pairwise.sublist hS intR_sorted
    have hlen : (S.length : Int) ≤ L := by have := hS.length_le; rw [length_intR] at this; omega
    have hz := sizeLine_ge
    have fin : ∀ (s : Int) p', Pen p' → 0 ≤ s → s < L → Q (patD L [s]) false [.own p', .no] := fun s p' hp' ha hb =>
      hq p' [s] hp' ⟨h0, h1, by simp, by simp; omega, by simp, by simp; omega⟩
    simp -dsimp [hlay]
    refine Wif_i (fun hS0 => ?_) (fun hS0 => ?_)
    · simp -dsimp
      refine w_draw hp2 (by omega) (by omega) fun r2 p3 hp3 a b => ?_
      simp -dsimp
      exact fin r2 p3 hp3 a b
    · simp -dsimp
      refine Wif_i (fun hS1 => ?_) (fun hS1 => ?_)
      · simp -dsimp
        refine w_draw hp2 (by omega) (by omega) fun r2 p3 hp3 a b => ?_
        simp -dsimp
        exact fin r2 p3 hp3 a b
      · simp -dsimp
        exact hq p2 S hp2 ⟨h0, h1, hS0, by omega, hasc, hm⟩
theorem flat_len {L : Int} {S : List Int} {l : List Int} : (l.flatMap fun j => S.map fun s => j * L + s).length = l.length * S.length := by
  induction l with
  | nil => simp
  | cons a r ih => simp [ih, Nat.succ_mul]; omega
/-- a pattern, several times over -/
def rep (L n : Int) (S : List Int) : List Int := (intR 0 n).flatMap fun j => S.map fun s => j * L + s
theorem isPat_rep {L n : Int} {S : List Int} (h : IsPat L S) (hn : 1 ≤ n) (hL : n * L ≤ 60) : IsPat (n * L) (rep L n S) := by
  obtain ⟨h1, h2, h3, h4, h5, h6⟩ := h
  have hLn : L ≤ n * L := by
    have : 1 * L ≤ n * L := Int.mul_le_mul_of_nonneg_right hn (by omega)
    omega
  have hstep : ∀ a b : Int, a < b → a * L + L ≤ b * L := fun a b hab => by
    have : (a + 1) * L ≤ b * L := Int.mul_le_mul_of_nonneg_right (by omega) (by omega)
    rw [Int.add_mul] at this; omega
  refine ⟨by omega, hL, ?_, ?_, ?_, ?_⟩
  · intro h0
    have := congrArg List.length h0
    rw [rep, flat_len, length_intR] at this
    have hS := List.length_pos_iff.2 h3
    have : 0 < (n - 0).toNat * S.length := Nat.mul_pos (by omega) hS
    simp at *; omega
  · rw [rep, flat_len, length_intR, Int.natCast_mul]
    have e : ((n - 0).toNat : Int) = n := by omega
    rw [e]
    exact Int.mul_lt_mul_of_pos_left h4 (by omega)
  · rw [rep, List.pairwise_flatMap]
    refine ⟨fun j hj => ?_, ?_⟩
    · rw [List.pairwise_map]; exact h5.imp fun h => by omega
    · refine List.Pairwise.imp ?_ intR_sorted
      intro a b hab x hx y hy
      obtain ⟨s, hs, rfl⟩ := List.mem_map.1 hx
      obtain ⟨t, ht, rfl⟩ := List.mem_map.1 hy
      have := h6 s hs; have := h6 t ht; have := hstep a b hab
      omega
  · intro x hx
    obtain ⟨j, hj, hx⟩ := List.mem_flatMap.1 hx
    obtain ⟨s, hs, rfl⟩ := List.mem_map.1 hx
    have hj := mem_intR.1 hj
    have := h6 s hs
    have := hstep j n hj.2
    have : 0 ≤ j * L := Int.mul_nonneg hj.1 (by omega)
    omega
theorem e_again [Has T i_again f_again] {L n : Int} {S : List Int} (h : IsPat L S) (hn : 1 ≤ n) (hn2 : n ≤ 60) :
    evF T WW (k + 1) i_again [(patD L S, false), (.int n, false)] = some (patD (n * L) (rep L n S), false, [.no, .no]) := by
  obtain ⟨h1, h2, h3, h4, h5, h6⟩ := h
  refine W3_of ?_
  refine w_go f_again ⟨rfl, rfl⟩ ?_
  have hl : -4611686018427387904 ≤ n ∧ n < 4611686018427387904 := by omega
  simp -dsimp [f_again, patD, hl, rangeD_eq]
  have hz := sizeLine_ge
  refine w_loopm (fun done ρ => ∃ s5 s6, ρ = [.dat (patD L S), .dat (.int n), .dat (.int L), .dat (.tuple (S.map .int)), .own (.list ((done.flatMap fun j => S.map fun s => j * L + s).map .int)), s5, s6]) ⟨_, _, rfl⟩ ?_ ?_
  · rintro done d rest ρ hd ⟨s5, s6, rfl⟩
    have hdm : d ∈ intR 0 n := by rw [hd]; simp
    have hdb := mem_intR.1 hdm
    have hdl : done.length ≤ 60 := by
      have e2 : (intR 0 n).length = (n - 0).toNat := length_intR
      rw [hd] at e2; simp at e2; omega
    have hfl := flat_len (L := L) (S := S) (l := done)
    have : done.length * S.length ≤ 60 * 60 := Nat.mul_le_mul hdl (by omega)
    have hsm : -18446744073709551616 < d ∧ d < 18446744073709551616 := by omega
    simp -dsimp
    refine w_compm (fun s => .int (d * L + s)) (by omega) ?_ ?_
    · intro s acc hs ha
      simp -dsimp [ha, hsm]
    · simp -dsimp [-List.length_flatMap]
      refine Wif_t (by rw [hfl]; omega) ?_
      exact Kd_i ⟨_, _, by simp [List.flatMap_append, Function.comp_def]; exact ⟨rfl, rfl⟩⟩
  · rintro ρ ⟨s5, s6, rfl⟩
    have hsm : -18446744073709551616 < n ∧ n < 18446744073709551616 := by omega
    simp -dsimp [hsm, rep, patD]
theorem w_beat [Has T i_draw f_draw] [Has T i_beat_of f_beat_of] [Has T i_again f_again] [Has T i_beat f_beat] {p : PyData} {m : Int} {Q} (hp : Pen p) (h0 : 2 ≤ m) (h1 : m ≤ 60)
    (hq : ∀ p' L S, Pen p' → L ≤ m → IsPat L S → Q (patD L S) false [.own p', .no]) : W3 (evF T WW (k + 3) i_beat [(p, true), (.int m, false)]) Q := by
  refine w_go f_beat ⟨rfl, rfl⟩ ?_
  simp -dsimp [f_beat]
  refine w_draw hp (by omega) (by omega) fun r p1 hp1 a b => ?_
  simp -dsimp
  refine Wif_i (fun hr => ?_) (fun hr => ?_)
  · simp -dsimp
    refine Wif_i (fun hm => ?_) (fun hm => ?_)
    · have hd : 2 ≤ m / 2 ∧ m / 2 ≤ 30 := by omega
      simp -dsimp
      refine w_draw hp1 (by omega) (by omega) fun r2 p2 hp2 c d => ?_
      simp -dsimp
      refine w_beat_of hp2 (by omega) (by omega) fun p3 S hp3 hS => ?_
      have hdiv : 1 ≤ m / (2 + r2) ∧ m / (2 + r2) ≤ 60 := by
        have h3 : 2 + r2 ≤ m := by omega
        have h4 : 1 ≤ m / (2 + r2) := (Int.le_ediv_iff_mul_le (by omega)).2 (by omega)
        have h5 : m / (2 + r2) ≤ m := Int.ediv_le_self _ (by omega)
        omega
      have hb : 0 < 2 + r2 ∧ 2 + r2 < 1073741824 := by omega
      simp -dsimp [patD, hb]
      refine w_draw hp3 (by omega) (by omega) fun r3 p4 hp4 e f => ?_
      have hmul : (1 + r3) * (2 + r2) ≤ m := by
        have h6 : (1 + r3) * (2 + r2) ≤ m / (2 + r2) * (2 + r2) := Int.mul_le_mul_of_nonneg_right (by omega) (by omega)
        have h7 : m / (2 + r2) * (2 + r2) ≤ m := Int.ediv_mul_le _ (by omega)
        omega
      simp -dsimp
      rw [← patD, e_again hS (by omega) (by omega)]
      simp -dsimp
      exact hq _ _ _ hp4 hmul (isPat_rep hS (by omega) (by omega))
    · simp -dsimp
      refine w_draw hp1 (by omega) (by omega) fun r p2 hp2 a b => ?_
      simp -dsimp
      refine w_beat_of hp2 (by omega) (by omega) fun p3 S hp3 hS => ?_
      simp -dsimp
      exact hq _ _ _ hp3 (by omega) hS
  · simp -dsimp
    refine w_draw hp1 (by omega) (by omega) fun r p2 hp2 a b => ?_
    simp -dsimp
    refine w_beat_of hp2 (by omega) (by omega) fun p3 S hp3 hS => ?_
    simp -dsimp
    exact hq _ _ _ hp3 (by omega) hS
/-! K02 -/
variable {T : Nat → Option Fn} {k : Nat}
/-- keys of a dict -/
def keysI (es : List (PyData × PyData)) : List PyData := es.map (·.1)
theorem dGet_int {es : List (PyData × PyData)} {x : Int} : (dGet es (.int x)).isSome = true ↔ PyData.int x ∈ es.map (·.1) := by
  simp only [dGet, Option.isSome_map, List.find?_isSome, List.mem_map]
  constructor
  · rintro ⟨⟨a, b⟩, h, e⟩
    cases a <;> simp [eqK] at e
    exact ⟨_, h, by simp [e]⟩
  · rintro ⟨p, h, e⟩
    exact ⟨p, h, by simp [e, eqK]⟩
theorem dPut_keys {es : List (PyData × PyData)} {x : Int} {v : PyData} {y : PyData} : y ∈ (dPut es (.int x) v).map (·.1) ↔ y = .int x ∨ y ∈ es.map (·.1) := by
  rw [dPut]
  split
  · rename_i h
    simp only [List.any_eq_true] at h
    have : (es.map (fun p => if eqK p.1 (.int x) then (p.1, v) else p)).map (·.1) = es.map (·.1) := by
      rw [List.map_map]; apply List.map_congr_left; intro p _; simp only [Function.comp]; split <;> rfl
    rw [this]
    constructor
    · exact Or.inr
    · rintro (rfl | h1)
      · obtain ⟨⟨a, b⟩, h2, e⟩ := h
        cases a <;> simp [eqK] at e
        exact List.mem_map.2 ⟨_, h2, by simp [e]⟩
      · exact h1
  · simp [or_comm]
theorem dPut_len {es : List (PyData × PyData)} {k v : PyData} : (dPut es k v).length ≤ es.length + 1 := by
  rw [dPut]; split <;> simp
def intKeys (es : List (PyData × PyData)) : Prop := ∀ y ∈ es.map (·.1), ∃ x, y = PyData.int x
theorem intKeys_scr {es : List (PyData × PyData)} (h : intKeys es) : isScr es = false := by
  cases es with
  | nil => rfl
  | cons p r =>
    obtain ⟨a, b⟩ := p
    obtain ⟨x, hx⟩ := h a (by simp)
    subst hx; rfl
theorem w_taken [Has T i_taken f_taken] {L o : Int} {S : List Int} {Q} (h : IsPat L S)
    (hq : ∀ es, intKeys es → (∀ t, PyData.int t ∈ es.map (·.1) ↔ ∃ j s, -90 ≤ j ∧ j < 91 ∧ s ∈ S ∧ t = o + s + j * L) → Q (.dict es) false [.no, .no]) :
    W3 (evF T WW (k + 1) i_taken [(patD L S, false), (.int o, false)]) Q := by
  obtain ⟨h1, h2, h3, h4, h5, h6⟩ := h
  refine w_go f_taken ⟨rfl, rfl⟩ ?_
  simp -dsimp [f_taken, patD, rangeD_eq]
  have hz := sizeLine_ge
  refine w_loopm (fun done ρ => ∃ es s5 s6, intKeys es ∧ es.length ≤ done.length * S.length ∧ (∀ t, PyData.int t ∈ es.map (·.1) ↔ ∃ j s, j ∈ done ∧ s ∈ S ∧ t = o + s + j * L) ∧
    ρ = [.dat (patD L S), .dat (.int o), .own (.dict es), .dat (.int L), .dat (.tuple (S.map .int)), s5, s6]) ⟨[], _, _, by simp [intKeys], by simp, by simp, rfl⟩ ?_ ?_
  · rintro done d rest ρ hd ⟨es, s5, s6, hk, hlen, hes, rfl⟩
    have hdl : done.length ≤ 181 := by
      have e2 : (intR (-90) 91).length = (91 - (-90) : Int).toNat := length_intR
      rw [hd] at e2; simp at e2; omega
    have hbig : done.length * S.length ≤ 181 * 60 := Nat.mul_le_mul hdl (by omega)
    simp -dsimp
    refine w_loopm (fun dn ρ => ∃ es' s6, intKeys es' ∧ es'.length ≤ done.length * S.length + dn.length ∧ (∀ t, PyData.int t ∈ es'.map (·.1) ↔ (∃ j s, j ∈ done ∧ s ∈ S ∧ t = o + s + j * L) ∨ ∃ s, s ∈ dn ∧ t = o + s + d * L) ∧
      ρ = [.dat (patD L S), .dat (.int o), .own (.dict es'), .dat (.int L), .dat (.tuple (S.map .int)), .dat (.int d), s6]) ⟨es, _, hk, by simp; omega, by simpa using hes, rfl⟩ ?_ ?_
    · rintro dn s rest' ρ hd' ⟨es', s6, hk', hlen', hes', rfl⟩
      have hsm : -18446744073709551616 < L ∧ L < 18446744073709551616 := by omega
      have hdn : dn.length ≤ 60 := by have := congrArg List.length hd'; simp at this; omega
      have hsl : es'.length < sizeLine := by omega
      simp -dsimp [hsm, intKeys_scr hk', hsl]
      refine Kd_i ⟨_, _, ?_, ?_, ?_, rfl⟩
      · intro y hy
        rcases dPut_keys.1 hy with rfl | hy
        · exact ⟨_, rfl⟩
        · exact hk' y hy
      · refine Nat.le_trans dPut_len ?_; simp; omega
      · intro t
        rw [dPut_keys, hes' t]
        simp only [PyData.int.injEq, List.mem_append, List.mem_singleton]
        constructor
        · rintro (h | h | ⟨s', h, h'⟩)
          · exact Or.inr ⟨s, Or.inr rfl, h⟩
          · exact Or.inl h
          · exact Or.inr ⟨s', Or.inl h, h'⟩
        · rintro (h | ⟨s', h | rfl, h'⟩)
          · exact Or.inr (Or.inl h)
          · exact Or.inr (Or.inr ⟨s', h, h'⟩)
          · exact Or.inl h'
    · rintro ρ ⟨es', s6, hk', hlen', hes', rfl⟩
      refine Kd_i ⟨es', _, _, hk', ?_, ?_, rfl⟩
      · simp [Nat.succ_mul]; omega
      · intro t
        rw [hes' t]
        simp only [List.mem_append, List.mem_singleton]
        constructor
        · rintro (⟨j, s, a, b, c⟩ | ⟨s, a, b⟩)
          · exact ⟨j, s, Or.inl a, b, c⟩
          · exact ⟨d, s, Or.inr rfl, a, b⟩
        · rintro ⟨j, s, a | rfl, b, c⟩
          · exact Or.inl ⟨j, s, a, b, c⟩
          · exact Or.inr ⟨s, b, c⟩
  · rintro ρ ⟨es, s5, s6, hk, hlen, hes, rfl⟩
    simp -dsimp
    refine hq es hk (fun t => ?_)
    rw [hes t]
    simp only [mem_intR]
    constructor
    · rintro ⟨j, s, ⟨a, a'⟩, b, c⟩; exact ⟨j, s, a, a', b, c⟩
    · rintro ⟨j, s, a, a', b, c⟩; exact ⟨j, s, ⟨a, a'⟩, b, c⟩
/-- who sends in a tick about 0 -/
theorem taken_iff {L o t : Int} {S : List Int} (h : IsPat L S) (ho : 0 ≤ o) (ho2 : o < L) (ht : -61 ≤ t) (ht2 : t < 62) :
    (∃ j s, -90 ≤ j ∧ j < 91 ∧ s ∈ S ∧ t = o + s + j * L) ↔ (t - o) % L ∈ S := by
  obtain ⟨h1, h2, h3, h4, h5, h6⟩ := h
  constructor
  · rintro ⟨j, s, _, _, hs, rfl⟩
    have e : (o + s + j * L - o) % L = s := by
      have : o + s + j * L - o = s + j * L := by omega
      rw [this, Int.add_mul_emod_self_right, Int.emod_eq_of_lt (h6 s hs).1 (h6 s hs).2]
    rw [e]; exact hs
  · intro hm
    have e := Int.emod_add_mul_ediv (t - o) L
    have e2 : L * ((t - o) / L) = (t - o) / L * L := Int.mul_comm _ _
    have b := h6 _ hm
    refine ⟨(t - o) / L, (t - o) % L, ?_, ?_, hm, by omega⟩
    · have : -90 ≤ (t - o) / L := (Int.le_ediv_iff_mul_le (by omega)).2 (by omega)
      exact this
    · exact (Int.ediv_lt_iff_lt_mul (by omega)).2 (by omega)
theorem shows4 {a b c d : Bool} : shows (.list [.bool a, .bool b, .bool c, .bool d]) = true :=
  mild_shows (by simp [mild, mildAll]) (by simp [PyData.depth, PyData.depthAll]) (by simp [PyData.weight, PyData.weightAll])
section
variable [Has T i_is_integer f_is_integer] [Has T i_is_between f_is_between] [Has T i_is_set f_is_set] [Has T i_is_pattern f_is_pattern] [Has T i_need_pattern f_need_pattern] [Has T i_does_send f_does_send] [Has T i_sends f_sends]
  [Has T i_same f_same] [Has T i_taken f_taken] [Has T i_is_right_2 f_is_right_2]
theorem e_is_right_2 {L o n : Int} {S : List Int} (h : IsPat L S) (ho : 0 ≤ o) (ho2 : o < L) (hn : 0 ≤ n) (hn2 : n < 1000000000) :
    evF T WW (k + 7) i_is_right_2 [(patD L S, false), (.int o, false), (.int n, false)] = some (.bool true, false, [.no, .no, .no]) := by
  refine W3_of ?_
  refine w_go f_is_right_2 ⟨rfl, rfl⟩ ?_
  simp -dsimp [f_is_right_2]
  refine w_taken h fun es hk hes => ?_
  have hz := sizeLine_ge
  have hL := h.lo
  have hL2 := h.hi
  have hsm : -18446744073709551616 < n ∧ n < 18446744073709551616 := by omega
  have e1 : ∀ t : Int, (t + n * L - o) % L = (t - o) % L := fun t => by
    have : t + n * L - o = (t - o) + n * L := by omega
    rw [this, Int.add_mul_emod_self_right]
  have e2 : ∀ t : Int, (t - n * L - o) % L = (t - o) % L := fun t => by
    have : t - n * L - o = (t - o) + (-n) * L := by rw [Int.neg_mul]; omega
    rw [this, Int.add_mul_emod_self_right]
  simp -dsimp [rangeD_eq]
  refine w_loops (fun ρ => ∃ s4 s5 s6, ρ = [.dat (patD L S), .dat (.int o), .dat (.int n), .dat (.dict es), s4, s5, s6]) ⟨_, _, _, rfl⟩ ?_ ?_
  · rintro t ρ ht ⟨s4, s5, s6, rfl⟩
    have ht := mem_intR.1 ht
    have hin : (dGet es (.int t)).isSome = decide ((t - o) % L ∈ S) := by
      rw [Bool.eq_iff_iff, dGet_int, hes t, taken_iff h ho ho2 ht.1 ht.2]; simp
    have hp : ∀ Q, Wp (idxD (patD L S) (.int 0)) Q = Q (.int L) := fun Q => by simp [patD]
    simp -dsimp [intKeys_scr hk, e_sends h ho ho2, hp, hsm, hin, e1, e2]
    rw [e_same shows4 shows4]
    simp -dsimp
    exact Kd_i ⟨_, _, _, rfl⟩
  · rintro ρ ⟨s4, s5, s6, rfl⟩
    simp -dsimp
theorem plain_k02 [Has T i_draw f_draw] [Has T i_pen f_pen] [Has T i_cell f_cell] [Has T i_beat_of f_beat_of] [Has T i_again f_again] [Has T i_beat f_beat] [Has T i_law_k02 f_law_k02] (ns : List Int) (hlen : ns.length ≤ 63) :
    ∃ fr ss, evF T WW (k + 8) i_law_k02 [(scr (ns.map .int), false)] = some (.bool true, fr, ss) := by
  suffices H : W3 (evF T WW (k + 8) i_law_k02 [(scr (ns.map .int), false)]) (fun a _ _ => a = .bool true) by
    obtain ⟨⟨a, b, c⟩, h1, rfl⟩ := H; exact ⟨_, _, h1⟩
  refine w_go f_law_k02 ⟨rfl, rfl⟩ ?_
  simp -dsimp [f_law_k02, e_cell]
  have hc : cut (ns.map PyData.int) (some 1) (some 3) = ((ns.drop 1).take 2).map PyData.int := by
    rw [cut_both (by omega) (by omega)]; simp [List.map_drop, List.map_take]
  have hz := sizeLine_ge
  rw [hc]
  refine Wif_t (by simp; omega) ?_
  simp -dsimp
  have hl : PyData.int (ns[0]?.getD 0) :: List.take 2 (ns.map PyData.int).tail = (ns[0]?.getD 0 :: ns.tail.take 2).map PyData.int := by simp [List.map_take, List.map_tail]
  rw [hl]
  refine w_loops (fun ρ => ∃ s1 s2 s3 s4, ρ = [.dat (scr (ns.map .int)), s1, s2, s3, s4]) ⟨_, _, _, _, rfl⟩ ?_ ?_
  · rintro n ρ hn ⟨s1, s2, s3, s4, rfl⟩
    simp -dsimp
    refine w_pen fun p hp => ?_
    simp -dsimp [rangeD_eq]
    refine w_loops (fun ρ => ∃ p s3 s4, Pen p ∧ ρ = [.dat (scr (ns.map .int)), .dat (.int n), .own p, s3, s4]) ⟨_, _, _, hp, rfl⟩ ?_ ?_
    · rintro j ρ hj ⟨p1, s3, s4, hp1, rfl⟩
      have hj := mem_intR.1 hj
      have hm : ∃ m : Int, nthI [PyData.int 4, .int 9, .int 60, .int 60] (j % 4) = some (.int m) ∧ 2 ≤ m ∧ m ≤ 60 := by
        have : j % 4 = 0 ∨ j % 4 = 1 ∨ j % 4 = 2 ∨ j % 4 = 3 := by omega
        rcases this with h | h | h | h <;> rw [h] <;> simp
      obtain ⟨m, hm, hm1, hm2⟩ := hm
      simp -dsimp [hm]
      refine w_beat hp1 hm1 hm2 fun p2 L S hp2 _ hS => ?_
      have hp : ∀ Q, Wp (idxD (patD L S) (.int 0)) Q = Q (.int L) := fun Q => by simp [patD]
      have hL := hS.lo
      have hL2 := hS.hi
      simp -dsimp [hp]
      refine w_draw hp2 (by omega) (by omega) fun r p3 hp3 a b => ?_
      simp -dsimp
      refine w_draw hp3 (by omega) (by omega) fun r' p4 hp4 a' b' => ?_
      simp -dsimp [e_is_right_2 hS a b a' b']
      exact Kd_i ⟨_, _, _, hp4, rfl⟩
    · rintro ρ ⟨p1, s3, s4, hp1, rfl⟩
      exact Kd_i ⟨_, _, _, _, rfl⟩
  · rintro ρ ⟨s1, s2, s3, s4, rfl⟩
    simp -dsimp
end
end
def topS (i : Nat) : Stmt := PySem.Challenge.pw_anyshift_k02_who_sends_when.main.body.getD i (.Pass ⟨0, 0, 0, 0⟩)
def S : Sig := ⟨[((Str.ofString "is_integer"), i_is_integer),
    ((Str.ofString "is_between"), i_is_between),
    ((Str.ofString "is_set"), i_is_set),
    ((Str.ofString "is_pattern"), i_is_pattern),
    ((Str.ofString "need_pattern"), i_need_pattern),
    ((Str.ofString "does_send"), i_does_send),
    ((Str.ofString "sends"), i_sends),
    ((Str.ofString "_law_cell"), i_cell),
    ((Str.ofString "_law_pen"), i_pen),
    ((Str.ofString "_law_draw"), i_draw),
    ((Str.ofString "_law_same"), i_same),
    ((Str.ofString "_law_beat_of"), i_beat_of),
    ((Str.ofString "_law_beat"), i_beat),
    ((Str.ofString "_law_again"), i_again),
    ((Str.ofString "_law_taken"), i_taken),
    ((Str.ofString "_law_is_right"), i_is_right_2),
    ((Str.ofString "law"), i_law_k02)],
  [((Str.ofString "LEAST_PERIOD"), .int (2)), ((Str.ofString "MOST_PERIOD"), .int (60))],
  [(Str.ofString "all"), (Str.ofString "bool"), (Str.ofString "int"), (Str.ofString "isinstance"), (Str.ofString "len"), (Str.ofString "max"), (Str.ofString "range"), (Str.ofString "repr"), (Str.ofString "tuple"), (Str.ofString "zip")]⟩
def e0 : Ent := ⟨(Str.ofString "is_integer"), i_is_integer, topS 8, [(Str.ofString "thing")], [(Str.ofString "thing")]⟩
def e1 : Ent := ⟨(Str.ofString "is_between"), i_is_between, topS 9, [(Str.ofString "thing"), (Str.ofString "low"), (Str.ofString "high")], [(Str.ofString "thing"), (Str.ofString "low"), (Str.ofString "high")]⟩
def e2 : Ent := ⟨(Str.ofString "is_set"), i_is_set, topS 10, [(Str.ofString "thing"), (Str.ofString "low"), (Str.ofString "high"), (Str.ofString "one"), (Str.ofString "other")], [(Str.ofString "thing"), (Str.ofString "low"), (Str.ofString "high")]⟩
def e3 : Ent := ⟨(Str.ofString "is_pattern"), i_is_pattern, topS 11, [(Str.ofString "thing")], [(Str.ofString "thing")]⟩
def e4 : Ent := ⟨(Str.ofString "need_pattern"), i_need_pattern, topS 12, [(Str.ofString "thing")], [(Str.ofString "thing")]⟩
def e5 : Ent := ⟨(Str.ofString "does_send"), i_does_send, topS 13, [(Str.ofString "pattern"), (Str.ofString "offset"), (Str.ofString "tick")], [(Str.ofString "pattern"), (Str.ofString "offset"), (Str.ofString "tick")]⟩
def e6 : Ent := ⟨(Str.ofString "sends"), i_sends, topS 14, [(Str.ofString "pattern"), (Str.ofString "offset"), (Str.ofString "tick")], [(Str.ofString "pattern"), (Str.ofString "offset"), (Str.ofString "tick")]⟩
def e7 : Ent := ⟨(Str.ofString "_law_cell"), i_cell, topS 16, [(Str.ofString "_law_script"), (Str.ofString "_law_k")], [(Str.ofString "_law_script"), (Str.ofString "_law_k")]⟩
def e8 : Ent := ⟨(Str.ofString "_law_pen"), i_pen, topS 17, [(Str.ofString "_law_cell_here")], [(Str.ofString "_law_cell_here")]⟩
def e9 : Ent := ⟨(Str.ofString "_law_draw"), i_draw, topS 18, [(Str.ofString "_law_pen_here"), (Str.ofString "_law_many"), (Str.ofString "_law_found"), (Str.ofString "_law_stirred")], [(Str.ofString "_law_pen_here"), (Str.ofString "_law_many")]⟩
def e10 : Ent := ⟨(Str.ofString "_law_same"), i_same, topS 19, [(Str.ofString "_law_found"), (Str.ofString "_law_due")], [(Str.ofString "_law_found"), (Str.ofString "_law_due")]⟩
def e11 : Ent := ⟨(Str.ofString "_law_beat_of"), i_beat_of, topS 20, [(Str.ofString "_law_pen_here"), (Str.ofString "_law_long"), (Str.ofString "_law_rare"), (Str.ofString "_law_some"), (Str.ofString "_law_slot")], [(Str.ofString "_law_pen_here"), (Str.ofString "_law_long")]⟩
def e12 : Ent := ⟨(Str.ofString "_law_beat"), i_beat, topS 21, [(Str.ofString "_law_pen_here"), (Str.ofString "_law_most"), (Str.ofString "_law_few")], [(Str.ofString "_law_pen_here"), (Str.ofString "_law_most")]⟩
def e13 : Ent := ⟨(Str.ofString "_law_again"), i_again, topS 22, [(Str.ofString "_law_beat_here"), (Str.ofString "_law_times"), (Str.ofString "_law_long"), (Str.ofString "_law_slots"), (Str.ofString "_law_some"), (Str.ofString "_law_turn"), (Str.ofString "_law_slot")], [(Str.ofString "_law_beat_here"), (Str.ofString "_law_times")]⟩
def e14 : Ent := ⟨(Str.ofString "_law_taken"), i_taken, topS 23, [(Str.ofString "_law_beat_here"), (Str.ofString "_law_start"), (Str.ofString "_law_found"), (Str.ofString "_law_long"), (Str.ofString "_law_slots"), (Str.ofString "_law_turn"), (Str.ofString "_law_slot")], [(Str.ofString "_law_beat_here"), (Str.ofString "_law_start")]⟩
def e15 : Ent := ⟨(Str.ofString "_law_is_right"), i_is_right_2, topS 24, [(Str.ofString "_law_beat_here"), (Str.ofString "_law_start"), (Str.ofString "_law_far"), (Str.ofString "_law_taken_here"), (Str.ofString "_law_tick"), (Str.ofString "_law_due"), (Str.ofString "_law_told")], [(Str.ofString "_law_beat_here"), (Str.ofString "_law_start"), (Str.ofString "_law_far")]⟩
def e16 : Ent := ⟨(Str.ofString "law"), i_law_k02, topS 25, [(Str.ofString "_law_script"), (Str.ofString "_law_cell_here"), (Str.ofString "_law_pen_here"), (Str.ofString "_law_turn"), (Str.ofString "_law_beat_here")], [(Str.ofString "_law_script")]⟩
def tab : List Ent := [e0, e1, e2, e3, e4, e5, e6, e7, e8, e9, e10, e11, e12, e13, e14, e15, e16]
theorem t0 : e0.fn S = f_is_integer := by kernel_rfl
theorem t1 : e1.fn S = f_is_between := by kernel_rfl
theorem t2 : e2.fn S = f_is_set := by kernel_rfl
theorem t3 : e3.fn S = f_is_pattern := by kernel_rfl
theorem t4 : e4.fn S = f_need_pattern := by kernel_rfl
theorem t5 : e5.fn S = f_does_send := by kernel_rfl
theorem t6 : e6.fn S = f_sends := by kernel_rfl
theorem t7 : e7.fn S = f_cell := by kernel_rfl
theorem t8 : e8.fn S = f_pen := by kernel_rfl
theorem t9 : e9.fn S = f_draw := by kernel_rfl
theorem t10 : e10.fn S = f_same := by kernel_rfl
theorem t11 : e11.fn S = f_beat_of := by kernel_rfl
theorem t12 : e12.fn S = f_beat := by kernel_rfl
theorem t13 : e13.fn S = f_again := by kernel_rfl
theorem t14 : e14.fn S = f_taken := by kernel_rfl
theorem t15 : e15.fn S = f_is_right_2 := by kernel_rfl
theorem t16 : e16.fn S = f_law_k02 := by kernel_rfl
def T : Nat → Option Fn := fun i => match i with
  | 0 => some f_is_integer
  | 1 => some f_is_between
  | 2 => some f_is_set
  | 3 => some f_is_pattern
  | 4 => some f_cell
  | 5 => some f_pen
  | 6 => some f_draw
  | 8 => some f_same
  | 12 => some f_beat_of
  | 13 => some f_beat
  | 14 => some f_again
  | 21 => some f_need_pattern
  | 22 => some f_does_send
  | 23 => some f_sends
  | 24 => some f_taken
  | 25 => some f_is_right_2
  | 26 => some f_law_k02
  | _ => none
instance : Has T i_is_integer f_is_integer := ⟨rfl⟩
instance : Has T i_is_between f_is_between := ⟨rfl⟩
instance : Has T i_is_set f_is_set := ⟨rfl⟩
instance : Has T i_is_pattern f_is_pattern := ⟨rfl⟩
instance : Has T i_need_pattern f_need_pattern := ⟨rfl⟩
instance : Has T i_does_send f_does_send := ⟨rfl⟩
instance : Has T i_sends f_sends := ⟨rfl⟩
instance : Has T i_cell f_cell := ⟨rfl⟩
instance : Has T i_pen f_pen := ⟨rfl⟩
instance : Has T i_draw f_draw := ⟨rfl⟩
instance : Has T i_same f_same := ⟨rfl⟩
instance : Has T i_beat_of f_beat_of := ⟨rfl⟩
instance : Has T i_beat f_beat := ⟨rfl⟩
instance : Has T i_again f_again := ⟨rfl⟩
instance : Has T i_taken f_taken := ⟨rfl⟩
instance : Has T i_is_right_2 f_is_right_2 := ⟨rfl⟩
instance : Has T i_law_k02 f_law_k02 := ⟨rfl⟩
theorem hT : ∀ e ∈ tab, T e.id = some (e.fn S) := by
  intro e he
  simp only [tab, List.mem_cons, List.not_mem_nil, or_false] at he
  rcases he with rfl | rfl | rfl | rfl | rfl | rfl | rfl | rfl | rfl | rfl | rfl | rfl | rfl | rfl | rfl | rfl | rfl
  · exact congrArg some t0.symm
  · exact congrArg some t1.symm
  · exact congrArg some t2.symm
  · exact congrArg some t3.symm
  · exact congrArg some t4.symm
  · exact congrArg some t5.symm
  · exact congrArg some t6.symm
  · exact congrArg some t7.symm
  · exact congrArg some t8.symm
  · exact congrArg some t9.symm
  · exact congrArg some t10.symm
  · exact congrArg some t11.symm
  · exact congrArg some t12.symm
  · exact congrArg some t13.symm
  · exact congrArg some t14.symm
  · exact congrArg some t15.symm
  · exact congrArg some t16.symm
theorem sc0 : FnScope e0.N e0.ps (defScope e0.st) := ⟨rfl, rfl, rfl, by decide +kernel, rfl, by decide +kernel, by decide +kernel⟩
theorem sc1 : FnScope e1.N e1.ps (defScope e1.st) := ⟨rfl, rfl, rfl, by decide +kernel, rfl, by decide +kernel, by decide +kernel⟩
theorem sc2 : FnScope e2.N e2.ps (defScope e2.st) := ⟨rfl, rfl, rfl, by decide +kernel, rfl, by decide +kernel, by decide +kernel⟩
theorem sc3 : FnScope e3.N e3.ps (defScope e3.st) := ⟨rfl, rfl, rfl, by decide +kernel, rfl, by decide +kernel, by decide +kernel⟩
theorem sc4 : FnScope e4.N e4.ps (defScope e4.st) := ⟨rfl, rfl, rfl, by decide +kernel, rfl, by decide +kernel, by decide +kernel⟩
theorem sc5 : FnScope e5.N e5.ps (defScope e5.st) := ⟨rfl, rfl, rfl, by decide +kernel, rfl, by decide +kernel, by decide +kernel⟩
theorem sc6 : FnScope e6.N e6.ps (defScope e6.st) := ⟨rfl, rfl, rfl, by decide +kernel, rfl, by decide +kernel, by decide +kernel⟩
theorem sc7 : FnScope e7.N e7.ps (defScope e7.st) := ⟨rfl, rfl, rfl, by decide +kernel, rfl, by decide +kernel, by decide +kernel⟩
theorem sc8 : FnScope e8.N e8.ps (defScope e8.st) := ⟨rfl, rfl, rfl, by decide +kernel, rfl, by decide +kernel, by decide +kernel⟩
theorem sc9 : FnScope e9.N e9.ps (defScope e9.st) := ⟨rfl, rfl, rfl, by decide +kernel, rfl, by decide +kernel, by decide +kernel⟩
theorem sc10 : FnScope e10.N e10.ps (defScope e10.st) := ⟨rfl, rfl, rfl, by decide +kernel, rfl, by decide +kernel, by decide +kernel⟩
theorem sc11 : FnScope e11.N e11.ps (defScope e11.st) := ⟨rfl, rfl, rfl, by decide +kernel, rfl, by decide +kernel, by decide +kernel⟩
theorem sc12 : FnScope e12.N e12.ps (defScope e12.st) := ⟨rfl, rfl, rfl, by decide +kernel, rfl, by decide +kernel, by decide +kernel⟩
theorem sc13 : FnScope e13.N e13.ps (defScope e13.st) := ⟨rfl, rfl, rfl, by decide +kernel, rfl, by decide +kernel, by decide +kernel⟩
theorem sc14 : FnScope e14.N e14.ps (defScope e14.st) := ⟨rfl, rfl, rfl, by decide +kernel, rfl, by decide +kernel, by decide +kernel⟩
theorem sc15 : FnScope e15.N e15.ps (defScope e15.st) := ⟨rfl, rfl, rfl, by decide +kernel, rfl, by decide +kernel, by decide +kernel⟩
theorem sc16 : FnScope e16.N e16.ps (defScope e16.st) := ⟨rfl, rfl, rfl, by decide +kernel, rfl, by decide +kernel, by decide +kernel⟩
theorem ents {K : PySem.W.Frag} {h : Heap} {mg : Str → Option Value} (X : K.In h) (G : h.Ns mainGlobals mg)
    (x0 : EntOk K mg e0)
    (x1 : EntOk K mg e1)
    (x2 : EntOk K mg e2)
    (x3 : EntOk K mg e3)
    (x4 : EntOk K mg e4)
    (x5 : EntOk K mg e5)
    (x6 : EntOk K mg e6)
    (x7 : EntOk K mg e7)
    (x8 : EntOk K mg e8)
    (x9 : EntOk K mg e9)
    (x10 : EntOk K mg e10)
    (x11 : EntOk K mg e11)
    (x12 : EntOk K mg e12)
    (x13 : EntOk K mg e13)
    (x14 : EntOk K mg e14)
    (x15 : EntOk K mg e15)
    (x16 : EntOk K mg e16)
    : ∀ e ∈ tab, EntOk K mg e := by
  intro e he
  simp only [tab, List.mem_cons, List.not_mem_nil, or_false] at he
  rcases he with rfl | rfl | rfl | rfl | rfl | rfl | rfl | rfl | rfl | rfl | rfl | rfl | rfl | rfl | rfl | rfl | rfl
  · exact x0
  · exact x1
  · exact x2
  · exact x3
  · exact x4
  · exact x5
  · exact x6
  · exact x7
  · exact x8
  · exact x9
  · exact x10
  · exact x11
  · exact x12
  · exact x13
  · exact x14
  · exact x15
  · exact x16
theorem law_true : ∀ ns : List Int, ns.length ≤ 63 → ∃ fr ss, evF T WW 30 i_law_k02 [(scr (ns.map PyData.int), false)] = some (.bool true, fr, ss) := fun ns hn => plain_k02 ns hn
end LW
open PySem PySem.W PyProof.Rows LW
set_option maxHeartbeats 0 in
theorem PySem.Challenge.cw_anyshift_k02_who_sends_when_holds : PySem.Challenge.rw_anyshift_k02_who_sends_when.Holds := by
  w_on; o_law; k_head; (case hw => w_witness2)
  k_fill
  refine MI.walk_g (l := PySem.Challenge.rw_anyshift_k02_who_sends_when) (n := 63) (k := 30) (id := i_law_k02) (x := Str.ofString "_law_script") (F := MI.evF T WW 30) rfl (by decide) rfl ⟨rfl, by decide, by decide⟩ (fun w h Y => PySem.W.kIn_of Y) ?F law_true
  case F =>
    intro w mg fa h KX G hmg
    refine' MI.law_ok (e := e16) (T := T) (W := WW) (S := S) (tab := tab) (x := Str.ofString "_law_script") (by simp [tab]) rfl hmg rfl hT ?E ?C ?B
    case E =>
      refine' ents KX G ?x0 ?x1 ?x2 ?x3 ?x4 ?x5 ?x6 ?x7 ?x8 ?x9 ?x10 ?x11 ?x12 ?x13 ?x14 ?x15 ?x16
      case x0 => (refine' MI.ent_ok KX G ?a ?l ?c ?k (fun us hl => match us, hl with | [_], _ => rfl) sc0; (case a => k_is); (case l => k_is); (case c => k_is); (case k => k_is))
      case x1 => (refine' MI.ent_ok KX G ?a ?l ?c ?k (fun us hl => match us, hl with | [_, _, _], _ => rfl) sc1; (case a => k_is); (case l => k_is); (case c => k_is); (case k => k_is))
      case x2 => (refine' MI.ent_ok KX G ?a ?l ?c ?k (fun us hl => match us, hl with | [_, _, _], _ => rfl) sc2; (case a => k_is); (case l => k_is); (case c => k_is); (case k => k_is))
      case x3 => (refine' MI.ent_ok KX G ?a ?l ?c ?k (fun us hl => match us, hl with | [_], _ => rfl) sc3; (case a => k_is); (case l => k_is); (case c => k_is); (case k => k_is))
      case x4 => (refine' MI.ent_ok KX G ?a ?l ?c ?k (fun us hl => match us, hl with | [_], _ => rfl) sc4; (case a => k_is); (case l => k_is); (case c => k_is); (case k => k_is))
      case x5 => (refine' MI.ent_ok KX G ?a ?l ?c ?k (fun us hl => match us, hl with | [_, _, _], _ => rfl) sc5; (case a => k_is); (case l => k_is); (case c => k_is); (case k => k_is))
      case x6 => (refine' MI.ent_ok KX G ?a ?l ?c ?k (fun us hl => match us, hl with | [_, _, _], _ => rfl) sc6; (case a => k_is); (case l => k_is); (case c => k_is); (case k => k_is))
      case x7 => (refine' MI.ent_ok KX G ?a ?l ?c ?k (fun us hl => match us, hl with | [_, _], _ => rfl) sc7; (case a => k_is); (case l => k_is); (case c => k_is); (case k => k_is))
      case x8 => (refine' MI.ent_ok KX G ?a ?l ?c ?k (fun us hl => match us, hl with | [_], _ => rfl) sc8; (case a => k_is); (case l => k_is); (case c => k_is); (case k => k_is))
      case x9 => (refine' MI.ent_ok KX G ?a ?l ?c ?k (fun us hl => match us, hl with | [_, _], _ => rfl) sc9; (case a => k_is); (case l => k_is); (case c => k_is); (case k => k_is))
      case x10 => (refine' MI.ent_ok KX G ?a ?l ?c ?k (fun us hl => match us, hl with | [_, _], _ => rfl) sc10; (case a => k_is); (case l => k_is); (case c => k_is); (case k => k_is))
      case x11 => (refine' MI.ent_ok KX G ?a ?l ?c ?k (fun us hl => match us, hl with | [_, _], _ => rfl) sc11; (case a => k_is); (case l => k_is); (case c => k_is); (case k => k_is))
      case x12 => (refine' MI.ent_ok KX G ?a ?l ?c ?k (fun us hl => match us, hl with | [_, _], _ => rfl) sc12; (case a => k_is); (case l => k_is); (case c => k_is); (case k => k_is))
      case x13 => (refine' MI.ent_ok KX G ?a ?l ?c ?k (fun us hl => match us, hl with | [_, _], _ => rfl) sc13; (case a => k_is); (case l => k_is); (case c => k_is); (case k => k_is))
      case x14 => (refine' MI.ent_ok KX G ?a ?l ?c ?k (fun us hl => match us, hl with | [_, _], _ => rfl) sc14; (case a => k_is); (case l => k_is); (case c => k_is); (case k => k_is))
      case x15 => (refine' MI.ent_ok KX G ?a ?l ?c ?k (fun us hl => match us, hl with | [_, _, _], _ => rfl) sc15; (case a => k_is); (case l => k_is); (case c => k_is); (case k => k_is))
      case x16 => (refine' MI.ent_ok KX G ?a ?l ?c ?k (fun us hl => match us, hl with | [_], _ => rfl) sc16; (case a => k_is); (case l => k_is); (case c => k_is); (case k => k_is))
    case C =>
      intro p hp
      simp only [S, List.mem_cons, List.not_mem_nil, or_false] at hp
      rcases hp with rfl | rfl
      · (refine' MI.cst_i KX G ?qz; (case qz => k_is))
      · (refine' MI.cst_i KX G ?qz; (case qz => k_is))
    case B =>
      refine MI.blt_all fun y hy => ?_
      simp only [S, List.mem_cons, List.not_mem_nil, or_false] at hy
      rcases hy with rfl | rfl | rfl | rfl | rfl | rfl | rfl | rfl | rfl | rfl
      · (refine' PySem.W.mg_none_of KX G ?qz; (case qz => k_is))
      · (refine' PySem.W.mg_none_of KX G ?qz; (case qz => k_is))
      · (refine' PySem.W.mg_none_of KX G ?qz; (case qz => k_is))
      · (refine' PySem.W.mg_none_of KX G ?qz; (case qz => k_is))
      · (refine' PySem.W.mg_none_of KX G ?qz; (case qz => k_is))
      · (refine' PySem.W.mg_none_of KX G ?qz; (case qz => k_is))
      · (refine' PySem.W.mg_none_of KX G ?qz; (case qz => k_is))
      · (refine' PySem.W.mg_none_of KX G ?qz; (case qz => k_is))
      · (refine' PySem.W.mg_none_of KX G ?qz; (case qz => k_is))
      · (refine' PySem.W.mg_none_of KX G ?qz; (case qz => k_is))
