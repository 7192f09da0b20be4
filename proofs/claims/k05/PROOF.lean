import PyProof.Rows.All
import Wide.All
import OpenK.AllK
import Wide.FinOn
import KE.SortData
import HandS.ForMost
import HandS.Exc
import HandS.Flow
import HandS.CallSlots
import HandS.Zip
import HandS.Deep
import HandS.TupAny
import HandS.TupMul
import HandS.Style
import HandS.Defaults
import HandS.IsInst
import HandS.CallLocal
import HandS.Star
import HandS.ExcOwn
import KE.GoesRaise
import PyProof.ZipIter
import PyProof.WalkInts
import HandS.Iter
import HandS.List
import HandS.SortInts
import HandS.NoneIn
import HandS.Comp
import HandS.Strs
import HandS.SetFor
import HandS.TupSets
import HandS.SetTxt0
import HandS.Conv
import HandS.DictTup
import KE.KDictZip
import HandS.HeadHook1
import HandS.Small
import HandS.ExcInit
import HandS.TryMany
import HandS.ExcField
import HandS.ExcIs
import KE.KExcIs
import KE.KStateDown
import HandS.Ends
import HandS.Words
import HandS.Head0
import HandS.Head1
import HandS.Head2
import HandS.HeadEnd
import HandS.HeadHook2
import HandS.HeadHook4
import PySem.Challenge.RW_keyedlines_k05_whole_nets_changed_there
set_option Elab.async false
set_option linter.all false
set_option maxRecDepth 100000
-- part Ev1
set_option maxHeartbeats 200000
namespace Ev
open PySem

/-- data: what a value is, lists by their items -/
inductive D where
  | non | bl (b : Bool) | int (i : Int) | str (x : Str) | tup (xs : List D) | lst (xs : List D)
  | scr (xs : List D)
  | fn (x : Str) | cls (x : Str) | ty (n : String) | exc (c : Str) (ns : List Str) (vs : List D)
  deriving Inhabited

mutual
def D.eqb : D → D → Bool
  | .non, .non => true
  | .bl a, .bl b => a == b
  | .int a, .int b => decide (a = b)
  | .str a, .str b => decide (a = b)
  | .tup a, .tup b => D.eqbs a b
  | .lst a, .lst b => D.eqbs a b
  | .scr a, .scr b => D.eqbs a b
  | .fn a, .fn b => decide (a = b)
  | .cls a, .cls b => decide (a = b)
  | .ty a, .ty b => decide (a = b)
  | .exc a b c, .exc a' b' c' => decide (a = a') && decide (b = b') && D.eqbs c c'
  | _, _ => false
def D.eqbs : List D → List D → Bool
  | [], [] => true
  | x :: xs, y :: ys => D.eqb x y && D.eqbs xs ys
  | _, _ => false
end

/-! Python's == of data (a bool is its int) -/
mutual
def eqD : D → D → Bool
  | .non, .non => true
  | .bl a, .bl b => a == b
  | .bl a, .int j => (if a then 1 else 0) == j
  | .int i, .bl b => i == (if b then 1 else 0)
  | .int i, .int j => i == j
  | .str x, .str y => x == y
  | .lst xs, .lst ys => eqDs xs ys
  | .tup xs, .tup ys => eqDs xs ys
  | _, _ => false
def eqDs : List D → List D → Bool
  | [], [] => true
  | x :: xs, y :: ys => eqD x y && eqDs xs ys
  | _, _ => false
end
/-! plain data: no function, no class, of a depth -/
mutual
def plain : Nat → D → Bool
  | _, .non => true
  | _, .bl _ => true
  | _, .int _ => true
  | _, .str x => PyData.strOk x
  | n + 1, .tup xs => plains n xs
  | n + 1, .lst xs => plains n xs
  | _, _ => false
def plains : Nat → List D → Bool
  | _, [] => true
  | n, x :: xs => plain n x && plains n xs
end
/-! data as the layer's -/
mutual
def toPy : D → PyData
  | .bl b => .bool b
  | .int i => .int i
  | .str x => .str x
  | .tup xs => .tuple (toPys xs)
  | .lst xs => .list (toPys xs)
  | _ => .none
def toPys : List D → List PyData
  | [] => []
  | x :: xs => toPy x :: toPys xs
end
/-! sorting of alike data -/
def ltP (d e : D) : Bool := PySem.W.dataLt (toPy d) (toPy e)
def insG (x : D) : List D → List D
  | [] => [x]
  | y :: ys => if ltP y x then y :: insG x ys else x :: y :: ys
def sortD : List D → List D
  | [] => []
  | x :: xs => insG x (sortD xs)
def isTup1 : D → Bool
  | .tup (_ :: _) => true
  | _ => false
def isTupD : D → Bool
  | .tup _ => true
  | _ => false
def isFlat : D → Bool
  | .tup _ => false
  | .non => false
  | _ => true
def tup0 : List D → Bool
  | .tup [] :: _ => true
  | _ => false
def sortOk (xs : List D) : Bool := plains 59 xs && ((xs.all fun d => xs.all fun e => PySem.W.alike (toPy d) (toPy e)) && (xs.all isTup1 || (xs.all isFlat || (xs.all isTupD && tup0 xs))))
def sortG (xs : List D) : Option (List D) := if sortOk xs then some (sortD xs) else none
/-! Python's <, where it is told here -/
mutual
def ltD : D → D → Option Bool
  | .int i, .int j => some (decide (i < j))
  | .str x, .str y => some (decide (x.cps.toList < y.cps.toList))
  | .tup xs, .tup ys => ltDs xs ys
  | .lst xs, .lst ys => ltDs xs ys
  | _, _ => none
def ltDs : List D → List D → Option Bool
  | [], [] => some false
  | [], _ :: _ => some true
  | _ :: _, [] => some false
  | x :: xs, y :: ys => if eqD x y then ltDs xs ys else ltD x y
end

inductive Slot where
  | no | val (d : D) | box (xs : List D)
  deriving Inhabited
abbrev Env := List Slot
inductive RV where
  | val (d : D) | own (xs : List D) | bor (i : Nat)
  deriving Inhabited
structure Exc where
  cls : Str
  ns : List Str
  vs : List D
inductive Res (α : Type) where
  | ok (a : α) (r : Env) | exc (x : Exc) (r : Env) | stuck
abbrev M (α : Type) := Env → Res α
def M.pure {α : Type} (a : α) : M α := fun r => .ok a r
def M.bind {α β : Type} (m : M α) (f : α → M β) : M β := fun r => match m r with
  | .ok a r' => f a r'
  | .exc x r' => .exc x r'
  | .stuck => .stuck
instance : Monad M where
  pure := M.pure
  bind := M.bind
def stuckM {α : Type} : M α := fun _ => .stuck
def liftO {α : Type} : Option α → M α
  | some a => M.pure a
  | none => stuckM
inductive CRes where
  | ret (rv : RV) (outs : List Slot) | exc (x : Exc) | stuck
abbrev CallT := Str → List Slot → CRes

/-- what stands at a place, as data, untouched -/
def look (r : Env) : RV → Option D
  | .val d => some d
  | .own xs => some (.lst xs)
  | .bor i => match r[i]? with
    | some (.box xs) => some (.lst xs)
    | some (.val d) => some d
    | _ => none
def looks (r : Env) : List RV → Option (List D)
  | [] => some []
  | v :: vs => match look r v, looks r vs with
    | some d, some ds => some (d :: ds)
    | _, _ => none
/-- a value that is shared from now on -/
def toD : RV → M D
  | .val d => M.pure d
  | .own xs => M.pure (.lst xs)
  | .bor i => fun r => match r[i]? with
    | some (.box xs) => .ok (.lst xs) (r.set i (.val (.lst xs)))
    | some (.val d) => .ok d r
    | _ => .stuck
def toDs : List RV → M (List D)
  | [] => M.pure []
  | v :: vs => do
    let d ← toD v
    let ds ← toDs vs
    M.pure (d :: ds)

/-! ### operations on data -/
def truD : D → Option Bool
  | .non => some false
  | .bl b => some b
  | .int i => some (i != 0)
  | .str x => if x.length ≤ sizeLine then some (x.length != 0) else none
  | .tup xs => some (!xs.isEmpty)
  | .lst xs => some (!xs.isEmpty)
  | _ => none
def fits64 (i : Int) : Bool := decide (-(2 ^ 64) < i) && decide (i < 2 ^ 64)
def small62 (i : Int) : Bool := decide (-(2 ^ 62) ≤ i) && decide (i < 2 ^ 62)
def natAbsLt (i : Int) : Bool := decide (i.natAbs < 2 ^ 64)
def binOp : Operator → D → D → Option RV
  | .Add, .int i, .int j => some (.val (.int (i + j)))
  | .Sub, .int i, .int j => some (.val (.int (i - j)))
  | .Mult, .int i, .int j => if fits64 i || fits64 j then some (.val (.int (i * j))) else none
  | .FloorDiv, .int i, .int j => if decide (0 < j) && decide (j < 1073741824) then some (.val (.int (i / j))) else none
  | .Mod, .int i, .int j => if 0 < j then some (.val (.int (i % j))) else none
  | .Pow, .int i, .int j => if decide (0 ≤ j) && decide (j ≤ 1000000) && natAbsLt i then some (.val (.int (i ^ j.toNat))) else none
  | .Add, .str x, .str y => if x.length + y.length ≤ sizeLine then some (.val (.str (x ++ y))) else none
  | .Add, .lst xs, .lst ys => if xs.length + ys.length ≤ sizeLine then some (.own (xs ++ ys)) else none
  | .Add, .tup xs, .tup ys => if xs.length + ys.length ≤ sizeLine then some (.val (.tup (xs ++ ys))) else none
  | .Mult, .lst xs, .int n => if small62 n && decide (xs.length * n.toNat ≤ sizeLine) then some (.own (List.replicate n.toNat xs).flatten) else none
  | .Mult, .tup xs, .int n => if decide (-1000 ≤ n) && decide (n ≤ 1000) && decide (xs.length ≤ 1000) then some (.val (.tup (List.replicate n.toNat xs).flatten)) else none
  | _, _, _ => none
def scalD : D → Bool
  | .non => true
  | .bl _ => true
  | .int _ => true
  | .str _ => true
  | _ => false
/-- == of two scalars, told apart as Python does at once -/
def flatEq : D → D → Bool
  | .bl _, .int _ => false
  | .int _, .bl _ => false
  | a, b => scalD a && scalD b
def eqOp (a b : D) : Option Bool := if (flatEq a b || (plain 60 a && plain 60 b)) = true then some (eqD a b) else none
def inOp (a : D) : D → Option Bool
  | .lst xs => if ((scalD a && xs.all scalD) || (plain 60 a && plains 60 xs)) = true then some (xs.any fun z => eqD z a) else none
  | .tup xs => if (scalD a && xs.all scalD) = true then some (xs.any fun z => eqD z a) else none
  | .str y => match a with
    | .str x => (match x.cps.toList with
      | [c] => some (decide (c ∈ y.cps.toList))
      | _ => some (!(Builtin.Str.occurrences y x 0 y.length 1).isEmpty))
    | _ => none
  | _ => none
def isNonD : D → Bool
  | .non => true
  | _ => false
def cmpOp : CmpOp → D → D → Option Bool
  | .Eq, a, b => eqOp a b
  | .NotEq, a, b => (eqOp a b).map (!·)
  | .Lt, .int i, .int j => some (decide (i < j))
  | .Lt, .str x, .str y => some (decide (x.cps.toList < y.cps.toList))
  | .Gt, .int i, .int j => some (decide (j < i))
  | .LtE, .int i, .int j => some (decide (i ≤ j))
  | .GtE, .int i, .int j => some (decide (j ≤ i))
  | .In, a, b => inOp a b
  | .NotIn, a, b => (inOp a b).map (!·)
  | .Is, a, .non => some (isNonD a)
  | .IsNot, a, .non => some (!isNonD a)
  | .Is, .bl a, .bl b => some (a == b)
  | .IsNot, .bl a, .bl b => some (a != b)
  | _, _, _ => none
/-- the place that an index names -/
def atIx (n : Nat) (i : Int) : Option Nat :=
  if 0 ≤ i then (if i < n then some i.toNat else none) else if 0 ≤ i + n then some (i + n).toNat else none
def idxOp : D → D → Option D
  | .tup xs, .int i => (atIx xs.length i).bind fun k => xs[k]?
  | .lst xs, .int i => (atIx xs.length i).bind fun k => xs[k]?
  | .scr xs, .int i => (atIx xs.length i).bind fun k => xs[k]?
  | .str x, .int i => if x.length ≤ sizeLine then (atIx x.length i).bind fun k => (x.cps[k]?).map fun c => .str ⟨#[c]⟩ else none
  | _, _ => none
def clampI (n : Nat) (i : Int) : Nat := if 0 ≤ i then min i.toNat n else (i + n).toNat
def cutLo (n : Nat) : Option Int → Nat
  | none => 0
  | some i => clampI n i
def cutHi (n : Nat) : Option Int → Nat
  | none => n
  | some i => clampI n i
def cutL {α : Type} (xs : List α) (lo hi : Option Int) : List α := (xs.take (cutHi xs.length hi)).drop (cutLo xs.length lo)
def sliI (d : D) (l h : Option Int) : Option RV := match d with
  | .tup xs => some (.val (.tup (cutL xs l h)))
  | .lst xs => some (.own (cutL xs l h))
  | .scr xs => some (.own (cutL xs l h))
  | .str x => if x.length ≤ sizeLine then some (.val (.str ⟨(cutL x.cps.toList l h).toArray⟩)) else none
  | _ => none
def partI : D → Option Int
  | .int i => if fits64 i then some i else none
  | _ => none
def revOp : D → Option RV
  | .tup xs => some (.val (.tup xs.reverse))
  | .lst xs => some (.own xs.reverse)
  | _ => none
def negOp : D → Option D
  | .int i => some (.int (-i))
  | _ => none
def itemsD : D → Option (List D)
  | .tup xs => some xs
  | .lst xs => some xs
  | .scr xs => some xs
  | .str x => if x.length ≤ sizeLine then some (x.cps.toList.map fun c => .str ⟨#[c]⟩) else none
  | _ => none
def seqD : D → Option (List D)
  | .tup xs => some xs
  | .lst xs => some xs
  | _ => none
/-! ### lists of one kind -/
def intsD : List D → Option (List Int)
  | [] => some []
  | .int i :: r => (intsD r).map (i :: ·)
  | _ => none
def strsD : List D → Option (List Str)
  | [] => some []
  | .str x :: r => (strsD r).map (x :: ·)
  | _ => none
def boolsD : List D → Option (List Bool)
  | [] => some []
  | .bl b :: r => (boolsD r).map (b :: ·)
  | _ => none
def insI (x : Int) : List Int → List Int
  | [] => [x]
  | y :: ys => if x ≤ y then x :: y :: ys else y :: insI x ys
def sortI : List Int → List Int
  | [] => []
  | x :: xs => insI x (sortI xs)
def leS (a b : Str) : Bool := !decide (b.cps.toList < a.cps.toList)
def insS (x : Str) : List Str → List Str
  | [] => [x]
  | y :: ys => if leS x y then x :: y :: ys else y :: insS x ys
def sortS : List Str → List Str
  | [] => []
  | x :: xs => insS x (sortS xs)
/-- put in among rising ones, once -/
def putS (x : Str) : List Str → List Str
  | [] => [x]
  | y :: ys => if x = y then y :: ys else if leS x y then x :: y :: ys else y :: putS x ys
def setS : List Str → List Str
  | [] => []
  | x :: xs => putS x (setS xs)
def minI : Int → List Int → Int
  | b, [] => b
  | b, x :: r => minI (if x < b then x else b) r
def maxI : Int → List Int → Int
  | b, [] => b
  | b, x :: r => maxI (if b < x then x else b) r
/-- the type of a value, by its Python name; own classes by their names -/
def tyD : D → Option String
  | .non => some "NoneType"
  | .bl _ => some "bool"
  | .int _ => some "int"
  | .str _ => some "str"
  | .tup _ => some "tuple"
  | .lst _ => some "list"
  | _ => none
def subTy (t u : String) : Bool := decide (t = u) || (decide (t = "bool") && decide (u = "int"))
inductive Bi where
  | len | abs | int | tuple | list | sum | all | any | sorted | sortedSet | lenSet | min | max | min2 | max2 | isi (ts : List String)
  | zipT
def pairsD (xs ys : List D) : List D := (xs.zip ys).map fun p => .tup [p.1, p.2]
/-- lists, tuples -/
def zipD : D → D → Option (List D)
  | .lst xs, .lst ys => some (pairsD xs ys)
  | .tup xs, .tup ys => some (pairsD xs ys)
  | .tup xs, .lst ys => some (pairsD xs ys)
  | .lst xs, .tup ys => some (pairsD xs ys)
  | _, _ => none
def enumD (xs : List D) : List D := (List.range xs.length |>.zip xs).map fun p => .tup [.int (p.1 : Nat), p.2]
def rangeD (lo hi : Int) : List D := (List.range (hi - lo).toNat).map fun k => .int (lo + (k : Nat))
def biOp : Bi → List D → Option RV
  | .len, [d] => (match d with
    | .str x => if x.length ≤ sizeLine then some (.val (.int x.length)) else none
    | .tup xs => some (.val (.int xs.length))
    | .lst xs => some (.val (.int xs.length))
    | .scr xs => some (.val (.int xs.length))
    | _ => none)
  | .abs, [.int i] => some (.val (.int (if i < 0 then -i else i)))
  | .int, [.int i] => some (.val (.int i))
  | .int, [.bl b] => some (.val (.int (if b then 1 else 0)))
  | .tuple, [d] => (seqD d).map fun xs => .val (.tup xs)
  | .list, [d] => (seqD d).map fun xs => .own xs
  | .sum, [.lst xs] => (intsD xs).map fun ns => .val (.int ns.sum)
  | .all, [.lst xs] => (boolsD xs).map fun bs => .val (.bl (bs.all id))
  | .any, [.lst xs] => (boolsD xs).map fun bs => .val (.bl (bs.any id))
  | .sorted, [.lst xs] => (match intsD xs with
    | some ns => some (.own ((sortI ns).map D.int))
    | none => (match strsD xs with
      | some ss => if ss.length < 64 then some (.own ((sortS ss).map D.str)) else none
      | none => (sortG xs).map RV.own))
  | .sorted, [.tup xs] => (sortG xs).map RV.own
  | .sortedSet, [.lst xs] => (strsD xs).bind fun ss => if ss.length < 64 then some (.own ((setS ss).map D.str)) else none
  | .lenSet, [.lst xs] => (strsD xs).bind fun ss => if ss.length < 64 then some (.val (.int (setS ss).length)) else none
  | .min, [.lst xs] => (match intsD xs with
    | some (n :: ns) => some (.val (.int (minI n ns)))
    | _ => none)
  | .min, [.tup xs] => (match intsD xs with
    | some (n :: ns) => some (.val (.int (minI n ns)))
    | _ => none)
  | .max, [.lst xs] => (match intsD xs with
    | some (n :: ns) => some (.val (.int (maxI n ns)))
    | _ => none)
  | .min2, [.int i, .int j] => some (.val (.int (if j < i then j else i)))
  | .max2, [.int i, .int j] => some (.val (.int (if j > i then j else i)))
  | .isi ts, [d] => (tyD d).map fun t => .val (.bl (ts.any fun u => subTy t u))
  | .zipT, [.lst xs, .lst ys] => some (.val (.tup (pairsD xs ys)))
  | _, _ => none

/-! ### the language -/
inductive Tg where
  | name (i : Nat) | tup (ts : List Tg)
mutual
inductive E where
  | var (i : Nat) | cst (d : D) | glo (x : Str) (d : D)
  | tup (es : List E) | lst (es : List E)
  | bin (op : Operator) (a b : E) | neg (a : E) | not (a : E)
  | cmp (op : CmpOp) (a b : E) | cmp2 (op op' : CmpOp) (a b c : E)
  | and (a b : E) | or (a b : E) | ite (c a b : E)
  | idx (a i : E) | sli (a : E) (lo hi : Option E) | rev (a : E)
  | call (f : Str) (fl : List Bool) (es : List E)
  | callk (f : Str) (fl : List Bool) (ks : List E) (perm : List Nat)
  | callv (i : Nat) (fls : List (Str × List Bool)) (es : List E)
  | calle (f : E) (fls : List (Str × List Bool)) (es : List E)
  | bi (b : Bi) (es : List E)
  | app (i : Nat) (e : E) | pop (i : Nat) | popAt (i : Nat) (e : E)
  | comp (elt : E) (tg : Tg) (it : It) (ifs : List E) (own : List Nat)
  | tupS (fl : List Bool) (es : List E) | lstS (fl : List Bool) (es : List E)
inductive It where
  | seq (e : E) | rng (es : List E) | zip (es : List E) | enum (es : List E)
end
/-- what a clause tells of the error that it names -/
inductive XE where
  | cst (d : D) | fld (f : Str) | isi (b : Bool)
inductive St where
  | expr (e : E) | asg (tg : Tg) (e : E) | par (is : List Nat) (es : List E) | asgI (i : Nat) (ix e : E)
  | ret (e : E) | ret0 | ifs (c : E) (a b : List St) | for_ (tg : Tg) (it : It) (body : List St) | while_ (c : E) (body : List St)
  | pass | cont | brk
  | raise (c : Str) (ns : List Str) (es : List E)
  | try_ (body : List St) (i : Nat) (ks : List Str) (hs : List (Str × Nat × List XE))
structure Fn where
  np : Nat
  nl : Nat
  fl : List Bool
  body : List St
inductive Flow where
  | next | ret (rv : RV) | brk | cont

/-- the slots of a target -/
def slotGet (r : Env) (i : Nat) : Slot := (r[i]?).getD .no
mutual
def asgT : Tg → D → Env → Option Env
  | .name i, d, r => some (r.set i (.val d))
  | .tup ts, .tup ds, r => asgTs ts ds r
  | .tup ts, .lst ds, r => asgTs ts ds r
  | _, _, _ => none
def asgTs : List Tg → List D → Env → Option Env
  | [], [], r => some r
  | t :: ts, d :: ds, r => match asgT t d r with
    | some r' => asgTs ts ds r'
    | none => none
  | _, _, _ => none
end
/-- a name is given a value: a list that nobody else has stays its own -/
def asgRV (i : Nat) : RV → Env → Option Env
  | .val d, r => some (r.set i (.val d))
  | .own xs, r => some (r.set i (.box xs))
  | .bor j, r => match r[j]? with
    | some (.box xs) => some ((r.set j (.val (.lst xs))).set i (.val (.lst xs)))
    | some (.val d) => some (r.set i (.val d))
    | _ => none
/-- arguments: a flagged one is lent, the others are shared -/
def passArgs : List Bool → List RV → M (List Slot)
  | [], [] => M.pure []
  | true :: bs, .own xs :: vs => do
    let ss ← passArgs bs vs
    M.pure (.box xs :: ss)
  | true :: bs, .bor i :: vs => fun r => match r[i]? with
    | some (.box xs) => (do
      let ss ← passArgs bs vs
      M.pure (.box xs :: ss) : M (List Slot)) r
    | _ => .stuck
  | false :: bs, v :: vs => do
    let d ← toD v
    let ss ← passArgs bs vs
    M.pure (.val d :: ss)
  | _, _ => stuckM
/-- the places lent -/
def lent : List Bool → List RV → List Nat
  | true :: bs, .bor i :: vs => i :: lent bs vs
  | _ :: bs, _ :: vs => lent bs vs
  | _, _ => []
def isMut (r : Env) (i : Nat) : Bool := match r[i]? with
  | some (.box _) => true
  | _ => false
def nodupB : List Nat → Bool
  | [] => true
  | i :: is => !is.contains i && nodupB is
/-- .. given back -/
def giveBack : List Bool → List RV → List Slot → Env → Env
  | true :: bs, .bor i :: vs, o :: os, r => giveBack bs vs os (r.set i o)
  | _ :: bs, _ :: vs, _ :: os, r => giveBack bs vs os r
  | _, _, _, r => r
def doCall (call : CallT) (f : Str) (fl : List Bool) (vs : List RV) : M RV := fun r => match passArgs fl vs r with
  | .ok ss r1 => if (nodupB (lent fl vs) && (lent fl vs).all (isMut r1)) = true then (match call f ss with
    | .ret rv outs => if outs.length = ss.length then (match rv with
      | .bor _ => .stuck
      | _ => .ok rv (giveBack fl vs outs r1)) else .stuck
    | .exc x => if (lent fl vs).isEmpty then .exc x r1 else .stuck
    | .stuck => .stuck) else .stuck
  | .exc x r1 => .exc x r1
  | .stuck => .stuck
def wipeE (own : List Nat) (r : Env) : Env := own.foldl (fun r i => r.set i .no) r
def restE (own : List Nat) (r0 r : Env) : Env := own.foldl (fun r i => r.set i (slotGet r0 i)) r
/-- what must stay as it is while it is walked -/
def lockOk (lk : List (Nat × List D)) (r : Env) : Bool := lk.all fun p => match r[p.1]? with
  | some (.box xs) => D.eqbs xs p.2
  | some (.val (.lst xs)) => D.eqbs xs p.2
  | _ => false
def lockOf (r : Env) : RV → List (Nat × List D)
  | .bor i => (match r[i]? with
    | some (.box xs) => [(i, xs)]
    | _ => [])
  | _ => []
def compL (tg : Tg) (own : List Nat) (lk : List (Nat × List D)) (turn : M (Option D)) : List D → M (List D)
  | [], r => .ok [] r
  | d :: ds, r => match asgT tg d r with
    | none => .stuck
    | some r1 => match turn r1 with
      | .ok o r2 => if lockOk lk r2 then (match compL tg own lk turn ds (wipeE own r2) with
        | .ok xs r3 => .ok (o.toList ++ xs) r3
        | .exc x r3 => .exc x r3
        | .stuck => .stuck) else .stuck
      | .exc x r2 => .exc x r2
      | .stuck => .stuck
/-- what is walked by a for is shared from then on -/
def shareL (lk : List (Nat × List D)) (r : Env) : Env := lk.foldl (fun r p => r.set p.1 (.val (.lst p.2))) r
def forL (tg : Tg) (body : M Flow) : List D → M Flow
  | [], r => .ok .next r
  | d :: ds, r => match asgT tg d r with
    | none => .stuck
    | some r1 => match body r1 with
      | .ok .next r2 => forL tg body ds r2
      | .ok .cont r2 => forL tg body ds r2
      | .ok .brk r2 => .ok .next r2
      | .ok (.ret rv) r2 => .ok (.ret rv) r2
      | .exc x r2 => .exc x r2
      | .stuck => .stuck
def whileL (c : M Bool) (body : M Flow) : Nat → M Flow
  | 0, _ => .stuck
  | n + 1, r => match c r with
    | .ok false r1 => .ok .next r1
    | .ok true r1 => (match body r1 with
      | .ok .next r2 => whileL c body n r2
      | .ok .cont r2 => whileL c body n r2
      | .ok .brk r2 => .ok .next r2
      | .ok (.ret rv) r2 => .ok (.ret rv) r2
      | .exc x r2 => .exc x r2
      | .stuck => .stuck)
    | .exc x r1 => .exc x r1
    | .stuck => .stuck
def withLook {α : Type} (v : RV) (k : D → M α) : M α := fun r => match look r v with
  | some d => k d r
  | none => .stuck
def withLooks {α : Type} (vs : List RV) (k : List D → M α) : M α := fun r => match looks r vs with
  | some ds => k ds r
  | none => .stuck
def permL {α : Type} (xs : List α) : List Nat → Option (List α)
  | [] => some []
  | i :: is => match xs[i]?, permL xs is with
    | some x, some r => some (x :: r)
    | _, _ => none
def locksOf (r : Env) : List RV → List (Nat × List D)
  | [] => []
  | v :: vs => lockOf r v ++ locksOf r vs

/-- an item as it is, a starred one by its items -/
def starD (b : Bool) (d : D) : Option (List D) := if b = true then seqD d else some [d]
def xeV (x : Exc) : XE → Option D
  | .cst d => some d
  | .fld f => (x.ns.zip x.vs).lookup f
  | .isi b => some (.bl b)
def xeVs (x : Exc) : List XE → Option (List D)
  | [] => some []
  | e :: es => (xeV x e).bind fun d => (xeVs x es).bind fun ds => some (d :: ds)
section
variable (call : CallT)
mutual
def evE : E → M RV
  | .var i => fun r => match r[i]? with
    | some (.val d) => .ok (.val d) r
    | some (.box _) => .ok (.bor i) r
    | _ => .stuck
  | .cst d => M.pure (.val d)
  | .glo _ d => M.pure (.val d)
  | .tup es => do
    let vs ← evEs es
    let ds ← toDs vs
    M.pure (.val (.tup ds))
  | .lst es => do
    let vs ← evEs es
    let ds ← toDs vs
    M.pure (.own ds)
  | .tupS fl es => do
    let ds ← evDs fl es
    if ds.length ≤ sizeLine then M.pure (.val (.tup ds)) else stuckM
  | .lstS fl es => do
    let ds ← evDs fl es
    if ds.length ≤ sizeLine then M.pure (.own ds) else stuckM
  | .bin op a b => do
    let x ← evE a
    let y ← evE b
    withLook x fun d => withLook y fun e => liftO (binOp op d e)
  | .neg a => do
    let x ← evE a
    withLook x fun d => liftO ((negOp d).map RV.val)
  | .not a => do
    let x ← evE a
    withLook x fun d => liftO ((truD d).map fun b => .val (.bl (!b)))
  | .cmp op a b => do
    let x ← evE a
    let y ← evE b
    withLook x fun d => withLook y fun e => liftO ((cmpOp op d e).map fun b => .val (.bl b))
  | .cmp2 op op' a b c => do
    let x ← evE a
    let y ← evE b
    withLook x fun d => withLook y fun e => match cmpOp op d e with
      | some true => do
        let z ← evE c
        withLook y fun e => withLook z fun f => liftO ((cmpOp op' e f).map fun b => .val (.bl b))
      | some false => M.pure (.val (.bl false))
      | none => stuckM
  | .and a b => do
    let x ← evE a
    withLook x fun d => match truD d with
      | some true => evE b
      | some false => M.pure x
      | none => stuckM
  | .or a b => do
    let x ← evE a
    withLook x fun d => match truD d with
      | some true => M.pure x
      | some false => evE b
      | none => stuckM
  | .ite c a b => do
    let x ← evE c
    withLook x fun d => match truD d with
      | some true => evE a
      | some false => evE b
      | none => stuckM
  | .idx a i => do
    let x ← evE a
    let y ← evE i
    withLook x fun d => withLook y fun e => liftO ((idxOp d e).map RV.val)
  | .sli a lo hi => do
    let x ← evE a
    let l ← evO lo
    let h ← evO hi
    withLook x fun d => liftO (sliI d l h)
  | .rev a => do
    let x ← evE a
    withLook x fun d => liftO (revOp d)
  | .call f fl es => do
    let vs ← evEs es
    doCall call f fl vs
  | .callk f fl ks perm => do
    let ws ← evEs ks
    let zs ← liftO (if nodupB perm then permL ws perm else none)
    doCall call f fl zs
  | .callv i fls es => fun r => match r[i]? with
    | some (.val (.fn f)) => (match fls.lookup f with
      | some fl => (do
        let vs ← evEs es
        doCall call f fl vs : M RV) r
      | none => .stuck)
    | _ => .stuck
  | .calle f fls es => do
    let v ← evE f
    withLook v fun d => match d with
      | .fn f => (match fls.lookup f with
        | some fl => do
          let vs ← evEs es
          doCall call f fl vs
        | none => stuckM)
      | _ => stuckM
  | .bi b es => do
    let vs ← evEs es
    withLooks vs fun ds => liftO (biOp b ds)
  | .app i e => fun r => if isMut r i then (do
    let v ← evE e
    let d ← toD v
    fun r => match r[i]? with
      | some (.box xs) => if xs.length < sizeLine then .ok (.val .non) (r.set i (.box (xs ++ [d]))) else .stuck
      | _ => .stuck : M RV) r else .stuck
  | .pop i => fun r => match r[i]? with
    | some (.box xs) => (match xs.getLast? with
      | some d => .ok (.val d) (r.set i (.box xs.dropLast))
      | none => .stuck)
    | _ => .stuck
  | .popAt i e => fun r => if isMut r i then (do
    let v ← evE e
    withLook v fun d r => match r[i]?, d with
      | some (.box xs), .int k => if small62 k then (match atIx xs.length k with
        | some k => (match xs[k]? with
          | some x => .ok (.val x) (r.set i (.box (xs.eraseIdx k)))
          | none => .stuck)
        | none => .stuck) else .stuck
      | _, _ => .stuck : M RV) r else .stuck
  | .comp elt tg it ifs own => fun r => match evIt it r with
    | .ok (ds, lk) r0 => if (lk.all fun p => !own.contains p.1) = true then (match compL tg own lk (do
        let b ← evIfs ifs
        if b then (do
          let v ← evE elt
          let d ← toD v
          M.pure (some d)) else M.pure none) ds (wipeE own r0) with
      | .ok xs r1 => .ok (.own xs) (restE own r0 r1)
      | .exc x r1 => .exc x (restE own r0 (wipeE own r1))
      | .stuck => .stuck) else .stuck
    | .exc x r0 => .exc x r0
    | .stuck => .stuck
def evO : Option E → M (Option Int)
  | none => M.pure none
  | some e => do
    let v ← evE e
    withLook v fun d => liftO ((partI d).map some)
def evEs : List E → M (List RV)
  | [] => M.pure []
  | e :: es => do
    let v ← evE e
    let vs ← evEs es
    M.pure (v :: vs)
/-- items, some of them starred -/
def evDs : List Bool → List E → M (List D)
  | _, [] => M.pure []
  | fl, e :: es => do
    let v ← evE e
    let d ← toD v
    match starD (fl.headD false) d with
    | some xs => do
      let ds ← evDs fl.tail es
      M.pure (xs ++ ds)
    | none => stuckM
def evIfs : List E → M Bool
  | [] => M.pure true
  | e :: es => do
    let v ← evE e
    withLook v fun d => match truD d with
      | some true => evIfs es
      | some false => M.pure false
      | none => stuckM
def evIt : It → M (List D × List (Nat × List D))
  | .seq e => do
    let v ← evE e
    withLook v fun d r => match itemsD d with
      | some ds => .ok (ds, lockOf r v) r
      | none => .stuck
  | .rng es => do
    let vs ← evEs es
    withLooks vs fun ds => match ds with
      | [.int j] => if small62 j && decide (j.toNat ≤ sizeLine) then M.pure (rangeD 0 j, []) else stuckM
      | [.int i, .int j] => if small62 i && small62 j && decide ((j - i).toNat ≤ sizeLine) then M.pure (rangeD i j, []) else stuckM
      | _ => stuckM
  | .zip es => do
    let vs ← evEs es
    withLooks vs fun ds r => match ds with
      | [d, e] => (match zipD d e with
        | some xs => .ok (xs, locksOf r vs) r
        | none => .stuck)
      | _ => .stuck
  | .enum es => do
    let vs ← evEs es
    withLooks vs fun ds r => match ds with
      | [.lst xs] => .ok (enumD xs, locksOf r vs) r
      | [.scr xs] => .ok (enumD xs, locksOf r vs) r
      | _ => .stuck
end
def evT (e : E) : M Bool := do
  let v ← evE call e
  withLook v fun d => liftO (truD d)
def parAsg : List Nat → List RV → Env → Option Env
  | [], [], r => some r
  | i :: is, v :: vs, r => match asgRV i v r with
    | some r' => parAsg is vs r'
    | none => none
  | _, _, _ => none
/-- RVs that name no slot -/
def solid : List RV → M (List RV)
  | [] => M.pure []
  | .bor i :: vs => do
    let d ← toD (.bor i)
    let r ← solid vs
    M.pure (.val d :: r)
  | v :: vs => do
    let r ← solid vs
    M.pure (v :: r)
def loopMost : Nat := 2 ^ 64
mutual
def evS : St → M Flow
  | .expr e => do
    let _ ← evE call e
    M.pure .next
  | .asg (.name i) e => do
    let v ← evE call e
    fun r => match asgRV i v r with
      | some r' => .ok .next r'
      | none => .stuck
  | .asg (.tup ts) e => do
    let v ← evE call e
    let d ← toD v
    fun r => match asgT (.tup ts) d r with
      | some r' => .ok .next r'
      | none => .stuck
  | .par is es => do
    let vs ← evEs call es
    let vs ← solid vs
    fun r => match parAsg is vs r with
      | some r' => .ok .next r'
      | none => .stuck
  | .asgI i ix e => do
    let v ← evE call e
    let d ← toD v
    fun r => if isMut r i then (do
      let k ← evE call ix
      withLook k fun kd r => match r[i]?, kd with
        | some (.box xs), .int k => (match atIx xs.length k with
          | some k => .ok .next (r.set i (.box (xs.set k d)))
          | none => .stuck)
        | _, _ => .stuck : M Flow) r else .stuck
  | .ret e => do
    let v ← evE call e
    M.pure (.ret v)
  | .ret0 => M.pure (.ret (.val .non))
  | .ifs c a b => do
    let t ← evT call c
    if t then evSs a else evSs b
  | .for_ tg it body => fun r => match evIt call it r with
    | .ok (ds, lk) r0 => forL tg (evSs body) ds (shareL lk r0)
    | .exc x r0 => .exc x r0
    | .stuck => .stuck
  | .while_ c body => whileL (evT call c) (evSs body) loopMost
  | .pass => M.pure .next
  | .cont => M.pure .cont
  | .brk => M.pure .brk
  | .raise c ns es => do
    let vs ← evEs call es
    let ds ← toDs vs
    fun r => .exc ⟨c, ns, ds⟩ r
  | .try_ body i ks hs => fun r => match evSs body r with
    | .exc x r1 => if !ks.contains x.cls then .stuck else (match hs.lookup x.cls with
      | some p => (match xeVs x p.2 with
        | some ds => if p.1 = i then .stuck else .ok .next ((r1.set i .no).set p.1 (.box ds))
        | none => .stuck)
      | none => .exc x r1)
    | o => o
def evSs : List St → M Flow
  | [] => M.pure .next
  | s :: ss => fun r => match evS s r with
    | .ok .next r1 => evSs ss r1
    | o => o
end
end
/-- lent parameters are still there -/
def outOk : Slot → Bool
  | .box _ => true
  | .val (.lst _) => true
  | _ => false
def outsOk : List Bool → List Slot → Bool
  | b :: bs, o :: os => (!b || outOk o) && outsOk bs os
  | [], _ => true
  | _ :: _, [] => false
def runFn (call : CallT) (fn : Fn) (args : List Slot) : CRes :=
  match evSs call fn.body (args ++ List.replicate (fn.nl - fn.np) .no) with
  | .ok (.ret rv) r => if outsOk fn.fl r then (match rv with
    | .bor i => (match r[i]? with
      | some (.box xs) => if i < fn.np then .ret (.val (.lst xs)) ((r.set i (.val (.lst xs))).take fn.np) else .ret (.own xs) (r.take fn.np)
      | some (.val d) => .ret (.val d) (r.take fn.np)
      | _ => .stuck)
    | rv => .ret rv (r.take fn.np)) else .stuck
  | .ok .next r => .ret (.val .non) (r.take fn.np)
  | .exc x _ => .exc x
  | _ => .stuck
def callF (T : List (Str × Fn)) : Nat → CallT
  | 0, _, _ => .stuck
  | n + 1, f, args => match T.lookup f with
    | some fn => if args.length = fn.np then runFn (callF T n) fn args else .stuck
    | none => .stuck
end Ev

-- part Ev2
set_option maxHeartbeats 200000
namespace Ev
open PySem

/-- what is known of a def's names where a piece of text stands -/
structure SC where
  N : List Str
  sc : Scope
  fns : List (Str × List Str × List Bool)
  con : List (Str × D)
  pin : List Str
  kws : List (Str × List Str)
  cls : List (Str × Option Str)
  bas : List Str
/-- what a law's calls by names, its classes of errors (with their field) and the classes above them are -/
structure CI where
  kws : List (Str × List Str)
  cls : List (Str × Option Str)
  bas : List Str
def SC.kind (g : SC) (x : Str) : Option NameKind := g.sc.names.lookup x
def SC.vis (g : SC) (x : Str) : Bool := match g.kind x with
  | some .local => true
  | some .cell => true
  | some .free => true
  | _ => false
def SC.own (g : SC) (x : Str) : Bool := match g.kind x with
  | some .local => true
  | some .cell => true
  | _ => false
def SC.glob (g : SC) (x : Str) : Bool := (match g.kind x with
  | some .globalImplicit => true
  | _ => false) && !(x == ("__debug__" : Str))
def SC.slot (g : SC) (x : Str) : Option Nat := if g.vis x && !(x == ("__debug__" : Str)) && !(x == ("__classdict__" : Str)) then g.N.idxOf? x else none
def SC.tslot (g : SC) (x : Str) : Option Nat := if g.own x && !g.pin.contains x then g.N.idxOf? x else none
/-- the names of a comprehension's own block that stand in N -/
def ownOf (N : List Str) (sc : Scope) : List (Str × Nat) := sc.names.filterMap fun y => match y.2 with
  | .local => (N.idxOf? y.1).map fun i => (y.1, i)
  | .cell => (N.idxOf? y.1).map fun i => (y.1, i)
  | _ => none
/-- the names of a comprehension's block are as they must be -/
def blkB (N : List Str) (sc scope : Scope) (own : List (Str × Nat)) : Bool :=
  (match scope.kind with | .function => true | _ => false) && (scope.names.all fun y => decide (scope.names.lookup y.1 = some y.2)) && (own.all fun p => decide (N[p.2]? = some p.1)) &&
    (scope.names.all fun y => match y.2 with
      | .free => (match sc.names.lookup y.1 with | some .cell => true | some .free => true | _ => false)
      | .local => decide (y.1 ∈ own.map (·.1)) || decide (y.1 ∉ N)
      | .cell => decide (y.1 ∈ own.map (·.1)) || decide (y.1 ∉ N)
      | _ => true)
/-- built-in types that are asked for by isinstance -/
def tyName (x : Str) : Option String :=
  if x = "int" then some "int" else if x = "bool" then some "bool" else if x = "str" then some "str" else if x = "list" then some "list" else if x = "tuple" then some "tuple" else none
def tyNames (g : SC) : List Expr → Option (List String)
  | [] => some []
  | .Name x _ :: r => if g.glob x then ((tyName x).bind fun t => (tyNames g r).bind fun ts => some (t :: ts)) else none
  | _ => none
def bi1 (x : Str) : Option Bi :=
  if x = "len" then some .len else if x = "abs" then some .abs else if x = "int" then some .int else if x = "tuple" then some .tuple else if x = "list" then some .list
  else if x = "sum" then some .sum else if x = "all" then some .all else if x = "any" then some .any else if x = "sorted" then some .sorted else if x = "min" then some .min else if x = "max" then some .max else none
def bi2 (x : Str) : Option Bi := if x = "min" then some .min2 else if x = "max" then some .max2 else none
/-- f(g(e, ..)) as one step -/
def biOf (x y : Str) (n : Nat) : Option Bi :=
  if x = "sorted" ∧ y = "set" ∧ n = 1 then some .sortedSet else if x = "len" ∧ y = "set" ∧ n = 1 then some .lenSet
  else if x = "tuple" ∧ y = "zip" ∧ n = 2 then some .zipT else none
def innerOf : Expr → Option (Str × List Expr)
  | .Call (.Name h _) hs [] _ => some (h, hs)
  | _ => none
def kwOrder (ps : List Str) (ks : List Str) : Option (List Nat) := ps.mapM fun p => ks.idxOf? p
def kwNames : List Keyword → Option (List Str)
  | [] => some []
  | ⟨some k, _, _⟩ :: r => (kwNames r).map (k :: ·)
  | _ => none
mutual
def tslots : Tg → List Nat
  | .name i => [i]
  | .tup ts => tslotss ts
def tslotss : List Tg → List Nat
  | [] => []
  | t :: ts => tslots t ++ tslotss ts
end
def isTup : Expr → Bool
  | .Tuple _ _ _ => true
  | _ => false
def isNm : Expr → Option Str
  | .Name x _ => some x
  | _ => none
mutual
def trTg (g : SC) : Nat → Expr → Option Tg
  | _ + 1, .Name x _ => (g.tslot x).map Tg.name
  | n + 1, .Tuple ts _ _ => (trTgs g n ts).map Tg.tup
  | _, _ => none
def trTgs (g : SC) : Nat → List Expr → Option (List Tg)
  | _, [] => some []
  | n + 1, t :: ts => (trTg g n t).bind fun a => (trTgs g n ts).bind fun b => some (a :: b)
  | _, _ => none
end
def boolE (op : BoolOp) (x y : E) : E := match op with
  | .And => .and x y
  | .Or => .or x y
mutual
def trE : Nat → SC → Expr → Option E
  | 0, _, _ => none
  | n + 1, g, e => (match e with
    | .Name x _ => (match g.slot x with
      | some i => some (.var i)
      | none => if g.glob x then (match g.con.lookup x with
        | some d => some (.glo x d)
        | none => (match g.fns.lookup x with
          | some _ => some (.glo x (.fn x))
          | none => none)) else none)
    | .Constant (.int i) _ _ => some (.cst (.int i))
    | .Constant (.str x) _ _ => some (.cst (.str x))
    | .Constant (.bool b) _ _ => some (.cst (.bl b))
    | .Constant .none _ _ => some (.cst .non)
    | .Tuple (.Starred a p :: es) _ _ => (trSts n g (.Starred a p :: es)).map fun q => .tupS q.1 q.2
    | .List (.Starred a p :: es) _ => (trSts n g (.Starred a p :: es)).map fun q => .lstS q.1 q.2
    | .Tuple es _ _ => if es.length ≤ 1000 then (trEs n g es).map E.tup else none
    | .List es _ => if es.length ≤ 1000 then (trEs n g es).map E.lst else none
    | .BinOp a op b _ => ((trE n g a).bind fun x => (trE n g b).bind fun y => some (.bin op x y))
    | .UnaryOp .Not a _ => (trE n g a).map E.not
    | .UnaryOp .USub a _ => (trE n g a).map E.neg
    | .Compare a ops bs _ => trC n g a ops bs
    | .BoolOp op es _ => trB n g op es
    | .IfExp c a b _ => ((trT n g c).bind fun x => (trE n g a).bind fun y => (trE n g b).bind fun z => some (.ite x y z))
    | .Subscript a (.Slice lo hi none _) _ => ((trE n g a).bind fun x => (trO n g lo).bind fun l => (trO n g hi).bind fun h => some (.sli x l h))
    | .Subscript a (.Slice none none (some (.UnaryOp .USub (.Constant (.int 1) _ _) _)) _) _ => (trE n g a).map E.rev
    | .Subscript a i _ => ((trE n g a).bind fun x => (trE n g i).bind fun y => some (.idx x y))
    | .Call (.Name f _) es ks _ => if g.glob f then (match g.fns.lookup f with
        | some pf => trCF n g f pf.1 pf.2 es ks
        | none => (match ks with
          | [] => trBi n g f es
          | _ => none))
      else (match g.slot f, ks with
        | some i, [] => if es.isEmpty then none else (trEs n g es).map (E.callv i (g.fns.map fun p => (p.1, p.2.2)))
        | _, _ => none)
    | .Call (.Attribute (.Name x _) m apos) es [] cpos => if apos.endLine == cpos.line then (match g.slot x with
        | some i => trM n g i m es
        | none => none) else none
    | .Call (.Subscript a i ps) es [] _ => if es.isEmpty then none else ((trE n g (.Subscript a i ps)).bind fun f => (trEs n g es).map (E.calle f (g.fns.map fun p => (p.1, p.2.2))))
    | .ListComp elt [⟨tg, it, ifs, 0⟩] scope _ => if blkB g.N g.sc scope (ownOf g.N scope) then
        ((trIt n g tg it).bind fun a => (trTg { g with sc := scope } n tg).bind fun t => (trIfs n { g with sc := scope } ifs).bind fun b => (trE n { g with sc := scope } elt).bind fun x => if (tslots t).all fun j => ((ownOf g.N scope).map (·.2)).contains j then some (.comp x t a b ((ownOf g.N scope).map (·.2))) else none) else none
    | _ => none)
/-- what is tested only -/
def trT : Nat → SC → Expr → Option E
  | 0, _, _ => none
  | n + 1, g, e => (match e with
    | .IfExp _ _ _ _ => none
    | .UnaryOp .Not a _ => (trT n g a).map E.not
    | .BoolOp op es _ => trTB n g op es
    | .Compare a ops bs _ => trC n g a ops bs
    | e => trE n g e)
def trTB : Nat → SC → BoolOp → List Expr → Option E
  | 0, _, _, _ => none
  | n + 1, g, op, es => (match es with
    | [] => none
    | [e] => trT n g e
    | e :: e' :: es => ((trT n g e).bind fun x => (trTB n g op (e' :: es)).bind fun y => some (boolE op x y)))
def trC : Nat → SC → Expr → List CmpOp → List Expr → Option E
  | 0, _, _, _, _ => none
  | n + 1, g, a, ops, bs => (match ops, bs with
    | [op], [b] => ((trE n g a).bind fun x => (trE n g b).bind fun y => some (.cmp op x y))
    | [op, op'], [b, c] => ((trE n g a).bind fun x => (trE n g b).bind fun y => (trE n g c).bind fun z => some (.cmp2 op op' x y z))
    | _, _ => none)
def trIfs : Nat → SC → List Expr → Option (List E)
  | 0, _, _ => none
  | n + 1, g, es => (match es with
    | [] => some []
    | [e] => (trT n g e).map fun m => [m]
    | _ => none)
def trO : Nat → SC → Option Expr → Option (Option E)
  | 0, _, _ => none
  | n + 1, g, o => (match o with
    | none => some none
    | some e => (trE n g e).map some)
def trEs : Nat → SC → List Expr → Option (List E)
  | 0, _, _ => none
  | n + 1, g, es => (match es with
    | [] => some []
    | e :: es => ((trE n g e).bind fun x => (trEs n g es).bind fun xs => some (x :: xs)))
def trSts : Nat → SC → List Expr → Option (List Bool × List E)
  | 0, _, _ => none
  | n + 1, g, es => (match es with
    | [] => some ([], [])
    | .Starred e _ :: es => ((trE n g e).bind fun x => (trSts n g es).bind fun q => some (true :: q.1, x :: q.2))
    | e :: es => ((trE n g e).bind fun x => (trSts n g es).bind fun q => some (false :: q.1, x :: q.2)))
def trKs : Nat → SC → List Keyword → Option (List E)
  | 0, _, _ => none
  | n + 1, g, es => (match es with
    | [] => some []
    | ⟨_, e, _⟩ :: es => ((trE n g e).bind fun x => (trKs n g es).bind fun xs => some (x :: xs)))
def trB : Nat → SC → BoolOp → List Expr → Option E
  | 0, _, _, _ => none
  | n + 1, g, op, es => (match es with
    | [] => none
    | [e] => trE n g e
    | e :: e' :: es => ((trE n g e).bind fun x => (trB n g op (e' :: es)).bind fun y => some (boolE op x y)))
/-- a def of the text is called -/
def trCF : Nat → SC → Str → List Str → List Bool → List Expr → List Keyword → Option E
  | 0, _, _, _, _, _, _ => none
  | n + 1, g, f, ps, fl, es, ks => (match ks with
    | [] => if es.length = ps.length then (trEs n g es).map (E.call f fl) else none
    | _ => if es.isEmpty then ((trKs n g ks).bind fun ys => (kwNames ks).bind fun ns => if g.kws.contains (f, ns) then (kwOrder ps ns).map (E.callk f fl ys) else none) else none)
def trM : Nat → SC → Nat → Str → List Expr → Option E
  | 0, _, _, _, _ => none
  | n + 1, g, i, m, es => (match es with
    | [] => if m = "pop" then some (.pop i) else none
    | [e] => if m = "append" then (trE n g e).map (E.app i) else if m = "pop" then (trE n g e).map (E.popAt i) else none
    | _ => none)
def trBi : Nat → SC → Str → List Expr → Option E
  | 0, _, _, _ => none
  | n + 1, g, f, es => if f = "isinstance" then (match es with
      | [e, .Name t p] => ((trE n g e).bind fun x => (tyNames g [.Name t p]).bind fun ts => some (.bi (.isi ts) [x]))
      | [e, .Tuple ts _ _] => if ts.length ≤ 1000 then ((trE n g e).bind fun x => (tyNames g ts).bind fun ts => some (.bi (.isi ts) [x])) else none
      | _ => none)
    else (match es with
      | [e] => (match innerOf e with
        | some (h, hs) => if g.glob h then (match biOf f h hs.length with
            | some b => (match hs with
              | [a] => (trE n g a).map fun x => E.bi b [x]
              | hs => (trEs n g hs).map (E.bi b))
            | none => trB1 n g f e) else trB1 n g f e
        | none => trB1 n g f e)
      | [a, b] => ((bi2 f).bind fun w => (trEs n g [a, b]).bind fun xs => some (.bi w xs))
      | _ => none)
def trB1 : Nat → SC → Str → Expr → Option E
  | 0, _, _, _ => none
  | n + 1, g, f, e => ((bi1 f).bind fun b => (trEs n g [e]).bind fun xs => some (.bi b xs))
def trIt : Nat → SC → Expr → Expr → Option It
  | 0, _, _, _ => none
  | n + 1, g, tg, e => (match innerOf e with
    | some (f, es) => if g.glob f && (g.fns.lookup f).isNone then (if f = "range" then (if es.length = 1 ∨ es.length = 2 then (trEs n g es).map It.rng else none)
        else if f = "zip" then (if es.length = 2 ∧ isTup tg = true then (trEs n g es).map It.zip else none)
        else if f = "enumerate" then (if es.length = 1 ∧ isTup tg = true then (trEs n g es).map It.enum else none) else (trE n g e).map It.seq) else (trE n g e).map It.seq
    | none => (trE n g e).map It.seq)
end
def slotsOf (g : SC) : List Expr → Option (List Nat)
  | [] => some []
  | .Name x _ :: r => ((g.tslot x).bind fun i => (slotsOf g r).bind fun is => some (i :: is))
  | _ => none
def swapNames (sc : Scope) (ts : List Expr) : List Str := ts.filterMap fun
  | .Name id pos => if sc.names.lookup id == some .local && pos.line == (ts.head?.map (·.pos.line)).getD 0 then some id else none
  | _ => none
/-- are the stores of a, b = x, y swapped -/
def swapB (sc : Scope) (ts vs : List Expr) : Option Bool :=
  if (!(ts.length == 2 || ts.length == 3) || vs.length != ts.length) = true then some false
  else if ((swapNames sc ts).length != ts.length || (swapNames sc ts).eraseDups.length != (swapNames sc ts).length) = true then some false
  else if vs.all (foldedForSure 8) = true then some false
  else if vs.all (constantsAlone 8) = true then none else some true
def isComp : Expr → Bool
  | .ListComp .. => true
  | .SetComp .. => true
  | .DictComp .. => true
  | _ => false
/-- an item of the list that a clause lays -/
def trX (g : SC) (of : Option Str) (n : Str) : Expr → Option XE
  | .Constant (.str x) _ _ => some (.cst (.str x))
  | .Constant (.int i) _ _ => some (.cst (.int i))
  | .Constant (.bool b) _ _ => some (.cst (.bl b))
  | .Attribute (.Name y _) f _ => if y = n ∧ of = some f then some (.fld f) else none
  | .Call (.Name h _) [.Name y _, .Name b _] [] _ => if h = "isinstance" ∧ y = n ∧ g.glob "isinstance" = true ∧ b ∈ g.bas ∧ g.glob b = true then some (.isi true) else none
  | _ => none
def trXs (g : SC) (of : Option Str) (n : Str) : List Expr → Option (List XE)
  | [] => some []
  | e :: es => ((trX g of n e).bind fun x => (trXs g of n es).bind fun xs => some (x :: xs))
/-- except x as n: t = [..] -/
def trH (g : SC) (n : Str) : List ExceptHandler → Option (List (Str × Nat × List XE))
  | [] => some []
  | h :: r => (match h with
    | .ExceptHandler (some (.Name x _)) (some n') [.Assign [.Name t _] (.List es _) _] _ => if n' = n ∧ g.glob x = true ∧ es.length ≤ 1000 then
        ((g.cls.lookup x).bind fun of => (g.tslot t).bind fun j => (trXs g of n es).bind fun ms => (trH g n r).bind fun hs => some ((x, j, ms) :: hs)) else none
    | _ => none)
def hName : ExceptHandler → Option Str
  | .ExceptHandler _ n _ _ => n
mutual
def trS : Nat → SC → Stmt → Option St
  | 0, _, _ => none
  | n + 1, g, s => (match s with
    | .Expr e _ => if isComp e then none else (trE n g e).map St.expr
    | .Assign [.Tuple ts _ _] (.Tuple vs _ _) _ => ((slotsOf g ts).bind fun is => (trEs n g vs).bind fun es => if vs.length ≤ 1000 ∧ is.Nodup ∧ (swapB g.sc ts vs).isSome = true then some (.par is es) else none)
    | .Assign [.Subscript (.Name x _) ix _] e _ => ((g.slot x).bind fun i => (trE n g ix).bind fun k => (trE n g e).bind fun v => some (.asgI i k v))
    | .Assign [tg] e _ => ((trTg g n tg).bind fun t => (trE n g e).bind fun v => some (.asg t v))
    | .Return (some e) _ => (trE n g e).map St.ret
    | .Return none _ => some .ret0
    | .If c a b _ => ((trT n g c).bind fun x => (trSs n g a).bind fun y => (trSs n g b).bind fun z => some (.ifs x y z))
    | .For tg it body [] _ => ((trTg g n tg).bind fun t => (trIt n g tg it).bind fun i => (trSs n g body).bind fun b => some (.for_ t i b))
    | .While c body [] _ => ((trT n g c).bind fun x => (trSs n g body).bind fun b => some (.while_ x b))
    | .Pass _ => some .pass
    | .Continue _ => some .cont
    | .Break _ => some .brk
    | .Raise (some (.Call (.Name x _) es [] _)) none _ => if g.glob x then ((g.cls.lookup x).bind fun of => (match of, es with
        | none, [] => some (.raise x [] [])
        | some f, [e] => (trEs n g [e]).map (St.raise x [f])
        | _, _ => none)) else none
    | .Try body (h :: hs) [] [] _ => ((hName h).bind fun nm => (g.tslot nm).bind fun i => if (g.sc.names.lookup nm == some .local && !(nm == ("__debug__" : Str)) && !(nm == ("__classdict__" : Str))) = true then
        ((trSs n g body).bind fun b => (trH g nm (h :: hs)).bind fun l => some (.try_ b i (g.cls.map (·.1)) l)) else none)
    | _ => none)
def trSs : Nat → SC → List Stmt → Option (List St)
  | 0, _, _ => none
  | n + 1, g, ss => (match ss with
    | [] => some []
    | s :: ss => ((trS n g s).bind fun a => (trSs n g ss).bind fun b => some (a :: b)))
end
/-- one def of the text: its name, its slots, which parameters are lent -/
structure DefI where
  name : Str
  N : List Str
  ps : List Str
  fl : List Bool
def topDef (P : Program) (x : Str) : Option Stmt := P.main.body.find? fun
  | .FunctionDef n .. => n == x
  | _ => false
def fnsOf (ds : List DefI) : List (Str × List Str × List Bool) := ds.map fun d => (d.name, d.ps, d.fl)
def pinOf (d : DefI) : List Str := (d.ps.zip d.fl).filterMap fun p => if p.2 then some p.1 else none
def trFn (ds : List DefI) (con : List (Str × D)) (kws : CI) (d : DefI) : Stmt → Option Fn
  | .FunctionDef _ _ body _ _ _ scope _ _ _ => (trSs 100 ⟨d.N, scope, fnsOf ds, con, pinOf d, kws.kws, kws.cls, kws.bas⟩ body).map fun b => ⟨d.ps.length, d.N.length, d.fl, b⟩
  | _ => none
def tableOf (P : Program) (ds : List DefI) (con : List (Str × D)) (kws : CI) : List (Str × Option Fn) := ds.map fun d => (d.name, (topDef P d.name).bind (trFn ds con kws d))
end Ev

-- part Ev3
set_option maxHeartbeats 200000
namespace Ev
open PySem PySem.Spec PyProof.Rows L2

section
variable (K : PySem.W.Frag) (mg : Str → Option Value)
mutual
inductive DR (F : Addr → Prop) (H : Hp) : D → V → Prop
  | non : DR F H .non .non
  | bl (b : Bool) : DR F H (.bl b) (.bl b)
  | int (i : Int) : DR F H (.int i) (.int i)
  | str (x : Str) : DR F H (.str x) (.str x)
  | tup {a : Addr} {ds : List D} {vs : List V} : F a → Rd H a (.tup vs) → DRs F H ds vs → DR F H (.tup ds) (.ref a)
  | tupK {a : Addr} {ds : List D} {vs : List V} : (∃ (o : Obj) (its : Array Value) (n : Nat), K.lookup a = some o ∧ o.cls = .type "tuple" ∧ o.data = .seq its n ∧ its.size ≤ sizeLine ∧ Vals vs its.toList) → DRs F H ds vs → DR F H (.tup ds) (.ref a)
  | lst {a : Addr} {ds : List D} {vs : List V} : F a → H a = some (.lst vs) → DRs F H ds vs → DR F H (.lst ds) (.ref a)
  | scr {a : Addr} {ds : List D} {vs : List V} : F a → Rd H a (.lst vs) → DRs F H ds vs → DR F H (.scr ds) (.ref a)
  | scrK {a : Addr} {ds : List D} {vs : List V} : (∃ (o : Obj) (its : Array Value) (n : Nat), K.lookup a = some o ∧ o.cls = .type "list" ∧ o.dict = none ∧ o.data = .seq its n ∧ its.size ≤ sizeLine ∧ Vals vs its.toList) → DRs F H ds vs → DR F H (.scr ds) (.ref a)
  | fn {x : Str} {f : Addr} : mg x = some (.ref f) → DR F H (.fn x) (.ref f)
inductive DRs (F : Addr → Prop) (H : Hp) : List D → List V → Prop
  | nil : DRs F H [] []
  | cons {d : D} {ds : List D} {v : V} {vs : List V} : DR F H d v → DRs F H ds vs → DRs F H (d :: ds) (v :: vs)
end
end

section
variable {K : PySem.W.Frag} {mg : Str → Option Value} {F F' : Addr → Prop} {H H' : Hp}
theorem rd_keep {a : Addr} {u : HO} (h : Rd H a u) (k : ∀ o, H a = some o → H' a = some o) : Rd H' a u := by
  rcases h with h | ⟨o, h⟩
  · exact .inl (k _ h)
  · exact .inr ⟨o, k _ h⟩
mutual
theorem DR.mono (hf : ∀ a, F a → F' a) (hk : ∀ a o, F a → H a = some o → H' a = some o) : ∀ {d : D} {v : V}, DR K mg F H d v → DR K mg F' H' d v
  | _, _, .non => .non
  | _, _, .bl b => .bl b
  | _, _, .int i => .int i
  | _, _, .str x => .str x
  | _, _, .tup f s r => .tup (hf _ f) (rd_keep s fun o e => hk _ o f e) (DRs.mono hf hk r)
  | _, _, .tupK s r => .tupK s (DRs.mono hf hk r)
  | _, _, .lst f s r => .lst (hf _ f) (hk _ _ f s) (DRs.mono hf hk r)
  | _, _, .scr f s r => .scr (hf _ f) (rd_keep s fun o e => hk _ o f e) (DRs.mono hf hk r)
  | _, _, .scrK s r => .scrK s (DRs.mono hf hk r)
  | _, _, .fn e => .fn e
theorem DRs.mono (hf : ∀ a, F a → F' a) (hk : ∀ a o, F a → H a = some o → H' a = some o) : ∀ {ds : List D} {vs : List V}, DRs K mg F H ds vs → DRs K mg F' H' ds vs
  | _, _, .nil => .nil
  | _, _, .cons r rs => .cons (DR.mono hf hk r) (DRs.mono hf hk rs)
end
theorem DRs.length : ∀ {ds : List D} {vs : List V}, DRs K mg F H ds vs → ds.length = vs.length
  | _, _, .nil => rfl
  | _, _, .cons _ rs => by simp [DRs.length rs]
theorem DRs.get : ∀ {ds : List D} {vs : List V} {i : Nat} {d : D}, DRs K mg F H ds vs → ds[i]? = some d → ∃ v, vs[i]? = some v ∧ DR K mg F H d v
  | _, _, _, _, .nil, e => by simp at e
  | _, _, 0, _, .cons r _, e => by simp at e; subst e; exact ⟨_, rfl, r⟩
  | _, _, i + 1, d, .cons _ t, e => by
    obtain ⟨u, h1, h2⟩ := DRs.get (i := i) (d := d) t (by simpa using e)
    exact ⟨u, by simpa using h1, h2⟩
theorem DRs.getV : ∀ {ds : List D} {vs : List V} {i : Nat} {v : V}, DRs K mg F H ds vs → vs[i]? = some v → ∃ d, ds[i]? = some d ∧ DR K mg F H d v
  | _, _, _, _, .nil, e => by simp at e
  | _, _, 0, _, .cons r _, e => by simp at e; subst e; exact ⟨_, rfl, r⟩
  | _, _, i + 1, d, .cons _ t, e => by
    obtain ⟨u, h1, h2⟩ := DRs.getV (i := i) (v := d) t (by simpa using e)
    exact ⟨u, by simpa using h1, h2⟩
theorem DRs.append : ∀ {ds es : List D} {vs us : List V}, DRs K mg F H ds vs → DRs K mg F H es us → DRs K mg F H (ds ++ es) (vs ++ us)
  | _, _, _, _, .nil, s => s
  | _, _, _, _, .cons r t, s => .cons r (DRs.append t s)
theorem DRs.take : ∀ {ds : List D} {vs : List V} (n : Nat), DRs K mg F H ds vs → DRs K mg F H (ds.take n) (vs.take n)
  | _, _, 0, _ => by simp; exact .nil
  | _, _, _ + 1, .nil => .nil
  | _, _, n + 1, .cons r t => .cons r (DRs.take n t)
theorem DRs.drop : ∀ {ds : List D} {vs : List V} (n : Nat), DRs K mg F H ds vs → DRs K mg F H (ds.drop n) (vs.drop n)
  | _, _, 0, r => r
  | _, _, _ + 1, .nil => .nil
  | _, _, n + 1, .cons _ t => DRs.drop n t
theorem DRs.set {d : D} {v : V} (r : DR K mg F H d v) : ∀ {ds : List D} {vs : List V} (i : Nat), DRs K mg F H ds vs → DRs K mg F H (ds.set i d) (vs.set i v)
  | _, _, _, .nil => .nil
  | _, _, 0, .cons _ t => .cons r t
  | _, _, i + 1, .cons q t => .cons q (DRs.set r i t)
theorem DRs.eraseIdx : ∀ {ds : List D} {vs : List V} (i : Nat), DRs K mg F H ds vs → DRs K mg F H (ds.eraseIdx i) (vs.eraseIdx i)
  | _, _, _, .nil => .nil
  | _, _, 0, .cons _ t => t
  | _, _, i + 1, .cons r t => .cons r (DRs.eraseIdx i t)
theorem DRs.dropLast {ds : List D} {vs : List V} (h : DRs K mg F H ds vs) : DRs K mg F H ds.dropLast vs.dropLast := by
  rw [List.dropLast_eq_take, List.dropLast_eq_take, h.length]
  exact h.take _
theorem DRs.reverse : ∀ {ds : List D} {vs : List V}, DRs K mg F H ds vs → DRs K mg F H ds.reverse vs.reverse
  | _, _, .nil => .nil
  | _, _, .cons r t => by
    rw [List.reverse_cons, List.reverse_cons]
    exact (DRs.reverse t).append (.cons r .nil)
theorem DRs.rep {ds : List D} {vs : List V} (h : DRs K mg F H ds vs) : ∀ k : Nat, DRs K mg F H (List.replicate k ds).flatten (List.replicate k vs).flatten
  | 0 => .nil
  | k + 1 => by
    rw [List.replicate_succ, List.replicate_succ, List.flatten_cons, List.flatten_cons]
    exact h.append (DRs.rep h k)
end

/-! ### the frame -/
section
variable (K : PySem.W.Frag) (mg : Str → Option Value)
structure FR (F : Addr → Prop) (H : Hp) (σ : L2.St) (r : Env) : Prop where
  len : r.length = σ.length
  ftr : ∀ a, F a → H a ≠ none
  val : ∀ (i : Nat) (d : D), r[i]? = some (.val d) → ∃ v, σ[i]? = some (some v) ∧ DR K mg F H d v
  box : ∀ (i : Nat) (xs : List D), r[i]? = some (.box xs) → ∃ a vs, σ[i]? = some (some (.ref a)) ∧ H a = some (.lst vs) ∧ DRs K mg F H xs vs ∧ ¬ F a
  inj : ∀ (i j : Nat) (xs ys : List D) (a : Addr), r[i]? = some (.box xs) → r[j]? = some (.box ys) → σ[i]? = some (some (.ref a)) → σ[j]? = some (some (.ref a)) → i = j
end
/-- the lists that only this frame's slots have -/
def Own (σ : L2.St) (r : Env) (a : Addr) : Prop := ∃ (i : Nat) (xs : List D), r[i]? = some (.box xs) ∧ σ[i]? = some (some (.ref a))
structure Ext (F : Addr → Prop) (H : Hp) (O : Addr → Prop) (F' : Addr → Prop) (H' : Hp) (O' : Addr → Prop) : Prop where
  keep : ∀ a o, H a = some o → ¬ O a → H' a = some o
  fz : ∀ a, F a → F' a
  fnew : ∀ a, F' a → F a ∨ O a ∨ H a = none
  onew : ∀ a, O' a → O a ∨ H a = none
  there : ∀ a, H' a = none → H a = none
theorem Ext.refl {F : Addr → Prop} {H : Hp} {O : Addr → Prop} : Ext F H O F H O := ⟨fun _ _ e _ => e, fun _ f => f, fun _ f => .inl f, fun _ o => .inl o, fun _ e => e⟩
theorem Ext.trans {F F1 F2 : Addr → Prop} {H H1 H2 : Hp} {O O1 O2 : Addr → Prop} (a : Ext F H O F1 H1 O1) (b : Ext F1 H1 O1 F2 H2 O2) : Ext F H O F2 H2 O2 where
  keep := fun c o e n => b.keep c o (a.keep c o e n) fun z => by
    rcases a.onew c z with z | z
    · exact n z
    · rw [z] at e; cases e
  fz := fun c f => b.fz c (a.fz c f)
  fnew := fun c f => by
    rcases b.fnew c f with f | f | f
    · exact a.fnew c f
    · exact .inr (a.onew c f)
    · exact .inr (.inr (a.there c f))
  onew := fun c f => by
    rcases b.onew c f with f | f
    · exact a.onew c f
    · exact .inr (a.there c f)
  there := fun c e => a.there c (b.there c e)

/-! ### a result -/
section
variable (K : PySem.W.Frag) (mg : Str → Option Value)
inductive RVR (H0 : Hp) (F : Addr → Prop) (H : Hp) (σ : L2.St) (r : Env) : RV → V → Prop
  | val {d : D} {v : V} : DR K mg F H d v → RVR H0 F H σ r (.val d) v
  | own {a : Addr} {xs : List D} {vs : List V} : H a = some (.lst vs) → DRs K mg F H xs vs → ¬ F a → ¬ Own σ r a → H0 a = none → RVR H0 F H σ r (.own xs) (.ref a)
  | bor {i : Nat} {v : V} : σ[i]? = some (some v) → RVR H0 F H σ r (.bor i) v
/-- .. read as data -/
inductive RW (F : Addr → Prop) (H : Hp) : D → V → Prop
  | of {d : D} {v : V} : DR K mg F H d v → RW F H d v
  | lst {a : Addr} {xs : List D} {vs : List V} : H a = some (.lst vs) → DRs K mg F H xs vs → RW F H (.lst xs) (.ref a)
end
section
variable {K : PySem.W.Frag} {mg : Str → Option Value} {F F' : Addr → Prop} {H H' H0 : Hp} {σ : L2.St} {r r' : Env}
theorem FR.notF (h : FR K mg F H σ r) {a : Addr} (o : Own σ r a) : ¬ F a := by
  obtain ⟨i, xs, e1, e2⟩ := o
  obtain ⟨b, vs, q1, _, _, q4⟩ := h.box i xs e1
  rw [e2] at q1
  cases q1
  exact q4
theorem FR.ownH (h : FR K mg F H σ r) {a : Addr} (o : Own σ r a) : H a ≠ none := by
  obtain ⟨i, xs, e1, e2⟩ := o
  obtain ⟨b, vs, q1, q2, _, _⟩ := h.box i xs e1
  rw [e2] at q1
  cases q1
  rw [q2]
  exact fun z => nomatch z
/-- what is shared stands through -/
theorem Ext.dr {O' : Addr → Prop} (x : Ext F H (Own σ r) F' H' O') (h : FR K mg F H σ r) {d : D} {v : V} (q : DR K mg F H d v) : DR K mg F' H' d v :=
  q.mono x.fz fun a o f e => x.keep a o e fun z => h.notF z f
theorem Ext.drs {O' : Addr → Prop} (x : Ext F H (Own σ r) F' H' O') (h : FR K mg F H σ r) {d : List D} {v : List V} (q : DRs K mg F H d v) : DRs K mg F' H' d v :=
  q.mono x.fz fun a o f e => x.keep a o e fun z => h.notF z f
theorem RVR.ext (x : Ext F H (Own σ r) F' H' (Own σ r')) (h : FR K mg F H σ r) {w : RV} {v : V} (q : RVR K mg H0 F H σ r w v) : RVR K mg H0 F' H' σ r' w v := by
  cases q with
  | val q => exact .val (x.dr h q)
  | bor e => exact .bor e
  | own e q nf no fr =>
    refine .own (x.keep _ _ e no) (x.drs h q) (fun z => ?_) (fun z => ?_) fr
    · rcases x.fnew _ z with z | z | z
      · exact nf z
      · exact no z
      · rw [z] at e; cases e
    · rcases x.onew _ z with z | z
      · exact no z
      · rw [z] at e; cases e
theorem RVR.base {H1 : Hp} {w : RV} {v : V} (b : ∀ a, H0 a = none → H1 a = none) (q : RVR K mg H0 F H σ r w v) : RVR K mg H1 F H σ r w v := by
  cases q with
  | val q => exact .val q
  | bor e => exact .bor e
  | own e q nf no fr => exact .own e q nf no (b _ fr)
theorem RVR.look (h : FR K mg F H σ r) {w : RV} {v : V} {d : D} (q : RVR K mg H0 F H σ r w v) (e : look r w = some d) : RW K mg F H d v := by
  cases q with
  | val q => cases e; exact .of q
  | own e' q _ _ _ => cases e; exact .lst e' q
  | bor e' =>
    rename_i i
    have e : (match r[i]? with
      | some (.box xs) => some (.lst xs)
      | some (.val d) => some d
      | _ => none) = some d := e
    cases q : r[i]? with
    | none => rw [q] at e; cases e
    | some s =>
      rw [q] at e
      cases s with
      | no => cases e
      | val d' =>
        cases e
        obtain ⟨v', q1, q2⟩ := h.val i _ q
        rw [e'] at q1; cases q1
        exact .of q2
      | box xs =>
        cases e
        obtain ⟨a, vs, q1, q2, q3, _⟩ := h.box i _ q
        rw [e'] at q1; cases q1
        exact .lst q2 q3
/-- a new object -/
theorem upd_new {p : Addr} {o : HO} (hp : H p = none) {a : Addr} {u : HO} (e : H a = some u) : upd H p o a = some u := by
  rw [upd_ne (ne_of_none e hp)]; exact e
theorem FR.alloc (h : FR K mg F H σ r) {p : Addr} {o : HO} (hp : H p = none) {F' : Addr → Prop} (hf : ∀ a, F a → F' a) (hn : ∀ a, F' a → F a ∨ a = p) : FR K mg F' (upd H p o) σ r where
  len := h.len
  ftr := fun a f => by
    by_cases z : a = p
    · rw [z, upd_same]; exact fun q => nomatch q
    · rw [upd_ne z]
      rcases hn a f with f | f
      · exact h.ftr a f
      · exact absurd f z
  val := fun i d e => by
    obtain ⟨v, q1, q2⟩ := h.val i d e
    exact ⟨v, q1, q2.mono hf fun a u _ e => upd_new hp e⟩
  box := fun i xs e => by
    obtain ⟨a, vs, q1, q2, q3, q4⟩ := h.box i xs e
    refine ⟨a, vs, q1, upd_new hp q2, q3.mono hf fun a u _ e => upd_new hp e, fun z => ?_⟩
    rcases hn a z with z | z
    · exact q4 z
    · rw [z, hp] at q2; cases q2
  inj := h.inj
theorem Ext.alloc {O : Addr → Prop} {p : Addr} {o : HO} (hp : H p = none) {F' : Addr → Prop} (hf : ∀ a, F a → F' a) (hn : ∀ a, F' a → F a ∨ a = p) : Ext F H O F' (upd H p o) O where
  keep := fun a u e _ => upd_new hp e
  fz := hf
  fnew := fun a f => by
    rcases hn a f with f | f
    · exact .inl f
    · rw [f]; exact .inr (.inr hp)
  onew := fun a o => .inl o
  there := fun a e => by
    by_cases z : a = p
    · rw [z]; exact hp
    · rw [upd_ne z] at e; exact e
/-- F with one more -/
def Fp (F : Addr → Prop) (p : Addr) : Addr → Prop := fun a => F a ∨ a = p
end

/-! ### how a run goes on -/
section
variable (K : PySem.W.Frag) (mg : Str → Option Value)
/-- an exception that is told, in the heap: its class, its own dict -/
def ExcR (F : Addr → Prop) (H : Hp) (x : Exc) (cls : Value) (d : Option Addr) : Prop :=
  (∃ C, mg x.cls = some (.ref C) ∧ cls = .ref C) ∧ (match d with
    | none => x.ns = [] ∧ x.vs = []
    | some p => ∃ vs, H p = some (.xd (x.ns.zip vs)) ∧ DRs K mg F H x.vs vs ∧ x.ns.length = vs.length)
def Goes {α : Type} (W : WX) (F : Addr → Prop) (H : Hp) (σ : L2.St) (r : Env) (R : Res α) (k : α → Env → (Addr → Prop) → Hp → Prop) : Prop := match R with
  | .ok a r' => ∀ F' H', Ext F H (Own σ r) F' H' (Own σ r') → FR K mg F' H' σ r' → k a r' F' H'
  | .exc x r' => ∀ F' H' cls d, Ext F H (Own σ r) F' H' (Own σ r') → FR K mg F' H' σ r' → ExcR K mg F' H' x cls d → W cls d σ H'
  | .stuck => False
end
section
variable {K : PySem.W.Frag} {mg : Str → Option Value} {W : WX} {F F' : Addr → Prop} {H H' H0 : Hp} {σ : L2.St} {r r' : Env} {α β : Type}
theorem Goes.bind {m : M α} {f : α → M β} {k : β → Env → (Addr → Prop) → Hp → Prop} (h : Goes K mg W F H σ r (M.bind m f r) k) :
    Goes K mg W F H σ r (m r) fun a r1 F1 H1 => Goes K mg W F1 H1 σ r1 (f a r1) k := by
  unfold M.bind at h
  cases e : m r with
  | stuck => rw [e] at h; exact h
  | exc x r1 => rw [e] at h; exact h
  | ok a r1 =>
    rw [e] at h
    intro F1 H1 x1 fr1
    have h : Goes K mg W F H σ r (f a r1) k := h
    cases e2 : f a r1 with
    | stuck => rw [e2] at h; exact h
    | exc x r2 =>
      rw [e2] at h
      exact fun F2 H2 cls d x2 fr2 er => h F2 H2 cls d (x1.trans x2) fr2 er
    | ok b r2 =>
      rw [e2] at h
      exact fun F2 H2 x2 fr2 => h F2 H2 (x1.trans x2) fr2
theorem Goes.imp {R : Res α} {k k' : α → Env → (Addr → Prop) → Hp → Prop} (h : Goes K mg W F H σ r R k)
    (hk : ∀ a r' F' H', R = .ok a r' → Ext F H (Own σ r) F' H' (Own σ r') → FR K mg F' H' σ r' → k a r' F' H' → k' a r' F' H') : Goes K mg W F H σ r R k' := by
  cases R with
  | stuck => exact h
  | exc x r1 => exact h
  | ok a r1 => exact fun F1 H1 x1 fr1 => hk a r1 F1 H1 rfl x1 fr1 (h F1 H1 x1 fr1)
theorem Goes.ok {a : α} {k : α → Env → (Addr → Prop) → Hp → Prop} (h : Goes K mg W F H σ r (.ok a r) k) (fr : FR K mg F H σ r) : k a r F H := h F H Ext.refl fr
theorem Goes.look {v : RV} {f : D → M α} {k : α → Env → (Addr → Prop) → Hp → Prop} (h : Goes K mg W F H σ r (withLook v f r) k) : ∃ d, look r v = some d ∧ Goes K mg W F H σ r (f d r) k := by
  unfold withLook at h
  cases e : Ev.look r v with
  | none => rw [e] at h; exact h.elim
  | some d => rw [e] at h; exact ⟨d, rfl, h⟩
theorem Goes.lift {o : Option α} {k : α → Env → (Addr → Prop) → Hp → Prop} (h : Goes K mg W F H σ r (liftO o r) k) : ∃ a, o = some a ∧ Goes K mg W F H σ r (.ok a r) k := by
  cases o with
  | none => exact h.elim
  | some a => exact ⟨a, rfl, h⟩
/-- from a later state -/
theorem Goes.from {R : Res α} {k : α → Env → (Addr → Prop) → Hp → Prop} (x : Ext F H (Own σ r) F' H' (Own σ r')) (h : Goes K mg W F H σ r R k) : Goes K mg W F' H' σ r' R k := by
  cases R with
  | stuck => exact h
  | exc e r1 => exact fun F2 H2 cls d x2 fr2 er => h F2 H2 cls d (x.trans x2) fr2 er
  | ok a r1 => exact fun F2 H2 x2 fr2 => h F2 H2 (x.trans x2) fr2
end

/-! ### readings -/
section
variable (K : PySem.W.Frag) (mg : Str → Option Value) (W : WX)
def tEv (m : M RV) : TE := fun σ H Q => ∃ F r, FR K mg F H σ r ∧ Goes K mg W F H σ r (m r) fun w r' F' H' => ∀ v, RVR K mg H F' H' σ r' w v → Q v H'
def tEvT (m : M Bool) : TT := fun σ H Q => ∃ F r, FR K mg F H σ r ∧ Goes K mg W F H σ r (m r) fun b r' F' H' => Q b H'
/-- several results in a row -/
inductive RVRs (H0 : Hp) (F : Addr → Prop) (H : Hp) (σ : L2.St) (r : Env) : List RV → List V → Prop
  | nil : RVRs H0 F H σ r [] []
  | cons {w : RV} {ws : List RV} {v : V} {vs : List V} : RVR K mg H0 F H σ r w v → RVRs H0 F H σ r ws vs → (∀ xs (j : Nat) ys a, w = .own xs → ws[j]? = some (.own ys) → v = .ref a → vs[j]? = some (.ref a) → False) → RVRs H0 F H σ r (w :: ws) (v :: vs)
def tEvA (m : M (List RV)) : TA := fun σ H Q => ∃ F r, FR K mg F H σ r ∧ Goes K mg W F H σ r (m r) fun ws r' F' H' => ∀ vs, RVRs K mg H F' H' σ r' ws vs → Q vs H'
end
end Ev

-- part Ev4
set_option maxHeartbeats 1000000
/-! Ev4: operators on data are the layer's operators. -/
namespace Ev
open PySem PySem.Spec PyProof.Rows L2

section
variable (K : PySem.W.Frag) (mg : Str → Option Value)
/-- what is wanted behind an operation that gives w -/
def Then (F : Addr → Prop) (H : Hp) (σ : L2.St) (r : Env) (w : RV) (Q : VK) : Prop :=
  ∀ F' H' z, Ext F H (Own σ r) F' H' (Own σ r) → FR K mg F' H' σ r → RVR K mg H F' H' σ r w z → Q z H'
def OpS (rr : R2) (op : D → D → Option RV) : Prop :=
  ∀ {F : Addr → Prop} {H : Hp} {σ : L2.St} {r : Env} {d e : D} {v u : V} {w : RV} {Q : VK}, FR K mg F H σ r → RW K mg F H d v → RW K mg F H e u → op d e = some w → Then K mg F H σ r w Q → rr v u H Q
end
section
variable {K : PySem.W.Frag} {mg : Str → Option Value} {F : Addr → Prop} {H : Hp} {σ : L2.St} {r : Env} {Q : VK} {v u : V}
theorem Then.val {d : D} {z : V} (t : Then K mg F H σ r (.val d) Q) (fr : FR K mg F H σ r) (q : DR K mg F H d z) : Q z H := t F H z Ext.refl fr (.val q)
theorem Then.int {i : Int} (t : Then K mg F H σ r (.val (.int i)) Q) (fr : FR K mg F H σ r) : Q (.int i) H := t.val fr (.int i)
theorem Then.bl {b : Bool} (t : Then K mg F H σ r (.val (.bl b)) Q) (fr : FR K mg F H σ r) : Q (.bl b) H := t.val fr (.bl b)
/-- a new list of shared things -/
theorem Then.newL {xs : List D} {vs : List V} (t : Then K mg F H σ r (.own xs) Q) (fr : FR K mg F H σ r) (q : DRs K mg F H xs vs) (p : Addr) (hp : H p = none) : Q (.ref p) (upd H p (.lst vs)) := by
  refine t F (upd H p (.lst vs)) (.ref p) (Ext.alloc hp (fun _ f => f) fun _ f => .inl f) (fr.alloc hp (fun _ f => f) fun _ f => .inl f) ?_
  refine .own upd_same (q.mono (fun _ f => f) fun a o _ e => upd_new hp e) (fun z => fr.ftr p z hp) (fun z => fr.ownH z hp) hp
theorem Then.newT {xs : List D} {vs : List V} (t : Then K mg F H σ r (.val (.tup xs)) Q) (fr : FR K mg F H σ r) (q : DRs K mg F H xs vs) (p : Addr) (hp : H p = none) : Q (.ref p) (upd H p (.tup vs)) := by
  refine t (Fp F p) (upd H p (.tup vs)) (.ref p) (Ext.alloc hp (fun _ f => .inl f) fun _ f => f) (fr.alloc hp (fun _ f => .inl f) fun _ f => f) ?_
  exact .val (.tup (.inr rfl) (.inl upd_same) (q.mono (fun _ f => .inl f) fun a o _ e => upd_new hp e))
/-! ### what is read -/
theorem rw_non (h : RW K mg F H .non v) : v = .non := by
  cases h with
  | of h => cases h; rfl
theorem rw_bl {b : Bool} (h : RW K mg F H (.bl b) v) : v = .bl b := by
  cases h with
  | of h => cases h; rfl
theorem rw_int {i : Int} (h : RW K mg F H (.int i) v) : v = .int i := by
  cases h with
  | of h => cases h; rfl
theorem rw_str {x : Str} (h : RW K mg F H (.str x) v) : v = .str x := by
  cases h with
  | of h => cases h; rfl
theorem rw_lst {xs : List D} (h : RW K mg F H (.lst xs) v) : ∃ a vs, v = .ref a ∧ H a = some (.lst vs) ∧ DRs K mg F H xs vs := by
  cases h with
  | of h => cases h with
    | lst f e q => exact ⟨_, _, rfl, e, q⟩
  | lst e q => exact ⟨_, _, rfl, e, q⟩
theorem rw_tup {xs : List D} (h : RW K mg F H (.tup xs) v) : ∃ a vs, v = .ref a ∧ SqT K H a vs ∧ DRs K mg F H xs vs ∧ DR K mg F H (.tup xs) v := by
  cases h with
  | of h =>
    have h' := h
    cases h with
    | tup f e q => exact ⟨_, _, rfl, .inl e, q, h'⟩
    | tupK e q => exact ⟨_, _, rfl, .inr e, q, h'⟩
theorem rw_scr {xs : List D} (h : RW K mg F H (.scr xs) v) : ∃ a vs, v = .ref a ∧ SqL K H a vs ∧ DRs K mg F H xs vs := by
  cases h with
  | of h => cases h with
    | scr f e q => exact ⟨_, _, rfl, .inl e, q⟩
    | scrK e q => exact ⟨_, _, rfl, .inr e, q⟩
end

/-! ### two-place operators -/
section
variable {X : Cx} {K : PySem.W.Frag} {mg : Str → Option Value}
def rrAdd (K : PySem.W.Frag) : R2 := fun x y H Q => rI0 (fun i j => .int (i + j)) x y H Q ∨ (∃ i j, x = .str i ∧ y = .str j ∧ i.length + j.length ≤ sizeLine ∧ Q (.str (i ++ j)) H) ∨ rCat x y H Q ∨ rCatA K x y H Q
theorem opr_add : OpR X (binaryOp .Add) (rrAdd X.K) := op_add.or (op_add_str.or (op_cat.or op_catA))
theorem ops_add : OpS K mg (rrAdd K) (binOp .Add) := by
  intro F H σ r d e v u w Q fr h1 h2 h t
  cases d <;> cases e <;> first
    | (simp [binOp] at h; done)
    | skip
  · cases h
    exact .inl ⟨_, _, rw_int h1, rw_int h2, t.int fr⟩
  · rename_i x y
    have h : (if x.length + y.length ≤ sizeLine then some (RV.val (.str (x ++ y))) else none) = some w := h
    split at h
    · cases h
      exact .inr (.inl ⟨_, _, rw_str h1, rw_str h2, by assumption, t.val fr (.str _)⟩)
    · cases h
  · rename_i xs ys
    have h : (if xs.length + ys.length ≤ sizeLine then some (RV.val (.tup (xs ++ ys))) else none) = some w := h
    split at h
    · rename_i hl
      cases h
      obtain ⟨a, vs, rfl, s1, q1, g1⟩ := rw_tup h1
      obtain ⟨b, us, rfl, s2, q2, g2⟩ := rw_tup h2
      have l1 := q1.length
      have l2 := q2.length
      refine .inr (.inr (.inr ⟨a, b, vs, us, rfl, rfl, s1, s2, by omega, fun z => ?_, fun _ z => ?_, fun _ _ p hp => t.newT fr (q1.append q2) p hp⟩))
      · subst z
        have : xs = [] := List.eq_nil_of_length_eq_zero l1
        subst this
        exact t.val fr g2
      · subst z
        have : ys = [] := List.eq_nil_of_length_eq_zero l2
        subst this
        rw [List.append_nil] at t
        exact t.val fr g1
    · cases h
  · rename_i xs ys
    have h : (if xs.length + ys.length ≤ sizeLine then some (RV.own (xs ++ ys)) else none) = some w := h
    split at h
    · rename_i hl
      cases h
      obtain ⟨a, vs, rfl, s1, q1⟩ := rw_lst h1
      obtain ⟨b, us, rfl, s2, q2⟩ := rw_lst h2
      have l1 := q1.length
      have l2 := q2.length
      exact .inr (.inr (.inl ⟨a, b, vs, us, rfl, rfl, s1, s2, by omega, fun p hp => t.newL fr (q1.append q2) p hp⟩))
    · cases h
theorem ops_sub : OpS K mg (rI0 fun i j => .int (i - j)) (binOp .Sub) := by
  intro F H σ r d e v u w Q fr h1 h2 h t
  cases d <;> cases e <;> first
    | (simp [binOp] at h; done)
    | skip
  cases h
  exact ⟨_, _, rw_int h1, rw_int h2, t.int fr⟩
theorem fits64_iff {i : Int} (h : fits64 i = true) : -(2 ^ 64) < i ∧ i < 2 ^ 64 := by
  unfold fits64 at h
  simpa using h
theorem ops_mod : OpS K mg (rI (fun _ j => 0 < j) fun i j => .int (i % j)) (binOp .Mod) := by
  intro F H σ r d e v u w Q fr h1 h2 h t
  cases d <;> cases e <;> first
    | (simp [binOp] at h; done)
    | skip
  rename_i i j
  have h : (if 0 < j then some (RV.val (.int (i % j))) else none) = some w := h
  split at h
  · cases h
    exact ⟨_, _, rw_int h1, rw_int h2, by assumption, t.int fr⟩
  · cases h
theorem ops_fdiv : OpS K mg (rI CDiv fun i j => .int (i / j)) (binOp .FloorDiv) := by
  intro F H σ r d e v u w Q fr h1 h2 h t
  cases d <;> cases e <;> first
    | (simp [binOp] at h; done)
    | skip
  rename_i i j
  have h : (if (decide (0 < j) && decide (j < 1073741824)) = true then some (RV.val (.int (i / j))) else none) = some w := h
  split at h
  · rename_i c
    cases h
    simp only [Bool.and_eq_true, decide_eq_true_eq] at c
    exact ⟨_, _, rw_int h1, rw_int h2, c, t.int fr⟩
  · cases h
theorem ops_pow : OpS K mg (rI CPow fun i j => .int (i ^ j.toNat)) (binOp .Pow) := by
  intro F H σ r d e v u w Q fr h1 h2 h t
  cases d <;> cases e <;> first
    | (simp [binOp] at h; done)
    | skip
  rename_i i j
  have h : (if (decide (0 ≤ j) && decide (j ≤ 1000000) && natAbsLt i) = true then some (RV.val (.int (i ^ j.toNat))) else none) = some w := h
  split at h
  · rename_i c
    cases h
    simp only [natAbsLt, Bool.and_eq_true, decide_eq_true_eq] at c
    exact ⟨_, _, rw_int h1, rw_int h2, ⟨c.1.1, c.1.2, c.2⟩, t.int fr⟩
  · cases h
end
end Ev

-- part Ev4b
set_option maxHeartbeats 1000000
/-! Ev4b: more operators. -/
namespace Ev
open PySem PySem.Spec PyProof.Rows L2
/-! ### a tuple times an int -/
theorem tuple_mul_same (l : Addr) (items : Array Value) (n : Nat) (dd : Option Addr) (sl : Array (Option Value)) (x : Int) (u : Tok) (c0 : (decide (x < -(2 ^ 63)) || decide (x ≥ 2 ^ 63)) = false) (c1 : (items.isEmpty || x == 1) = true) :
    Meets (Builtin.«tuple.__mul__» ⟨[.ref l, .int x u], []⟩) (fun _ R s => s.heap.get? l = some { cls := .type "tuple", dict := dd, data := .seq items n, slots := sl } ∧
      R (.ok (.ret (Value.ref l))) s) :=
  .of_wp fun prog w A R s h => by
    obtain ⟨hp, g, d, tk, os⟩ := s
    obtain ⟨hl, h⟩ := h
    have f1 := AutoSeq1.idx_int
    wp_walk using wpAny_loadPart' hl
    repeat (first
      | (refine wpAny_ite_false (decide_eq_false (by rw [c0]; exact Bool.false_ne_true)) ?_; wp_walk using wpAny_loadPart' hl)
      | (refine wpAny_ite_true (decide_eq_true c1) ?_; wp_walk using wpAny_loadPart' hl))
    exact ⟨_, rfl, h⟩
theorem tuple_mul_none (l : Addr) (items : Array Value) (n : Nat) (dd : Option Addr) (sl : Array (Option Value)) (x : Int) (u : Tok) (c0 : (decide (x < -(2 ^ 63)) || decide (x ≥ 2 ^ 63)) = false) (c1 : (items.isEmpty || x == 1) = false) (c2 : (decide (x ≤ 0) || items.isEmpty) = true) :
    Meets (Builtin.«tuple.__mul__» ⟨[.ref l, .int x u], []⟩) (fun _ R s => s.heap.get? l = some { cls := .type "tuple", dict := dd, data := .seq items n, slots := sl } ∧
      R (.ok (.ret (Value.ref s.heap.objs.size))) { s with heap := s.heap.push { cls := Value.type "tuple", data := Data.seq #[] }, toks := s.toks }) :=
  .of_wp fun prog w A R s h => by
    obtain ⟨hp, g, d, tk, os⟩ := s
    obtain ⟨hl, h⟩ := h
    have f1 := AutoSeq1.idx_int
    wp_walk using wpAny_loadPart' hl
    repeat (first
      | (refine wpAny_ite_false (decide_eq_false (by rw [c0]; exact Bool.false_ne_true)) ?_; wp_walk using wpAny_loadPart' hl)
      | (refine wpAny_ite_false (decide_eq_false (by rw [c1]; exact Bool.false_ne_true)) ?_; wp_walk using wpAny_loadPart' hl)
      | (refine wpAny_ite_true (decide_eq_true c2) ?_; wp_walk using wpAny_loadPart' hl)
      | (refine wpAny_ite_false (decide_eq_false (Nat.not_lt.mpr (Nat.zero_le _))) ?_; wp_walk using wpAny_loadPart' hl))
    exact ⟨_, rfl, h⟩
section
variable {X : Cx} {K : PySem.W.Frag} {mg : Str → Option Value}
/-- t * k, few: the same tuple, a new empty one, or a new one -/
def rRepA (K : PySem.W.Frag) : R2 := fun x y H Q => ∃ l k xs, x = .ref l ∧ y = .int k ∧ SqT K H l xs ∧ -1000 ≤ k ∧ k ≤ 1000 ∧ xs.length ≤ 1000 ∧
  ((xs = [] ∨ k = 1) → Q (.ref l) H) ∧ (xs ≠ [] → k ≤ 0 → ∀ p, H p = none → Q (.ref p) (upd H p (.tup []))) ∧ (xs ≠ [] → 2 ≤ k → ∀ p, H p = none → Q (.ref p) (upd H p (.tup (List.replicate k.toNat xs).flatten)))
theorem op_repA : OpR X (binaryOp .Mult) (rRepA X.K) := by
  intro pins s σ H x y v u Q I rx ry h
  obtain ⟨l, k, xs, rfl, rfl, hT, h0, h1, h2, q1, q2, q3⟩ := h
  by_cases hk : xs ≠ [] ∧ 2 ≤ k
  · exact op_repT pins s σ H _ _ v u Q I rx ry ⟨l, k, xs, rfl, rfl, hT, hk.1, hk.2, h1, h2, q3 hk.1 hk.2⟩
  cases rx
  obtain ⟨t, rfl⟩ := ry
  obtain ⟨its, r, ⟨⟨cls, dd, data, sl⟩, ho, hc, n, hd⟩, hs⟩ := I.tuple hT
  simp only at hc hd
  subst hc hd
  have hle : its.length = xs.length := r.length.symm
  have c0 : (decide (k < -(2 ^ 63)) || decide (k ≥ 2 ^ 63)) = false := by
    rw [decide_eq_false (by omega), decide_eq_false (by omega)] <;> rfl
  by_cases hw : xs = [] ∨ k = 1
  · have c1 : (its.toArray.isEmpty || k == 1) = true := by
      rcases hw with z | z
      · subst z
        have : its = [] := List.eq_nil_of_length_eq_zero hle
        subst this
        rfl
      · subst z
        simp
    exact wpAny_binaryOp_repeat_ref (T := "tuple") (U := "int") (by decide) ⟨_, ho, rfl⟩ (fun s' => typeIs_int s' k t) noFill_tuple_mul F.fills_int_mul F.slot_int_rmul repeat_tuple F.slot_int_index.lookup
      (call_meets F.slot_int_rmul (typeIs_int s k t) F.entry_int_rmul (F.args_int_rmul_2 _ _) (int_rmul_tuple k t l its.toArray n dd sl)
        ⟨ho, rfl, ⟨_, ho, rfl⟩, call_meets F.slot_tuple_mul ⟨_, ho, rfl⟩ F.entry_tuple_mul (F.args_tuple_mul_2 _ _) (tuple_mul_same l its.toArray n dd sl k t c0 c1) ⟨ho, ⟨.ref l, H, I, rfl, q1 hw⟩⟩⟩)
  · have hx : xs ≠ [] := fun z => hw (.inl z)
    have hk1 : ¬ k = 1 := fun z => hw (.inr z)
    have hk2 : k ≤ 0 := by
      have : ¬ 2 ≤ k := fun z => hk ⟨hx, z⟩
      omega
    have hi : its.toArray.isEmpty = false := by
      cases its with
      | nil => exact absurd (List.eq_nil_of_length_eq_zero hle.symm) hx
      | cons a b => rfl
    have c1 : (its.toArray.isEmpty || k == 1) = false := by
      rw [hi, Bool.false_or]
      exact beq_eq_false_iff_ne.mpr hk1
    have c2 : (decide (k ≤ 0) || its.toArray.isEmpty) = true := by simp [hk2]
    refine wpAny_binaryOp_repeat_ref (T := "tuple") (U := "int") (by decide) ⟨_, ho, rfl⟩ (fun s' => typeIs_int s' k t) noFill_tuple_mul F.fills_int_mul F.slot_int_rmul repeat_tuple F.slot_int_index.lookup
      (call_meets F.slot_int_rmul (typeIs_int s k t) F.entry_int_rmul (F.args_int_rmul_2 _ _) (int_rmul_tuple k t l its.toArray n dd sl)
        ⟨ho, rfl, ⟨_, ho, rfl⟩, call_meets F.slot_tuple_mul ⟨_, ho, rfl⟩ F.entry_tuple_mul (F.args_tuple_mul_2 _ _) (tuple_mul_none l its.toArray n dd sl k t c0 c1 c2) ⟨ho, ?_⟩⟩)
    refine ⟨.ref s.heap.objs.size, _, I.laid (t' := s.toks) (o := .tup []) (fun b ob q => Heap.get?_push_of_some _ q) (Nat.le_refl _) ?_, rfl, q2 hx hk2 _ (I.hok.fresh (Nat.le_refl _))⟩
    exact ⟨Nat.zero_le _, [], .nil, IsTup.new _ _⟩
def rrMul (K : PySem.W.Frag) : R2 := fun x y H Q => rI CMul (fun i j => .int (i * j)) x y H Q ∨ rRep x y H Q ∨ rRepA K x y H Q
theorem opr_mul : OpR X (binaryOp .Mult) (rrMul X.K) := op_mul.or (op_rep.or op_repA)
theorem ops_mul : OpS K mg (rrMul K) (binOp .Mult) := by
  intro F H σ r d e v u w Q fr h1 h2 h t
  cases d <;> cases e <;> first
    | (simp [binOp] at h; done)
    | skip
  · rename_i i j
    have h : (if (fits64 i || fits64 j) = true then some (RV.val (.int (i * j))) else none) = some w := h
    split at h
    · rename_i c
      cases h
      rw [Bool.or_eq_true] at c
      exact .inl ⟨_, _, rw_int h1, rw_int h2, c.imp fits64_iff fits64_iff, t.int fr⟩
    · cases h
  · rename_i xs k
    have h : (if (decide (-1000 ≤ k) && decide (k ≤ 1000) && decide (xs.length ≤ 1000)) = true then some (RV.val (.tup (List.replicate k.toNat xs).flatten)) else none) = some w := h
    split at h
    · rename_i c
      cases h
      simp only [Bool.and_eq_true, decide_eq_true_eq] at c
      obtain ⟨a, vs, rfl, s1, q1, g1⟩ := rw_tup h1
      have l1 := q1.length
      refine .inr (.inr ⟨a, k, vs, rfl, rw_int h2, s1, c.1.1, c.1.2, by omega, fun z => ?_, fun _ z p hp => ?_, fun _ _ p hp => t.newT fr (q1.rep k.toNat) p hp⟩)
      · rcases z with z | z
        · subst z
          have : xs = [] := List.eq_nil_of_length_eq_zero l1
          subst this
          have e : (List.replicate k.toNat ([] : List D)).flatten = [] := by simp
          rw [e] at t
          exact t.val fr g1
        · subst z
          have e : (List.replicate (1 : Int).toNat xs).flatten = xs := by simp [List.replicate]
          rw [e] at t
          exact t.val fr g1
      · have e : k.toNat = 0 := by omega
        rw [e] at t
        exact t.newT fr .nil p hp
    · cases h
  · rename_i xs k
    have h : (if (small62 k && decide (xs.length * k.toNat ≤ sizeLine)) = true then some (RV.own (List.replicate k.toNat xs).flatten) else none) = some w := h
    split at h
    · rename_i c
      cases h
      simp only [small62, Bool.and_eq_true, decide_eq_true_eq] at c
      obtain ⟨a, vs, rfl, s1, q1⟩ := rw_lst h1
      have l1 := q1.length
      exact .inr (.inl ⟨a, k, vs, rfl, rw_int h2, s1, by omega, by omega, by rw [← l1]; exact c.2, fun p hp => t.newL fr (q1.rep k.toNat) p hp⟩)
    · cases h
end
end Ev

-- part Ev4c
set_option maxHeartbeats 1000000
/-! Ev4c: comparisons, places, slices, truth. -/
namespace Ev
open PySem PySem.Spec PyProof.Rows L2
section
variable {X : Cx} {K : PySem.W.Frag} {mg : Str → Option Value} {F : Addr → Prop} {H : Hp} {v u : V}
/-! ### data as PyData -/
mutual
theorem toPy_lay : ∀ (n : Nat) (d : D), plain n d = true → (toPy d).canLay0 = true ∧ (toPy d).depth ≤ n
  | _, .non, _ => ⟨rfl, Nat.zero_le _⟩
  | _, .bl _, _ => ⟨rfl, Nat.zero_le _⟩
  | _, .int _, _ => ⟨rfl, Nat.zero_le _⟩
  | n, .str x, h => ⟨by cases n <;> simpa [plain, toPy, PyData.canLay0] using h, by simp [toPy, PyData.depth]⟩
  | n + 1, .tup xs, h => by
    have := toPys_lay n xs (by simpa [plain] using h)
    exact ⟨by simpa [toPy, PyData.canLay0] using this.1, by simpa [toPy, PyData.depth] using this.2⟩
  | n + 1, .lst xs, h => by
    have := toPys_lay n xs (by simpa [plain] using h)
    exact ⟨by simpa [toPy, PyData.canLay0] using this.1, by simpa [toPy, PyData.depth] using this.2⟩
  | 0, .tup xs, h => by simp [plain] at h
  | 0, .lst xs, h => by simp [plain] at h
  | n, .scr xs, h => by cases n <;> simp [plain] at h
  | n, .fn _, h => by cases n <;> simp [plain] at h
  | n, .cls _, h => by cases n <;> simp [plain] at h
  | n, .ty _, h => by cases n <;> simp [plain] at h
  | n, .exc _ _ _, h => by cases n <;> simp [plain] at h
theorem toPys_lay : ∀ (n : Nat) (xs : List D), plains n xs = true → PyData.canLayAll0 (toPys xs) = true ∧ PyData.depthAll (toPys xs) ≤ n
  | _, [], _ => ⟨by simp [toPys, PyData.canLayAll0], by simp [toPys, PyData.depthAll]⟩
  | n, x :: xs, h => by
    have h : plain n x = true ∧ plains n xs = true := by simpa [plains] using h
    have h1 := toPy_lay n x h.1
    have h2 := toPys_lay n xs h.2
    exact ⟨by simp [toPys, PyData.canLayAll0, h1.1, h2.1], by simp only [toPys, PyData.depthAll]; omega⟩
end
mutual
theorem toPy_eqv : ∀ (n m : Nat) (d e : D), plain n d = true → plain m e = true → PyData.eqv (toPy d) (toPy e) = eqD d e
  | n, m, d, e, h1, h2 => by
    cases d <;> cases e <;> first
      | (simp [toPy, PyData.eqv, eqD]; done)
      | (cases n <;> simp [plain] at h1; done)
      | (cases m <;> simp [plain] at h2; done)
      | skip
    · rename_i xs ys
      cases n with
      | zero => simp [plain] at h1
      | succ n => cases m with
        | zero => simp [plain] at h2
        | succ m =>
          simp only [toPy, PyData.eqv, eqD]
          exact toPys_eqv n m xs ys (by simpa [plain] using h1) (by simpa [plain] using h2)
    · rename_i xs ys
      cases n with
      | zero => simp [plain] at h1
      | succ n => cases m with
        | zero => simp [plain] at h2
        | succ m =>
          simp only [toPy, PyData.eqv, eqD]
          exact toPys_eqv n m xs ys (by simpa [plain] using h1) (by simpa [plain] using h2)
theorem toPys_eqv : ∀ (n m : Nat) (xs ys : List D), plains n xs = true → plains m ys = true → PyData.eqvAll (toPys xs) (toPys ys) = eqDs xs ys
  | _, _, [], [], _, _ => by simp [toPys, PyData.eqvAll, eqDs]
  | _, _, [], _ :: _, _, _ => by simp [toPys, PyData.eqvAll, eqDs]
  | _, _, _ :: _, [], _, _ => by simp [toPys, PyData.eqvAll, eqDs]
  | n, m, x :: xs, y :: ys, h1, h2 => by
    have h1 : plain n x = true ∧ plains n xs = true := by simpa [plains] using h1
    have h2 : plain m y = true ∧ plains m ys = true := by simpa [plains] using h2
    simp only [toPys, PyData.eqvAll, eqDs]
    rw [toPy_eqv n m x y h1.1 h2.1, toPys_eqv n m xs ys h1.2 h2.2]
end
mutual
theorem dr_dp : ∀ (n : Nat) (d : D) (v : V), plain n d = true → DR K mg F H d v → Dp K H v (toPy d)
  | _, .non, _, _, h => by cases h; exact .non
  | _, .bl b, _, _, h => by cases h; exact .bl b
  | _, .int i, _, _, h => by cases h; exact .int i
  | _, .str x, _, _, h => by cases h; exact .str x
  | n + 1, .tup xs, _, p, h => by
    have p : plains n xs = true := by simpa [plain] using p
    cases h with
    | tup f e q => exact .tup (.inl e) (drs_dp n xs _ p q)
    | tupK e q => exact .tup (.inr e) (drs_dp n xs _ p q)
  | n + 1, .lst xs, _, p, h => by
    have p : plains n xs = true := by simpa [plain] using p
    cases h with
    | lst f e q => exact .lst (.inl (.inl e)) (drs_dp n xs _ p q)
  | 0, .tup xs, _, p, _ => by simp [plain] at p
  | 0, .lst xs, _, p, _ => by simp [plain] at p
  | n, .scr xs, _, p, _ => by cases n <;> simp [plain] at p
  | n, .fn _, _, p, _ => by cases n <;> simp [plain] at p
  | n, .cls _, _, p, _ => by cases n <;> simp [plain] at p
  | n, .ty _, _, p, _ => by cases n <;> simp [plain] at p
  | n, .exc _ _ _, _, p, _ => by cases n <;> simp [plain] at p
theorem drs_dp : ∀ (n : Nat) (ds : List D) (vs : List V), plains n ds = true → DRs K mg F H ds vs → DpAll K H vs (toPys ds)
  | _, [], _, _, h => by cases h; exact .nil
  | n, d :: ds, _, p, h => by
    have p : plain n d = true ∧ plains n ds = true := by simpa [plains] using p
    cases h with
    | cons q qs => exact .cons (dr_dp n d _ p.1 q) (drs_dp n ds _ p.2 qs)
end
theorem rw_dp {n : Nat} {d : D} (p : plain n d = true) (h : RW K mg F H d v) : Dp K H v (toPy d) := by
  cases h with
  | of h => exact dr_dp n d v p h
  | lst e q =>
    rename_i a xs vs
    cases n with
    | zero => simp [plain] at p
    | succ n => exact .lst (.inl (.inl e)) (drs_dp n xs _ (by simpa [plain] using p) q)
theorem shaped_of {d : D} (p : plain 60 d = true) : SeqAt.shaped (toPy d) = true := by
  have := toPy_lay 60 d p
  unfold SeqAt.shaped
  simp only [Bool.and_eq_true, decide_eq_true_eq]
  exact ⟨this.1, by omega⟩

/-! ### ==, != -/
/-- the value of a scalar -/
def toV : D → V
  | .bl b => .bl b
  | .int i => .int i
  | .str x => .str x
  | _ => .non
theorem rw_scal {d : D} (h : RW K mg F H d v) (s : scalD d = true) : v = toV d := by
  cases d with
  | non => exact rw_non h
  | bl b => exact rw_bl h
  | int i => exact rw_int h
  | str x => exact rw_str h
  | _ => simp [scalD] at s
theorem flat_scal {d e : D} (h : flatEq d e = true) : scalD d = true ∧ scalD e = true ∧ scal (toV d) (toV e) = true ∧ decide (toV d = toV e) = eqD d e := by
  cases d <;> cases e <;> first
    | (simp [flatEq, scalD] at h; done)
    | (refine ⟨rfl, rfl, rfl, ?_⟩; simp [toV, eqD]; done)
    | (refine ⟨rfl, rfl, rfl, ?_⟩; rw [Bool.eq_iff_iff]; simp [toV, eqD]; done)
def rrEq (K : PySem.W.Frag) : R2 := fun x y H Q => rEq x y H Q ∨ rEqD K x y H Q
def rrNe (K : PySem.W.Frag) : R2 := fun x y H Q => rNe x y H Q ∨ rNeD K x y H Q
theorem opr_eq (hu : X.A.units + 64 < cLine) : OpR X (compareOp .Eq) (rrEq X.K) := op_eq.or (op_eqD hu)
theorem opr_ne (hu : X.A.units + 64 < cLine) : OpR X (compareOp .NotEq) (rrNe X.K) := op_ne.or (op_neD hu)
def asB (o : Option Bool) : Option RV := o.map fun b => .val (.bl b)
theorem asB_of {o : Option Bool} {w : RV} (h : asB o = some w) : ∃ b, o = some b ∧ w = .val (.bl b) := by
  cases o with
  | none => cases h
  | some b => cases h; exact ⟨b, rfl, rfl⟩
theorem eqOp_of {d e : D} {b : Bool} (h : eqOp d e = some b) : b = eqD d e ∧ (flatEq d e = true ∨ (plain 60 d = true ∧ plain 60 e = true)) := by
  unfold eqOp at h
  split at h
  · rename_i c
    cases h
    simp only [Bool.or_eq_true, Bool.and_eq_true] at c
    exact ⟨rfl, c⟩
  · cases h
theorem ops_eq : OpS K mg (rrEq K) fun a b => asB (cmpOp .Eq a b) := by
  intro F H σ r d e v u w Q fr h1 h2 h t
  obtain ⟨b, hb, rfl⟩ := asB_of h
  obtain ⟨rfl, c⟩ := eqOp_of (show eqOp d e = some b from hb)
  rcases c with c | ⟨c1, c2⟩
  · obtain ⟨s1, s2, s3, s4⟩ := flat_scal c
    rw [rw_scal h1 s1, rw_scal h2 s2]
    refine .inl ⟨s3, ?_⟩
    rw [s4]
    exact t.bl fr
  · refine .inr ⟨_, _, rw_dp c1 h1, rw_dp c2 h2, shaped_of c1, shaped_of c2, ?_⟩
    rw [toPy_eqv 60 60 d e c1 c2]
    exact t.bl fr
theorem ops_ne : OpS K mg (rrNe K) fun a b => asB (cmpOp .NotEq a b) := by
  intro F H σ r d e v u w Q fr h1 h2 h t
  obtain ⟨b, hb, rfl⟩ := asB_of h
  have hb : (eqOp d e).map (!·) = some b := hb
  cases hq : eqOp d e with
  | none => rw [hq] at hb; cases hb
  | some b' =>
    rw [hq] at hb
    cases hb
    obtain ⟨rfl, c⟩ := eqOp_of hq
    rcases c with c | ⟨c1, c2⟩
    · obtain ⟨s1, s2, s3, s4⟩ := flat_scal c
      rw [rw_scal h1 s1, rw_scal h2 s2]
      refine .inl ⟨s3, ?_⟩
      rw [s4]
      exact t.bl fr
    · refine .inr ⟨_, _, rw_dp c1 h1, rw_dp c2 h2, shaped_of c1, shaped_of c2, ?_⟩
      rw [toPy_eqv 60 60 d e c1 c2]
      exact t.bl fr
/-! ### <, >, <=, >= -/
def rrLt : R2 := fun x y H Q => rI0 (fun i j => .bl (decide (i < j))) x y H Q ∨ (∃ i j, x = .str i ∧ y = .str j ∧ Q (.bl (decide (i.cps.toList < j.cps.toList))) H)
theorem opr_lt : OpR X (compareOp .Lt) rrLt := op_lt.or op_lt_str
theorem ops_lt : OpS K mg rrLt fun a b => asB (cmpOp .Lt a b) := by
  intro F H σ r d e v u w Q fr h1 h2 h t
  obtain ⟨b, hb, rfl⟩ := asB_of h
  cases d <;> cases e <;> first
    | (simp [cmpOp] at hb; done)
    | skip
  · cases hb
    exact .inl ⟨_, _, rw_int h1, rw_int h2, t.bl fr⟩
  · cases hb
    exact .inr ⟨_, _, rw_str h1, rw_str h2, t.bl fr⟩
theorem ops_gt : OpS K mg (rI0 fun i j => .bl (decide (j < i))) fun a b => asB (cmpOp .Gt a b) := by
  intro F H σ r d e v u w Q fr h1 h2 h t
  obtain ⟨b, hb, rfl⟩ := asB_of h
  cases d <;> cases e <;> first
    | (simp [cmpOp] at hb; done)
    | skip
  cases hb
  exact ⟨_, _, rw_int h1, rw_int h2, t.bl fr⟩
theorem ops_le : OpS K mg (rI0 fun i j => .bl (decide (i ≤ j))) fun a b => asB (cmpOp .LtE a b) := by
  intro F H σ r d e v u w Q fr h1 h2 h t
  obtain ⟨b, hb, rfl⟩ := asB_of h
  cases d <;> cases e <;> first
    | (simp [cmpOp] at hb; done)
    | skip
  cases hb
  exact ⟨_, _, rw_int h1, rw_int h2, t.bl fr⟩
theorem ops_ge : OpS K mg (rI0 fun i j => .bl (decide (j ≤ i))) fun a b => asB (cmpOp .GtE a b) := by
  intro F H σ r d e v u w Q fr h1 h2 h t
  obtain ⟨b, hb, rfl⟩ := asB_of h
  cases d <;> cases e <;> first
    | (simp [cmpOp] at hb; done)
    | skip
  cases hb
  exact ⟨_, _, rw_int h1, rw_int h2, t.bl fr⟩
/-! ### is, is not -/
theorem rw_isN {d : D} (h : RW K mg F H d v) : decide (v = .non) = isNonD d := by
  cases h with
  | lst e q => rfl
  | of h => cases h <;> rfl
def rrIs : R2 := fun x y H Q => (y = .non ∧ Q (.bl (decide (x = .non))) H) ∨ rIsB x y H Q
def rrIsNot : R2 := fun x y H Q => (y = .non ∧ Q (.bl (!decide (x = .non))) H) ∨ rNotB x y H Q
theorem opr_is : OpR X (compareOp .Is) rrIs := op_isN.or op_isBl
theorem opr_isNot : OpR X (compareOp .IsNot) rrIsNot := op_notN.or op_notBl
theorem ops_is : OpS K mg rrIs fun a b => asB (cmpOp .Is a b) := by
  intro F H σ r d e v u w Q fr h1 h2 h t
  obtain ⟨b, hb, rfl⟩ := asB_of h
  cases e with
  | non =>
    have hb : some (isNonD d) = some b := by cases d <;> exact hb
    cases hb
    refine .inl ⟨rw_non h2, ?_⟩
    rw [rw_isN h1]
    exact t.bl fr
  | bl c =>
    cases d with
    | bl a =>
      have hb : some (a == c) = some b := hb
      cases hb
      refine .inr ⟨a, c, rw_bl h1, rw_bl h2, ?_⟩
      rw [show decide (a = c) = (a == c) from rfl]
      exact t.bl fr
    | _ => simp [cmpOp] at hb
  | _ => cases d <;> simp [cmpOp] at hb
theorem ops_isNot : OpS K mg rrIsNot fun a b => asB (cmpOp .IsNot a b) := by
  intro F H σ r d e v u w Q fr h1 h2 h t
  obtain ⟨b, hb, rfl⟩ := asB_of h
  cases e with
  | non =>
    have hb : some (!isNonD d) = some b := by cases d <;> exact hb
    cases hb
    refine .inl ⟨rw_non h2, ?_⟩
    rw [rw_isN h1]
    exact t.bl fr
  | bl c =>
    cases d with
    | bl a =>
      have hb : some (a != c) = some b := hb
      cases hb
      refine .inr ⟨a, c, rw_bl h1, rw_bl h2, ?_⟩
      rw [show (!decide (a = c)) = (a != c) from rfl]
      exact t.bl fr
    | _ => simp [cmpOp] at hb
  | _ => cases d <;> simp [cmpOp] at hb
end
end Ev

-- part Ev4d
set_option maxHeartbeats 1000000
/-! Ev4d: in, places, slices, truth. -/
namespace Ev
open PySem PySem.Spec PyProof.Rows L2
section
variable {X : Cx} {K : PySem.W.Frag} {mg : Str → Option Value} {F : Addr → Prop} {H : Hp} {v u : V} {σ : L2.St} {r : Env} {Q : VK}
/-! ### in, not in -/
theorem dr_scal {d : D} (h : DR K mg F H d v) (s : scalD d = true) : v = toV d ∧ flatV v = true := by
  have e := rw_scal (.of h) s
  subst e
  cases d <;> first
    | exact ⟨rfl, rfl⟩
    | simp [scalD] at s
theorem eqV_eqD {d e : D} (h1 : scalD d = true) (h2 : scalD e = true) : eqV (toV d) (toV e) = eqD d e := by
  cases d <;> first
    | (simp [scalD] at h1; done)
    | (cases e <;> first
      | (simp [scalD] at h2; done)
      | (simp [toV, eqV, eqD]; done))
theorem drs_scal : ∀ {ds : List D} {vs : List V}, DRs K mg F H ds vs → ds.all scalD = true → vs.all flatV = true ∧ ∀ a : D, scalD a = true → vs.any (fun y => eqV y (toV a)) = ds.any fun z => eqD z a
  | _, _, .nil, _ => ⟨rfl, fun _ _ => rfl⟩
  | _, _, .cons r t, s => by
    rw [List.all_cons, Bool.and_eq_true] at s
    obtain ⟨e, f⟩ := dr_scal r s.1
    obtain ⟨h1, h2⟩ := drs_scal t s.2
    refine ⟨by rw [List.all_cons, f, h1]; rfl, fun a ha => ?_⟩
    rw [List.any_cons, List.any_cons, h2 a ha, e, eqV_eqD s.1 ha]
def rrIn (K : PySem.W.Frag) : R2 := fun x y H Q => rIn K false x y H Q ∨ rInD K x y H Q ∨ (∃ (c : Nat) (z : Str), x = .str ⟨#[c]⟩ ∧ y = .str z ∧ Q (.bl (decide (c ∈ z.cps.toList))) H) ∨
  ∃ i j, x = .str i ∧ y = .str j ∧ Q (.bl (!(Builtin.Str.occurrences j i 0 j.length 1).isEmpty)) H
def rrNotIn (K : PySem.W.Frag) : R2 := fun x y H Q => rIn K true x y H Q ∨ rNotInD K x y H Q ∨ (∃ (c : Nat) (z : Str), x = .str ⟨#[c]⟩ ∧ y = .str z ∧ Q (.bl (!decide (c ∈ z.cps.toList))) H) ∨
  ∃ i j, x = .str i ∧ y = .str j ∧ Q (.bl (!(!(Builtin.Str.occurrences j i 0 j.length 1).isEmpty))) H
theorem opr_in (hu : X.A.units + 65 < cLine) : OpR X (compareOp .In) (rrIn X.K) := op_in_seq.or ((op_inD hu).or (op_in_sign.or op_in_str))
theorem opr_notIn (hu : X.A.units + 65 < cLine) : OpR X (compareOp .NotIn) (rrNotIn X.K) := op_notIn_seq.or ((op_notInD hu).or (op_notIn_sign.or op_notIn_str))
theorem rw_scalF {d : D} (h : RW K mg F H d v) (s : scalD d = true) : v = toV d ∧ flatV v = true := by
  have e := rw_scal h s
  subst e
  cases d <;> first
    | exact ⟨rfl, rfl⟩
    | simp [scalD] at s
theorem toPys_any {n m : Nat} {a : D} (ha : plain m a = true) : ∀ {xs : List D}, plains n xs = true → ((toPys xs).any fun z => PyData.eqv z (toPy a)) = xs.any fun z => eqD z a
  | [], _ => rfl
  | x :: xs, h => by
    have h : plain n x = true ∧ plains n xs = true := by simpa [plains] using h
    simp only [toPys, List.any_cons]
    rw [toPy_eqv n m x a h.1 ha, toPys_any ha h.2]
theorem str_one {x : Str} {c : Nat} (h : x.cps.toList = [c]) : x = ⟨#[c]⟩ := by
  obtain ⟨⟨l⟩⟩ := x
  have : l = [c] := h
  subst this
  rfl
/-- the ways of in -/
theorem in_ways {d e : D} {b : Bool} (h : inOp d e = some b) (h1 : RW K mg F H d v) (h2 : RW K mg F H e u) :
    (∃ p xs, u = .ref p ∧ (SqL K H p xs ∨ SqT K H p xs) ∧ flatV v = true ∧ xs.all flatV = true ∧ inV v xs = b) ∨
    (∃ a ds, Dp K H v a ∧ Dp K H u (.list ds) ∧ SeqAt.shaped a = true ∧ SeqAt.shaped (.list ds) = true ∧ (ds.any fun z => PyData.eqv z a) = b) ∨
    (∃ (c : Nat) (z : Str), v = .str ⟨#[c]⟩ ∧ u = .str z ∧ decide (c ∈ z.cps.toList) = b) ∨
    ∃ i j, v = .str i ∧ u = .str j ∧ (!(Builtin.Str.occurrences j i 0 j.length 1).isEmpty) = b := by
  cases e with
  | lst xs =>
    have h : (if ((scalD d && xs.all scalD) || (plain 60 d && plains 60 xs)) = true then some (xs.any fun z => eqD z d) else none) = some b := h
    split at h
    · rename_i c
      cases h
      simp only [Bool.or_eq_true, Bool.and_eq_true] at c
      obtain ⟨a, vs, rfl, s2, q2⟩ := rw_lst h2
      rcases c with ⟨c1, c2⟩ | ⟨c1, c2⟩
      · obtain ⟨e1, f1⟩ := rw_scalF h1 c1
        obtain ⟨f2, f3⟩ := drs_scal q2 c2
        subst e1
        exact .inl ⟨a, vs, rfl, .inl (SqL.of s2), f1, f2, f3 d c1⟩
      · refine .inr (.inl ⟨toPy d, toPys xs, rw_dp c1 h1, .lst (SqL.of s2) (drs_dp 60 xs vs c2 q2), shaped_of c1, ?_, toPys_any c1 c2⟩)
        have l := toPys_lay 60 xs c2
        unfold SeqAt.shaped
        rw [Bool.and_eq_true, decide_eq_true_eq]
        have l2 := l.2
        exact ⟨by simpa [PyData.canLay0] using l.1, by simp only [PyData.depth]; omega⟩
    · cases h
  | tup xs =>
    have h : (if (scalD d && xs.all scalD) = true then some (xs.any fun z => eqD z d) else none) = some b := h
    split at h
    · rename_i c
      cases h
      simp only [Bool.and_eq_true] at c
      obtain ⟨a, vs, rfl, s2, q2, _⟩ := rw_tup h2
      obtain ⟨e1, f1⟩ := rw_scalF h1 c.1
      obtain ⟨f2, f3⟩ := drs_scal q2 c.2
      subst e1
      exact .inl ⟨a, vs, rfl, .inr s2, f1, f2, f3 d c.1⟩
    · cases h
  | str y =>
    cases d with
    | str x =>
      have h : (match x.cps.toList with
        | [c] => some (decide (c ∈ y.cps.toList))
        | _ => some (!(Builtin.Str.occurrences y x 0 y.length 1).isEmpty)) = some b := h
      rw [rw_str h1, rw_str h2]
      split at h
      · rename_i c hc
        cases h
        exact .inr (.inr (.inl ⟨c, y, by rw [str_one hc], rfl, rfl⟩))
      · cases h
        exact .inr (.inr (.inr ⟨x, y, rfl, rfl, rfl⟩))
    | _ => simp [inOp] at h
  | _ => simp [inOp] at h
theorem ops_in : OpS K mg (rrIn K) fun a b => asB (cmpOp .In a b) := by
  intro F H σ r d e v u w Q fr h1 h2 h t
  obtain ⟨b, hb, rfl⟩ := asB_of h
  rcases in_ways (show inOp d e = some b from hb) h1 h2 with ⟨p, xs, rfl, hq, f1, f2, rfl⟩ | ⟨a, ds, q1, q2, s1, s2, rfl⟩ | ⟨c, z, rfl, rfl, rfl⟩ | ⟨i, j, rfl, rfl, rfl⟩
  · exact .inl ⟨p, xs, rfl, hq, f1, f2, t.bl fr⟩
  · exact .inr (.inl ⟨a, ds, q1, q2, s1, s2, t.bl fr⟩)
  · exact .inr (.inr (.inl ⟨c, z, rfl, rfl, t.bl fr⟩))
  · exact .inr (.inr (.inr ⟨i, j, rfl, rfl, t.bl fr⟩))
theorem ops_notIn : OpS K mg (rrNotIn K) fun a b => asB (cmpOp .NotIn a b) := by
  intro F H σ r d e v u w Q fr h1 h2 h t
  obtain ⟨b, hb, rfl⟩ := asB_of h
  have hb : (inOp d e).map (!·) = some b := hb
  cases hq : inOp d e with
  | none => rw [hq] at hb; cases hb
  | some b' =>
    rw [hq] at hb
    cases hb
    rcases in_ways hq h1 h2 with ⟨p, xs, rfl, hs, f1, f2, rfl⟩ | ⟨a, ds, q1, q2, s1, s2, rfl⟩ | ⟨c, z, rfl, rfl, rfl⟩ | ⟨i, j, rfl, rfl, rfl⟩
    · exact .inl ⟨p, xs, rfl, hs, f1, f2, t.bl fr⟩
    · exact .inr (.inl ⟨a, ds, q1, q2, s1, s2, t.bl fr⟩)
    · exact .inr (.inr (.inl ⟨c, z, rfl, rfl, t.bl fr⟩))
    · exact .inr (.inr (.inr ⟨i, j, rfl, rfl, t.bl fr⟩))
/-! ### places -/
theorem atIx_ixN (n : Nat) (i : Int) : atIx n i = ixN n i := by
  unfold atIx ixN
  by_cases h0 : 0 ≤ i
  · rw [if_pos h0, if_pos h0]
  · rw [if_neg h0, if_neg h0]
    by_cases h1 : 0 ≤ i + n
    · rw [if_pos h1, if_pos (by omega)]
    · rw [if_neg h1, if_neg (by omega)]
theorem drs_atI {ds : List D} {vs : List V} {i : Int} {d : D} (q : DRs K mg F H ds vs) (h : (atIx ds.length i).bind (fun k => ds[k]?) = some d) : ∃ v, atI vs i = some v ∧ DR K mg F H d v := by
  rw [atIx_ixN, q.length] at h
  cases e : ixN vs.length i with
  | none => rw [e] at h; cases h
  | some k =>
    rw [e] at h
    obtain ⟨v, h1, h2⟩ := q.get (show ds[k]? = some d from h)
    exact ⟨v, by unfold atI; rw [e]; exact h1, h2⟩
theorem ops_idx : OpS K mg (rIx K) fun a b => (idxOp a b).map RV.val := by
  intro F H σ r d e v u w Q fr h1 h2 h t
  have h : (idxOp d e).map RV.val = some w := h
  cases hq : idxOp d e with
  | none => rw [hq] at h; cases h
  | some x =>
    rw [hq] at h
    cases h
    cases d <;> cases e <;> first
      | (simp [idxOp] at hq; done)
      | skip
    · rename_i s i
      have hq : (if s.length ≤ sizeLine then (atIx s.length i).bind fun k => (s.cps[k]?).map fun c => D.str ⟨#[c]⟩ else none) = some x := hq
      split at hq
      · rename_i hl
        rw [atIx_ixN] at hq
        cases e : ixN s.length i with
        | none => rw [e] at hq; cases hq
        | some k =>
          rw [e] at hq
          have hq : (s.cps[k]?).map (fun c => D.str ⟨#[c]⟩) = some x := hq
          cases e2 : s.cps[k]? with
          | none => rw [e2] at hq; cases hq
          | some c =>
            rw [e2] at hq
            cases hq
            refine .inr (.inr ⟨s, i, c, rw_str h1, rw_int h2, hl, ?_, t.val fr (.str _)⟩)
            unfold atI
            have e3 : s.cps.toList.length = s.length := by simp [Str.length]
            rw [e3, e]
            simpa using e2
      · cases hq
    · rename_i xs i
      obtain ⟨a, vs, rfl, s1, q1, _⟩ := rw_tup h1
      obtain ⟨z, g1, g2⟩ := drs_atI q1 hq
      exact .inr (.inl ⟨a, vs, i, z, rfl, rw_int h2, s1, g1, t.val fr g2⟩)
    · rename_i xs i
      obtain ⟨a, vs, rfl, s1, q1⟩ := rw_lst h1
      obtain ⟨z, g1, g2⟩ := drs_atI q1 hq
      exact .inl ⟨a, vs, i, z, rfl, rw_int h2, SqL.of s1, g1, t.val fr g2⟩
    · rename_i xs i
      obtain ⟨a, vs, rfl, s1, q1⟩ := rw_scr h1
      obtain ⟨z, g1, g2⟩ := drs_atI q1 hq
      exact .inl ⟨a, vs, i, z, rfl, rw_int h2, s1, g1, t.val fr g2⟩
/-! ### slices -/
theorem clampI_sIx (n : Nat) (i : Int) (d : Nat) : clampI n i = HT.sIx n d (some i) := by
  unfold clampI
  show _ = (if i < 0 then (i + (n : Int)).toNat else min i.toNat n)
  by_cases h : 0 ≤ i
  · rw [if_pos h, if_neg (by omega)]
  · rw [if_neg h, if_pos (by omega)]
theorem cutL_eq {α : Type} (xs : List α) (lo hi : Option Int) : cutL xs lo hi = (xs.drop (HT.sIx xs.length 0 lo)).take (HT.sIx xs.length xs.length hi - HT.sIx xs.length 0 lo) := by
  have e1 : cutLo xs.length lo = HT.sIx xs.length 0 lo := by
    cases lo with
    | none => rfl
    | some i => exact clampI_sIx _ _ _
  have e2 : cutHi xs.length hi = HT.sIx xs.length xs.length hi := by
    cases hi with
    | none => rfl
    | some i => exact clampI_sIx _ _ _
  unfold cutL
  rw [e1, e2, List.drop_take]
theorem DRs.cut {ds : List D} {vs : List V} (q : DRs K mg F H ds vs) (lo hi : Option Int) : DRs K mg F H (cutL ds lo hi) (cutV vs lo hi) := by
  rw [cutL_eq]
  unfold cutV
  rw [q.length]
  exact (q.drop _).take _
def rrSl (K : PySem.W.Frag) : V → Option Int → Option Int → Hp → VK → Prop := fun x lo hi H Q => rSlL K x lo hi H Q ∨ rSlA K x lo hi H Q ∨ rSlS x lo hi H Q
theorem slr_any : SlR X (rrSl X.K) := sl_list.or (sl_tupA.or sl_str)
theorem sls_any {d : D} {l h : Option Int} {w : RV} (fr : FR K mg F H σ r) (h1 : RW K mg F H d v) (e : sliI d l h = some w) (t : Then K mg F H σ r w Q) : rrSl K v l h H Q := by
  cases d with
  | tup xs =>
    cases e
    obtain ⟨a, vs, rfl, s1, q1, g1⟩ := rw_tup h1
    refine .inr (.inl ⟨a, vs, rfl, s1, fun z => ?_, fun _ p hp => t.newT fr (q1.cut l h) p hp⟩)
    have l1 := q1.length
    have e : cutL xs l h = xs := by
      rw [cutL_eq, l1, z.1, z.2]
      simp [← l1]
    rw [e] at t
    exact t.val fr g1
  | lst xs =>
    cases e
    obtain ⟨a, vs, rfl, s1, q1⟩ := rw_lst h1
    exact .inl ⟨a, vs, rfl, SqL.of s1, fun p hp => t.newL fr (q1.cut l h) p hp⟩
  | scr xs =>
    cases e
    obtain ⟨a, vs, rfl, s1, q1⟩ := rw_scr h1
    exact .inl ⟨a, vs, rfl, s1, fun p hp => t.newL fr (q1.cut l h) p hp⟩
  | str x =>
    have e : (if x.length ≤ sizeLine then some (RV.val (.str ⟨(cutL x.cps.toList l h).toArray⟩)) else none) = some w := e
    split at e
    · rename_i hl
      cases e
      refine .inr (.inr ⟨x, rw_str h1, hl, ?_⟩)
      have e : cutS x l h = ⟨(cutL x.cps.toList l h).toArray⟩ := by
        unfold cutS
        rw [cutL_eq]
        simp [Str.length]
      rw [e]
      exact t.val fr (.str _)
    · cases e
  | _ => cases e
/-! ### truth -/
theorem tru_of {d : D} {b : Bool} (h1 : RW K mg F H d v) (h : truD d = some b) : TruV K v H b := by
  cases d with
  | non => cases h; rw [rw_non h1]; rfl
  | bl c => cases h; rw [rw_bl h1]; rfl
  | int i => cases h; rw [rw_int h1]; rfl
  | str x =>
    have h : (if x.length ≤ sizeLine then some (x.length != 0) else none) = some b := h
    split at h
    · rename_i hl
      cases h
      rw [rw_str h1]
      refine ⟨hl, ?_⟩
      rw [Bool.eq_iff_iff]
      simp
    · cases h
  | tup xs =>
    cases h
    obtain ⟨a, vs, rfl, s1, q1, _⟩ := rw_tup h1
    refine .inr (.inl ⟨vs, s1, ?_⟩)
    cases q1 <;> rfl
  | lst xs =>
    cases h
    obtain ⟨a, vs, rfl, s1, q1⟩ := rw_lst h1
    refine .inl ⟨vs, SqL.of s1, ?_⟩
    cases q1 <;> rfl
  | _ => cases h
end
end Ev

-- part Ev5a
set_option maxHeartbeats 1000000
/-! Ev5a: frames: slots set, wiped, given back. -/
namespace Ev
open PySem PySem.Spec PyProof.Rows L2
section
variable {X : Cx} {K : PySem.W.Frag} {mg : Str → Option Value} {F F' : Addr → Prop} {H H' : Hp} {v u : V} {σ σ' : L2.St} {r r' : Env} {Q : VK}
/-! ### equal data -/
mutual
theorem eqb_of : ∀ {a b : D}, D.eqb a b = true → a = b
  | .non, b, h => by cases b <;> first | rfl | (simp [D.eqb] at h; done)
  | .bl a, b, h => by cases b <;> first | (simp [D.eqb] at h; subst h; rfl) | (simp [D.eqb] at h; done)
  | .int a, b, h => by cases b <;> first | (simp [D.eqb] at h; subst h; rfl) | (simp [D.eqb] at h; done)
  | .str a, b, h => by cases b <;> first | (simp [D.eqb] at h; subst h; rfl) | (simp [D.eqb] at h; done)
  | .tup a, b, h => by cases b <;> first | (simp only [D.eqb] at h; rw [eqbs_of h]; done) | (simp [D.eqb] at h; done)
  | .lst a, b, h => by cases b <;> first | (simp only [D.eqb] at h; rw [eqbs_of h]; done) | (simp [D.eqb] at h; done)
  | .scr a, b, h => by cases b <;> first | (simp only [D.eqb] at h; rw [eqbs_of h]; done) | (simp [D.eqb] at h; done)
  | .fn a, b, h => by cases b <;> first | (simp [D.eqb] at h; subst h; rfl) | (simp [D.eqb] at h; done)
  | .cls a, b, h => by cases b <;> first | (simp [D.eqb] at h; subst h; rfl) | (simp [D.eqb] at h; done)
  | .ty a, b, h => by cases b <;> first | (simp [D.eqb] at h; subst h; rfl) | (simp [D.eqb] at h; done)
  | .exc a b c, e, h => by
    cases e <;> first
      | (simp only [D.eqb, Bool.and_eq_true, decide_eq_true_eq] at h; obtain ⟨⟨h1, h2⟩, h3⟩ := h; rw [h1, h2, eqbs_of h3]; done)
      | (simp [D.eqb] at h; done)
theorem eqbs_of : ∀ {a b : List D}, D.eqbs a b = true → a = b
  | [], b, h => by cases b <;> first | rfl | (simp [D.eqbs] at h; done)
  | x :: xs, b, h => by
    cases b with
    | nil => simp [D.eqbs] at h
    | cons y ys =>
      simp only [D.eqbs, Bool.and_eq_true] at h
      rw [eqb_of h.1, eqbs_of h.2]
end
/-! ### a slot is set -/
theorem get_set {α : Type} {l : List α} {i j : Nat} {a b : α} (h : (l.set i a)[j]? = some b) : (j = i ∧ b = a) ∨ (j ≠ i ∧ l[j]? = some b) := by
  by_cases e : i = j
  · subst e
    by_cases hi : i < l.length
    · rw [List.getElem?_set_self hi] at h
      exact .inl ⟨rfl, (Option.some.inj h).symm⟩
    · rw [List.getElem?_eq_none (by simpa using hi)] at h
      cases h
  · rw [List.getElem?_set_ne e] at h
    exact .inr ⟨Ne.symm e, h⟩
theorem Own.set_sub {w : Option V} {s : Slot} {i : Nat} (hs : ∀ xs, s ≠ .box xs) {a : Addr} (o : Own (σ.set i w) (r.set i s) a) : Own σ r a := by
  obtain ⟨j, xs, e1, e2⟩ := o
  rcases get_set e1 with ⟨_, e⟩ | ⟨n, e⟩
  · exact absurd e.symm (hs xs)
  · refine ⟨j, xs, e, ?_⟩
    rcases get_set e2 with ⟨m, _⟩ | ⟨_, e'⟩
    · exact absurd m n
    · exact e'
/-- a name takes a shared value -/
theorem FR.setVal (h : FR K mg F H σ r) {i : Nat} {d : D} (hi : i < σ.length) (q : DR K mg F H d v) : FR K mg F H (σ.set i (some v)) (r.set i (.val d)) where
  len := by simp [h.len]
  ftr := h.ftr
  val := fun j e q' => by
    rcases get_set q' with ⟨rfl, e1⟩ | ⟨n, e1⟩
    · cases e1
      exact ⟨v, by rw [List.getElem?_set_self hi], q⟩
    · rw [List.getElem?_set_ne (Ne.symm n)]
      exact h.val j e e1
  box := fun j xs q' => by
    rcases get_set q' with ⟨_, e1⟩ | ⟨n, e1⟩
    · cases e1
    · rw [List.getElem?_set_ne (Ne.symm n)]
      exact h.box j xs e1
  inj := fun j k xs ys a e1 e2 e3 e4 => by
    rcases get_set e1 with ⟨_, z⟩ | ⟨n1, e1⟩
    · cases z
    rcases get_set e2 with ⟨_, z⟩ | ⟨n2, e2⟩
    · cases z
    rw [List.getElem?_set_ne (Ne.symm n1)] at e3
    rw [List.getElem?_set_ne (Ne.symm n2)] at e4
    exact h.inj j k xs ys a e1 e2 e3 e4
/-- a name takes a list that nobody else has -/
theorem FR.setBox (h : FR K mg F H σ r) {i : Nat} {xs : List D} {a : Addr} {vs : List V} (hi : i < σ.length) (e : H a = some (.lst vs)) (q : DRs K mg F H xs vs) (nf : ¬ F a) (no : ¬ Own σ r a) : FR K mg F H (σ.set i (some (.ref a))) (r.set i (.box xs)) where
  len := by simp [h.len]
  ftr := h.ftr
  val := fun j d q' => by
    rcases get_set q' with ⟨_, e1⟩ | ⟨n, e1⟩
    · cases e1
    · rw [List.getElem?_set_ne (Ne.symm n)]
      exact h.val j d e1
  box := fun j ys q' => by
    rcases get_set q' with ⟨rfl, e1⟩ | ⟨n, e1⟩
    · cases e1
      exact ⟨a, vs, by rw [List.getElem?_set_self hi], e, q, nf⟩
    · rw [List.getElem?_set_ne (Ne.symm n)]
      exact h.box j ys e1
  inj := fun j k ys zs b e1 e2 e3 e4 => by
    rcases get_set e1 with ⟨hj, z1⟩ | ⟨n1, e1⟩
    · rcases get_set e2 with ⟨hk, z2⟩ | ⟨n2, e2⟩
      · rw [hj, hk]
      · rw [hj, List.getElem?_set_self hi] at e3
        cases e3
        rw [List.getElem?_set_ne (Ne.symm n2)] at e4
        exact absurd ⟨k, zs, e2, e4⟩ no
    · rw [List.getElem?_set_ne (Ne.symm n1)] at e3
      rcases get_set e2 with ⟨hk, z2⟩ | ⟨n2, e2⟩
      · rw [hk, List.getElem?_set_self hi] at e4
        cases e4
        exact absurd ⟨j, ys, e1, e3⟩ no
      · rw [List.getElem?_set_ne (Ne.symm n2)] at e4
        exact h.inj j k ys zs b e1 e2 e3 e4
theorem Own.setBox {i : Nat} {xs : List D} {a b : Addr} (o : Own (σ.set i (some (.ref a))) (r.set i (.box xs)) b) : Own σ r b ∨ b = a := by
  obtain ⟨j, ys, e1, e2⟩ := o
  rcases get_set e2 with ⟨rfl, z⟩ | ⟨n, e2⟩
  · cases z; exact .inr rfl
  · rcases get_set e1 with ⟨z, _⟩ | ⟨_, e1⟩
    · exact absurd z n
    · exact .inl ⟨j, ys, e1, e2⟩
/-- a slot's list is shared -/
theorem FR.share (h : FR K mg F H σ r) {i : Nat} {xs : List D} {a : Addr} (e : r[i]? = some (.box xs)) (ea : σ[i]? = some (some (.ref a))) : FR K mg (Fp F a) H σ (r.set i (.val (.lst xs))) := by
  obtain ⟨a', vs, q1, q2, q3, q4⟩ := h.box i xs e
  rw [ea] at q1
  cases q1
  have up : ∀ {d : D} {w : V}, DR K mg F H d w → DR K mg (Fp F a) H d w := fun q => q.mono (fun _ f => .inl f) fun _ _ _ e => e
  have ups : ∀ {d : List D} {w : List V}, DRs K mg F H d w → DRs K mg (Fp F a) H d w := fun q => q.mono (fun _ f => .inl f) fun _ _ _ e => e
  have hi : i < r.length := (List.getElem?_eq_some_iff.mp e).1
  refine ⟨by simp [h.len], fun b f => ?_, fun j d q => ?_, fun j ys q => ?_, fun j k ys zs b e1 e2 e3 e4 => ?_⟩
  · rcases f with f | f
    · exact h.ftr b f
    · rw [f, q2]; exact fun z => nomatch z
  · rcases get_set q with ⟨rfl, z⟩ | ⟨n, q⟩
    · cases z
      exact ⟨.ref a, ea, .lst (.inr rfl) q2 (ups q3)⟩
    · obtain ⟨w, g1, g2⟩ := h.val j d q
      exact ⟨w, g1, up g2⟩
  · rcases get_set q with ⟨_, z⟩ | ⟨n, q⟩
    · cases z
    · obtain ⟨b, ws, g1, g2, g3, g4⟩ := h.box j ys q
      refine ⟨b, ws, g1, g2, ups g3, fun z => ?_⟩
      rcases z with z | z
      · exact g4 z
      · subst z
        exact n (h.inj j i ys xs b q e g1 ea)
  · rcases get_set e1 with ⟨_, z⟩ | ⟨n1, e1⟩
    · cases z
    rcases get_set e2 with ⟨_, z⟩ | ⟨n2, e2⟩
    · cases z
    exact h.inj j k ys zs b e1 e2 e3 e4
theorem Own.share {i : Nat} {s : Slot} (hs : ∀ xs, s ≠ .box xs) {a : Addr} (o : Own σ (r.set i s) a) : Own σ r a := by
  obtain ⟨j, ys, e1, e2⟩ := o
  rcases get_set e1 with ⟨_, z⟩ | ⟨n, e1⟩
  · exact absurd z.symm (hs ys)
  · exact ⟨j, ys, e1, e2⟩
theorem Ext.share {i : Nat} {xs : List D} {a : Addr} (e : r[i]? = some (.box xs)) (ea : σ[i]? = some (some (.ref a))) : Ext F H (Own σ r) (Fp F a) H (Own σ (r.set i (.val (.lst xs)))) where
  keep := fun _ _ q _ => q
  fz := fun _ f => .inl f
  fnew := fun b f => by
    rcases f with f | f
    · exact .inl f
    · subst f; exact .inr (.inl ⟨i, xs, e, ea⟩)
  onew := fun b o => .inl (Own.share (by intro xs; simp) o)
  there := fun _ q => q
/-- a temporary list is shared -/
theorem FR.shareT (h : FR K mg F H σ r) {a : Addr} (ha : H a ≠ none) (no : ¬ Own σ r a) : FR K mg (Fp F a) H σ r := by
  refine ⟨h.len, fun b f => ?_, fun j d q => ?_, fun j ys q => ?_, h.inj⟩
  · rcases f with f | f
    · exact h.ftr b f
    · rw [f]; exact ha
  · obtain ⟨w, g1, g2⟩ := h.val j d q
    exact ⟨w, g1, g2.mono (fun _ f => .inl f) fun _ _ _ e => e⟩
  · obtain ⟨b, ws, g1, g2, g3, g4⟩ := h.box j ys q
    refine ⟨b, ws, g1, g2, g3.mono (fun _ f => .inl f) fun _ _ _ e => e, fun z => ?_⟩
    rcases z with z | z
    · exact g4 z
    · subst z; exact no ⟨j, ys, q, g1⟩
/-- something of no slot is changed -/
theorem FR.updTemp (h : FR K mg F H σ r) {a : Addr} {o : HO} (nf : ¬ F a) (no : ¬ Own σ r a) : FR K mg F (upd H a o) σ r := by
  have nf' : ∀ b, F b → b ≠ a := fun b f z => nf (z ▸ f)
  have up : ∀ b u, F b → H b = some u → upd H a o b = some u := fun b u f e => by rw [upd_ne (nf' b f)]; exact e
  refine ⟨h.len, fun b f => ?_, fun j d q => ?_, fun j ys q => ?_, h.inj⟩
  · rw [upd_ne (nf' b f)]; exact h.ftr b f
  · obtain ⟨w, g1, g2⟩ := h.val j d q
    exact ⟨w, g1, g2.mono (fun _ f => f) up⟩
  · obtain ⟨b, ws, g1, g2, g3, g4⟩ := h.box j ys q
    refine ⟨b, ws, g1, ?_, g3.mono (fun _ f => f) up, g4⟩
    have hb : b ≠ a := fun z => no (by rw [← z]; exact ⟨j, ys, q, g1⟩)
    rw [upd_ne hb]
    exact g2
/-- a slot's own list is changed -/
theorem FR.updBox (h : FR K mg F H σ r) {i : Nat} {xs ys : List D} {a : Addr} {ws : List V} (e : r[i]? = some (.box xs)) (ea : σ[i]? = some (some (.ref a))) (q : DRs K mg F H ys ws) :
    FR K mg F (upd H a (.lst ws)) σ (r.set i (.box ys)) := by
  obtain ⟨a', vs, q1, q2, q3, q4⟩ := h.box i xs e
  rw [ea] at q1
  cases q1
  have nf' : ∀ b, F b → b ≠ a := fun b f z => q4 (z ▸ f)
  have up : ∀ b u, F b → H b = some u → upd H a (.lst ws) b = some u := fun b u f e => by rw [upd_ne (nf' b f)]; exact e
  have hi : i < r.length := (List.getElem?_eq_some_iff.mp e).1
  refine ⟨by simp [h.len], fun b f => ?_, fun j d q => ?_, fun j zs q' => ?_, fun j k zs zt b e1 e2 e3 e4 => ?_⟩
  · rw [upd_ne (nf' b f)]; exact h.ftr b f
  · rcases get_set q with ⟨_, z⟩ | ⟨n, q⟩
    · cases z
    · obtain ⟨w, g1, g2⟩ := h.val j d q
      exact ⟨w, g1, g2.mono (fun _ f => f) up⟩
  · rcases get_set q' with ⟨rfl, z⟩ | ⟨n, q'⟩
    · cases z
      exact ⟨a, ws, ea, upd_same, q.mono (fun _ f => f) up, q4⟩
    · obtain ⟨b, us, g1, g2, g3, g4⟩ := h.box j zs q'
      refine ⟨b, us, g1, ?_, g3.mono (fun _ f => f) up, g4⟩
      have hb : b ≠ a := fun z => n (h.inj j i zs xs a q' e (by rw [← z]; exact g1) ea)
      rw [upd_ne hb]
      exact g2
  · have back : ∀ {m : Nat} {ts : List D}, (r.set i (.box ys))[m]? = some (.box ts) → ∃ us, r[m]? = some (.box us) := fun {m ts} em => by
      rcases get_set em with ⟨rfl, _⟩ | ⟨_, em⟩
      · exact ⟨xs, e⟩
      · exact ⟨ts, em⟩
    obtain ⟨us1, f1⟩ := back e1
    obtain ⟨us2, f2⟩ := back e2
    exact h.inj j k us1 us2 b f1 f2 e3 e4
theorem Own.updBox {i : Nat} {xs ys : List D} (e : r[i]? = some (.box xs)) {a : Addr} (o : Own σ (r.set i (.box ys)) a) : Own σ r a := by
  obtain ⟨j, zs, e1, e2⟩ := o
  rcases get_set e1 with ⟨rfl, _⟩ | ⟨_, e1⟩
  · exact ⟨j, xs, e, e2⟩
  · exact ⟨j, zs, e1, e2⟩
theorem Ext.updBox {i : Nat} {xs ys : List D} {a : Addr} {o : HO} (e : r[i]? = some (.box xs)) (ea : σ[i]? = some (some (.ref a))) : Ext F H (Own σ r) F (upd H a o) (Own σ (r.set i (.box ys))) where
  keep := fun b u q n => by
    have hb : b ≠ a := fun z => n (by rw [z]; exact ⟨i, xs, e, ea⟩)
    rw [upd_ne hb]
    exact q
  fz := fun _ f => f
  fnew := fun _ f => .inl f
  onew := fun b q => .inl (Own.updBox e q)
  there := fun b q => by
    by_cases z : b = a
    · subst z; rw [upd_same] at q; cases q
    · rw [upd_ne z] at q; exact q
end
end Ev

-- part Ev5b
set_option maxHeartbeats 1000000
/-! Ev5b: expressions, one construct at a time. -/
namespace Ev
open PySem PySem.Spec PyProof.Rows L2
section
variable {X : Cx} {W : WX} {c : CallT} {K : PySem.W.Frag} {mg : Str → Option Value} {F F' : Addr → Prop} {H H' H0 : Hp} {v u : V} {σ σ' : L2.St} {r r' : Env} {Q : VK} {e a b : Expr} {pos : Pos}
theorem pe_imp {t t' : TE} (h : PE X e t) (i : ∀ σ H Q, t' σ H Q → t σ H Q) : PE X e t' := ⟨fun pins s σ H Q I hw => h.run pins s σ H Q I (i σ H Q hw)⟩
theorem pt_imp {t t' : TT} (h : PT X e t) (i : ∀ σ H Q, t' σ H Q → t σ H Q) : PT X e t' := ⟨fun pins s σ H Q I hw => h.run pins s σ H Q I (i σ H Q hw)⟩
theorem pa_imp {es : List Expr} {t t' : TA} (h : PA X es t) (i : ∀ σ H Q, t' σ H Q → t σ H Q) : PA X es t' := ⟨fun pos pins s σ H Q I hw => h.run pos pins s σ H Q I (i σ H Q hw)⟩
theorem Goes.bind0 {α β : Type} {m : M α} {f : α → M β} {k : β → Env → (Addr → Prop) → Hp → Prop} (h : Goes K mg W F H σ r (M.bind m f r) k) :
    Goes K mg W F H σ r (m r) fun a r1 _ _ => Goes K mg W F H σ r (f a r1) k := by
  unfold M.bind at h
  cases e : m r with
  | stuck => rw [e] at h; exact h
  | exc x r1 => rw [e] at h; exact h
  | ok a r1 => rw [e] at h; exact fun _ _ _ _ => h
/-! ### names and constants -/
theorem pev_var {i : Nat} {x : Str} (hN : X.N[i]? = some x) (hv : Vis X.env.scope x) (hd : (x == ("__debug__" : Str)) = false) (hcd : (x == ("__classdict__" : Str)) = false) : PE X (.Name x pos) (tEv X.K X.mg W (evE c (.var i))) := by
  refine pe_imp (pe_var hN hv hd hcd) fun σ H Q ⟨F, r, fr, g⟩ => ?_
  have g : Goes X.K X.mg W F H σ r (match r[i]? with
    | some (.val d) => .ok (RV.val d) r
    | some (.box _) => .ok (RV.bor i) r
    | _ => .stuck) _ := g
  cases q : r[i]? with
  | none => rw [q] at g; exact g.elim
  | some s =>
    rw [q] at g
    cases s with
    | no => exact g.elim
    | val d =>
      obtain ⟨v, h1, h2⟩ := fr.val i d q
      exact ⟨v, h1, g.ok fr v (.val h2)⟩
    | box xs =>
      obtain ⟨a, vs, h1, _⟩ := fr.box i xs q
      exact ⟨.ref a, h1, g.ok fr _ (.bor h1)⟩
theorem cst_ok {d : D} {v : V} {σ : L2.St} {H : Hp} {Q : VK} (hd : ∀ F H, DR K mg F H d v) (h : tEv K mg W (M.pure (.val d)) σ H Q) : Q v H := by
  obtain ⟨F, r, fr, g⟩ := h
  exact Goes.ok (r := r) g fr v (.val (hd F H))
theorem pev_int {i : Int} {j : Nat} : PE X (.Constant (.int i) j pos) (tEv X.K X.mg W (evE c (.cst (.int i)))) := pe_imp pe_int fun σ H Q h => cst_ok (fun _ _ => .int i) h
theorem pev_str {x : Str} {j : Nat} : PE X (.Constant (.str x) j pos) (tEv X.K X.mg W (evE c (.cst (.str x)))) := pe_imp pe_str fun σ H Q h => cst_ok (fun _ _ => .str x) h
theorem pev_bl {b : Bool} {j : Nat} : PE X (.Constant (.bool b) j pos) (tEv X.K X.mg W (evE c (.cst (.bl b)))) := pe_imp pe_bl fun σ H Q h => cst_ok (fun _ _ => .bl b) h
theorem pev_non {j : Nat} : PE X (.Constant .none j pos) (tEv X.K X.mg W (evE c (.cst .non))) := pe_imp pe_non fun σ H Q h => cst_ok (fun _ _ => .non) h
theorem pev_glo {x : Str} {d : D} {v : V} {u : Value} (hg : Gl X x) (hm : X.mg x = some u) (rv : RelV v u) (hd : ∀ F H, DR X.K X.mg F H d v) (hdb : (x == ("__debug__" : Str)) = false) : PE X (.Name x pos) (tEv X.K X.mg W (evE c (.glo x d))) :=
  pe_imp (pe_glob hg hm rv hdb) fun σ H Q h => cst_ok hd h
/-! ### one and two operands -/
theorem RVR.back {w : RV} {z : V} {H1 : Hp} {O O' : Addr → Prop} (x : Ext F H O F' H1 O') {F2 : Addr → Prop} {H2 : Hp} {r2 : Env} (q : RVR K mg H1 F2 H2 σ r2 w z) : RVR K mg H F2 H2 σ r2 w z := q.base fun a e => x.there a e
theorem two_ok {m1 m2 : M RV} {op : D → D → Option RV} {rr : R2} (hs : OpS K mg rr op) {σ : L2.St} {H : Hp} {Q : VK}
    (h : tEv K mg W (M.bind m1 fun x => M.bind m2 fun y => withLook x fun d => withLook y fun e => liftO (op d e)) σ H Q) : tOp rr (tEv K mg W m1) (tEv K mg W m2) σ H Q := by
  obtain ⟨F, r, fr, g⟩ := h
  refine ⟨F, r, fr, g.bind.imp fun x r1 F1 H1 _ x1 fr1 g1 v1 rv1 => ⟨F1, r1, fr1, g1.bind.imp fun y r2 F2 H2 _ x2 fr2 g2 v2 rv2 => ?_⟩⟩
  obtain ⟨d, ld, g3⟩ := g2.look
  obtain ⟨e, le, g4⟩ := g3.look
  obtain ⟨w, hw, g5⟩ := g4.lift
  exact hs fr2 ((rv1.ext x2 fr1).look fr2 ld) (rv2.look fr2 le) hw fun F' H' z x3 fr3 rv3 => g5 F' H' x3 fr3 z (rv3.back (x1.trans x2))
theorem pev_op {op : Operator} {rr : R2} {m1 m2 : E} (ho : OpR X (binaryOp op) rr) (hs : OpS X.K X.mg rr (binOp op)) (ha : PE X a (tEv X.K X.mg W (evE c m1))) (hb : PE X b (tEv X.K X.mg W (evE c m2))) :
    PE X (.BinOp a op b pos) (tEv X.K X.mg W (evE c (.bin op m1 m2))) := pe_imp (pe_op ho ha hb) fun σ H Q h => two_ok hs h
theorem pev_bin {op : Operator} {m1 m2 : E} (ha : PE X a (tEv X.K X.mg W (evE c m1))) (hb : PE X b (tEv X.K X.mg W (evE c m2))) : PE X (.BinOp a op b pos) (tEv X.K X.mg W (evE c (.bin op m1 m2))) := by
  have no : ∀ {op : Operator}, (∀ d e, binOp op d e = none) → PE X (.BinOp a op b pos) (tEv X.K X.mg W (evE c (.bin op m1 m2))) := fun {op} hn =>
    pev_op (rr := fun _ _ _ _ => False) (fun _ _ _ _ _ _ _ _ _ _ _ _ z => z.elim) (fun {F H σ r d e v u w Q} fr h1 h2 h t => by rw [hn] at h; cases h) ha hb
  cases op with
  | Add => exact pev_op opr_add ops_add ha hb
  | Sub => exact pev_op op_sub ops_sub ha hb
  | Mult => exact pev_op opr_mul ops_mul ha hb
  | FloorDiv => exact pev_op op_fdiv ops_fdiv ha hb
  | Mod => exact pev_op op_mod ops_mod ha hb
  | Pow => exact pev_op op_pow ops_pow ha hb
  | _ => exact no fun d e => by cases d <;> cases e <;> rfl
/-- any comparison: the layer's reading and the data's -/
theorem cmp_rule (op : CmpOp) (hu : X.A.units + 65 < cLine) : ∃ rr : R2, OpR X (compareOp op) rr ∧ OpS X.K X.mg rr fun a b => asB (cmpOp op a b) := by
  cases op with
  | Eq => exact ⟨_, opr_eq (by omega), ops_eq⟩
  | NotEq => exact ⟨_, opr_ne (by omega), ops_ne⟩
  | Lt => exact ⟨_, opr_lt, ops_lt⟩
  | LtE => exact ⟨_, op_le, ops_le⟩
  | Gt => exact ⟨_, op_gt, ops_gt⟩
  | GtE => exact ⟨_, op_ge, ops_ge⟩
  | Is => exact ⟨_, opr_is, ops_is⟩
  | IsNot => exact ⟨_, opr_isNot, ops_isNot⟩
  | In => exact ⟨_, opr_in hu, ops_in⟩
  | NotIn => exact ⟨_, opr_notIn hu, ops_notIn⟩
theorem pev_cmp {op : CmpOp} {m1 m2 : E} (hu : X.A.units + 65 < cLine) (ha : PE X a (tEv X.K X.mg W (evE c m1))) (hb : PE X b (tEv X.K X.mg W (evE c m2))) (hm : behindInMarks op b = false) :
    PE X (.Compare a [op] [b] pos) (tEv X.K X.mg W (evE c (.cmp op m1 m2))) := by
  obtain ⟨rr, ho, hs⟩ := cmp_rule (X := X) op hu
  exact pe_imp (pe_cmpR ho ha hb hm) fun σ H Q h => two_ok hs h
theorem pev_idx {m1 m2 : E} (ha : PE X a (tEv X.K X.mg W (evE c m1))) (hb : PE X b (tEv X.K X.mg W (evE c m2))) (hs : PlainIx b) : PE X (.Subscript a b pos) (tEv X.K X.mg W (evE c (.idx m1 m2))) :=
  pe_imp (pe_ix ix_seq ha hb hs) fun σ H Q h => two_ok ops_idx h
theorem pev_neg {m : E} (ha : PE X a (tEv X.K X.mg W (evE c m))) : PE X (.UnaryOp .USub a pos) (tEv X.K X.mg W (evE c (.neg m))) := by
  refine pe_imp (pe_un un_neg ha) fun σ H Q ⟨F, r, fr, g⟩ => ⟨F, r, fr, ?_⟩
  have g : Goes X.K X.mg W F H σ r (M.bind (evE c m) (fun x => withLook x fun d => liftO ((negOp d).map RV.val)) r) _ := g
  refine g.bind.imp fun x r1 F1 H1 _ x1 fr1 g1 v1 rv1 => ?_
  obtain ⟨d, ld, g2⟩ := g1.look
  obtain ⟨w, hw, g3⟩ := g2.lift
  have q := rv1.look fr1 ld
  cases d <;> first
    | (simp [negOp] at hw; done)
    | skip
  cases hw
  exact ⟨_, rw_int q, g3.ok fr1 _ (.val (.int _))⟩
/-! ### truth -/
theorem pev_not {m : E} (ha : PE X a (tEv X.K X.mg W (evE c m))) : PE X (.UnaryOp .Not a pos) (tEv X.K X.mg W (evE c (.not m))) := by
  refine pe_imp (pe_notT ha) fun σ H Q ⟨F, r, fr, g⟩ => ⟨F, r, fr, ?_⟩
  have g : Goes X.K X.mg W F H σ r (M.bind (evE c m) (fun x => withLook x fun d => liftO ((truD d).map fun b => RV.val (.bl (!b)))) r) _ := g
  refine g.bind.imp fun x r1 F1 H1 _ x1 fr1 g1 v1 rv1 => ?_
  obtain ⟨d, ld, g2⟩ := g1.look
  obtain ⟨w, hw, g3⟩ := g2.lift
  cases hd : truD d with
  | none => rw [hd] at hw; cases hw
  | some b =>
    rw [hd] at hw
    cases hw
    exact ⟨b, tru_of (rv1.look fr1 ld) hd, g3.ok fr1 _ (.val (.bl _))⟩
theorem pev_and {m1 m2 : E} {rest : List Expr} (ha : PE X a (tEv X.K X.mg W (evE c m1))) (hb : PE X (.BoolOp .And (b :: rest) pos) (tEv X.K X.mg W (evE c m2))) :
    PE X (.BoolOp .And (a :: b :: rest) pos) (tEv X.K X.mg W (evE c (.and m1 m2))) := by
  refine pe_imp (pe_andT ha hb) fun σ H Q ⟨F, r, fr, g⟩ => ⟨F, r, fr, ?_⟩
  have g : Goes X.K X.mg W F H σ r (M.bind (evE c m1) (fun x => withLook x fun d => match truD d with
      | some true => evE c m2
      | some false => M.pure x
      | none => stuckM) r) _ := g
  refine g.bind.imp fun x r1 F1 H1 _ x1 fr1 g1 v1 rv1 => ?_
  obtain ⟨d, ld, g2⟩ := g1.look
  cases hd : truD d with
  | none => rw [hd] at g2; exact g2.elim
  | some k =>
    refine ⟨k, tru_of (rv1.look fr1 ld) hd, ?_⟩
    rw [hd] at g2
    cases k with
    | true =>
      rw [if_pos rfl]
      exact ⟨F1, r1, fr1, Goes.imp (R := evE c m2 r1) g2 fun w r2 F2 H2 _ x2 fr2 q v rv => q v (rv.back x1)⟩
    | false =>
      rw [if_neg Bool.false_ne_true]
      exact Goes.ok (r := r1) g2 fr1 v1 rv1
theorem pev_or {m1 m2 : E} {rest : List Expr} (ha : PE X a (tEv X.K X.mg W (evE c m1))) (hb : PE X (.BoolOp .Or (b :: rest) pos) (tEv X.K X.mg W (evE c m2))) :
    PE X (.BoolOp .Or (a :: b :: rest) pos) (tEv X.K X.mg W (evE c (.or m1 m2))) := by
  refine pe_imp (pe_orT ha hb) fun σ H Q ⟨F, r, fr, g⟩ => ⟨F, r, fr, ?_⟩
  have g : Goes X.K X.mg W F H σ r (M.bind (evE c m1) (fun x => withLook x fun d => match truD d with
      | some true => M.pure x
      | some false => evE c m2
      | none => stuckM) r) _ := g
  refine g.bind.imp fun x r1 F1 H1 _ x1 fr1 g1 v1 rv1 => ?_
  obtain ⟨d, ld, g2⟩ := g1.look
  cases hd : truD d with
  | none => rw [hd] at g2; exact g2.elim
  | some k =>
    refine ⟨k, tru_of (rv1.look fr1 ld) hd, ?_⟩
    rw [hd] at g2
    cases k with
    | false =>
      rw [if_neg Bool.false_ne_true]
      exact ⟨F1, r1, fr1, Goes.imp (R := evE c m2 r1) g2 fun w r2 F2 H2 _ x2 fr2 q v rv => q v (rv.back x1)⟩
    | true =>
      rw [if_pos rfl]
      exact Goes.ok (r := r1) g2 fr1 v1 rv1
/-! ### tests -/
/-- a value as a test -/
theorem evT_ok {m : E} {σ : L2.St} {H : Hp} {Q : Bool → Hp → Prop} (h : tEvT K mg W (evT c m) σ H Q) : tEv K mg W (evE c m) σ H fun v H' => ∃ k, TruV K v H' k ∧ Q k H' := by
  obtain ⟨F, r, fr, g⟩ := h
  have g : Goes K mg W F H σ r (M.bind (evE c m) (fun x => withLook x fun d => liftO (truD d)) r) _ := g
  refine ⟨F, r, fr, g.bind.imp fun x r1 F1 H1 _ x1 fr1 g1 v1 rv1 => ?_⟩
  obtain ⟨d, ld, g2⟩ := g1.look
  obtain ⟨w, hw, g3⟩ := g2.lift
  exact ⟨w, tru_of (rv1.look fr1 ld) hw, g3.ok fr1⟩
theorem pevt_val {m : E} (ha : PE X a (tEv X.K X.mg W (evE c m))) (he : ∀ whole, isTrue a X.env whole = (do let v ← whole; standAt a.pos; holding [v] (truthy v))) : PT X a (tEvT X.K X.mg W (evT c m)) :=
  pt_imp (pt_truth ha he) fun σ H Q h => evT_ok h
/-- a comparison gives a bool -/
theorem evT_bl {m1 m2 : M RV} {f : D → D → Option Bool} {m : E} (he : evE c m = M.bind m1 fun x => M.bind m2 fun y => withLook x fun d => withLook y fun e => liftO (asB (f d e))) {σ : L2.St} {H : Hp} {Q : Bool → Hp → Prop} (h : tEvT K mg W (evT c m) σ H Q) :
    tEv K mg W (evE c m) σ H fun v H' => ∃ k, v = .bl k ∧ Q k H' := by
  obtain ⟨F, r, fr, g⟩ := h
  have g : Goes K mg W F H σ r (M.bind (evE c m) (fun x => withLook x fun d => liftO (truD d)) r) _ := g
  refine ⟨F, r, fr, g.bind.imp fun x r1 F1 H1 hx x1 fr1 g1 v1 rv1 => ?_⟩
  have hb : ∃ b, x = .val (.bl b) := by
    rw [he] at hx
    unfold M.bind at hx
    cases h1 : m1 r with
    | stuck => rw [h1] at hx; cases hx
    | exc _ _ => rw [h1] at hx; cases hx
    | ok y ry =>
      rw [h1] at hx
      dsimp only at hx
      cases h2 : m2 ry with
      | stuck => rw [h2] at hx; cases hx
      | exc _ _ => rw [h2] at hx; cases hx
      | ok z rz =>
        rw [h2] at hx
        dsimp only [withLook] at hx
        cases h3 : look rz y with
        | none => rw [h3] at hx; cases hx
        | some d =>
          rw [h3] at hx
          dsimp only at hx
          cases h4 : look rz z with
          | none => rw [h4] at hx; cases hx
          | some e =>
            rw [h4] at hx
            dsimp only at hx
            cases h5 : f d e with
            | none => rw [h5] at hx; cases hx
            | some b => rw [h5] at hx; cases hx; exact ⟨b, rfl⟩
  obtain ⟨b, rfl⟩ := hb
  obtain ⟨d, ld, g2⟩ := g1.look
  cases ld
  obtain ⟨w, hw, g3⟩ := g2.lift
  cases hw
  exact ⟨b, rw_bl (rv1.look fr1 rfl), g3.ok fr1⟩
theorem pevt_cmp {op : CmpOp} {m1 m2 : E} (hu : X.A.units + 65 < cLine) (ha : PE X a (tEv X.K X.mg W (evE c m1))) (hb : PE X b (tEv X.K X.mg W (evE c m2))) (hm : behindInMarks op b = false) :
    PT X (.Compare a [op] [b] pos) (tEvT X.K X.mg W (evT c (.cmp op m1 m2))) := by
  obtain ⟨rr, ho, hs⟩ := cmp_rule (X := X) op hu
  refine pt_imp (pt_cmpR ho ha hb hm) fun σ H Q h => ?_
  have h2 : tEv X.K X.mg W (evE c (.cmp op m1 m2)) σ H fun v H' => ∃ k, v = .bl k ∧ Q k H' := evT_bl (f := cmpOp op) (m1 := evE c m1) (m2 := evE c m2) rfl h
  exact two_ok hs h2
theorem pevt_not {m : E} (ha : PT X a (tEvT X.K X.mg W (evT c m))) : PT X (.UnaryOp .Not a pos) (tEvT X.K X.mg W (evT c (.not m))) := by
  refine pt_imp (pt_not ha) fun σ H Q ⟨F, r, fr, g⟩ => ⟨F, r, fr, ?_⟩
  have g : Goes X.K X.mg W F H σ r (M.bind (M.bind (evE c m) (fun x => withLook x fun d => liftO ((truD d).map fun b => RV.val (.bl (!b))))) (fun x => withLook x fun d => liftO (truD d)) r) _ := g
  show Goes X.K X.mg W F H σ r (M.bind (evE c m) (fun x => withLook x fun d => liftO (truD d)) r) _
  unfold M.bind at g ⊢
  cases h1 : evE c m r with
  | stuck => rw [h1] at g; exact g
  | exc _ _ => rw [h1] at g; exact g
  | ok y ry =>
    rw [h1] at g
    dsimp only [withLook] at g ⊢
    cases h3 : look ry y with
    | none => rw [h3] at g; exact g
    | some d =>
      rw [h3] at g
      dsimp only at g ⊢
      cases h5 : truD d with
      | none => rw [h5] at g; exact g
      | some b => rw [h5] at g; exact g
theorem and_test {m1 m2 : E} {k : Bool → Env → (Addr → Prop) → Hp → Prop} (g : Goes K mg W F H σ r (evT c (.and m1 m2) r) k) :
    Goes K mg W F H σ r (evT c m1 r) fun b r1 F1 H1 => if b = true then Goes K mg W F1 H1 σ r1 (evT c m2 r1) k else k false r1 F1 H1 := by
  have g : Goes K mg W F H σ r (M.bind (M.bind (evE c m1) (fun x => withLook x fun d => match truD d with
      | some true => evE c m2
      | some false => M.pure x
      | none => stuckM)) (fun x => withLook x fun d => liftO (truD d)) r) k := g
  show Goes K mg W F H σ r (M.bind (evE c m1) (fun x => withLook x fun d => liftO (truD d)) r) _
  unfold M.bind at g ⊢
  cases h1 : evE c m1 r with
  | stuck => rw [h1] at g; exact g
  | exc _ _ => rw [h1] at g; exact g
  | ok y ry =>
    rw [h1] at g
    dsimp only [withLook] at g ⊢
    cases h3 : look ry y with
    | none => rw [h3] at g; exact g
    | some d =>
      rw [h3] at g
      dsimp only at g ⊢
      cases h5 : truD d with
      | none => rw [h5] at g; exact g
      | some b =>
        rw [h5] at g
        cases b with
        | true =>
          intro F1 H1 x1 fr1
          rw [if_pos rfl]
          exact Goes.from x1 (show Goes K mg W F H σ r (M.bind (evE c m2) (fun x => withLook x fun d => liftO (truD d)) ry) k from g)
        | false =>
          intro F1 H1 x1 fr1
          rw [if_neg Bool.false_ne_true]
          dsimp only [M.pure] at g
          rw [h3] at g
          dsimp only at g
          rw [h5] at g
          exact g F1 H1 x1 fr1
theorem or_test {m1 m2 : E} {k : Bool → Env → (Addr → Prop) → Hp → Prop} (g : Goes K mg W F H σ r (evT c (.or m1 m2) r) k) :
    Goes K mg W F H σ r (evT c m1 r) fun b r1 F1 H1 => if b = true then k true r1 F1 H1 else Goes K mg W F1 H1 σ r1 (evT c m2 r1) k := by
  have g : Goes K mg W F H σ r (M.bind (M.bind (evE c m1) (fun x => withLook x fun d => match truD d with
      | some true => M.pure x
      | some false => evE c m2
      | none => stuckM)) (fun x => withLook x fun d => liftO (truD d)) r) k := g
  show Goes K mg W F H σ r (M.bind (evE c m1) (fun x => withLook x fun d => liftO (truD d)) r) _
  unfold M.bind at g ⊢
  cases h1 : evE c m1 r with
  | stuck => rw [h1] at g; exact g
  | exc _ _ => rw [h1] at g; exact g
  | ok y ry =>
    rw [h1] at g
    dsimp only [withLook] at g ⊢
    cases h3 : look ry y with
    | none => rw [h3] at g; exact g
    | some d =>
      rw [h3] at g
      dsimp only at g ⊢
      cases h5 : truD d with
      | none => rw [h5] at g; exact g
      | some b =>
        rw [h5] at g
        cases b with
        | false =>
          intro F1 H1 x1 fr1
          rw [if_neg Bool.false_ne_true]
          exact Goes.from x1 (show Goes K mg W F H σ r (M.bind (evE c m2) (fun x => withLook x fun d => liftO (truD d)) ry) k from g)
        | true =>
          intro F1 H1 x1 fr1
          rw [if_pos rfl]
          dsimp only [M.pure] at g
          rw [h3] at g
          dsimp only at g
          rw [h5] at g
          exact g F1 H1 x1 fr1
theorem pw_imp {t t' : TT} (h : PW X e t) (i : ∀ σ H Q, t' σ H Q → t σ H Q) : PW X e t' := ⟨fun wh pins s σ H Q I hw => h.run wh pins s σ H Q I (i σ H Q hw)⟩
theorem pevw_and {m1 m2 : E} {rest : List Expr} (ha : PT X a (tEvT X.K X.mg W (evT c m1))) (hb : PW X (.BoolOp .And (b :: rest) pos) (tEvT X.K X.mg W (evT c m2))) : PW X (.BoolOp .And (a :: b :: rest) pos) (tEvT X.K X.mg W (evT c (.and m1 m2))) := by
  refine pw_imp (pw_and ha hb) fun σ H Q ⟨F, r, fr, g⟩ => ⟨F, r, fr, (and_test g).imp fun b r1 F1 H1 _ x1 fr1 q => ?_⟩
  cases b with
  | true => rw [if_pos rfl] at q ⊢; exact ⟨F1, r1, fr1, q⟩
  | false => rw [if_neg Bool.false_ne_true] at q ⊢; exact q
theorem pevw_or {m1 m2 : E} {rest : List Expr} (ha : PT X a (tEvT X.K X.mg W (evT c m1))) (hb : PW X (.BoolOp .Or (b :: rest) pos) (tEvT X.K X.mg W (evT c m2))) : PW X (.BoolOp .Or (a :: b :: rest) pos) (tEvT X.K X.mg W (evT c (.or m1 m2))) := by
  refine pw_imp (pw_or ha hb) fun σ H Q ⟨F, r, fr, g⟩ => ⟨F, r, fr, (or_test g).imp fun b r1 F1 H1 _ x1 fr1 q => ?_⟩
  cases b with
  | true => rw [if_pos rfl] at q ⊢; exact q
  | false => rw [if_neg Bool.false_ne_true] at q ⊢; exact ⟨F1, r1, fr1, q⟩
theorem pev_ite {m0 m1 m2 : E} {e0 : Expr} (h0 : PT X e0 (tEvT X.K X.mg W (evT c m0))) (ha : PE X a (tEv X.K X.mg W (evE c m1))) (hb : PE X b (tEv X.K X.mg W (evE c m2))) : PE X (.IfExp e0 a b pos) (tEv X.K X.mg W (evE c (.ite m0 m1 m2))) := by
  refine pe_imp (pe_ifExp h0 ha hb) fun σ H Q ⟨F, r, fr, g⟩ => ⟨F, r, fr, ?_⟩
  have g : Goes X.K X.mg W F H σ r (M.bind (evE c m0) (fun x => withLook x fun d => match truD d with
      | some true => evE c m1
      | some false => evE c m2
      | none => stuckM) r) _ := g
  show Goes X.K X.mg W F H σ r (M.bind (evE c m0) (fun x => withLook x fun d => liftO (truD d)) r) _
  unfold M.bind at g ⊢
  cases h1 : evE c m0 r with
  | stuck => rw [h1] at g; exact g
  | exc _ _ => rw [h1] at g; exact g
  | ok y ry =>
    rw [h1] at g
    dsimp only [withLook] at g ⊢
    cases h3 : look ry y with
    | none => rw [h3] at g; exact g
    | some d =>
      rw [h3] at g
      dsimp only at g ⊢
      cases h5 : truD d with
      | none => rw [h5] at g; exact g
      | some b =>
        rw [h5] at g
        intro F1 H1 x1 fr1
        cases b with
        | true =>
          rw [if_pos rfl]
          exact ⟨F1, ry, fr1, (Goes.from x1 (show Goes X.K X.mg W F H σ r (evE c m1 ry) _ from g)).imp fun w r2 F2 H2 _ x2 fr2 q v rv => q v (rv.back x1)⟩
        | false =>
          rw [if_neg Bool.false_ne_true]
          exact ⟨F1, ry, fr1, (Goes.from x1 (show Goes X.K X.mg W F H σ r (evE c m2 ry) _ from g)).imp fun w r2 F2 H2 _ x2 fr2 q v rv => q v (rv.back x1)⟩
end
end Ev

-- part Ev5c
set_option maxHeartbeats 1000000
/-! Ev5c: arguments, displays, built-ins, calls. -/
namespace Ev
open PySem PySem.Spec PyProof.Rows L2
section
variable {X : Cx} {W : WX} {c : CallT} {K : PySem.W.Frag} {mg : Str → Option Value} {F F' : Addr → Prop} {H H' H0 : Hp} {v u : V} {σ σ' : L2.St} {r r' : Env} {Q : VK} {e a b : Expr} {pos : Pos}
/-! ### several results -/
theorem RVRs.ext (x : Ext F H (Own σ r) F' H' (Own σ r')) (h : FR K mg F H σ r) : ∀ {ws : List RV} {vs : List V}, RVRs K mg H0 F H σ r ws vs → RVRs K mg H0 F' H' σ r' ws vs
  | _, _, .nil => .nil
  | _, _, .cons q qs d => .cons (q.ext x h) (RVRs.ext x h qs) d
theorem RVRs.base {H1 : Hp} (b : ∀ a, H0 a = none → H1 a = none) : ∀ {ws : List RV} {vs : List V}, RVRs K mg H0 F H σ r ws vs → RVRs K mg H1 F H σ r ws vs
  | _, _, .nil => .nil
  | _, _, .cons q qs d => .cons (q.base b) (RVRs.base b qs) d
theorem RVRs.length : ∀ {ws : List RV} {vs : List V}, RVRs K mg H0 F H σ r ws vs → ws.length = vs.length
  | _, _, .nil => rfl
  | _, _, .cons _ qs _ => by simp [RVRs.length qs]
theorem RVRs.get : ∀ {ws : List RV} {vs : List V} {j : Nat} {w : RV} {v : V}, RVRs K mg H0 F H σ r ws vs → ws[j]? = some w → vs[j]? = some v → RVR K mg H0 F H σ r w v
  | _, _, _, _, _, .nil, e, _ => by simp at e
  | _, _, 0, _, _, .cons q _ _, e1, e2 => by simp at e1 e2; subst e1; subst e2; exact q
  | _, _, j + 1, w, v, .cons _ qs _, e1, e2 => RVRs.get (j := j) qs (by simpa using e1) (by simpa using e2)
inductive RWs (K : PySem.W.Frag) (mg : Str → Option Value) (F : Addr → Prop) (H : Hp) : List D → List V → Prop
  | nil : RWs K mg F H [] []
  | cons {d : D} {ds : List D} {v : V} {vs : List V} : RW K mg F H d v → RWs K mg F H ds vs → RWs K mg F H (d :: ds) (v :: vs)
theorem RVRs.looks (h : FR K mg F H σ r) : ∀ {ws : List RV} {vs : List V} {ds : List D}, RVRs K mg H0 F H σ r ws vs → looks r ws = some ds → RWs K mg F H ds vs
  | _, _, _, .nil, e => by cases e; exact .nil
  | _, _, _, .cons q qs _, e => by
    rename_i w ws v vs _
    have e : (match look r w, Ev.looks r ws with
      | some d, some ds => some (d :: ds)
      | _, _ => none) = some _ := e
    cases h1 : look r w with
    | none => rw [h1] at e; cases e
    | some d =>
      cases h2 : Ev.looks r ws with
      | none => rw [h1, h2] at e; cases e
      | some ds =>
        rw [h1, h2] at e
        cases e
        exact .cons (q.look h h1) (RVRs.looks h qs h2)
theorem Goes.looks {α : Type} {vs : List RV} {f : List D → M α} {k : α → Env → (Addr → Prop) → Hp → Prop} (h : Goes K mg W F H σ r (withLooks vs f r) k) : ∃ ds, Ev.looks r vs = some ds ∧ Goes K mg W F H σ r (f ds r) k := by
  unfold withLooks at h
  cases e : Ev.looks r vs with
  | none => rw [e] at h; exact h.elim
  | some d => rw [e] at h; exact ⟨d, rfl, h⟩
theorem pev_nil : PA X [] (tEvA X.K X.mg W (evEs c [])) := pa_imp pa_nil fun σ H Q ⟨F, r, fr, g⟩ => Goes.ok (r := r) g fr [] .nil
theorem pev_cons {m : E} {ms : List E} {es : List Expr} (h1 : PE X e (tEv X.K X.mg W (evE c m))) (h2 : PA X es (tEvA X.K X.mg W (evEs c ms))) (hs : starEach (e :: es) X.env = (false, eval e X.env) :: starEach es X.env) :
    PA X (e :: es) (tEvA X.K X.mg W (evEs c (m :: ms))) := by
  refine pa_imp (pa_cons h1 h2 hs) fun σ H Q ⟨F, r, fr, g⟩ => ?_
  have g : Goes X.K X.mg W F H σ r (M.bind (evE c m) (fun v => M.bind (evEs c ms) fun vs => M.pure (v :: vs)) r) _ := g
  refine ⟨F, r, fr, g.bind.imp fun w r1 F1 H1 _ x1 fr1 g1 v rv => ⟨F1, r1, fr1, g1.bind.imp fun ws r2 F2 H2 _ x2 fr2 g2 vs rvs => ?_⟩⟩
  refine Goes.ok (r := r2) g2 fr2 _ (.cons (rv.ext x2 fr1) (rvs.base fun a e => x1.there a e) fun xs j ys a e1 e2 e3 e4 => ?_)
  subst e1 e3
  have q := rvs.get e2 e4
  cases q with
  | own _ _ _ _ f =>
    cases rv with
    | own g _ _ _ _ => rw [f] at g; cases g
theorem evEs_length : ∀ {ms : List E} {r r' : Env} {ws : List RV}, evEs c ms r = .ok ws r' → ws.length = ms.length
  | [], _, _, _, h => by
    have h : Res.ok [] _ = Res.ok _ _ := h
    cases h; rfl
  | m :: ms, r, r', ws, h => by
    have h : M.bind (evE c m) (fun v => M.bind (evEs c ms) fun vs => M.pure (v :: vs)) r = .ok ws r' := h
    unfold M.bind at h
    cases h1 : evE c m r with
    | stuck => rw [h1] at h; cases h
    | exc _ _ => rw [h1] at h; cases h
    | ok w r1 =>
      rw [h1] at h
      dsimp only at h
      cases h2 : evEs c ms r1 with
      | stuck => rw [h2] at h; cases h
      | exc _ _ => rw [h2] at h; cases h
      | ok us r2 =>
        rw [h2] at h
        cases h
        simp [evEs_length h2]
/-! ### sharing -/
theorem toD_noexc {w : RV} {x : Exc} {r' : Env} (h : toD w r = .exc x r') : False := by
  cases w with
  | val d => cases h
  | own xs => cases h
  | bor i =>
    have h : (match r[i]? with
      | some (.box xs) => Res.ok (D.lst xs) (r.set i (.val (.lst xs)))
      | some (.val d) => Res.ok d r
      | _ => .stuck) = Res.exc x r' := h
    split at h <;> cases h
theorem toDs_noexc : ∀ {ws : List RV} {x : Exc} {r r' : Env}, toDs ws r = .exc x r' → False
  | [], _, _, _, h => by cases h
  | w :: ws, x, r, r', h => by
    have h : M.bind (toD w) (fun d => M.bind (toDs ws) fun ds => M.pure (d :: ds)) r = .exc x r' := h
    unfold M.bind at h
    cases h1 : toD w r with
    | stuck => rw [h1] at h; cases h
    | exc _ _ => exact toD_noexc h1
    | ok d r1 =>
      rw [h1] at h
      dsimp only at h
      cases h2 : toDs ws r1 with
      | stuck => rw [h2] at h; cases h
      | exc _ _ => exact toDs_noexc h2
      | ok es r2 => rw [h2] at h; cases h
/-- what is newly shared: a slot's list, or a temporary one -/
def NewF (σ : L2.St) (r : Env) (ws : List RV) (vs : List V) (x : Addr) : Prop := ∃ (j : Nat) (w : RV), ws[j]? = some w ∧ vs[j]? = some (.ref x) ∧ (Own σ r x ∨ ∃ xs, w = .own xs)
theorem toD_ok {w : RV} (fr : FR K mg F H σ r) (q : RVR K mg H0 F H σ r w v) {d : D} (h : toD w r = .ok d r') :
    ∃ F' : Addr → Prop, (∀ x, F x → F' x) ∧ (∀ x, F' x → F x ∨ (v = .ref x ∧ (Own σ r x ∨ ∃ xs, w = .own xs))) ∧ (∀ x, Own σ r' x → Own σ r x) ∧ FR K mg F' H σ r' ∧ DR K mg F' H d v ∧ (∀ (i : Nat) xs, r'[i]? = some (Slot.box xs) → r[i]? = some (Slot.box xs)) := by
  cases w with
  | val d' =>
    have h : Res.ok d' r = Res.ok d r' := h
    cases h
    cases q with
    | val q => exact ⟨F, fun _ f => f, fun _ f => .inl f, fun _ o => o, fr, q, fun _ _ e => e⟩
  | own xs =>
    have h : Res.ok (D.lst xs) r = Res.ok d r' := h
    cases h
    cases q with
    | own e q nf no f =>
      rename_i a vs
      refine ⟨Fp F a, fun _ f => .inl f, fun x f => ?_, fun _ o => o, fr.shareT (by rw [e]; exact fun z => nomatch z) no, .lst (.inr rfl) e (q.mono (fun _ f => .inl f) fun _ _ _ e => e), fun _ _ e => e⟩
      rcases f with f | f
      · exact .inl f
      · subst f; exact .inr ⟨rfl, .inr ⟨xs, rfl⟩⟩
  | bor i =>
    have h : (match r[i]? with
      | some (.box xs) => Res.ok (D.lst xs) (r.set i (.val (.lst xs)))
      | some (.val d) => Res.ok d r
      | _ => .stuck) = Res.ok d r' := h
    cases q with
    | bor e =>
      cases hs : r[i]? with
      | none => rw [hs] at h; cases h
      | some s =>
        rw [hs] at h
        cases s with
        | no => cases h
        | val d' =>
          cases h
          obtain ⟨v', q1, q2⟩ := fr.val i _ hs
          rw [e] at q1; cases q1
          exact ⟨F, fun _ f => f, fun _ f => .inl f, fun _ o => o, fr, q2, fun _ _ e => e⟩
        | box xs =>
          cases h
          obtain ⟨a, vs, q1, q2, q3, q4⟩ := fr.box i _ hs
          rw [e] at q1; cases q1
          refine ⟨Fp F a, fun _ f => .inl f, fun x f => ?_, fun _ o => Own.share (by intro xs; simp) o, fr.share hs e, .lst (.inr rfl) q2 (q3.mono (fun _ f => .inl f) fun _ _ _ e => e), fun j ys ej => ?_⟩
          · rcases f with f | f
            · exact .inl f
            · subst f; exact .inr ⟨rfl, .inl ⟨i, xs, hs, e⟩⟩
          · rcases get_set ej with ⟨_, z⟩ | ⟨_, z⟩
            · cases z
            · exact z
/-- the others stay -/
theorem RVRs.shared {ws : List RV} {vs : List V} {F2 : Addr → Prop} {r2 : Env} (hf : ∀ x, F x → F2 x) (hn : ∀ (x : Addr) (j : Nat) ys, F2 x → ¬ F x → ws[j]? = some (.own ys) → vs[j]? = some (.ref x) → False)
    (ho : ∀ x, Own σ r2 x → Own σ r x) (q : RVRs K mg H0 F H σ r ws vs) : RVRs K mg H0 F2 H σ r2 ws vs := by
  induction q with
  | nil => exact .nil
  | cons q qs d ih =>
    refine .cons ?_ (ih fun x j ys f nf e1 e2 => hn x (j + 1) ys f nf (by simpa using e1) (by simpa using e2)) d
    cases q with
    | val q => exact .val (q.mono hf fun _ _ _ e => e)
    | bor e => exact .bor e
    | own e q nf no f => exact .own e (q.mono hf fun _ _ _ e => e) (fun z => hn _ 0 _ z nf rfl rfl) (fun z => no (ho _ z)) f
theorem toDs_ok : ∀ {ws : List RV} {vs : List V} {F : Addr → Prop} {r r' : Env} {ds : List D}, FR K mg F H σ r → RVRs K mg H0 F H σ r ws vs → toDs ws r = .ok ds r' →
    ∃ F' : Addr → Prop, (∀ x, F x → F' x) ∧ (∀ x, F' x → F x ∨ NewF σ r ws vs x) ∧ (∀ x, Own σ r' x → Own σ r x) ∧ FR K mg F' H σ r' ∧ DRs K mg F' H ds vs
  | [], _, F, r, r', ds, fr, .nil, h => by
    have h : Res.ok [] r = Res.ok ds r' := h
    cases h
    exact ⟨F, fun _ f => f, fun _ f => .inl f, fun _ o => o, fr, .nil⟩
  | w :: ws, _, F, r, r', ds, fr, .cons (v := v) (vs := vs) q qs dj, h => by
    have h : M.bind (toD w) (fun d => M.bind (toDs ws) fun ds => M.pure (d :: ds)) r = .ok ds r' := h
    unfold M.bind at h
    cases h1 : toD w r with
    | stuck => rw [h1] at h; cases h
    | exc _ _ => rw [h1] at h; cases h
    | ok d r1 =>
      rw [h1] at h
      dsimp only at h
      cases h2 : toDs ws r1 with
      | stuck => rw [h2] at h; cases h
      | exc _ _ => rw [h2] at h; cases h
      | ok es r2 =>
        rw [h2] at h
        cases h
        obtain ⟨F1, f1, n1, o1, fr1, d1, _⟩ := toD_ok fr q h1
        have qs1 : RVRs K mg H0 F1 H σ r1 ws vs := qs.shared f1 (fun x j ys f nf e1 e2 => by
          rcases n1 x f with z | ⟨z1, z2⟩
          · exact nf z
          · rcases z2 with z2 | ⟨xs, z2⟩
            · have q' := qs.get e1 e2
              cases q' with
              | own _ _ _ no _ => exact no z2
            · exact dj xs j ys x z2 e1 z1 e2) o1
        obtain ⟨F2, f2, n2, o2, fr2, d2⟩ := toDs_ok fr1 qs1 h2
        refine ⟨F2, fun x f => f2 x (f1 x f), fun x f => ?_, fun x o => o1 x (o2 x o), fr2, .cons (d1.mono f2 fun _ _ _ e => e) d2⟩
        rcases n2 x f with f | ⟨j, w', e1, e2, e3⟩
        · rcases n1 x f with f | ⟨z1, z2⟩
          · exact .inl f
          · exact .inr ⟨0, w, rfl, by rw [z1]; rfl, z2⟩
        · refine .inr ⟨j + 1, w', by simpa using e1, by simpa using e2, ?_⟩
          rcases e3 with e3 | e3
          · exact .inl (o1 x e3)
          · exact .inr e3
/-- from the start of the expression -/
theorem Ext.shared {F0 F1 : Addr → Prop} {H1 : Hp} {O0 : Addr → Prop} {ws : List RV} {vs : List V} (x : Ext F0 H0 O0 F H (Own σ r)) (rvs : RVRs K mg H0 F H σ r ws vs) (hf : ∀ x, F x → F' x) (hn : ∀ x, F' x → F x ∨ NewF σ r ws vs x) (ho : ∀ x, Own σ r' x → Own σ r x) :
    Ext F0 H0 O0 F' H (Own σ r') where
  keep := x.keep
  fz := fun a f => hf a (x.fz a f)
  fnew := fun a f => by
    rcases hn a f with f | ⟨j, w, e1, e2, e3⟩
    · exact x.fnew a f
    · rcases e3 with e3 | ⟨xs, rfl⟩
      · exact .inr (x.onew a e3)
      · have q := rvs.get e1 e2
        cases q with
        | own _ _ _ _ f => exact .inr (.inr f)
  onew := fun a o => x.onew a (ho a o)
  there := x.there
theorem Goes.ok0 {α : Type} {a : α} {k : α → Env → (Addr → Prop) → Hp → Prop} {F1 : Addr → Prop} {H1 : Hp} (g : Goes K mg W F H σ r (.ok a r') k) (x : Ext F H (Own σ r) F1 H1 (Own σ r')) (fr : FR K mg F1 H1 σ r') : k a r' F1 H1 := g F1 H1 x fr
/-! ### displays -/
theorem pev_tup {ms : List E} {es : List Expr} {j : Nat} (h : PA X es (tEvA X.K X.mg W (evEs c ms))) (hl : ms.length ≤ 1000) : PE X (.Tuple es j pos) (tEv X.K X.mg W (evE c (.tup ms))) := by
  refine pe_imp (pe_tup h) fun σ H Q ⟨F, r, fr, g⟩ => ?_
  have g : Goes X.K X.mg W F H σ r (M.bind (evEs c ms) (fun vs => M.bind (toDs vs) fun ds => M.pure (RV.val (.tup ds))) r) _ := g
  refine ⟨F, r, fr, g.bind0.imp fun ws r1 F1 H1 hw x1 fr1 g1 vs rvs => ?_⟩
  unfold M.bind at g1
  cases h1 : toDs ws r1 with
  | stuck => rw [h1] at g1; exact g1.elim
  | exc _ _ =>
    exfalso
    exact toDs_noexc h1
  | ok ds r2 =>
    rw [h1] at g1
    obtain ⟨F2, f2, n2, o2, fr2, d2⟩ := toDs_ok fr1 rvs h1
    have x2 := Ext.shared (F1 := F1) (H1 := H1) x1 rvs f2 n2 o2
    refine ⟨?_, fun p hp => ?_⟩
    · rw [← rvs.length, evEs_length hw, sizeLine_eq]; omega
    · have g1 : Goes X.K X.mg W F H σ r (.ok (RV.val (.tup ds)) r2) _ := g1
      refine g1.ok0 (x2.trans (Ext.alloc hp (fun _ f => .inl f) fun _ f => f)) (fr2.alloc hp (fun _ f => .inl f) fun _ f => f) (.ref p) (.val (.tup (.inr rfl) (.inl upd_same) (d2.mono (fun _ f => .inl f) fun a o _ e => upd_new hp e)))
theorem pev_lst {ms : List E} {es : List Expr} (h : PA X es (tEvA X.K X.mg W (evEs c ms))) (hl : ms.length ≤ 1000) : PE X (.List es pos) (tEv X.K X.mg W (evE c (.lst ms))) := by
  refine pe_imp (pe_lst h) fun σ H Q ⟨F, r, fr, g⟩ => ?_
  have g : Goes X.K X.mg W F H σ r (M.bind (evEs c ms) (fun vs => M.bind (toDs vs) fun ds => M.pure (RV.own ds)) r) _ := g
  refine ⟨F, r, fr, g.bind0.imp fun ws r1 F1 H1 hw x1 fr1 g1 vs rvs => ?_⟩
  unfold M.bind at g1
  cases h1 : toDs ws r1 with
  | stuck => rw [h1] at g1; exact g1.elim
  | exc _ _ =>
    exfalso
    exact toDs_noexc h1
  | ok ds r2 =>
    rw [h1] at g1
    obtain ⟨F2, f2, n2, o2, fr2, d2⟩ := toDs_ok fr1 rvs h1
    have x2 := Ext.shared (F1 := F1) (H1 := H1) x1 rvs f2 n2 o2
    refine ⟨?_, fun p hp => ?_⟩
    · rw [← rvs.length, evEs_length hw, sizeLine_eq]; omega
    · have g1 : Goes X.K X.mg W F H σ r (.ok (RV.own ds) r2) _ := g1
      refine g1.ok0 (x2.trans (Ext.alloc hp (fun _ f => f) fun _ f => .inl f)) (fr2.alloc hp (fun _ f => f) fun _ f => .inl f) (.ref p) (.own upd_same (d2.mono (fun _ f => f) fun a o _ e => upd_new hp e) (fun z => fr2.ftr p z hp) (fun z => fr2.ownH z hp) (x2.there p hp))
/-! ### starred items -/
def tEvD (K : PySem.W.Frag) (mg : Str → Option Value) (W : WX) (m : M (List D)) : TA := fun σ H Q => ∃ F r, FR K mg F H σ r ∧ Goes K mg W F H σ r (m r) fun ds r' F' H' => ∀ vs, DRs K mg F' H' ds vs → Q vs H'
theorem Ext.shared1 {F0 F1 F2 : Addr → Prop} {H0 H1 : Hp} {O0 : Addr → Prop} {r1 r2 : Env} {w : RV} {v : V} (x : Ext F0 H0 O0 F1 H1 (Own σ r1)) (rv : RVR K mg H0 F1 H1 σ r1 w v) (hf : ∀ x, F1 x → F2 x) (hn : ∀ x, F2 x → F1 x ∨ (v = .ref x ∧ (Own σ r1 x ∨ ∃ xs, w = .own xs))) (ho : ∀ x, Own σ r2 x → Own σ r1 x) : Ext F0 H0 O0 F2 H1 (Own σ r2) where
  keep := x.keep
  fz := fun a f => hf a (x.fz a f)
  fnew := fun a f => by
    rcases hn a f with f | ⟨e1, e2⟩
    · exact x.fnew a f
    · rcases e2 with e2 | ⟨xs, rfl⟩
      · exact .inr (x.onew a e2)
      · subst e1
        cases rv with
        | own _ _ _ _ f => exact .inr (.inr f)
  onew := fun a o => x.onew a (ho a o)
  there := x.there
theorem evDs_cons {m : E} {ms : List E} {fl : List Bool} : evDs c fl (m :: ms) = M.bind (evE c m) fun v => M.bind (toD v) fun d => match starD (fl.headD false) d with
    | some xs => M.bind (evDs c fl.tail ms) fun ds => M.pure (xs ++ ds)
    | none => stuckM := by
  rw [evDs]
  rfl
theorem pevD_nil {fl : List Bool} : PA X [] (tEvD X.K X.mg W (evDs c fl [])) := pa_imp pa_nil fun σ H Q ⟨F, r, fr, g⟩ => by
  rw [evDs] at g
  exact Goes.ok (r := r) g fr [] .nil
/-- what is known behind the first item -/
theorem dS_step {m : E} {ms : List E} {fl : List Bool} {σ : L2.St} {H : Hp} {Q : List V → Hp → Prop} (h : tEvD X.K X.mg W (evDs c fl (m :: ms)) σ H Q) : tEv X.K X.mg W (evE c m) σ H fun v H1 => ∃ F1 d xs, DR X.K X.mg F1 H1 d v ∧ starD (fl.headD false) d = some xs ∧
    (∀ us, DRs X.K X.mg F1 H1 xs us → tEvD X.K X.mg W (evDs c fl.tail ms) σ H1 fun vs H2 => Q (us ++ vs) H2) := by
  obtain ⟨F, r, fr, g⟩ := h
  rw [evDs_cons] at g
  refine ⟨F, r, fr, g.bind0.imp fun w r1 F1 H1 _ x1 fr1 g1 v rv => ?_⟩
  unfold M.bind at g1
  cases h1 : toD w r1 with
  | stuck => rw [h1] at g1; exact g1.elim
  | exc _ _ => exact (toD_noexc h1).elim
  | ok d r2 =>
    rw [h1] at g1
    dsimp only at g1
    obtain ⟨F2, f2, n2, o2, fr2, d2, _⟩ := toD_ok fr1 rv h1
    have x2 := Ext.shared1 x1 rv f2 n2 o2
    cases hs : starD (fl.headD false) d with
    | none => rw [hs] at g1; exact g1.elim
    | some xs =>
      rw [hs] at g1
      refine ⟨F2, d, xs, d2, hs, fun us hu => ⟨F2, r2, fr2, ?_⟩⟩
      have g2 : Goes X.K X.mg W F2 H1 σ r2 (M.bind (evDs c fl.tail ms) (fun ds => M.pure (xs ++ ds)) r2) _ := Goes.from x2 g1
      refine g2.bind.imp fun ds r3 F3 H3 _ x3 fr3 g3 vs hv => ?_
      exact Goes.ok (r := r3) g3 fr3 _ ((x3.drs fr2 hu).append hv)
theorem pevD_cons {m : E} {ms : List E} {es : List Expr} {fl : List Bool} (hf : fl.headD false = false) (h1 : PE X e (tEv X.K X.mg W (evE c m))) (h2 : PA X es (tEvD X.K X.mg W (evDs c fl.tail ms))) (hs : starEach (e :: es) X.env = (false, eval e X.env) :: starEach es X.env) :
    PA X (e :: es) (tEvD X.K X.mg W (evDs c fl (m :: ms))) := by
  refine pa_imp (pa_cons h1 h2 hs) fun σ H Q h => ?_
  obtain ⟨F, r, fr, g⟩ := dS_step h
  refine ⟨F, r, fr, g.imp fun w r1 F1 H1 _ x1 fr1 g1 v rv => ?_⟩
  obtain ⟨F2, d, xs, d2, hd, q⟩ := g1 v rv
  rw [hf] at hd
  cases hd
  exact q [v] (.cons d2 .nil)
theorem pevD_star {m : E} {ms : List E} {es : List Expr} {fl : List Bool} {p : Pos} (hf : fl.headD false = true) (h1 : PE X e (tEv X.K X.mg W (evE c m))) (h2 : PA X es (tEvD X.K X.mg W (evDs c fl.tail ms))) :
    PA X (.Starred e p :: es) (tEvD X.K X.mg W (evDs c fl (m :: ms))) := by
  refine pa_imp (StX.pa_star h1 h2) fun σ H Q h => ?_
  obtain ⟨F, r, fr, g⟩ := dS_step h
  refine ⟨F, r, fr, g.imp fun w r1 F1 H1 _ x1 fr1 g1 v rv => ?_⟩
  obtain ⟨F2, d, xs, d2, hd, q⟩ := g1 v rv
  rw [hf] at hd
  have hd : seqD d = some xs := hd
  cases d with
  | tup ys =>
    cases hd
    cases d2 with
    | tup f e q2 => exact ⟨_, _, rfl, .inl (.inl e), q _ q2⟩
    | tupK e q2 => exact ⟨_, _, rfl, .inl (.inr e), q _ q2⟩
  | lst ys =>
    cases hd
    cases d2 with
    | lst f e q2 => exact ⟨_, _, rfl, .inr (.inl (.inl e)), q _ q2⟩
  | _ => cases hd
theorem pev_tupS {ms : List E} {es : List Expr} {j : Nat} {fl : List Bool} (h : PA X es (tEvD X.K X.mg W (evDs c fl ms))) : PE X (.Tuple es j pos) (tEv X.K X.mg W (evE c (.tupS fl ms))) := by
  refine pe_imp (pe_tup h) fun σ H Q ⟨F, r, fr, g⟩ => ?_
  have e : evE c (.tupS fl ms) = M.bind (evDs c fl ms) fun ds => if ds.length ≤ sizeLine then M.pure (RV.val (.tup ds)) else stuckM := by
    rw [evE]
    rfl
  rw [e] at g
  refine ⟨F, r, fr, g.bind0.imp fun ds r1 F1 H1 hw x1 fr1 g1 vs hv => ?_⟩
  split at g1
  · rename_i hl
    refine ⟨by rw [← hv.length]; exact hl, fun p hp => ?_⟩
    have g1 : Goes X.K X.mg W F H σ r (.ok (RV.val (.tup ds)) r1) _ := g1
    exact g1.ok0 (x1.trans (Ext.alloc hp (fun _ f => .inl f) fun _ f => f)) (fr1.alloc hp (fun _ f => .inl f) fun _ f => f) (.ref p) (.val (.tup (.inr rfl) (.inl upd_same) (hv.mono (fun _ f => .inl f) fun a o _ e => upd_new hp e)))
  · exact g1.elim
theorem pev_lstS {ms : List E} {es : List Expr} {fl : List Bool} (h : PA X es (tEvD X.K X.mg W (evDs c fl ms))) : PE X (.List es pos) (tEv X.K X.mg W (evE c (.lstS fl ms))) := by
  refine pe_imp (pe_lst h) fun σ H Q ⟨F, r, fr, g⟩ => ?_
  have e : evE c (.lstS fl ms) = M.bind (evDs c fl ms) fun ds => if ds.length ≤ sizeLine then M.pure (RV.own ds) else stuckM := by
    rw [evE]
    rfl
  rw [e] at g
  refine ⟨F, r, fr, g.bind0.imp fun ds r1 F1 H1 hw x1 fr1 g1 vs hv => ?_⟩
  split at g1
  · rename_i hl
    refine ⟨by rw [← hv.length]; exact hl, fun p hp => ?_⟩
    have g1 : Goes X.K X.mg W F H σ r (.ok (RV.own ds) r1) _ := g1
    exact g1.ok0 (x1.trans (Ext.alloc hp (fun _ f => f) fun _ f => .inl f)) (fr1.alloc hp (fun _ f => f) fun _ f => .inl f) (.ref p) (.own upd_same (hv.mono (fun _ f => f) fun a o _ e => upd_new hp e) (fun z => fr1.ftr p z hp) (fun z => fr1.ownH z hp) (x1.there p hp))
  · exact g1.elim
end
end Ev

-- part Ev5d
set_option maxHeartbeats 1000000
/-! Ev5d: calls of the text's own defs. -/
namespace Ev
open PySem PySem.Spec PyProof.Rows L2
/-- of what is handed back only the lent places count -/
def maskS : List Bool → List Slot → List Slot
  | true :: bs, o :: os => o :: maskS bs os
  | false :: bs, _ :: os => .no :: maskS bs os
  | [], _ => []
  | _, [] => []
/-- an argument's slot as its flag says -/
def flagOk : List Bool → List Slot → Bool
  | [], [] => true
  | true :: bs, .box _ :: os => flagOk bs os
  | false :: bs, .val _ :: os => flagOk bs os
  | _, _ => false
section
variable (K : PySem.W.Frag) (mg : Str → Option Value)
/-- a def's promise: what the evaluator gives -/
def spEv (c : CallT) (f : Str) (fl : List Bool) : Sp := fun vs H Q E => ∃ F args, FR K mg F H (vs.map some) args ∧ flagOk fl args = true ∧ (match c f args with
  | .ret rv outs => outs.length = args.length ∧ ∀ F' H' v, Ext F H (Own (vs.map some) args) F' H' (Own (vs.map some) (maskS fl outs)) → FR K mg F' H' (vs.map some) (maskS fl outs) → RVR K mg H F' H' (vs.map some) (maskS fl outs) rv v → (∀ i, rv ≠ .bor i) → Q v H'
  | .exc x => ∀ F' H' cls d, Ext F H (Own (vs.map some) args) F' H' (fun _ => False) → (∀ a, F' a → H' a ≠ none) → ExcR K mg F' H' x cls d → E cls d H'
  | .stuck => False)
end
section
variable {X : Cx} {W : WX} {c : CallT} {K : PySem.W.Frag} {mg : Str → Option Value} {F F' : Addr → Prop} {H H' H0 : Hp} {v u : V} {σ σ' : L2.St} {r r' : Env} {Q : VK} {e a b : Expr} {pos : Pos}
/-- how arguments lie behind passArgs -/
inductive PassR (K : PySem.W.Frag) (mg : Str → Option Value) (H0 : Hp) (F : Addr → Prop) (H : Hp) (σ : L2.St) (r : Env) : List Bool → List RV → List V → List Slot → Prop
  | nil : PassR K mg H0 F H σ r [] [] [] []
  | own {fl : List Bool} {ws : List RV} {vs : List V} {ss : List Slot} {xs : List D} {a : Addr} {us : List V} : H a = some (.lst us) → DRs K mg F H xs us → ¬ F a → ¬ Own σ r a → H0 a = none →
      (∀ (j : Nat) ys, ws[j]? = some (.own ys) → vs[j]? = some (.ref a) → False) → PassR K mg H0 F H σ r fl ws vs ss → PassR K mg H0 F H σ r (true :: fl) (.own xs :: ws) (.ref a :: vs) (.box xs :: ss)
  | bor {fl : List Bool} {ws : List RV} {vs : List V} {ss : List Slot} {xs : List D} {i : Nat} {v : V} : σ[i]? = some (some v) → r[i]? = some (.box xs) → PassR K mg H0 F H σ r fl ws vs ss → PassR K mg H0 F H σ r (true :: fl) (.bor i :: ws) (v :: vs) (.box xs :: ss)
  | val {fl : List Bool} {w : RV} {ws : List RV} {v : V} {vs : List V} {d : D} {ss : List Slot} : DR K mg F H d v → PassR K mg H0 F H σ r fl ws vs ss → PassR K mg H0 F H σ r (false :: fl) (w :: ws) (v :: vs) (.val d :: ss)
theorem passArgs_noexc : ∀ {fl : List Bool} {ws : List RV} {x : Exc} {r r' : Env}, passArgs fl ws r = .exc x r' → False
  | [], [], _, _, _, h => by cases h
  | [], _ :: _, _, _, _, h => by cases h
  | true :: fl, [], _, _, _, h => by cases h
  | false :: fl, [], _, _, _, h => by cases h
  | true :: fl, .val _ :: ws, _, _, _, h => by cases h
  | true :: fl, .own xs :: ws, x, r, r', h => by
    have h : M.bind (passArgs fl ws) (fun ss => M.pure (Slot.box xs :: ss)) r = .exc x r' := h
    unfold M.bind at h
    cases h2 : passArgs fl ws r with
    | stuck => rw [h2] at h; cases h
    | exc _ _ => exact passArgs_noexc h2
    | ok es r2 => rw [h2] at h; cases h
  | true :: fl, .bor i :: ws, x, r, r', h => by
    have h : (match r[i]? with
      | some (.box xs) => M.bind (passArgs fl ws) (fun ss => M.pure (Slot.box xs :: ss)) r
      | _ => .stuck) = .exc x r' := h
    split at h
    · unfold M.bind at h
      cases h2 : passArgs fl ws r with
      | stuck => rw [h2] at h; cases h
      | exc _ _ => exact passArgs_noexc h2
      | ok es r2 => rw [h2] at h; cases h
    · cases h
  | false :: fl, w :: ws, x, r, r', h => by
    have h : M.bind (toD w) (fun d => M.bind (passArgs fl ws) fun ss => M.pure (Slot.val d :: ss)) r = .exc x r' := h
    unfold M.bind at h
    cases h1 : toD w r with
    | stuck => rw [h1] at h; cases h
    | exc _ _ => exact toD_noexc h1
    | ok d r1 =>
      rw [h1] at h
      dsimp only at h
      cases h2 : passArgs fl ws r1 with
      | stuck => rw [h2] at h; cases h
      | exc _ _ => exact passArgs_noexc h2
      | ok es r2 => rw [h2] at h; cases h
theorem pass_ok : ∀ {fl : List Bool} {ws : List RV} {vs : List V} {F : Addr → Prop} {r r' : Env} {ss : List Slot}, FR K mg F H σ r → RVRs K mg H0 F H σ r ws vs → passArgs fl ws r = .ok ss r' → (∀ i ∈ lent fl ws, isMut r' i = true) →
    ∃ F' : Addr → Prop, (∀ x, F x → F' x) ∧ (∀ x, F' x → F x ∨ NewF σ r ws vs x) ∧ (∀ x, Own σ r' x → Own σ r x) ∧ FR K mg F' H σ r' ∧ PassR K mg H0 F' H σ r' fl ws vs ss ∧ (∀ (i : Nat) xs, r'[i]? = some (Slot.box xs) → r[i]? = some (Slot.box xs))
  | [], [], _, F, r, r', ss, fr, .nil, h, _ => by
    have h : Res.ok [] r = Res.ok ss r' := h
    cases h
    exact ⟨F, fun _ f => f, fun _ f => .inl f, fun _ o => o, fr, .nil, fun _ _ e => e⟩
  | [], _ :: _, _, _, _, _, _, _, _, h, _ => by cases h
  | true :: fl, [], _, _, _, _, _, _, _, h, _ => by cases h
  | false :: fl, [], _, _, _, _, _, _, _, h, _ => by cases h
  | true :: fl, .val _ :: ws, _, _, _, _, _, _, _, h, _ => by cases h
  | true :: fl, .own xs :: ws, _, F, r, r', ss, fr, .cons (v := v) (vs := vs) q qs dj, h, hm => by
    have h : M.bind (passArgs fl ws) (fun ss => M.pure (Slot.box xs :: ss)) r = .ok ss r' := h
    unfold M.bind at h
    cases h2 : passArgs fl ws r with
    | stuck => rw [h2] at h; cases h
    | exc _ _ => rw [h2] at h; cases h
    | ok es r2 =>
      rw [h2] at h
      cases h
      obtain ⟨F2, f2, n2, o2, fr2, p2, b2⟩ := pass_ok fr qs h2 (fun i hi => hm i hi)
      cases q with
      | own e q nf no f =>
        rename_i a us
        refine ⟨F2, f2, fun x f => ?_, o2, fr2, .own e (q.mono f2 fun _ _ _ e => e) (fun z => ?_) (fun z => no (o2 _ z)) f (fun j ys e1 e2 => dj xs j ys a rfl e1 rfl e2) p2, b2⟩
        · rcases n2 x f with f | ⟨j, w, e1, e2, e3⟩
          · exact .inl f
          · exact .inr ⟨j + 1, w, by simpa using e1, by simpa using e2, e3⟩
        · rcases n2 a z with z | ⟨j, w, e1, e2, e3⟩
          · exact nf z
          · rcases e3 with e3 | ⟨ys, rfl⟩
            · exact no e3
            · exact dj xs j ys a rfl e1 rfl e2
  | true :: fl, .bor i :: ws, _, F, r, r', ss, fr, .cons (v := v) (vs := vs) q qs dj, h, hm => by
    have h : (match r[i]? with
      | some (.box xs) => M.bind (passArgs fl ws) (fun ss => M.pure (Slot.box xs :: ss)) r
      | _ => .stuck) = .ok ss r' := h
    split at h
    · rename_i xs hb
      unfold M.bind at h
      cases h2 : passArgs fl ws r with
      | stuck => rw [h2] at h; cases h
      | exc _ _ => rw [h2] at h; cases h
      | ok es r2 =>
        rw [h2] at h
        cases h
        obtain ⟨F2, f2, n2, o2, fr2, p2, b2⟩ := pass_ok fr qs h2 (fun j hj => hm j (List.mem_cons_of_mem _ hj))
        cases q with
        | bor e =>
          have hi := hm i List.mem_cons_self
          unfold isMut at hi
          have hb2 : r'[i]? = some (Slot.box xs) := by
            cases hr : r'[i]? with
            | none => rw [hr] at hi; cases hi
            | some s =>
              rw [hr] at hi
              cases s with
              | no => cases hi
              | val _ => cases hi
              | box ys =>
                have := b2 i ys hr
                rw [hb] at this
                cases this
                rfl
          refine ⟨F2, f2, fun x f => ?_, o2, fr2, .bor e hb2 p2, b2⟩
          rcases n2 x f with f | ⟨j, w, e1, e2, e3⟩
          · exact .inl f
          · exact .inr ⟨j + 1, w, by simpa using e1, by simpa using e2, e3⟩
    · cases h
  | false :: fl, w :: ws, _, F, r, r', ss, fr, .cons (v := v) (vs := vs) q qs dj, h, hm => by
    have h : M.bind (toD w) (fun d => M.bind (passArgs fl ws) fun ss => M.pure (Slot.val d :: ss)) r = .ok ss r' := h
    unfold M.bind at h
    cases h1 : toD w r with
    | stuck => rw [h1] at h; cases h
    | exc _ _ => rw [h1] at h; cases h
    | ok d r1 =>
      rw [h1] at h
      dsimp only at h
      cases h2 : passArgs fl ws r1 with
      | stuck => rw [h2] at h; cases h
      | exc _ _ => rw [h2] at h; cases h
      | ok es r2 =>
        rw [h2] at h
        cases h
        obtain ⟨F1, f1, n1, o1, fr1, d1, b1⟩ := toD_ok fr q h1
        have qs1 : RVRs K mg H0 F1 H σ r1 ws vs := qs.shared f1 (fun x j ys f nf e1 e2 => by
          rcases n1 x f with z | ⟨z1, z2⟩
          · exact nf z
          · rcases z2 with z2 | ⟨xs, z2⟩
            · have q' := qs.get e1 e2
              cases q' with
              | own _ _ _ no _ => exact no z2
            · exact dj xs j ys x z2 e1 z1 e2) o1
        have hl : lent (false :: fl) (w :: ws) = lent fl ws := by cases w <;> rfl
        obtain ⟨F2, f2, n2, o2, fr2, p2, b2⟩ := pass_ok fr1 qs1 h2 (fun j hj => hm j (by rw [hl]; exact hj))
        refine ⟨F2, fun x f => f2 x (f1 x f), fun x f => ?_, fun x o => o1 x (o2 x o), fr2, .val (d1.mono f2 fun _ _ _ e => e) p2, fun i xs ei => b1 i xs (b2 i xs ei)⟩
        rcases n2 x f with f | ⟨j, w', e1, e2, e3⟩
        · rcases n1 x f with f | ⟨z1, z2⟩
          · exact .inl f
          · exact .inr ⟨0, w, rfl, by rw [z1]; rfl, z2⟩
        · refine .inr ⟨j + 1, w', by simpa using e1, by simpa using e2, ?_⟩
          rcases e3 with e3 | e3
          · exact .inl (o1 x e3)
          · exact .inr e3
/-! ### the callee's frame -/
theorem PassR.len {fl : List Bool} {ws : List RV} {vs : List V} {ss : List Slot} (p : PassR K mg H0 F H σ r fl ws vs ss) : ss.length = vs.length ∧ fl.length = vs.length ∧ ws.length = vs.length := by
  induction p with
  | nil => exact ⟨rfl, rfl, rfl⟩
  | own _ _ _ _ _ _ _ ih => simp [ih]
  | bor _ _ _ ih => simp [ih]
  | val _ _ ih => simp [ih]
theorem PassR.flag {fl : List Bool} {ws : List RV} {vs : List V} {ss : List Slot} (p : PassR K mg H0 F H σ r fl ws vs ss) : flagOk fl ss = true := by
  induction p with
  | nil => rfl
  | own _ _ _ _ _ _ _ ih => exact ih
  | bor _ _ _ ih => exact ih
  | val _ _ ih => exact ih
theorem PassR.atVal {fl : List Bool} {ws : List RV} {vs : List V} {ss : List Slot} (p : PassR K mg H0 F H σ r fl ws vs ss) : ∀ (i : Nat) d, ss[i]? = some (Slot.val d) → ∃ v, vs[i]? = some v ∧ DR K mg F H d v := by
  induction p with
  | nil => intro i d h; simp at h
  | own _ _ _ _ _ _ _ ih =>
    intro i d h
    cases i with
    | zero => simp at h
    | succ i => exact ih i d (by simpa using h)
  | bor _ _ _ ih =>
    intro i d h
    cases i with
    | zero => simp at h
    | succ i => exact ih i d (by simpa using h)
  | val q _ ih =>
    intro i d h
    cases i with
    | zero => simp at h; subst h; exact ⟨_, rfl, q⟩
    | succ i => exact ih i d (by simpa using h)
/-- a lent place: a temporary list, or a slot's -/
theorem PassR.atBox {fl : List Bool} {ws : List RV} {vs : List V} {ss : List Slot} (p : PassR K mg H0 F H σ r fl ws vs ss) (fr : FR K mg F H σ r) : ∀ (i : Nat) xs, ss[i]? = some (Slot.box xs) →
    ∃ a us, vs[i]? = some (.ref a) ∧ H a = some (.lst us) ∧ DRs K mg F H xs us ∧ ¬ F a ∧ fl[i]? = some true ∧
      ((ws[i]? = some (.own xs) ∧ ¬ Own σ r a ∧ H0 a = none) ∨ ∃ j, ws[i]? = some (.bor j) ∧ r[j]? = some (.box xs) ∧ σ[j]? = some (some (.ref a))) := by
  induction p with
  | nil => intro i d h; simp at h
  | own e q nf no f _ _ ih =>
    intro i d h
    cases i with
    | zero => simp at h; subst h; exact ⟨_, _, rfl, e, q, nf, rfl, .inl ⟨rfl, no, f⟩⟩
    | succ i => simpa using ih i d (by simpa using h)
  | bor e e2 _ ih =>
    intro i d h
    cases i with
    | zero =>
      simp at h; subst h
      obtain ⟨a, us, g1, g2, g3, g4⟩ := fr.box _ _ e2
      rw [e] at g1; cases g1
      exact ⟨a, us, rfl, g2, g3, g4, rfl, .inr ⟨_, rfl, e2, e⟩⟩
    | succ i => simpa using ih i d (by simpa using h)
  | val q _ ih =>
    intro i d h
    cases i with
    | zero => simp at h
    | succ i => simpa using ih i d (by simpa using h)
theorem PassR.ownDistinct {fl : List Bool} {ws : List RV} {vs : List V} {ss : List Slot} (p : PassR K mg H0 F H σ r fl ws vs ss) : ∀ (i j : Nat) (xs ys zs : List D) a, ss[i]? = some (.box zs) → ws[i]? = some (.own xs) → ws[j]? = some (.own ys) → vs[i]? = some (V.ref a) → vs[j]? = some (V.ref a) → i < j → False := by
  induction p with
  | nil => intro i j xs ys zs a h; simp at h
  | own e q nf no f dj _ ih =>
    intro i j xs ys zs a h1 h2 h3 h4 h5 hl
    cases j with
    | zero => omega
    | succ j =>
      cases i with
      | zero =>
        simp at h4
        subst h4
        exact dj j ys (by simpa using h3) (by simpa using h5)
      | succ i => exact ih i j xs ys zs a (by simpa using h1) (by simpa using h2) (by simpa using h3) (by simpa using h4) (by simpa using h5) (by omega)
  | bor e e2 _ ih =>
    intro i j xs ys zs a h1 h2 h3 h4 h5 hl
    cases j with
    | zero => omega
    | succ j =>
      cases i with
      | zero => simp at h2
      | succ i => exact ih i j xs ys zs a (by simpa using h1) (by simpa using h2) (by simpa using h3) (by simpa using h4) (by simpa using h5) (by omega)
  | val q _ ih =>
    intro i j xs ys zs a h1 h2 h3 h4 h5 hl
    cases j with
    | zero => omega
    | succ j =>
      cases i with
      | zero => simp at h1
      | succ i => exact ih i j xs ys zs a (by simpa using h1) (by simpa using h2) (by simpa using h3) (by simpa using h4) (by simpa using h5) (by omega)
theorem get_some {vs : List V} {i : Nat} {v : V} : (vs.map some)[i]? = some (some v) ↔ vs[i]? = some v := by
  rw [List.getElem?_map]
  cases vs[i]? <;> simp
/-- the lent slots, by places -/
theorem lent_mem {fl : List Bool} {ws : List RV} : ∀ {i j : Nat}, fl[i]? = some true → ws[i]? = some (.bor j) → j ∈ lent fl ws := by
  induction fl generalizing ws with
  | nil => intro i j h; simp at h
  | cons b bs ih =>
    intro i j h1 h2
    cases ws with
    | nil => simp at h2
    | cons w ws =>
      cases i with
      | zero =>
        simp at h1 h2
        subst h1 h2
        exact List.mem_cons_self
      | succ i =>
        have := ih (ws := ws) (i := i) (j := j) (by simpa using h1) (by simpa using h2)
        cases b <;> cases w <;> first
          | exact this
          | exact List.mem_cons_of_mem _ this
theorem lent_nodup {fl : List Bool} {ws : List RV} : ∀ {i k j : Nat}, nodupB (lent fl ws) = true → fl[i]? = some true → fl[k]? = some true → ws[i]? = some (.bor j) → ws[k]? = some (.bor j) → i = k := by
  induction fl generalizing ws with
  | nil => intro i k j _ h; simp at h
  | cons b bs ih =>
    intro i k j hn h1 h2 h3 h4
    cases ws with
    | nil => simp at h3
    | cons w ws =>
      have hn' : nodupB (lent bs ws) = true := by
        cases b <;> cases w <;> first
          | exact hn
          | (simp only [lent, nodupB, Bool.and_eq_true] at hn; exact hn.2)
      have key : ∀ {m : Nat}, b = true → w = .bor j → bs[m]? = some true → ws[m]? = some (.bor j) → False := fun {m} e1 e2 e3 e4 => by
        subst e1 e2
        simp only [lent, nodupB, Bool.and_eq_true, Bool.not_eq_true'] at hn
        have hm : (lent bs ws).contains j = true := by
          have := lent_mem e3 e4
          simpa using this
        rw [hn.1] at hm
        cases hm
      cases i with
      | zero =>
        cases k with
        | zero => rfl
        | succ k =>
          simp at h1 h3
          exact (key h1 h3 (by simpa using h2) (by simpa using h4)).elim
      | succ i =>
        cases k with
        | zero =>
          simp at h2 h4
          exact (key h2 h4 (by simpa using h1) (by simpa using h3)).elim
        | succ k => exact congrArg (· + 1) (ih (ws := ws) (i := i) (k := k) (j := j) hn' (by simpa using h1) (by simpa using h2) (by simpa using h3) (by simpa using h4))
theorem PassR.fr {fl : List Bool} {ws : List RV} {vs : List V} {ss : List Slot} (p : PassR K mg H0 F H σ r fl ws vs ss) (fr : FR K mg F H σ r) (hn : nodupB (lent fl ws) = true) : FR K mg F H (vs.map some) ss where
  len := by rw [List.length_map]; exact p.len.1
  ftr := fr.ftr
  val := fun i d e => by
    obtain ⟨v, h1, h2⟩ := p.atVal i d e
    exact ⟨v, get_some.mpr h1, h2⟩
  box := fun i xs e => by
    obtain ⟨a, us, h1, h2, h3, h4, _⟩ := p.atBox fr i xs e
    exact ⟨a, us, get_some.mpr h1, h2, h3, h4⟩
  inj := fun i j xs ys a e1 e2 e3 e4 => by
    obtain ⟨a1, us1, h1, h2, h3, h4, h5, h6⟩ := p.atBox fr i xs e1
    obtain ⟨a2, us2, g1, g2, g3, g4, g5, g6⟩ := p.atBox fr j ys e2
    rw [get_some] at e3 e4
    rw [e3] at h1
    cases h1
    rw [e4] at g1
    cases g1
    rcases h6 with ⟨h6, h7, h8⟩ | ⟨m, h6, h7, h8⟩
    · rcases g6 with ⟨g6, g7, g8⟩ | ⟨n, g6, g7, g8⟩
      · rcases Nat.lt_trichotomy i j with q | q | q
        · exact (p.ownDistinct i j xs ys xs a e1 h6 g6 e3 e4 q).elim
        · exact q
        · exact (p.ownDistinct j i ys xs ys a e2 g6 h6 e4 e3 q).elim
      · exact (h7 ⟨n, ys, g7, g8⟩).elim
    · rcases g6 with ⟨g6, g7, g8⟩ | ⟨n, g6, g7, g8⟩
      · exact (g7 ⟨m, xs, h7, h8⟩).elim
      · have := fr.inj m n xs ys a h7 g7 h8 g8
        subst this
        exact lent_nodup hn h5 g5 h6 g6
theorem PassR.owns {fl : List Bool} {ws : List RV} {vs : List V} {ss : List Slot} (p : PassR K mg H0 F H σ r fl ws vs ss) (fr : FR K mg F H σ r) {a : Addr} (o : Own (vs.map some) ss a) : Own σ r a ∨ H0 a = none := by
  obtain ⟨i, xs, e1, e2⟩ := o
  rw [get_some] at e2
  obtain ⟨a1, us1, h1, h2, h3, h4, h5, h6⟩ := p.atBox fr i xs e1
  rw [e2] at h1
  cases h1
  rcases h6 with ⟨_, _, h8⟩ | ⟨m, _, h7, h8⟩
  · exact .inr h8
  · exact .inl ⟨m, xs, h7, h8⟩
end
end Ev

-- part Ev5e
set_option maxHeartbeats 1000000
/-! Ev5e: behind a call. -/
namespace Ev
open PySem PySem.Spec PyProof.Rows L2
section
variable {X : Cx} {W : WX} {c : CallT} {K : PySem.W.Frag} {mg : Str → Option Value} {F F' : Addr → Prop} {H H' H0 : Hp} {v u : V} {σ σ' : L2.St} {r r' : Env} {Q : VK} {e a b : Expr} {pos : Pos}
theorem giveBack_len : ∀ {fl : List Bool} {ws : List RV} {os : List Slot} {r : Env}, (giveBack fl ws os r).length = r.length
  | [], _, _, _ => rfl
  | true :: bs, .bor i :: vs, o :: os, r => by
    show (giveBack bs vs os (r.set i o)).length = _
    rw [giveBack_len, List.length_set]
  | true :: bs, .val _ :: vs, o :: os, r => giveBack_len (fl := bs) (ws := vs) (os := os)
  | true :: bs, .own _ :: vs, o :: os, r => giveBack_len (fl := bs) (ws := vs) (os := os)
  | false :: bs, w :: vs, o :: os, r => by
    have : giveBack (false :: bs) (w :: vs) (o :: os) r = giveBack bs vs os r := by cases w <;> rfl
    rw [this]
    exact giveBack_len
  | true :: bs, [], _, _ => rfl
  | false :: bs, [], _, _ => rfl
  | true :: bs, .bor _ :: _, [], _ => rfl
  | true :: bs, .val _ :: _, [], _ => rfl
  | true :: bs, .own _ :: _, [], _ => rfl
  | false :: bs, w :: _, [], _ => by cases w <;> rfl
theorem giveBack_out : ∀ {fl : List Bool} {ws : List RV} {os : List Slot} {r : Env} {i : Nat}, i ∉ lent fl ws → (giveBack fl ws os r)[i]? = r[i]?
  | [], _, _, _, _, _ => rfl
  | true :: bs, .bor j :: vs, o :: os, r, i, h => by
    have h1 : i ≠ j := fun z => h (by rw [z]; exact List.mem_cons_self)
    have h2 : i ∉ lent bs vs := fun z => h (List.mem_cons_of_mem _ z)
    show (giveBack bs vs os (r.set j o))[i]? = _
    rw [giveBack_out h2, List.getElem?_set_ne (Ne.symm h1)]
  | true :: bs, .val _ :: vs, o :: os, r, i, h => giveBack_out (fl := bs) (ws := vs) (os := os) h
  | true :: bs, .own _ :: vs, o :: os, r, i, h => giveBack_out (fl := bs) (ws := vs) (os := os) h
  | false :: bs, w :: vs, o :: os, r, i, h => by
    have e1 : giveBack (false :: bs) (w :: vs) (o :: os) r = giveBack bs vs os r := by cases w <;> rfl
    have e2 : lent (false :: bs) (w :: vs) = lent bs vs := by cases w <;> rfl
    rw [e1]
    exact giveBack_out (by rw [← e2]; exact h)
  | true :: bs, [], _, _, _, _ => rfl
  | false :: bs, [], _, _, _, _ => rfl
  | true :: bs, .bor _ :: _, [], _, _, _ => rfl
  | true :: bs, .val _ :: _, [], _, _, _ => rfl
  | true :: bs, .own _ :: _, [], _, _, _ => rfl
  | false :: bs, w :: _, [], _, _, _ => by cases w <;> rfl
theorem nodup_tail {b : Bool} {bs : List Bool} {w : RV} {ws : List RV} (h : nodupB (lent (b :: bs) (w :: ws)) = true) : nodupB (lent bs ws) = true := by
  cases b <;> cases w <;> first
    | exact h
    | (simp only [lent, nodupB, Bool.and_eq_true] at h; exact h.2)
/-- a lent slot holds what was handed back -/
theorem giveBack_in : ∀ {fl : List Bool} {ws : List RV} {os : List Slot} {r : Env} {i : Nat}, nodupB (lent fl ws) = true → i ∈ lent fl ws → i < r.length → ws.length ≤ os.length → ∃ (k : Nat) (o : Slot), fl[k]? = some true ∧ ws[k]? = some (.bor i) ∧ os[k]? = some o ∧ (giveBack fl ws os r)[i]? = some o
  | [], _, _, _, _, _, h, _, _ => by simp [lent] at h
  | true :: bs, .bor j :: vs, o :: os, r, i, hn, h, hi, hl => by
    have hn2 := nodup_tail hn
    by_cases z : i ∈ lent bs vs
    · obtain ⟨k, o', e1, e2, e3, e4⟩ := giveBack_in (os := os) (r := r.set j o) hn2 z (by simpa using hi) (by simpa using hl)
      exact ⟨k + 1, o', by simpa using e1, by simpa using e2, by simpa using e3, e4⟩
    · have e : i = j := by
        rcases List.mem_cons.mp h with e | e
        · exact e
        · exact absurd e z
      subst e
      refine ⟨0, o, rfl, rfl, rfl, ?_⟩
      show (giveBack bs vs os (r.set i o))[i]? = _
      rw [giveBack_out z, List.getElem?_set_self hi]
  | true :: bs, .val _ :: vs, o :: os, r, i, hn, h, hi, hl => by
    obtain ⟨k, o', e1, e2, e3, e4⟩ := giveBack_in (fl := bs) (ws := vs) (os := os) (r := r) hn h hi (by simpa using hl)
    exact ⟨k + 1, o', by simpa using e1, by simpa using e2, by simpa using e3, e4⟩
  | true :: bs, .own _ :: vs, o :: os, r, i, hn, h, hi, hl => by
    obtain ⟨k, o', e1, e2, e3, e4⟩ := giveBack_in (fl := bs) (ws := vs) (os := os) (r := r) hn h hi (by simpa using hl)
    exact ⟨k + 1, o', by simpa using e1, by simpa using e2, by simpa using e3, e4⟩
  | false :: bs, w :: vs, o :: os, r, i, hn, h, hi, hl => by
    have e1 : giveBack (false :: bs) (w :: vs) (o :: os) r = giveBack bs vs os r := by cases w <;> rfl
    have e2 : lent (false :: bs) (w :: vs) = lent bs vs := by cases w <;> rfl
    rw [e2] at hn h
    obtain ⟨k, o', g1, g2, g3, g4⟩ := giveBack_in (fl := bs) (ws := vs) (os := os) (r := r) hn h hi (by simpa using hl)
    exact ⟨k + 1, o', by simpa using g1, by simpa using g2, by simpa using g3, by rw [e1]; exact g4⟩
  | true :: bs, [], _, _, _, _, h, _, _ => by simp [lent] at h
  | false :: bs, [], _, _, _, _, h, _, _ => by simp [lent] at h
  | _ :: _, _ :: _, [], _, _, _, _, _, hl => by simp at hl
theorem mask_get : ∀ {fl : List Bool} {os : List Slot} {k : Nat} {o : Slot}, fl[k]? = some true → os[k]? = some o → (maskS fl os)[k]? = some o
  | [], _, _, _, h, _ => by simp at h
  | _ :: _, [], _, _, _, h => by simp at h
  | b :: bs, o :: os, 0, o', h1, h2 => by
    simp at h1 h2
    subst h1 h2
    rfl
  | b :: bs, o :: os, k + 1, o', h1, h2 => by
    have := mask_get (fl := bs) (os := os) (k := k) (o := o') (by simpa using h1) (by simpa using h2)
    cases b <;> simpa [maskS] using this
theorem PassR.borAt {fl : List Bool} {ws : List RV} {vs : List V} {ss : List Slot} (p : PassR K mg H0 F H σ r fl ws vs ss) : ∀ {k i : Nat}, fl[k]? = some true → ws[k]? = some (.bor i) → ∃ v xs, vs[k]? = some v ∧ σ[i]? = some (some v) ∧ ss[k]? = some (.box xs) ∧ r[i]? = some (.box xs) := by
  induction p with
  | nil => intro k i h; simp at h
  | own e q nf no f dj _ ih =>
    intro k i h1 h2
    cases k with
    | zero => simp at h2
    | succ k => simpa using ih (k := k) (i := i) (by simpa using h1) (by simpa using h2)
  | bor e e2 _ ih =>
    intro k i h1 h2
    cases k with
    | zero => simp at h2; subst h2; exact ⟨_, _, rfl, e, rfl, e2⟩
    | succ k => simpa using ih (k := k) (i := i) (by simpa using h1) (by simpa using h2)
  | val q _ ih =>
    intro k i h1 h2
    cases k with
    | zero => simp at h1
    | succ k => simpa using ih (k := k) (i := i) (by simpa using h1) (by simpa using h2)
theorem RVRs_none : True := trivial
/-- the caller's frame behind a call -/
theorem back_ok {fl : List Bool} {ws : List RV} {vs : List V} {ss os : List Slot} (fr : FR K mg F H σ r) (p : PassR K mg H0 F H σ r fl ws vs ss) (hn : nodupB (lent fl ws) = true) (hm : ∀ i ∈ lent fl ws, isMut r i = true) (hl : os.length = ss.length)
    (x : Ext F H (Own (vs.map some) ss) F' H' (Own (vs.map some) (maskS fl os))) (fa : FR K mg F' H' (vs.map some) (maskS fl os)) :
    FR K mg F' H' σ (giveBack fl ws os r) ∧ (∀ a, Own σ (giveBack fl ws os r) a → Own (vs.map some) (maskS fl os) a ∨ (Own σ r a ∧ H a ≠ none)) := by
  have fp := p.fr fr hn
  have hlen := p.len
  have inl : ∀ i, i ∈ lent fl ws → ∃ (k : Nat) (o : Slot) (v : V), fl[k]? = some true ∧ ws[k]? = some (.bor i) ∧ (maskS fl os)[k]? = some o ∧ (giveBack fl ws os r)[i]? = some o ∧ vs[k]? = some v ∧ σ[i]? = some (some v) := fun i hi => by
    have hil : i < r.length := by
      have := hm i hi
      unfold isMut at this
      cases q : r[i]? with
      | none => rw [q] at this; cases this
      | some _ => exact (List.getElem?_eq_some_iff.mp q).1
    obtain ⟨k, o, e1, e2, e3, e4⟩ := giveBack_in (os := os) (r := r) hn hi hil (by omega)
    obtain ⟨v, xs, g1, g2, g3, g4⟩ := p.borAt e1 e2
    exact ⟨k, o, v, e1, e2, mask_get e1 e3, e4, g1, g2⟩
  -- a slot that is not lent has none of the lent lists
  have apart : ∀ (i : Nat) xs a, i ∉ lent fl ws → r[i]? = some (Slot.box xs) → σ[i]? = some (some (.ref a)) → ¬ Own (vs.map some) ss a := fun i xs a hi e1 e2 o => by
    obtain ⟨k, ys, g1, g2⟩ := o
    rw [get_some] at g2
    obtain ⟨a', us, h1, h2, h3, h4, h5, h6⟩ := p.atBox fr k ys g1
    rw [g2] at h1
    cases h1
    rcases h6 with ⟨_, h7, _⟩ | ⟨m, h6, h7, h8⟩
    · exact h7 ⟨i, xs, e1, e2⟩
    · have := fr.inj i m xs ys a e1 h7 e2 h8
      subst this
      exact hi (lent_mem h5 h6)
  have keepB : ∀ (i : Nat) xs, i ∉ lent fl ws → r[i]? = some (Slot.box xs) → ∃ a us, σ[i]? = some (some (.ref a)) ∧ H' a = some (.lst us) ∧ DRs K mg F' H' xs us ∧ ¬ F' a ∧ H a ≠ none := fun i xs hi e => by
    obtain ⟨a, us, g1, g2, g3, g4⟩ := fr.box i xs e
    have ap := apart i xs a hi e g1
    refine ⟨a, us, g1, x.keep a _ g2 ap, x.drs fp g3, fun z => ?_, by rw [g2]; exact fun z => nomatch z⟩
    rcases x.fnew a z with z | z | z
    · exact g4 z
    · exact ap z
    · rw [z] at g2; cases g2
  refine ⟨⟨by rw [giveBack_len]; exact fr.len, fa.ftr, fun i d e => ?_, fun i xs e => ?_, fun i j xs ys a e1 e2 e3 e4 => ?_⟩, fun a o => ?_⟩
  · by_cases hi : i ∈ lent fl ws
    · obtain ⟨k, o, v, g1, g2, g3, g4, g5, g6⟩ := inl i hi
      rw [g4] at e
      cases e
      obtain ⟨v', q1, q2⟩ := fa.val k d g3
      rw [get_some, g5] at q1
      cases q1
      exact ⟨v, g6, q2⟩
    · rw [giveBack_out hi] at e
      obtain ⟨v, q1, q2⟩ := fr.val i d e
      exact ⟨v, q1, x.dr fp q2⟩
  · by_cases hi : i ∈ lent fl ws
    · obtain ⟨k, o, v, g1, g2, g3, g4, g5, g6⟩ := inl i hi
      rw [g4] at e
      cases e
      obtain ⟨a, us, q1, q2, q3, q4⟩ := fa.box k xs g3
      rw [get_some, g5] at q1
      cases q1
      exact ⟨a, us, g6, q2, q3, q4⟩
    · rw [giveBack_out hi] at e
      obtain ⟨a, us, g1, g2, g3, g4, _⟩ := keepB i xs hi e
      exact ⟨a, us, g1, g2, g3, g4⟩
  · by_cases hi : i ∈ lent fl ws
    · obtain ⟨k, o, v, g1, g2, g3, g4, g5, g6⟩ := inl i hi
      rw [g4] at e1
      cases e1
      rw [g6] at e3
      cases e3
      by_cases hj : j ∈ lent fl ws
      · obtain ⟨k', o', v', h1, h2, h3, h4, h5, h6⟩ := inl j hj
        rw [h4] at e2
        cases e2
        rw [h6] at e4
        cases e4
        have := fa.inj k k' xs ys a g3 h3 (get_some.mpr g5) (get_some.mpr h5)
        subst this
        rw [g2] at h2
        cases h2
        rfl
      · rw [giveBack_out hj] at e2
        exfalso
        obtain ⟨b, us, q1, q2, q3, q4, q5⟩ := keepB j ys hj e2
        rw [e4] at q1
        cases q1
        have ap := apart j ys a hj e2 e4
        rcases x.onew a ⟨k, xs, g3, get_some.mpr g5⟩ with z | z
        · exact ap z
        · exact q5 z
    · rw [giveBack_out hi] at e1
      by_cases hj : j ∈ lent fl ws
      · obtain ⟨k', o', v', h1, h2, h3, h4, h5, h6⟩ := inl j hj
        rw [h4] at e2
        cases e2
        rw [h6] at e4
        cases e4
        exfalso
        obtain ⟨b, us, q1, q2, q3, q4, q5⟩ := keepB i xs hi e1
        rw [e3] at q1
        cases q1
        have ap := apart i xs a hi e1 e3
        rcases x.onew a ⟨k', ys, h3, get_some.mpr h5⟩ with z | z
        · exact ap z
        · exact q5 z
      · rw [giveBack_out hj] at e2
        exact fr.inj i j xs ys a e1 e2 e3 e4
  · obtain ⟨i, xs, e1, e2⟩ := o
    by_cases hi : i ∈ lent fl ws
    · obtain ⟨k, o, v, g1, g2, g3, g4, g5, g6⟩ := inl i hi
      rw [g4] at e1
      cases e1
      rw [g6] at e2
      cases e2
      exact .inl ⟨k, xs, g3, get_some.mpr g5⟩
    · rw [giveBack_out hi] at e1
      obtain ⟨b, us, q1, q2, q3, q4, q5⟩ := keepB i xs hi e1
      rw [e2] at q1
      cases q1
      exact .inr ⟨⟨i, xs, e1, e2⟩, q5⟩
/-! ### the call -/
theorem doCall_ok {f : Str} {fl : List Bool} {ws : List RV} {vs : List V} {F1 : Addr → Prop} {H1 : Hp} {r1 : Env} (x1 : Ext F H (Own σ r) F1 H1 (Own σ r1)) (fr1 : FR K mg F1 H1 σ r1) (rvs : RVRs K mg H F1 H1 σ r1 ws vs)
    (g : Goes K mg W F H σ r (doCall c f fl ws r1) fun w r' F' H' => ∀ v, RVR K mg H F' H' σ r' w v → Q v H') : spEv K mg c f fl vs H1 Q fun cls d H' => W cls d σ H' := by
  unfold doCall at g
  cases hp : passArgs fl ws r1 with
  | stuck => rw [hp] at g; exact g.elim
  | exc _ _ => exact (passArgs_noexc hp).elim
  | ok ss r2 =>
    rw [hp] at g
    dsimp only at g
    split at g
    · rename_i hc
      rw [Bool.and_eq_true, List.all_eq_true] at hc
      obtain ⟨hn, hm⟩ := hc
      obtain ⟨F2, f2, n2, o2, fr2, p2, b2⟩ := pass_ok fr1 rvs hp hm
      have x2 : Ext F H (Own σ r) F2 H1 (Own σ r2) := Ext.shared (F1 := F1) (H1 := H1) x1 rvs f2 n2 o2
      have fp := p2.fr fr2 hn
      refine ⟨F2, ss, fp, p2.flag, ?_⟩
      have ow : ∀ a, Own (vs.map some) ss a → Own σ r a ∨ H a = none := fun a o => by
        rcases p2.owns fr2 o with z | z
        · exact x2.onew a z
        · exact .inr z
      cases hr : c f ss with
      | stuck => rw [hr] at g; exact g.elim
      | exc x =>
        rw [hr] at g
        dsimp only at g
        split at g
        · rename_i he
          intro F' H' cls d x3 ft er
          have el : lent fl ws = [] := List.isEmpty_iff.mp he
          refine g F' H' cls d ⟨fun a o e n => ?_, fun a f => x3.fz a (x2.fz a f), fun a f => ?_, fun a o => x2.onew a o, fun a e => x2.there a (x3.there a e)⟩ ?_ er
          · refine x3.keep a o (x2.keep a o e n) fun z => ?_
            rcases ow a z with z | z
            · exact n z
            · rw [z] at e; cases e
          · rcases x3.fnew a f with f | f | f
            · exact x2.fnew a f
            · exact .inr (ow a f)
            · exact .inr (.inr (x2.there a f))
          · -- the frame: nothing of it was lent
            have apart : ∀ (i : Nat) xs a, r2[i]? = some (Slot.box xs) → σ[i]? = some (some (.ref a)) → ¬ Own (vs.map some) ss a := fun i xs a e1 e2 o => by
              obtain ⟨k, ys, g1, g2⟩ := o
              rw [get_some] at g2
              obtain ⟨a', us, h1, h2, h3, h4, h5, h6⟩ := p2.atBox fr2 k ys g1
              rw [g2] at h1
              cases h1
              rcases h6 with ⟨_, h7, _⟩ | ⟨m, h6, h7, h8⟩
              · exact h7 ⟨i, xs, e1, e2⟩
              · have := lent_mem h5 h6
                rw [el] at this
                cases this
            refine ⟨fr2.len, fun a f => ?_, fun i d e => ?_, fun i xs e => ?_, fr2.inj⟩
            · exact ft a f
            · obtain ⟨v, q1, q2⟩ := fr2.val i d e
              exact ⟨v, q1, x3.dr fp q2⟩
            · obtain ⟨a, us, q1, q2, q3, q4⟩ := fr2.box i xs e
              have ap := apart i xs a e q1
              refine ⟨a, us, q1, x3.keep a _ q2 ap, x3.drs fp q3, fun z => ?_⟩
              rcases x3.fnew a z with z | z | z
              · exact q4 z
              · exact ap z
              · rw [z] at q2; cases q2
        · exact g.elim
      | ret rv outs =>
        rw [hr] at g
        dsimp only at g
        split at g
        · rename_i hol
          refine ⟨hol, fun F' H' v x3 fa q nb => ?_⟩
          obtain ⟨fr3, ow3⟩ := back_ok fr2 p2 hn hm hol x3 fa
          have g : Goes K mg W F H σ r (.ok rv (giveBack fl ws outs r2)) fun w r' F' H' => ∀ v, RVR K mg H F' H' σ r' w v → Q v H' := by
            cases rv with
            | bor i => exact absurd rfl (nb i)
            | val d => exact g
            | own xs => exact g
          refine g.ok0 ⟨fun a o e n => ?_, fun a f => x3.fz a (x2.fz a f), fun a f => ?_, fun a o => ?_, fun a e => x2.there a (x3.there a e)⟩ fr3 v ?_
          · refine x3.keep a o (x2.keep a o e n) fun z => ?_
            rcases ow a z with z | z
            · exact n z
            · rw [z] at e; cases e
          · rcases x3.fnew a f with f | f | f
            · exact x2.fnew a f
            · exact .inr (ow a f)
            · exact .inr (.inr (x2.there a f))
          · rcases ow3 a o with z | ⟨z, _⟩
            · rcases x3.onew a z with z | z
              · exact ow a z
              · exact .inr (x2.there a z)
            · exact x2.onew a z
          · cases q with
            | val q => exact .val q
            | bor e => exact absurd rfl (nb _)
            | own e q nf no f =>
              refine .own e q nf (fun z => ?_) (x2.there _ f)
              rcases ow3 _ z with z | ⟨_, z⟩
              · exact no z
              · exact z f
        · exact g.elim
    · exact g.elim
end
end Ev

-- part EvX7
set_option maxHeartbeats 1000000
/-! EvX7: an exception that leaves a comprehension. -/
namespace Ev
open PySem PySem.Spec PyProof.Rows L2
/-- an exception in the air of X, noted at the frame L -/
def XEf (X : Cx) (W : WX) (L : Addr) (u : Value) (s' : Shared) : Prop :=
  ∃ (a : Addr) (B : Heap) (sI : Shared) (pins : List (Addr × Obj)) (σ : L2.St) (H : Hp) (cls : Value) (d : Option Addr),
    u = .ref a ∧ Inv X pins σ H sI ∧ (∀ b o, sI.heap.get? b = some o → b ∉ frs X.stack → B.get? b = some o) ∧ sI.heap.UpToSlots s'.heap ∧
      Sky B X.stack a (Zc cls d) L s'.heap ∧ H a = none ∧ s'.os = sI.os ∧ AllBare s'.gens ∧ W cls d σ H
def TakesF (X : Cx) (W : WX) : Prop := ∃ (e0 : PySem.Env) (rest : List PySem.Env) (L : Addr), X.stack = e0 :: rest ∧ e0.frame = some L ∧ X.env.frame = some L ∧ ∀ u s', XEf X W L u s' → X.xe u s'
section
variable {X : Cx} {W : WX} {pins : List (Addr × Obj)} {σ : L2.St} {H : Hp} {s s' : Shared} {E : XK}
theorem xef_call (L : Addr) (I : Inv X pins σ H s) (hW : ∀ cls d H', E cls d H' → W cls d σ H') {u : Value} (c : CX X.prog X.w X.stack H s E u s') : XEf X W L u s' := by
  obtain ⟨a, B, H', cls, d, rfl, fl, hok, ub, na, os, ag, hE⟩ := c
  obtain ⟨G, g1, g2⟩ := restrict s'.heap fun b => (B.get? b).isSome || decide (b ∈ frs X.stack)
  have st : B.StaysIn s'.heap := fl.1
  have gB : ∀ b o, B.get? b = some o → G.get? b = some o := fun b o e => by
    rw [g1 b (by simp [e])]
    exact st b o e
  have gF : ∀ b, b ∈ frs X.stack → G.get? b = s'.heap.get? b := fun b hb => g1 b (by simp [hb])
  have og : ∀ b o, G.get? b = some o → s'.heap.get? b = some o ∧ ((B.get? b).isSome = true ∨ b ∈ frs X.stack) := fun b o e => by
    cases q : ((B.get? b).isSome || decide (b ∈ frs X.stack)) with
    | false => rw [g2 b q] at e; cases e
    | true =>
      rw [g1 b q] at e
      exact ⟨e, by simpa [Bool.or_eq_true] using q⟩
  refine ⟨a, B, { s with heap := G, gens := s'.gens, drawn := s'.drawn, toks := s'.toks }, pins, σ, H', cls, d, rfl, ?_, fun b o e hb => ?_, Heap.UpToSlots.of_keeps fun b o e => (og b o e).1, .inr (.inl fl), na, os, ag, hW _ _ _ hE⟩
  · refine I.call (ch := []) ⟨fun b o e n hb _ => gB b o (ub.keep b o e n hb), fun b o e n hb _ => ?_, fun b o e n _ => ub.free b o e n, fun b o e _ => ?_, ub.tups, ub.frzs, ub.tbls⟩ (hok.kept gB) ag (fun _ z => nomatch z)
    · obtain ⟨sl, q⟩ := ub.slot b o e hb
      exact ⟨sl, by rw [gF b hb]; exact q⟩
    · by_cases hb : b ∈ frs X.stack
      · obtain ⟨sl, q⟩ := ub.slot b o e hb
        exact ⟨_, by rw [gF b hb]; exact q⟩
      · obtain ⟨o', q⟩ := ub.there b o e hb
        exact ⟨o', gB b o' q⟩
  · obtain ⟨e', h⟩ := og b o e
    rcases h with h | h
    · obtain ⟨o', q⟩ := Option.isSome_iff_exists.mp h
      have z := st b o' q
      rw [e'] at z; cases z
      exact q
    · exact absurd h hb
theorem takesF_of (hst : X.stack = X.env :: X.outer) (hfm : X.env.frame = some X.env.locals) (tk : Takes X W) : TakesF X W := ⟨X.env, X.outer, X.env.locals, hst, hfm, hfm, tk⟩
theorem takesF_takes (tk : TakesF X W) (hfm : X.env.frame = some X.env.locals) : Takes X W := by
  obtain ⟨e0, rest, L, hs, h0, hx, t⟩ := tk
  rw [hfm] at hx
  cases hx
  exact t
theorem passAtF (tk : TakesF X W) (σ : L2.St) : PassesAt (L2.CX X.prog X.w) X σ (WE W σ) := fun _ _ _ e s' I c => by
  obtain ⟨e0, rest, L, hs, h0, hx, t⟩ := tk
  exact t e s' (xef_call L I (fun _ _ _ h => h) c)
theorem inv_toTrB {xe : Value → Shared → Prop} {s0 : Shared} {H0 : Hp} {scope : Scope} {ce : PySem.Env} {fp : List Addr} (I : Inv (X.blk s0 H0 scope ce fp) pins σ H s) : Inv ((X.blk s0 H0 scope ce fp).tr [] xe) pins σ H s :=
  ⟨I.ok.toTry _ _, I.os, I.bare, I.base, I.loc, I.cell, I.free, I.freeC, I.pin, I.hok, I.len⟩
theorem tracedZ_same {h h' base base' : Heap} {e L : Addr} {Z : Obj → Prop} {fl : Value} {m : Str → Option Value} (x : HandSPX.TracedZ h base e Z fl) (hb : ∀ b, base.get? b = none → base'.get? b = none) (hn : h.Ns L m) (hs : Heap.SameBut L h h') : HandSPX.TracedZ h' base' e Z fl := by
  obtain ⟨oe, vs, T, oT, ts, he, hz, hd, h1, hnT, hTe, hT, hdT, h3⟩ := x
  obtain ⟨oL, es, ep, hoL, hdL, _⟩ := hn
  have n1 : e ≠ L := fun z => by rw [z, hoL] at he; cases he; rw [hdL] at hd; cases hd
  have n2 : T ≠ L := fun z => by rw [z, hoL] at hT; cases hT; rw [hdL] at hdT; cases hdT
  exact ⟨oe, vs, T, oT, ts, (hs.2 e n1).trans he, hz, hd, h1, hb _ hnT, hTe, (hs.2 T n2).trans hT, hdT, h3⟩
theorem funFrames_base {base base' h : Heap} (hb : ∀ b, base.get? b = none → base'.get? b = none) : ∀ {l : List PySem.Env}, h.FunFrames base l → h.FunFrames base' l
  | [], _ => trivial
  | env :: l, x => by
    obtain ⟨hk, ⟨L, o, hf, hn, ho, hd⟩, hr⟩ := x
    exact ⟨hk, ⟨L, o, hf, hb _ hn, ho, hd⟩, funFrames_base hb hr⟩
/-- what leaves a block is taken by the context around it -/
theorem blk_takes {s3 : Shared} {H3 : Hp} {scope : Scope} {ce : PySem.Env} {fp : List Addr} {σ0 : L2.St} (tk : TakesF X W) (I3 : Inv X pins σ0 H3 s3) (f3 : ∀ b ∈ fp, FpOk X pins H3 b) (cL : ce.locals = s3.heap.objs.size) (cF : ce.frame = X.env.frame)
    :
    TakesF ((X.blk s3 H3 scope ce fp).tr [] (notedBy (model X.prog X.w) X.A ce (CompFails (model X.prog X.w) X.A X.xe ce))) (fun cls d _ H' => W cls d σ0 H') := by
  obtain ⟨e0, rest, L, hs, h0, hx, t⟩ := tk
  refine ⟨e0, rest, L, hs, h0, cF.trans hx, fun u s' x => ?_⟩
  obtain ⟨a, B, sI, pinsB, σB, HB, cls, d, rfl, I, nb, up, sky, na, os, ag, w⟩ := x
  show notedBy _ X.A ce _ _ _
  have nb : ∀ b o, sI.heap.get? b = some o → b ∉ frs X.stack → B.get? b = some o := nb
  have sky : Sky B X.stack a (Zc cls d) L s'.heap := sky
  have hfr : X.A.frames = some (e0 :: rest) := by rw [I3.ok.frames, hs]
  have cF0 : ce.frame = e0.frame := by rw [cF, hx, h0]
  obtain ⟨m, hnI, _⟩ := I.loc
  have hnI : sI.heap.Ns ce.locals m := hnI
  show wpAny _ X.A (noteFrame (.ref a) ce) _ _ s'
  rw [noteFrame_env _ cF0]
  -- behind the note
  have fin : ∀ h1, HandSPX.HeldZ B (e0 :: rest) a (Zc cls d) L h1 → s'.heap.UpToSlots h1 → CompFails (model X.prog X.w) X.A X.xe ce (.ref a) { s' with heap := h1 } := by
    intro h1 hh up1
    have hn1 : h1.Ns ce.locals m := up1.ns (up.ns hnI)
    refine ⟨m, hn1, fun h2 m2 hn2 hs2 => ?_⟩
    obtain ⟨B', b1, b2⟩ := restrict B fun b => decide (b ≠ ce.locals)
    have bs : ∀ b o, B'.get? b = some o → B.get? b = some o ∧ b ≠ ce.locals := fun b o e => by
      by_cases z : b = ce.locals
      · rw [b2 b (by simp [z])] at e; cases e
      · rw [b1 b (by simp [z])] at e; exact ⟨e, z⟩
    have bn : ∀ b, B.get? b = none → B'.get? b = none := fun b e => by
      cases q : B'.get? b with
      | none => rfl
      | some o => rw [(bs b o q).1] at e; cases e
    have hh2 : HandSPX.HeldZ B' (e0 :: rest) a (Zc cls d) L h2 := ⟨fun b o e => (hs2.2 b (bs b o e).2).trans (hh.1 b o (bs b o e).1), bn _ hh.2.1, Heap.FunFrames.sameBut hs2 hn2 (funFrames_base bn hh.2.2.1), tracedZ_same hh.2.2.2 bn hn1 hs2⟩
    unfold PySem.passOn
    obtain ⟨oe, vs, T, oT, ts, he, hz, hd, h1', _⟩ := id hh2.2.2.2
    refine wpAny_bind (wpAny_field he hd h1' ?_)
    rw [if_neg (show ¬ ((Value.ref T == Value.none) = true) from by simp)]
    rw [cF0, h0]
    refine wpAny_bind (HandSPX.setFlight_onZ (s := { s' with heap := h2 }) hh2 fun h3 hh3 up3 => wpAny_throw ?_)
    -- the state without it
    have nC : HB ce.locals = none := I.free
    have I7 : Inv X pins σ0 HB sI := I3.call' (ch := fp) I.os I.base I.hok I.bare fun b hb => ⟨(f3 b hb).2.2.2.1, (f3 b hb).2.1, (f3 b hb).2.2.2.2.1, (f3 b hb).2.2.2.2.2⟩
    have fC : FpOk X pins HB ce.locals := I3.fpOk (Nat.le_of_eq cL.symm) nC
    obtain ⟨f0, f1, f2, f4, f5, f6⟩ := fC
    obtain ⟨G, g1, g2⟩ := restrict sI.heap fun b => decide (b ≠ ce.locals)
    have gk : ∀ b o, b ≠ ce.locals → sI.heap.get? b = some o → G.get? b = some o := fun b o hb e => by rw [g1 b (by simp [hb])]; exact e
    have go : ∀ b o, G.get? b = some o → sI.heap.get? b = some o ∧ b ≠ ce.locals := fun b o e => by
      by_cases z : b = ce.locals
      · rw [g2 b (by simp [z])] at e; cases e
      · rw [g1 b (by simp [z])] at e; exact ⟨e, z⟩
    have I8 := I7.turned (h' := G) (t' := sI.toks) gk f0 f1 f4 f5 f6
    refine t _ _ ⟨a, B', { sI with heap := G, toks := sI.toks }, pins, σ0, HB, cls, d, rfl, I8, fun b o e hb => ?_, fun b o e hnf => ?_, .inr (.inr (by rw [hs]; exact hh3)), na, os, ag, w⟩
    · obtain ⟨e1, e2⟩ := go b o e
      rw [b1 b (by simp [e2])]
      exact nb b o e1 hb
    · obtain ⟨e1, e2⟩ := go b o e
      obtain ⟨sl1, k1⟩ := up b o e1 hnf
      obtain ⟨sl2, k2⟩ := up1 b _ k1 hnf
      obtain ⟨sl3, k3⟩ := up3 b _ ((hs2.2 b e2).trans k2) hnf
      exact ⟨sl3, k3⟩
  rw [hs] at sky
  rcases sky with ⟨hB, hn, hl, oe, vs, he, hz, hd, h1⟩ | fl | hh
  · exact HandSPX.look_newZ Zc.steady hfr hl h0 he hB hn hd h1 hz fin
  · exact HandSPX.looks_onZ Zc.steady hfr h0 fl fin
  · exact HandSPX.againZ h0 hh.2.2.2 (fin s'.heap hh (Heap.UpToSlots.refl _))
end
end Ev

-- part EvS3
set_option maxHeartbeats 2000000
/-! EvS3: zip of a list and a tuple, in either place; min of a tuple. -/
namespace EvZ
open PySem PySem.Spec PyProof.Rows L2
/-- an iterator over a list (true) or a tuple (false), the thing itself -/
def IterB (b : Bool) (h : Heap) (it l : Addr) (k : Nat) : Prop := match b with
  | true => h.IsListIter it l k
  | false => h.IsTupleIter it l k
def SeqB (b : Bool) (h : Heap) (l : Addr) (xs : Array Value) : Prop := match b with
  | true => h.IsList l xs
  | false => h.IsTuple l xs
section
variable {b : Bool} {h h' : Heap} {it l : Addr} {k : Nat} {xs : Array Value}
theorem IterB.ext {a : Addr} (q : IterB b h it l k) (e : Heap.ExtBut a h h') (n : it ≠ a) : IterB b h' it l k := by
  cases b with
  | true => exact Heap.IsListIter.extBut q e n
  | false => exact Heap.IsTupleIter.extBut q e n
theorem SeqB.ext {a : Addr} (q : SeqB b h l xs) (e : Heap.ExtBut a h h') (n : l ≠ a) : SeqB b h' l xs := by
  cases b with
  | true => exact Heap.IsList.extBut q e n
  | false => exact Heap.IsTuple.extBut q e n
theorem IterB.at (q : IterB b h it l k) (e : ∀ o, h.get? it = some o → h'.get? it = some o) : IterB b h' it l k := by
  cases b with
  | true => exact Heap.IsListIter.at q e
  | false => exact Heap.IsTupleIter.at q e
theorem IterB.get (q : IterB b h it l k) : ∃ o, h.get? it = some o ∧ ∃ vs, o.data = .fields vs := by
  cases b with
  | true => obtain ⟨o, e, _, d⟩ := q; exact ⟨o, e, _, d⟩
  | false => obtain ⟨o, e, _, d⟩ := q; exact ⟨o, e, _, d⟩
end
section
variable {prog : Program} {w : World} {A : Around} {E : Value → Shared → Prop} {s : Shared} {b b1 b2 : Bool}
theorem next_item {it l : Addr} {i : Nat} {items : Array Value} {x : Value} {Q : Value → Shared → Prop} (hit : IterB b s.heap it l i) (hl : SeqB b s.heap l items) (hx : items[i]? = some x)
    (hQ : ∀ h', IterB b h' it l (i + 1) → Heap.SameBut it s.heap h' → Q x { s with heap := h' }) : wpAny (model prog w) A (Builtin.SmallTypes.nextOf (.ref it)) Q E s := by
  cases b with
  | true => exact wpAny_nextOf_list_item hit hl hx hQ
  | false => exact RZ.nextOf_tuple_item hit hl hx hQ
theorem next_end {it l : Addr} {i : Nat} {items : Array Value} {Q : Value → Shared → Prop} (hh : A.handled = none) (hit : IterB b s.heap it l i) (hl : SeqB b s.heap l items) (hx : items[i]? = none)
    (hE : ∀ h' e, Heap.ExtBut it s.heap h' → (∃ o, h'.get? e = some o ∧ o.cls = .type "StopIteration") → E (.ref e) { s with heap := h' }) : wpAny (model prog w) A (Builtin.SmallTypes.nextOf (.ref it)) Q E s := by
  cases b with
  | true => exact wpAny_nextOf_list_end hh hit hl hx hE
  | false => exact RZ.nextOf_tuple_end hh hit hl hx hE
theorem zip_item {z TI TO i1 i2 l1 l2 : Addr} {k1 k2 : Nat} {xs ys : Array Value} {x y p q : Value} {Q : Value → Shared → Prop} (D : ZipApart z TI TO i1 i2 l1 l2)
    (hz : IsZip s.heap z TI TO .none) (hTI : IsPair s.heap TI (.ref i1) (.ref i2)) (hTO : IsPair s.heap TO p q) (h1 : IterB b1 s.heap i1 l1 k1) (h2 : IterB b2 s.heap i2 l2 k2)
    (hl1 : SeqB b1 s.heap l1 xs) (hl2 : SeqB b2 s.heap l2 ys) (hx : xs[k1]? = some x) (hy : ys[k2]? = some y)
    (hQ : ∀ h', IsZip h' z TI TO (rawInt s.heap.objs.size) → IsPair h' TO x y → IterB b1 h' i1 l1 (k1 + 1) → IterB b2 h' i2 l2 (k2 + 1) → IsPair h' s.heap.objs.size x y → h'.objs.size = s.heap.objs.size + 1 →
      (∀ c o, c ≠ z → c ≠ TO → c ≠ i1 → c ≠ i2 → s.heap.get? c = some o → h'.get? c = some o) → Q (.ref s.heap.objs.size) { s with heap := h' }) :
    wpAny (model prog w) A (Builtin.«zip.__next__» ⟨[.ref z], []⟩) (fun fin s' => ∃ v, fin = .done (.ret v) ∧ Q v s') E s := by
  show wpAny _ _ (field (.ref z) 2 >>= _) _ _ _
  refine wpAny_bind (wpAny_field hz rfl (x := .bool false) rfl ?_)
  show wpAny _ _ (field (.ref z) 3 >>= _) _ _ _
  refine wpAny_bind (wpAny_field hz rfl (x := .ref TI) rfl ?_)
  refine wpAny_bind (wpAny_seqItems hTI rfl ?_)
  show wpAny _ _ (Builtin.SmallTypes.ownedTupleIsFree (.ref z) >>= _) _ _ _
  refine wpAny_bind ?_
  unfold Builtin.SmallTypes.ownedTupleIsFree
  refine wpAny_bind (wpAny_field hz rfl (x := .none) rfl (wpAny_pure ?_))
  simp only [if_true]
  refine wpAny_bind (wpAny_rule ?_)
  refine wpAny_bind (wpAny_field hz rfl (x := .ref TO) rfl ?_)
  refine wpAny_bind (wpAny_setField_rec hz (by simp) fun g1 z1 s1 => ?_)
  replace z1 : IsZip g1 z TI TO .ellipsis := z1
  refine wpAny_bind ?_
  simp only [List.zipIdx_cons, List.zipIdx_nil, List.forIn_cons, List.forIn_nil]
  refine wpAny_bind (wpAny_bind (wpAny_onRaise ?_))
  show wpAny _ _ (Builtin.SmallTypes.nextOf (.ref i1) >>= _) _ _ _
  refine wpAny_bind (next_item (h1.ext s1.extBut D.i1z) (hl1.ext s1.extBut D.l1z) hx fun g2 n1 s2 => wpAny_pure ?_)
  have t2 : IsPair g2 TO p q := s2.extBut _ _ D.TOi1 (s1.extBut _ _ D.TOz hTO)
  refine wpAny_bind (wpAny_seqItems t2 rfl ?_)
  refine wpAny_bind (wpAny_updateSeq_pair t2 fun g3 t3 s3 => ?_)
  replace t3 : IsPair g3 TO x q := t3
  refine wpAny_bind (wpAny_letGo (wpAny_pure ?_))
  refine wpAny_bind (wpAny_bind (wpAny_onRaise ?_))
  show wpAny _ _ (Builtin.SmallTypes.nextOf (.ref i2) >>= _) _ _ _
  refine wpAny_bind (next_item (((h2.ext s1.extBut D.i2z).ext s2.extBut D.i12.symm).ext s3.extBut D.TOi2.symm) (((hl2.ext s1.extBut D.l2z).ext s2.extBut D.l2i1).ext s3.extBut D.l2TO) hy fun g4 n2 s4 => wpAny_pure ?_)
  have t4 : IsPair g4 TO x q := s4.extBut _ _ D.TOi2 t3
  refine wpAny_bind (wpAny_seqItems t4 rfl ?_)
  refine wpAny_bind (wpAny_updateSeq_pair t4 fun g5 t5 s5 => ?_)
  replace t5 : IsPair g5 TO x y := t5
  refine wpAny_bind (wpAny_letGo (wpAny_pure (wpAny_pure ?_)))
  refine wpAny_bind (wpAny_seqItems t5 rfl ?_)
  refine wpAny_bind (wpAny_newTuple ?_)
  have hsz : g5.objs.size = s.heap.objs.size := by rw [s5.1, s4.1, s3.1, s2.1, s1.1]
  have z5 : IsZip g5 z TI TO .ellipsis := s5.extBut _ _ D.TOz.symm (s4.extBut _ _ D.i2z.symm (s3.extBut _ _ D.TOz.symm (s2.extBut _ _ D.i1z.symm z1)))
  have k5 : ∀ c o, c ≠ z → c ≠ TO → c ≠ i1 → c ≠ i2 → s.heap.get? c = some o → g5.get? c = some o := fun c o c1 c2 c3 c4 e =>
    s5.extBut _ _ c2 (s4.extBut _ _ c4 (s3.extBut _ _ c2 (s2.extBut _ _ c3 (s1.extBut _ _ c1 e))))
  have m1 : IterB b1 g5 i1 l1 (k1 + 1) := ((n1.ext s3.extBut D.TOi1.symm).ext s4.extBut D.i12).ext s5.extBut D.TOi1.symm
  have m2 : IterB b2 g5 i2 l2 (k2 + 1) := n2.ext s5.extBut D.TOi2.symm
  have zlt : z < g5.objs.size := Heap.lt_size z5
  show wpAny _ _ (Builtin.SmallTypes.ownedTupleHandOut (.ref z) (.ref g5.objs.size) >>= _) _ _ _
  refine wpAny_bind ?_
  unfold Builtin.SmallTypes.ownedTupleHandOut
  have z6 : IsZip (g5.push { cls := .type "tuple", data := .seq #[x, y] }) z TI TO .ellipsis := Heap.get?_push_of_some _ z5
  refine wpAny_bind (wpAny_setField_rec z6 (by simp) fun g7 z7 s7 => ?_)
  replace z7 : IsZip g7 z TI TO (rawInt g5.objs.size) := z7
  refine wpAny_setField_rec z7 (by simp) fun g8 z8 s8 => ?_
  replace z8 : IsZip g8 z TI TO (rawInt g5.objs.size) := z8
  have up : ∀ c o, c ≠ z → g5.get? c = some o → g8.get? c = some o := fun c o c1 e => s8.extBut _ _ c1 (s7.extBut _ _ c1 (Heap.get?_push_of_some _ e))
  have t8 : IsPair g8 g5.objs.size x y := s8.extBut _ _ (Nat.ne_of_gt zlt) (s7.extBut _ _ (Nat.ne_of_gt zlt) (Heap.get?_push_size _ rfl))
  have sz8 : g8.objs.size = g5.objs.size + 1 := by rw [s8.1, s7.1, Heap.size_push]
  rw [hsz] at z8 t8 sz8
  refine wpAny_pure ⟨_, rfl, ?_⟩
  show Q (.ref g5.objs.size) _
  rw [hsz]
  exact hQ g8 z8 (up _ _ D.TOz t5) (m1.at fun o e => up _ o D.i1z e) (m2.at fun o e => up _ o D.i2z e) t8 sz8 fun c o c1 c2 c3 c4 e => up c o c1 (k5 c o c1 c2 c3 c4 e)
theorem zip_end {z TI TO i1 i2 l1 l2 : Addr} {k1 k2 : Nat} {xs ys : Array Value} {p q : Value} {Q : Fin → Shared → Prop} (hh : A.handled = none) (D : ZipApart z TI TO i1 i2 l1 l2)
    (hz : IsZip s.heap z TI TO .none) (hTI : IsPair s.heap TI (.ref i1) (.ref i2)) (hTO : IsPair s.heap TO p q) (h1 : IterB b1 s.heap i1 l1 k1) (h2 : IterB b2 s.heap i2 l2 k2)
    (hl1 : SeqB b1 s.heap l1 xs) (hl2 : SeqB b2 s.heap l2 ys) (hend : xs[k1]? = none ∨ ys[k2]? = none)
    (hE : ∀ h' e, (∀ c o, c ≠ z → c ≠ TO → c ≠ i1 → c ≠ i2 → s.heap.get? c = some o → h'.get? c = some o) → (∃ o, h'.get? e = some o ∧ o.cls = .type "StopIteration") → E (.ref e) { s with heap := h' }) :
    wpAny (model prog w) A (Builtin.«zip.__next__» ⟨[.ref z], []⟩) Q E s := by
  show wpAny _ _ (field (.ref z) 2 >>= _) _ _ _
  refine wpAny_bind (wpAny_field hz rfl (x := .bool false) rfl ?_)
  show wpAny _ _ (field (.ref z) 3 >>= _) _ _ _
  refine wpAny_bind (wpAny_field hz rfl (x := .ref TI) rfl ?_)
  refine wpAny_bind (wpAny_seqItems hTI rfl ?_)
  show wpAny _ _ (Builtin.SmallTypes.ownedTupleIsFree (.ref z) >>= _) _ _ _
  refine wpAny_bind ?_
  unfold Builtin.SmallTypes.ownedTupleIsFree
  refine wpAny_bind (wpAny_field hz rfl (x := .none) rfl (wpAny_pure ?_))
  simp only [if_true]
  refine wpAny_bind (wpAny_rule ?_)
  refine wpAny_bind (wpAny_field hz rfl (x := .ref TO) rfl ?_)
  refine wpAny_bind (wpAny_setField_rec hz (by simp) fun g1 z1 s1 => ?_)
  replace z1 : IsZip g1 z TI TO .ellipsis := z1
  refine wpAny_bind ?_
  simp only [List.zipIdx_cons, List.zipIdx_nil, List.forIn_cons, List.forIn_nil]
  refine wpAny_bind (wpAny_bind (wpAny_onRaise ?_))
  show wpAny _ _ (Builtin.SmallTypes.nextOf (.ref i1) >>= _) _ _ _
  cases hx : xs[k1]? with
  | none =>
    refine wpAny_bind (next_end hh (h1.ext s1.extBut D.i1z) (hl1.ext s1.extBut D.l1z) hx fun g2 e s2 he => ?_)
    obtain ⟨oe, hoe, hce⟩ := he
    have z2 : IsZip g2 z TI TO .ellipsis := s2 _ _ D.i1z.symm z1
    have hez : e ≠ z := fun x => by subst x; rw [z2] at hoe; cases hoe; simp at hce
    refine wpAny_setField_rec z2 (by simp) fun g3 _ s3 => hE g3 e (fun c o c1 _ c3 _ x => s3.extBut _ _ c1 (s2 _ _ c3 (s1.extBut _ _ c1 x))) ⟨oe, s3.extBut _ _ hez hoe, hce⟩
  | some x =>
    have hy : ys[k2]? = none := by rcases hend with h | h; rw [hx] at h; cases h; exact h
    refine wpAny_bind (next_item (h1.ext s1.extBut D.i1z) (hl1.ext s1.extBut D.l1z) hx fun g2 n1 s2 => wpAny_pure ?_)
    have t2 : IsPair g2 TO p q := s2.extBut _ _ D.TOi1 (s1.extBut _ _ D.TOz hTO)
    refine wpAny_bind (wpAny_seqItems t2 rfl ?_)
    refine wpAny_bind (wpAny_updateSeq_pair t2 fun g3 t3 s3 => ?_)
    refine wpAny_bind (wpAny_letGo (wpAny_pure ?_))
    refine wpAny_bind (wpAny_bind (wpAny_onRaise ?_))
    show wpAny _ _ (Builtin.SmallTypes.nextOf (.ref i2) >>= _) _ _ _
    refine wpAny_bind (next_end hh (((h2.ext s1.extBut D.i2z).ext s2.extBut D.i12.symm).ext s3.extBut D.TOi2.symm) (((hl2.ext s1.extBut D.l2z).ext s2.extBut D.l2i1).ext s3.extBut D.l2TO) hy fun g4 e s4 he => ?_)
    obtain ⟨oe, hoe, hce⟩ := he
    have z4 : IsZip g4 z TI TO .ellipsis := s4 _ _ D.i2z.symm (s3.extBut _ _ D.TOz.symm (s2.extBut _ _ D.i1z.symm z1))
    have hez : e ≠ z := fun x => by subst x; rw [z4] at hoe; cases hoe; simp at hce
    refine wpAny_setField_rec z4 (by simp) fun g5 _ s5 => hE g5 e (fun c o c1 c2 c3 c4 x => s5.extBut _ _ c1 (s4 _ _ c4 (s3.extBut _ _ c2 (s2.extBut _ _ c3 (s1.extBut _ _ c1 x))))) ⟨oe, s5.extBut _ _ hez hoe, hce⟩
end
/-! ### zip(..) -/
def itCls : Bool → String
  | true => "list_iterator"
  | false => "tuple_iterator"
abbrev zH1 (b1 : Bool) (h : Heap) (l1 : Addr) : Heap := h.push { cls := .type (itCls b1), data := .fields #[.ref l1, .int 0 0] }
abbrev zH2 (b1 b2 : Bool) (h : Heap) (l1 l2 : Addr) : Heap := (zH1 b1 h l1).push { cls := .type (itCls b2), data := .fields #[.ref l2, .int 0 0] }
abbrev zH3 (b1 b2 : Bool) (h : Heap) (l1 l2 : Addr) : Heap := (zH2 b1 b2 h l1 l2).push { cls := .type "tuple", data := .seq #[.ref h.objs.size, .ref (zH1 b1 h l1).objs.size] }
abbrev zH4 (b1 b2 : Bool) (h : Heap) (l1 l2 : Addr) : Heap := (zH3 b1 b2 h l1 l2).push { cls := .type "tuple", data := .seq #[.none, .none] }
abbrev zH5 (b1 b2 : Bool) (h : Heap) (l1 l2 : Addr) : Heap := (zH4 b1 b2 h l1 l2).push { cls := .type "zip", data := .fields #[.none, .bool false, .bool false, .ref (zH2 b1 b2 h l1 l2).objs.size, .ref (zH3 b1 b2 h l1 l2).objs.size] }
theorem pyIter_B {prog : Program} {w : World} {A : Around} {E : Value → Shared → Prop} {s : Shared} {b : Bool} {l : Addr} {xs : Array Value} {Q : Value → Shared → Prop} (hl : SeqB b s.heap l xs)
    (h : Q (.ref s.heap.objs.size) { s with heap := s.heap.push { cls := .type (itCls b), data := .fields #[.ref l, .int 0 0] } }) : wpAny (model prog w) A (pyIter (.ref l)) Q E s := by
  cases b with
  | true => exact wpAny_pyIter_list hl h
  | false => exact wpAny_pyIter_tuple hl h
theorem SeqB.push {b : Bool} {h : Heap} {l : Addr} {xs : Array Value} (q : SeqB b h l xs) (o : Obj) : SeqB b (h.push o) l xs := by
  cases b with
  | true => exact Heap.IsList.push q o
  | false => exact Heap.IsTuple.push q o
theorem meets_zipB (b1 b2 : Bool) (l1 l2 : Addr) (xs ys : Array Value) :
    Meets (Builtin.«zip.__new__» ⟨[.type "zip", .ref l1, .ref l2], []⟩) (fun _ R s => SeqB b1 s.heap l1 xs ∧ SeqB b2 s.heap l2 ys ∧
      R (.ok (.ret (.ref (zH4 b1 b2 s.heap l1 l2).objs.size))) { s with heap := zH5 b1 b2 s.heap l1 l2 }) :=
  .of_wp fun prog w A R s h => by
    obtain ⟨hp, g, d, tk, os⟩ := s; obtain ⟨hl1, hl2, h⟩ := h
    have hsub := sub_zip
    have hL1 : SeqB b1 (Shared.heap ⟨hp, g, d, tk, os⟩) l1 xs := hl1
    have hL2 : SeqB b2 (Shared.heap ⟨hp.push { cls := .type (itCls b1), data := .fields #[.ref l1, .int 0 0] }, g, d, tk, os⟩) l2 ys := SeqB.push hl2 _
    wp_walk using pyIter_B hL1, pyIter_B hL2
    exact ⟨_, rfl, h⟩
theorem iter_at {b : Bool} {h : Heap} {it l : Addr} (e : h.get? it = some { cls := .type (itCls b), data := .fields #[.ref l, .int 0 0] }) : IterB b h it l 0 := by
  cases b with
  | true => exact ⟨_, e, rfl, rfl⟩
  | false => exact ⟨_, e, rfl, rfl⟩
theorem call_zipB {prog : Program} {w : World} {A : Around} {E : Value → Shared → Prop} {s : Shared} {b1 b2 : Bool} {l1 l2 : Addr} {xs ys : Array Value} {Q : Value → Shared → Prop} (hl1 : SeqB b1 s.heap l1 xs) (hl2 : SeqB b2 s.heap l2 ys)
    (h : ∀ h', IsZip h' (s.heap.objs.size + 4) (s.heap.objs.size + 2) (s.heap.objs.size + 3) .none → IsPair h' (s.heap.objs.size + 2) (.ref s.heap.objs.size) (.ref (s.heap.objs.size + 1)) →
      IsPair h' (s.heap.objs.size + 3) .none .none → IterB b1 h' s.heap.objs.size l1 0 → IterB b2 h' (s.heap.objs.size + 1) l2 0 → h'.objs.size = s.heap.objs.size + 5 →
      (∀ c o, s.heap.get? c = some o → h'.get? c = some o) → Q (.ref (s.heap.objs.size + 4)) { s with heap := h' }) :
    wpAny (model prog w) A (call (.type "zip") [.ref l1, .ref l2]) Q E s := by
  refine callType_new F.called_zip (by decide) (F.typeCall_zip_2 _ _) (F.newCall_zip_2 _ _) (fun obj => F.args_object_init_3 obj _ _) F.entry_zip_new
    (meets_zipB b1 b2 l1 l2 xs ys) ⟨hl1, hl2, ?_⟩
  have z1 : (zH1 b1 s.heap l1).objs.size = s.heap.objs.size + 1 := Heap.size_push ..
  have z2 : (zH2 b1 b2 s.heap l1 l2).objs.size = s.heap.objs.size + 2 := by rw [Heap.size_push, z1]
  have z3 : (zH3 b1 b2 s.heap l1 l2).objs.size = s.heap.objs.size + 3 := by rw [Heap.size_push, z2]
  have z4 : (zH4 b1 b2 s.heap l1 l2).objs.size = s.heap.objs.size + 4 := by rw [Heap.size_push, z3]
  have z5 : (zH5 b1 b2 s.heap l1 l2).objs.size = s.heap.objs.size + 5 := by rw [Heap.size_push, z4]
  have g5 : (zH5 b1 b2 s.heap l1 l2).get? (zH4 b1 b2 s.heap l1 l2).objs.size = some _ := Heap.get?_push_size _ rfl
  have g4 : (zH5 b1 b2 s.heap l1 l2).get? (zH3 b1 b2 s.heap l1 l2).objs.size = some _ := Heap.get?_push_of_some _ (Heap.get?_push_size _ rfl)
  have g3 : (zH5 b1 b2 s.heap l1 l2).get? (zH2 b1 b2 s.heap l1 l2).objs.size = some _ := Heap.get?_push_of_some _ (Heap.get?_push_of_some _ (Heap.get?_push_size _ rfl))
  have g2 : (zH5 b1 b2 s.heap l1 l2).get? (zH1 b1 s.heap l1).objs.size = some _ := Heap.get?_push_of_some _ (Heap.get?_push_of_some _ (Heap.get?_push_of_some _ (Heap.get?_push_size _ rfl)))
  have g1 : (zH5 b1 b2 s.heap l1 l2).get? s.heap.objs.size = some _ := Heap.get?_push_of_some _ (Heap.get?_push_of_some _ (Heap.get?_push_of_some _ (Heap.get?_push_of_some _ (Heap.get?_push_size _ rfl))))
  show _ ∧ _
  rw [z2, z3, z4] at g5
  rw [z1, z2] at g3
  rw [z3] at g4
  rw [z1] at g2
  rw [z4]
  exact ⟨⟨_, g5, rfl⟩, h _ g5 g3 g4 (iter_at g1) (iter_at g2) z5 fun c o x =>
    Heap.get?_push_of_some _ (Heap.get?_push_of_some _ (Heap.get?_push_of_some _ (Heap.get?_push_of_some _ (Heap.get?_push_of_some _ x))))⟩
/-! ### the loop's view -/
def SqB (K : PySem.W.Frag) (b : Bool) (H : Hp) (a : Addr) (xs : List V) : Prop := match b with
  | true => SqL K H a xs
  | false => SqT K H a xs
def ItzB (K : PySem.W.Frag) (b1 b2 : Bool) (a b : Addr) : It :=
  ⟨fun i H => ∃ (xs ys : List V) (x y : V), SqB K b1 H a xs ∧ SqB K b2 H b ys ∧ xs[i]? = some x ∧ ys[i]? = some y,
    fun i H v H' => ∃ T x y, v = .ref T ∧ H T = none ∧ H' = upd H T (.tup [x, y]) ∧ (∀ xs, SqB K b1 H a xs → xs[i]? = some x) ∧ ∀ ys, SqB K b2 H b ys → ys[i]? = some y,
    fun i H => ∃ xs ys : List V, SqB K b1 H a xs ∧ SqB K b2 H b ys ∧ (xs.length ≤ i ∨ ys.length ≤ i)⟩
theorem SqB.raw {X : Cx} {pins : List (Addr × Obj)} {σ : L2.St} {H : Hp} {s : Shared} (I : Inv X pins σ H s) {b : Bool} {a : Addr} {xs : List V} (h : SqB X.K b H a xs) : ∃ its : List Value, Vals xs its ∧ SeqB b s.heap a its.toArray := by
  cases b with
  | true =>
    obtain ⟨its, rv, p, _⟩ := I.list h
    exact ⟨its, rv, p.isList⟩
  | false =>
    obtain ⟨its, rv, p, _⟩ := I.tuple h
    exact ⟨its, rv, p⟩
theorem SeqB.lt {b : Bool} {h : Heap} {a : Addr} {xs : Array Value} (q : SeqB b h a xs) : a < h.objs.size := by
  cases b with
  | true => obtain ⟨_, e, _⟩ := q; exact Heap.lt_size e
  | false => obtain ⟨_, e, _⟩ := q; exact Heap.lt_size e
theorem SqB.inj {X : Cx} {pins : List (Addr × Obj)} {σ : L2.St} {H : Hp} {s : Shared} (I : Inv X pins σ H s) {b : Bool} {a : Addr} {xs ys : List V} (h : SqB X.K b H a xs) (h' : SqB X.K b H a ys) : xs = ys := by
  cases b with
  | true => exact I.list_inj h h'
  | false => exact I.tuple_inj h h'
theorem turn_zipB {P : Program} {w : World} {K : PySem.W.Frag} {b1 b2 : Bool} {elts : List Expr} {kk : Nat} {tpos : Pos} {a b z TI TO i1 i2 : Addr} (D : ZipApart z TI TO i1 i2 a b) :
    Turn P w K (.Tuple elts kk tpos) (ItzB K b1 b2 a b) [z, TI, TO, i1, i2] z (fun i h => IsZip h z TI TO .none ∧ IsPair h TI (.ref i1) (.ref i2) ∧ (∃ x y, IsPair h TO x y) ∧ IterB b1 h i1 a i ∧ IterB b2 h i2 b i) where
  mem := by simp
  obj := fun i h st c hc => by
    obtain ⟨hz, hTI, ⟨x, y, hTO⟩, h1, h2⟩ := st
    obtain ⟨o1, e1, v1, d1⟩ := h1.get
    obtain ⟨o2, e2, v2, d2⟩ := h2.get
    have e' : c = z ∨ c = TI ∨ c = TO ∨ c = i1 ∨ c = i2 := by simpa using hc
    rcases e' with q | q | q | q | q
    · rw [q]; exact ⟨_, hz, fun v q => nomatch q⟩
    · rw [q]; exact ⟨_, hTI, fun v q => nomatch q⟩
    · rw [q]; exact ⟨_, hTO, fun v q => nomatch q⟩
    · rw [q]; exact ⟨o1, e1, fun v q => by rw [d1] at q; cases q⟩
    · rw [q]; exact ⟨o2, e2, fun v q => by rw [d2] at q; cases q⟩
  keep := fun i h h' st k => by
    obtain ⟨hz, hTI, ⟨x, y, hTO⟩, h1, h2⟩ := st
    exact ⟨k z (by simp) _ hz, k TI (by simp) _ hTI, ⟨x, y, k TO (by simp) _ hTO⟩, h1.at fun o q => k i1 (by simp) o q, h2.at fun o q => k i2 (by simp) o q⟩
  item := by
    intro X hP hw hK hc i pins s σ H E I hf st hg
    subst hP hw hK
    obtain ⟨hz, hTI, ⟨x0, y0, hTO⟩, h1, h2⟩ := st
    obtain ⟨xs, ys, x, y, hqx, hqy, hx, hy⟩ := hg
    obtain ⟨its, rv, p⟩ := hqx.raw I
    obtain ⟨its2, rv2, p2⟩ := hqy.raw I
    obtain ⟨u, hu, ru⟩ := rv.get hx
    obtain ⟨u2, hu2, ru2⟩ := rv2.get hy
    have hzl : z < s.heap.objs.size := Heap.lt_size hz
    have nx : ∀ {Q : Option Value → Shared → Prop} {E : Value → Shared → Prop}, (∀ h', IsZip h' z TI TO (rawInt s.heap.objs.size) → IsPair h' TO u u2 → IterB b1 h' i1 a (i + 1) → IterB b2 h' i2 b (i + 1) → IsPair h' s.heap.objs.size u u2 → h'.objs.size = s.heap.objs.size + 1 →
        (∀ c o, c ≠ z → c ≠ TO → c ≠ i1 → c ≠ i2 → s.heap.get? c = some o → h'.get? c = some o) → Q (some (.ref s.heap.objs.size)) { s with heap := h' }) → wpAny (model X.prog X.w) X.A (pyNext (.ref z)) Q E s := fun {Q E} hQ => by
      have hT : s.TypeIs (.ref z) "zip" := ⟨_, hz, rfl⟩
      unfold pyNext
      exact wpAny_bind (wpAny_attempt (wpAny_callSpecial?_slot (name := Str.ofString "__next__") hT F.slot_zip_next
        (wpAny_call_entry F.slot_zip_next hT F.entry_zip_next
          (zip_item D hz hTI hTO h1 h2 p p2 (x := u) (y := u2) (by simpa using hu) (by simpa using hu2) fun h' a1 a2 a3 a4 a5 a6 a7 => wpAny_pure (hQ h' a1 a2 a3 a4 a5 a6 a7)) (F.args_zip_next_1 _))))
    refine nx fun h' z' TO' h1' h2' hT hsz hk => ?_
    refine ⟨_, rfl, wpAny_letOwnedTupleGo_zip (s := { s with heap := h' }) z' fun h'' z'' sb => ?_⟩
    have hT2 : h''.get? s.heap.objs.size = some { cls := .type "tuple", data := .seq #[u, u2] } := (sb.2 _ (Nat.ne_of_gt hzl)).trans hT
    have new : ObjOk X.prog X.w (upd H s.heap.objs.size (.tup [x, y])) h'' s.heap.objs.size (.tup [x, y]) :=
      ⟨by show 2 ≤ sizeLine; decide, [u, u2], .cons ru (.cons ru2 .nil), ⟨_, hT2, rfl, _, rfl⟩⟩
    have I1 : Inv X pins σ (upd H s.heap.objs.size (.tup [x, y])) { s with heap := h'' } :=
      I.turnedNew (t' := s.toks) (ch := [z, TI, TO, i1, i2]) (fun c o hb q => (sb.2 c (fun q' => hb (by simp [q']))).trans (hk c o (fun q' => hb (by simp [q'])) (fun q' => hb (by simp [q'])) (fun q' => hb (by simp [q'])) (fun q' => hb (by simp [q'])) q)) hf (Nat.le_refl _) new
    refine ⟨.ref s.heap.objs.size, _, I1, rfl, ⟨_, x, y, rfl, I.hok.fresh (Nat.le_refl _), rfl, fun l hl => by rw [hl.inj I hqx]; exact hx, fun l hl => by rw [hl.inj I hqy]; exact hy⟩, ⟨z'', ?_, ⟨u, u2, ?_⟩, ?_, ?_⟩, fun c hcm => ?_⟩
    · exact (sb.2 _ D.TIz).trans (hk _ _ D.TIz D.TITO D.TIi1 D.TIi2 hTI)
    · exact (sb.2 _ D.TOz).trans TO'
    · exact h1'.at fun o q => (sb.2 _ D.i1z).trans q
    · exact h2'.at fun o q => (sb.2 _ D.i2z).trans q
    · have hlt : c < s.heap.objs.size := by
        have e' : c = z ∨ c = TI ∨ c = TO ∨ c = i1 ∨ c = i2 := by simpa using hcm
        rcases e' with q | q | q | q | q
        · rw [q]; exact hzl
        · rw [q]; exact Heap.lt_size hTI
        · rw [q]; exact Heap.lt_size hTO
        · rw [q]; obtain ⟨_, e1, _⟩ := h1.get; exact Heap.lt_size e1
        · rw [q]; obtain ⟨_, e2, _⟩ := h2.get; exact Heap.lt_size e2
      rw [upd_ne (Nat.ne_of_lt hlt)]
      exact (hf c hcm).1
  done := by
    intro X hP hw hK hc i pins s σ H E I hf st hg
    subst hP hw hK
    obtain ⟨hz, hTI, ⟨x0, y0, hTO⟩, h1, h2⟩ := st
    obtain ⟨xs, ys, hqx, hqy, hend⟩ := hg
    obtain ⟨its, rv, p⟩ := hqx.raw I
    obtain ⟨its2, rv2, p2⟩ := hqy.raw I
    have l1 := rv.length
    have l2 := rv2.length
    have he : its.toArray[i]? = none ∨ its2.toArray[i]? = none := by
      rcases hend with q | q
      · exact .inl (by simp; omega)
      · exact .inr (by simp; omega)
    have hT : s.TypeIs (.ref z) "zip" := ⟨_, hz, rfl⟩
    unfold pyNext
    refine wpAny_bind (wpAny_attempt (wpAny_callSpecial?_slot (name := Str.ofString "__next__") hT F.slot_zip_next
      (wpAny_call_entry F.slot_zip_next hT F.entry_zip_next (zip_end (I.ok.hd hc) D hz hTI hTO h1 h2 p p2 he fun h' e hk he => ?_) (F.args_zip_next_1 _))))
    obtain ⟨o, ho, hc'⟩ := he
    refine wpAny_bind (wpAny_isInstance (T := "StopIteration") (b := true) ⟨o, ho, hc'⟩ isSubtype_stop ?_)
    exact wpAny_pure ⟨rfl, I.turnedL (t' := s.toks) (ch := [z, TI, TO, i1, i2]) (fun c o hb q =>
      hk c o (fun q' => hb (by simp [q'])) (fun q' => hb (by simp [q'])) (fun q' => hb (by simp [q'])) (fun q' => hb (by simp [q'])) q) hf⟩
  self := fun A i s Q E st h => wpAny_pyIter_zip st.1 h
def iZipB (K : PySem.W.Frag) (ta : TA) : TI := fun σ H R => ta σ H fun vs H1 => ∃ a b b1 b2 xs ys, vs = [.ref a, .ref b] ∧ SqB K b1 H1 a xs ∧ SqB K b2 H1 b ys ∧ R (ItzB K b1 b2 a b) H1
theorem pi_zipB {X : Cx} {e e2 : Expr} {ta : TA} {p pos tpos : Pos} {elts : List Expr} {kk : Nat} (hg : Gl X "zip") (hm : X.mg "zip" = none) (ha : PA X [e, e2] ta)
    (hs : starEach [e, e2] X.env = (false, eval e X.env) :: starEach [e2] X.env := by rfl) (hpl : (backTo pos (starEach [e2] X.env)).any (·.1) = false := by rfl) :
    PI X (.Tuple elts kk tpos) (.Call (.Name "zip" p) [e, e2] [] pos) (iZipB X.K ta) := by
  refine ⟨fun pins s σ H R I h => ?_⟩
  refine Call_ (ld_blt I hg hm PyProof.Rows.boot_zip (PyProof.Rows.callWith_type1 (thn (ha.run pos pins s σ H _ I h) fun us s1 ⟨vs, H1, I1, r1, q1⟩ => ?_) hs hpl))
  obtain ⟨a, b, b1, b2, xs, ys, ex, hqx, hqy, q⟩ := q1
  subst ex
  cases r1 with
  | cons r rr =>
    cases rr with
    | cons r' rr =>
      cases rr
      cases r
      cases r'
      have fresh5 : ∀ c, c ∈ [s1.heap.objs.size + 4, s1.heap.objs.size + 2, s1.heap.objs.size + 3, s1.heap.objs.size, s1.heap.objs.size + 1] → FpOk X pins H1 c := fun c hcm => by
        have hle : s1.heap.objs.size ≤ c := by
          simp at hcm
          omega
        exact I1.fpOk hle (I1.hok.fresh hle)
      obtain ⟨its, rv, p1⟩ := hqx.raw I1
      obtain ⟨its2, rv2, p2⟩ := hqy.raw I1
      refine call_zipB p1 p2 fun h' hz hTI hTO h1 h2 hsz hk => wpAny_pyIter_zip hz ?_
      have I2 : Inv X pins σ H1 { s1 with heap := h' } := I1.kept (t' := s1.toks) hk
      exact ⟨s1.heap.objs.size + 4, [s1.heap.objs.size + 4, s1.heap.objs.size + 2, s1.heap.objs.size + 3, s1.heap.objs.size, s1.heap.objs.size + 1], _, _, H1, rfl, I2, turn_zipB (PySem.W.ktu_apart s1.heap.objs.size a b p1.lt p2.lt), ⟨hz, hTI, ⟨_, _, hTO⟩, h1, h2⟩, fresh5, q⟩
/-! ### min of a tuple -/
theorem min_rawT {prog : Program} {w : World} {A : Around} {E : Value → Shared → Prop} {s : Shared} {l : Addr} {its : List Value} {ns : List Int} {Q : Value → Shared → Prop} (hh : A.handled = none) (hl : s.heap.IsTuple l its.toArray) (hi : IntsAre its ns) (hne : 0 < ns.length)
    (h : ∀ h' tk M t', (∀ b o, s.heap.get? b = some o → h'.get? b = some o) → M ∈ ns → (∀ a, a ∈ ns → M ≤ a) → Q (.int M t') { s with heap := h', toks := tk }) : wpAny (model prog w) A (call (.builtin "min") [.ref l]) Q E s := by
  obtain ⟨xs, e⟩ := hi.allInts.items
  have hn : numsOf (intItems xs).toList = ns := by rw [← e]; exact hi.numsOf
  rw [nums_intItems] at hn
  subst hn
  rw [e] at hl
  have hsz : 0 < xs.size := by simpa using hne
  have hlt : l < s.heap.objs.size := by obtain ⟨_, e, _⟩ := hl; exact Heap.lt_size e
  have hl0 : s.heap.IsTuple l (intItems xs) := hl
  refine call_min_walk (wpAny_pyIter_tuple hl0 ?_)
  refine ⟨_, _, _, _, _, _, _, rfl, Walks.tuple (A := A.in1) hh _ l (Nat.ne_of_lt hlt) (intItems xs), ⟨⟨_, Heap.get?_push_size _ rfl, rfl, rfl⟩, hl0.push _⟩, fun b hb => ?_, by simpa [intItems] using hsz, CmpOf.ints_lt (numAt xs) (fun _ _ => intItems_at), fun v h' tk hP hk => ?_⟩
  · show b < (s.heap.push _).objs.size
    rw [Heap.size_push]
    have : b = s.heap.objs.size ∨ b = l := by simpa using hb
    rcases this with e | e
    · rw [e]; exact Nat.lt_succ_self _
    · rw [e]; exact Nat.lt_succ_of_lt hlt
  · have hP : (intItems xs)[argBest (fun i j => decide (numAt xs i < numAt xs j)) (xs.size - 1)]? = some v := by simpa [intItems] using hP
    obtain ⟨t, rfl⟩ := intItems_at hP
    obtain ⟨h1, h2⟩ := argBest_lt (numAt xs) (xs.size - 1)
    refine h h' tk _ t (fun b o e => hk b o (fun hm => ?_) (Heap.get?_push_of_some _ e)) ?_ fun a ha => ?_
    · have : b = s.heap.objs.size := by simpa using hm
      exact absurd (this ▸ Heap.lt_size e) (Nat.lt_irrefl _)
    · rw [numAt_eq]; exact PySem.getD_mem (by rw [List.length_map, Array.length_toList]; omega)
    · obtain ⟨j, hj, rfl⟩ := mem_getD ha
      rw [List.length_map, Array.length_toList] at hj
      rw [← numAt_eq]; exact h2 j (by omega)
def rMinB (K : PySem.W.Frag) : List V → Hp → VK → Prop := fun vs H Q => ∃ (a : Addr) (b : Bool) (ns : List Int), vs = [V.ref a] ∧ SqB K b H a (ns.map V.int) ∧ 0 < ns.length ∧ ∀ m, m ∈ ns → (∀ y, y ∈ ns → m ≤ y) → Q (.int m) H
theorem cr_minB {X : Cx} (hc : X.calm = true) : CallR X (.builtin "min") (rMinB X.K) := by
  intro pins s σ H vs us Q I r h
  obtain ⟨a, b, ns, rfl, hs, hne, q⟩ := h
  cases b with
  | true => exact cr_min hc pins s σ H _ us Q I r ⟨a, ns, rfl, hs, hne, q⟩
  | false =>
    obtain ⟨its, rv, hl, _⟩ := I.tuple hs
    rw [Vals.ref1 r]
    exact min_rawT (I.ok.hd hc) hl rv.ints hne fun h' tk m t' hk h1 h2 => ⟨.int _, H, I.kept hk, ⟨_, rfl⟩, q m h1 h2⟩
end EvZ

-- part Ev5f
set_option maxHeartbeats 1000000
/-! Ev5f: calls as expressions, built-ins. -/
namespace Ev
open PySem PySem.Spec PyProof.Rows L2
def noStar : Expr → Bool
  | .Starred .. => false
  | _ => true
theorem star_cons {e : Expr} {es : List Expr} {env : PySem.Env} (h : noStar e = true) : starEach (e :: es) env = (false, eval e env) :: starEach es env := by
  cases e <;> first
    | rfl
    | cases h
theorem star_any {pos : Pos} {env : PySem.Env} : ∀ {es : List Expr}, es.all noStar = true → (backTo pos (starEach es env)).any (·.1) = false
  | [], _ => rfl
  | e :: es, h => by
    rw [List.all_cons, Bool.and_eq_true] at h
    rw [star_cons h.1]
    show (false || (backTo pos (starEach es env)).any (·.1)) = false
    rw [star_any h.2]
    rfl
section
variable {X : Cx} {W : WX} {c : CallT} {K : PySem.W.Frag} {mg : Str → Option Value} {F F' : Addr → Prop} {H H' H0 : Hp} {v u : V} {σ σ' : L2.St} {r r' : Env} {Q : VK} {e a b : Expr} {pos : Pos}
/-- a def that is known to keep to the evaluator -/
def KwOk (fd : FuncData) (ps ks : List Str) : Prop := ∀ perm (ws zs : List Value), kwOrder ps ks = some perm → ws.length = ks.length → permL ws perm = some zs → bindArgs fd ⟨[], ks.zip ws⟩ = pure (ps.zip zs)
def KnownF (X : Cx) (k : Nat) (c : CallT) (kws : List (Str × List Str)) (f : Str) (ps : List Str) (fl : List Bool) : Prop :=
  ∃ fa fd, X.mg f = some (.ref fa) ∧ PySem.W.keepIn X.K (.ref fa) = true ∧ Binds X.K fd ps [] ∧ (∀ ks, (f, ks) ∈ kws → KwOk fd ps ks) ∧ FnOk X.prog X.w X.K X.mg X.base (L2.CX X.prog X.w) k fa fd ps (spEv X.K X.mg c f fl)
theorem call_reads {f : Str} {fl : List Bool} {ms : List E} {σ : L2.St} {H : Hp} {Q : VK} (h : tEv K mg W (evE c (.call f fl ms)) σ H Q) : tEvA K mg W (evEs c ms) σ H fun vs H1 => spEv K mg c f fl vs H1 Q fun cls d H' => W cls d σ H' := by
  obtain ⟨F, r, fr, g⟩ := h
  have g : Goes K mg W F H σ r (M.bind (evEs c ms) (fun vs => doCall c f fl vs) r) _ := g
  exact ⟨F, r, fr, g.bind0.imp fun ws r1 F1 H1 hw x1 fr1 g1 vs rvs => doCall_ok x1 fr1 rvs g1⟩
theorem pev_call {k : Nat} {kws : List (Str × List Str)} {f : Str} {ps : List Str} {fl : List Bool} {ms : List E} {es : List Expr} {p : Pos} (hr : Room k X.A) (hk : KnownF X k c kws f ps fl) (hg : Gl X f) (hdb : (f == ("__debug__" : Str)) = false) (tk : TakesF X W)
    (ha : PA X es (tEvA X.K X.mg W (evEs c ms))) (hs : es.all noStar = true) (hn : es = [] → ms = []) : PE X (.Call (.Name f p) es [] pos) (tEv X.K X.mg W (evE c (.call f fl ms))) := by
  obtain ⟨fa, fd, hm, kp, hb, _, G⟩ := hk
  cases es with
  | nil =>
    obtain rfl := hn rfl
    refine ⟨fun pins s σ H Q I h => ?_⟩
    obtain ⟨F, r, fr, g⟩ := call_reads h
    have g : spEv X.K X.mg c f fl [] H Q fun cls d H' => W cls d σ H' := Goes.ok (r := r) g fr [] .nil
    refine wpAny_Call_Name_kw (ld_glob I hg hm ?_ hdb)
    exact PySem.W.callWith_K0 I.kIn kp (run_fnS (E := WE W) (us := []) G hr hb (passAtF tk σ) I .nil g)
  | cons e es =>
    rw [List.all_cons, Bool.and_eq_true] at hs
    exact pe_imp (pe_callS G hr hg hm kp hb (fun σ => passAtF tk σ) ha hdb (star_cons hs.1) (star_any hs.2)) fun σ H Q h => call_reads h
/-! ### built-ins -/
def BiS (K : PySem.W.Frag) (mg : Str → Option Value) (rr : List V → Hp → VK → Prop) (op : List D → Option RV) : Prop :=
  ∀ {F : Addr → Prop} {H : Hp} {σ : L2.St} {r : Env} {ds : List D} {vs : List V} {w : RV} {Q : VK}, FR K mg F H σ r → RWs K mg F H ds vs → op ds = some w → Then K mg F H σ r w Q → rr vs H Q
theorem bi_reads {bi : Bi} {ms : List E} {rr : List V → Hp → VK → Prop} (hs : BiS K mg rr (biOp bi)) {σ : L2.St} {H : Hp} {Q : VK} (h : tEv K mg W (evE c (.bi bi ms)) σ H Q) : tCB rr (tEvA K mg W (evEs c ms)) σ H Q := by
  obtain ⟨F, r, fr, g⟩ := h
  have g : Goes K mg W F H σ r (M.bind (evEs c ms) (fun vs => withLooks vs fun ds => liftO (biOp bi ds)) r) _ := g
  refine ⟨F, r, fr, g.bind.imp fun ws r1 F1 H1 hw x1 fr1 g1 vs rvs => ?_⟩
  obtain ⟨ds, hd, g2⟩ := g1.looks
  obtain ⟨w, hw, g3⟩ := g2.lift
  exact hs fr1 (rvs.looks fr1 hd) hw fun F' H' z x3 fr3 rv3 => g3 F' H' x3 fr3 z (rv3.back x1)
theorem pev_biB {bi : Bi} {x : Str} {id : String} {p : Pos} {es : List Expr} {ms : List E} {rr : List V → Hp → VK → Prop} (hc : CallR X (.builtin id) rr) (hs : BiS X.K X.mg rr (biOp bi)) (hg : Gl X x) (hm : X.mg x = none) (hv : bootBuiltins x = some (.builtin id)) (hx : x ≠ "__name__") (hdb : (x == ("__debug__" : Str)) = false)
    (ha : PA X (e :: es) (tEvA X.K X.mg W (evEs c ms))) (hst : (e :: es).all noStar = true) : PE X (.Call (.Name x p) (e :: es) [] pos) (tEv X.K X.mg W (evE c (.bi bi ms))) := by
  rw [List.all_cons, Bool.and_eq_true] at hst
  exact pe_imp (pe_callB hc hg hm hv ha hx hdb (star_cons hst.1) (star_any hst.2)) fun σ H Q h => bi_reads hs h
theorem pev_biT {bi : Bi} {x : Str} {T : String} {p : Pos} {es : List Expr} {ms : List E} {rr : List V → Hp → VK → Prop} (hc : CallR X (.type T) rr) (hs : BiS X.K X.mg rr (biOp bi)) (hg : Gl X x) (hm : X.mg x = none) (hv : bootBuiltins x = some (.type T)) (hx : x ≠ "__name__") (hdb : (x == ("__debug__" : Str)) = false)
    (ha : PA X (e :: es) (tEvA X.K X.mg W (evEs c ms))) (hst : (e :: es).all noStar = true) : PE X (.Call (.Name x p) (e :: es) [] pos) (tEv X.K X.mg W (evE c (.bi bi ms))) := by
  rw [List.all_cons, Bool.and_eq_true] at hst
  exact pe_imp (pe_callTy hc hg hm hv ha hx hdb (star_cons hst.1) (star_any hst.2)) fun σ H Q h => bi_reads hs h
theorem rws1 {d : D} {vs : List V} (h : RWs K mg F H [d] vs) : ∃ v, vs = [v] ∧ RW K mg F H d v := by
  cases h with
  | cons q t => cases t; exact ⟨_, rfl, q⟩
theorem rws2 {d e : D} {vs : List V} (h : RWs K mg F H [d, e] vs) : ∃ v u, vs = [v, u] ∧ RW K mg F H d v ∧ RW K mg F H e u := by
  cases h with
  | cons q t => cases t with
    | cons q2 t => cases t; exact ⟨_, _, rfl, q, q2⟩
/-- one argument alone -/
theorem ds1 {op : List D → Option RV} {ds : List D} {w : RV} (h : op ds = some w) (h0 : op [] = none) (h2 : ∀ a b r, op (a :: b :: r) = none) : ∃ d, ds = [d] := by
  match ds with
  | [] => rw [h0] at h; cases h
  | [d] => exact ⟨d, rfl⟩
  | a :: b :: r => rw [h2] at h; cases h
theorem drs_ints : ∀ {ds : List D} {vs : List V} {ns : List Int}, DRs K mg F H ds vs → intsD ds = some ns → vs = ns.map V.int
  | _, _, _, .nil, h => by cases h; rfl
  | _, _, _, .cons (d := d) (ds := ds) q t, h => by
    cases d with
    | int i =>
      have h : (intsD ds).map (i :: ·) = some _ := h
      cases e : intsD ds with
      | none => rw [e] at h; cases h
      | some ns =>
        rw [e] at h
        cases h
        cases q
        rw [drs_ints t e]
        rfl
    | _ => cases h
theorem drs_strs : ∀ {ds : List D} {vs : List V} {ns : List Str}, DRs K mg F H ds vs → strsD ds = some ns → vs = ns.map V.str
  | _, _, _, .nil, h => by cases h; rfl
  | _, _, _, .cons (d := d) (ds := ds) q t, h => by
    cases d with
    | str i =>
      have h : (strsD ds).map (i :: ·) = some _ := h
      cases e : strsD ds with
      | none => rw [e] at h; cases h
      | some ns =>
        rw [e] at h
        cases h
        cases q
        rw [drs_strs t e]
        rfl
    | _ => cases h
theorem drs_bools : ∀ {ds : List D} {vs : List V} {ns : List Bool}, DRs K mg F H ds vs → boolsD ds = some ns → vs = ns.map V.bl
  | _, _, _, .nil, h => by cases h; rfl
  | _, _, _, .cons (d := d) (ds := ds) q t, h => by
    cases d with
    | bl i =>
      have h : (boolsD ds).map (i :: ·) = some _ := h
      cases e : boolsD ds with
      | none => rw [e] at h; cases h
      | some ns =>
        rw [e] at h
        cases h
        cases q
        rw [drs_bools t e]
        rfl
    | _ => cases h
theorem drs_mapInt : ∀ (ns : List Int), DRs K mg F H (ns.map D.int) (ns.map V.int)
  | [] => .nil
  | n :: ns => .cons (.int n) (drs_mapInt ns)
theorem drs_mapStr : ∀ (ns : List Str), DRs K mg F H (ns.map D.str) (ns.map V.str)
  | [] => .nil
  | n :: ns => .cons (.str n) (drs_mapStr ns)
theorem bis_len : BiS K mg (fun xs H Q => ∃ x n, xs = [x] ∧ LenV K x H n ∧ Q (.int n) H) (biOp .len) := by
  intro F H σ r ds vs w Q fr h1 h t
  obtain ⟨d, rfl⟩ := ds1 h rfl fun _ _ _ => rfl
  obtain ⟨v, rfl, q⟩ := rws1 h1
  cases d with
  | str x =>
    have h : (if x.length ≤ sizeLine then some (RV.val (.int x.length)) else none) = some w := h
    split at h
    · rename_i hl
      cases h
      rw [rw_str q]
      exact ⟨_, _, rfl, ⟨hl, rfl⟩, t.int fr⟩
    · cases h
  | tup xs =>
    cases h
    obtain ⟨a, us, rfl, s1, q1, _⟩ := rw_tup q
    refine ⟨_, us.length, rfl, .inr ⟨us, s1, rfl⟩, ?_⟩
    rw [← q1.length]
    exact t.int fr
  | lst xs =>
    cases h
    obtain ⟨a, us, rfl, s1, q1⟩ := rw_lst q
    refine ⟨_, us.length, rfl, .inl ⟨us, SqL.of s1, rfl⟩, ?_⟩
    rw [← q1.length]
    exact t.int fr
  | scr xs =>
    cases h
    obtain ⟨a, us, rfl, s1, q1⟩ := rw_scr q
    refine ⟨_, us.length, rfl, .inl ⟨us, s1, rfl⟩, ?_⟩
    rw [← q1.length]
    exact t.int fr
  | _ => cases h
theorem bis_abs : BiS K mg (fun xs H Q => ∃ i, xs = [.int i] ∧ Q (.int (if i < 0 then -i else i)) H) (biOp .abs) := by
  intro F H σ r ds vs w Q fr h1 h t
  obtain ⟨d, rfl⟩ := ds1 h rfl fun a b r => by cases a <;> rfl
  obtain ⟨v, rfl, q⟩ := rws1 h1
  cases d <;> first
    | (cases h; done)
    | skip
  cases h
  rw [rw_int q]
  exact ⟨_, rfl, t.int fr⟩
theorem bis_int : BiS K mg (fun xs H Q => (∃ i, xs = [.int i] ∧ Q (.int i) H) ∨ ∃ k, xs = [.bl k] ∧ Q (.int (if k then 1 else 0)) H) (biOp .int) := by
  intro F H σ r ds vs w Q fr h1 h t
  obtain ⟨d, rfl⟩ := ds1 h rfl fun a b r => by cases a <;> rfl
  obtain ⟨v, rfl, q⟩ := rws1 h1
  cases d with
  | int i =>
    cases h
    rw [rw_int q]
    exact .inl ⟨_, rfl, t.int fr⟩
  | bl k =>
    cases h
    rw [rw_bl q]
    exact .inr ⟨k, rfl, t.int fr⟩
  | _ => cases h
theorem bis_tuple : BiS K mg (fun xs H Q => ∃ p ys, xs = [.ref p] ∧ ((SqL K H p ys ∧ ∀ l, H l = none → Q (.ref l) (upd H l (.tup ys))) ∨ (SqT K H p ys ∧ Q (.ref p) H))) (biOp .tuple) := by
  intro F H σ r ds vs w Q fr h1 h t
  obtain ⟨d, rfl⟩ := ds1 h rfl fun _ _ _ => rfl
  obtain ⟨v, rfl, q⟩ := rws1 h1
  cases d with
  | tup xs =>
    cases h
    obtain ⟨a, us, rfl, s1, q1, g1⟩ := rw_tup q
    exact ⟨a, us, rfl, .inr ⟨s1, t.val fr g1⟩⟩
  | lst xs =>
    cases h
    obtain ⟨a, us, rfl, s1, q1⟩ := rw_lst q
    exact ⟨a, us, rfl, .inl ⟨SqL.of s1, fun p hp => t.newT fr q1 p hp⟩⟩
  | _ => cases h
theorem bis_list : BiS K mg (fun xs H Q => ∃ p ys, xs = [.ref p] ∧ (SqL K H p ys ∨ SqT K H p ys) ∧ ∀ l, H l = none → Q (.ref l) (upd H l (.lst ys))) (biOp .list) := by
  intro F H σ r ds vs w Q fr h1 h t
  obtain ⟨d, rfl⟩ := ds1 h rfl fun _ _ _ => rfl
  obtain ⟨v, rfl, q⟩ := rws1 h1
  cases d with
  | tup xs =>
    cases h
    obtain ⟨a, us, rfl, s1, q1, g1⟩ := rw_tup q
    exact ⟨a, us, rfl, .inr s1, fun p hp => t.newL fr q1 p hp⟩
  | lst xs =>
    cases h
    obtain ⟨a, us, rfl, s1, q1⟩ := rw_lst q
    exact ⟨a, us, rfl, .inl (SqL.of s1), fun p hp => t.newL fr q1 p hp⟩
  | _ => cases h
theorem bis_sum : BiS K mg (rSum K) (biOp .sum) := by
  intro F H σ r ds vs w Q fr h1 h t
  obtain ⟨d, rfl⟩ := ds1 h rfl fun a b r => by cases a <;> rfl
  obtain ⟨v, rfl, q⟩ := rws1 h1
  cases d with
  | lst xs =>
    have h : (intsD xs).map (fun ns => RV.val (.int ns.sum)) = some w := h
    cases e : intsD xs with
    | none => rw [e] at h; cases h
    | some ns =>
      rw [e] at h
      cases h
      obtain ⟨a, us, rfl, s1, q1⟩ := rw_lst q
      rw [drs_ints q1 e] at s1
      exact ⟨a, ns, rfl, SqL.of s1, t.int fr⟩
  | _ => cases h
theorem bis_all : BiS K mg (rAll K) (biOp .all) := by
  intro F H σ r ds vs w Q fr h1 h t
  obtain ⟨d, rfl⟩ := ds1 h rfl fun a b r => by cases a <;> rfl
  obtain ⟨v, rfl, q⟩ := rws1 h1
  cases d with
  | lst xs =>
    have h : (boolsD xs).map (fun ns => RV.val (.bl (ns.all id))) = some w := h
    cases e : boolsD xs with
    | none => rw [e] at h; cases h
    | some ns =>
      rw [e] at h
      cases h
      obtain ⟨a, us, rfl, s1, q1⟩ := rw_lst q
      rw [drs_bools q1 e] at s1
      exact ⟨a, ns, rfl, SqL.of s1, t.bl fr⟩
  | _ => cases h
theorem bis_any : BiS K mg (rAny K) (biOp .any) := by
  intro F H σ r ds vs w Q fr h1 h t
  obtain ⟨d, rfl⟩ := ds1 h rfl fun a b r => by cases a <;> rfl
  obtain ⟨v, rfl, q⟩ := rws1 h1
  cases d with
  | lst xs =>
    have h : (boolsD xs).map (fun ns => RV.val (.bl (ns.any id))) = some w := h
    cases e : boolsD xs with
    | none => rw [e] at h; cases h
    | some ns =>
      rw [e] at h
      cases h
      obtain ⟨a, us, rfl, s1, q1⟩ := rw_lst q
      rw [drs_bools q1 e] at s1
      exact ⟨a, ns, rfl, SqL.of s1, t.bl fr⟩
  | _ => cases h
theorem bis_min2 : BiS K mg (fun xs H Q => ∃ i j, xs = [.int i, .int j] ∧ Q (.int (if j < i then j else i)) H) (biOp .min2) := by
  intro F H σ r ds vs w Q fr h1 h t
  match ds, h with
  | [.int i, .int j], h =>
    cases h
    obtain ⟨v, u, rfl, q1, q2⟩ := rws2 h1
    rw [rw_int q1, rw_int q2]
    exact ⟨i, j, rfl, t.int fr⟩
theorem bis_max2 : BiS K mg (fun xs H Q => ∃ i j, xs = [.int i, .int j] ∧ Q (.int (if j > i then j else i)) H) (biOp .max2) := by
  intro F H σ r ds vs w Q fr h1 h t
  match ds, h with
  | [.int i, .int j], h =>
    cases h
    obtain ⟨v, u, rfl, q1, q2⟩ := rws2 h1
    rw [rw_int q1, rw_int q2]
    exact ⟨i, j, rfl, t.int fr⟩
/-! ### min, max of ints -/
theorem minI_mem : ∀ (b : Int) (l : List Int), minI b l ∈ b :: l ∧ ∀ y ∈ b :: l, minI b l ≤ y
  | b, [] => by simp [minI]
  | b, x :: r => by
    have ih := minI_mem (if x < b then x else b) r
    unfold minI
    refine ⟨?_, fun y hy => ?_⟩
    · rcases List.mem_cons.mp ih.1 with h | h
      · rw [h]
        split <;> simp
      · exact List.mem_cons_of_mem _ (List.mem_cons_of_mem _ h)
    · have h0 := ih.2 _ List.mem_cons_self
      have h1 : (if x < b then x else b) ≤ b := by split <;> omega
      have h2 : (if x < b then x else b) ≤ x := by split <;> omega
      rcases List.mem_cons.mp hy with h | h
      · subst h
        exact Int.le_trans h0 h1
      · rcases List.mem_cons.mp h with h | h
        · subst h
          exact Int.le_trans h0 h2
        · exact ih.2 y (List.mem_cons_of_mem _ h)
theorem maxI_mem : ∀ (b : Int) (l : List Int), maxI b l ∈ b :: l ∧ ∀ y ∈ b :: l, y ≤ maxI b l
  | b, [] => by simp [maxI]
  | b, x :: r => by
    have ih := maxI_mem (if b < x then x else b) r
    unfold maxI
    refine ⟨?_, fun y hy => ?_⟩
    · rcases List.mem_cons.mp ih.1 with h | h
      · rw [h]
        split <;> simp
      · exact List.mem_cons_of_mem _ (List.mem_cons_of_mem _ h)
    · have h0 := ih.2 _ List.mem_cons_self
      have h1 : b ≤ (if b < x then x else b) := by split <;> omega
      have h2 : x ≤ (if b < x then x else b) := by split <;> omega
      rcases List.mem_cons.mp hy with h | h
      · subst h
        exact Int.le_trans h1 h0
      · rcases List.mem_cons.mp h with h | h
        · subst h
          exact Int.le_trans h2 h0
        · exact ih.2 y (List.mem_cons_of_mem _ h)
theorem bis_min : BiS K mg (EvZ.rMinB K) (biOp .min) := by
  intro F H σ r ds vs w Q fr h1 h t
  obtain ⟨d, rfl⟩ := ds1 h rfl fun a b r => by cases a <;> rfl
  obtain ⟨v, rfl, q⟩ := rws1 h1
  cases d with
  | tup xs =>
    have h : (match intsD xs with
      | some (n :: ns) => some (RV.val (.int (minI n ns)))
      | _ => none) = some w := h
    split at h
    · rename_i n ns e
      cases h
      obtain ⟨a, us, rfl, s1, q1, _⟩ := rw_tup q
      rw [drs_ints q1 e] at s1
      refine ⟨a, false, _, rfl, s1, by simp, fun m hm1 hm2 => ?_⟩
      have z := minI_mem n ns
      have e : m = minI n ns := Int.le_antisymm (hm2 _ z.1) (z.2 m hm1)
      rw [e]
      exact t.int fr
    · cases h
  | lst xs =>
    have h : (match intsD xs with
      | some (n :: ns) => some (RV.val (.int (minI n ns)))
      | _ => none) = some w := h
    split at h
    · rename_i n ns e
      cases h
      obtain ⟨a, us, rfl, s1, q1⟩ := rw_lst q
      rw [drs_ints q1 e] at s1
      refine ⟨a, true, _, rfl, SqL.of s1, by simp, fun m hm1 hm2 => ?_⟩
      have z := minI_mem n ns
      have e : m = minI n ns := Int.le_antisymm (hm2 _ z.1) (z.2 m hm1)
      rw [e]
      exact t.int fr
    · cases h
  | _ => cases h
theorem bis_max : BiS K mg (rMax K) (biOp .max) := by
  intro F H σ r ds vs w Q fr h1 h t
  obtain ⟨d, rfl⟩ := ds1 h rfl fun a b r => by cases a <;> rfl
  obtain ⟨v, rfl, q⟩ := rws1 h1
  cases d with
  | lst xs =>
    have h : (match intsD xs with
      | some (n :: ns) => some (RV.val (.int (maxI n ns)))
      | _ => none) = some w := h
    split at h
    · rename_i n ns e
      cases h
      obtain ⟨a, us, rfl, s1, q1⟩ := rw_lst q
      rw [drs_ints q1 e] at s1
      refine ⟨a, _, rfl, SqL.of s1, by simp, fun m hm1 hm2 => ?_⟩
      have z := maxI_mem n ns
      have e : m = maxI n ns := Int.le_antisymm (z.2 m hm1) (hm2 _ z.1)
      rw [e]
      exact t.int fr
    · cases h
  | _ => cases h
end
end Ev

-- part Ev5g
set_option maxHeartbeats 1000000
/-! Ev5g: a comprehension's frame; targets; what is walked. -/
namespace Ev
open PySem PySem.Spec PyProof.Rows L2
section
variable {X : Cx} {W : WX} {c : CallT} {K : PySem.W.Frag} {mg : Str → Option Value} {F F' : Addr → Prop} {H H' H0 : Hp} {v u : V} {σ σ' : L2.St} {r r' r0 : Env} {Q : VK} {e a b : Expr} {pos : Pos}
/-! ### wiped slots -/
theorem wipeE_len : ∀ (own : List Nat) (r : Env), (wipeE own r).length = r.length
  | [], r => rfl
  | i :: is, r => by
    show (wipeE is (r.set i .no)).length = _
    rw [wipeE_len is, List.length_set]
theorem wipeE_out : ∀ {own : List Nat} {r : Env} {i : Nat}, i ∉ own → (wipeE own r)[i]? = r[i]?
  | [], _, _, _ => rfl
  | j :: js, r, i, h => by
    have h1 : i ≠ j := fun z => h (by rw [z]; exact List.mem_cons_self)
    show (wipeE js (r.set j .no))[i]? = _
    rw [wipeE_out (fun z => h (List.mem_cons_of_mem _ z)), List.getElem?_set_ne (Ne.symm h1)]
theorem wipeE_no : ∀ {own : List Nat} {r : Env} {i : Nat} {s : Slot}, (wipeE own r)[i]? = some s → s = .no ∨ r[i]? = some s
  | [], _, _, _, h => .inr h
  | j :: js, r, i, s, h => by
    have h : (wipeE js (r.set j .no))[i]? = some s := h
    rcases wipeE_no h with z | z
    · exact .inl z
    · rcases get_set z with ⟨_, z⟩ | ⟨_, z⟩
      · exact .inl z
      · exact .inr z
theorem wipeE_in : ∀ {own : List Nat} {r : Env} {i : Nat} {s : Slot}, i ∈ own → (wipeE own r)[i]? = some s → s = .no
  | [], _, _, _, hi, _ => by cases hi
  | j :: js, r, i, s, hi, h => by
    have h : (wipeE js (r.set j .no))[i]? = some s := h
    by_cases z : i ∈ js
    · exact wipeE_in z h
    · have e : i = j := by
        rcases List.mem_cons.mp hi with e | e
        · exact e
        · exact absurd e z
      rw [wipeE_out z] at h
      rcases get_set h with ⟨_, z⟩ | ⟨n, _⟩
      · exact z
      · exact absurd e n
theorem restE_len : ∀ (own : List Nat) (r0 r : Env), (restE own r0 r).length = r.length
  | [], _, r => rfl
  | i :: is, r0, r => by
    show (restE is r0 (r.set i (slotGet r0 i))).length = _
    rw [restE_len is, List.length_set]
theorem restE_out : ∀ {own : List Nat} {r0 r : Env} {i : Nat}, i ∉ own → (restE own r0 r)[i]? = r[i]?
  | [], _, _, _, _ => rfl
  | j :: js, r0, r, i, h => by
    have h1 : i ≠ j := fun z => h (by rw [z]; exact List.mem_cons_self)
    show (restE js r0 (r.set j _))[i]? = _
    rw [restE_out (fun z => h (List.mem_cons_of_mem _ z)), List.getElem?_set_ne (Ne.symm h1)]
theorem restE_in : ∀ {own : List Nat} {r0 r : Env} {i : Nat} {s : Slot}, i ∈ own → (restE own r0 r)[i]? = some s → s = slotGet r0 i
  | [], _, _, _, _, hi, _ => by cases hi
  | j :: js, r0, r, i, s, hi, h => by
    have h : (restE js r0 (r.set j (slotGet r0 j)))[i]? = some s := h
    by_cases z : i ∈ js
    · exact restE_in z h
    · have e : i = j := by
        rcases List.mem_cons.mp hi with e | e
        · exact e
        · exact absurd e z
      rw [restE_out z] at h
      rcases get_set h with ⟨_, z⟩ | ⟨n, _⟩
      · rw [e]; exact z
      · exact absurd e n
theorem slotGet_some {i : Nat} {s : Slot} (h : slotGet r i = s) (hs : s ≠ .no) : r[i]? = some s := by
  unfold slotGet at h
  cases e : r[i]? with
  | none => rw [e] at h; exact absurd h.symm hs
  | some t => rw [e] at h; exact congrArg some h
theorem FR.wipe (h : FR K mg F H σ r) (own : List Nat) : FR K mg F H (L2.wipe σ own) (wipeE own r) where
  len := by rw [wipeE_len, wipe_length]; exact h.len
  ftr := h.ftr
  val := fun i d e => by
    have hi : i ∉ own := fun z => by
      have := wipeE_in z e
      cases this
    rw [wipeE_out hi] at e
    rw [wipe_out hi]
    exact h.val i d e
  box := fun i xs e => by
    have hi : i ∉ own := fun z => by
      have := wipeE_in z e
      cases this
    rw [wipeE_out hi] at e
    rw [wipe_out hi]
    exact h.box i xs e
  inj := fun i j xs ys a e1 e2 e3 e4 => by
    have hi : i ∉ own := fun z => by
      have := wipeE_in z e1
      cases this
    have hj : j ∉ own := fun z => by
      have := wipeE_in z e2
      cases this
    rw [wipeE_out hi] at e1
    rw [wipeE_out hj] at e2
    rw [wipe_out hi] at e3
    rw [wipe_out hj] at e4
    exact h.inj i j xs ys a e1 e2 e3 e4
theorem Own.wipe {own : List Nat} {a : Addr} (o : Own (L2.wipe σ own) (wipeE own r) a) : Own σ r a := by
  obtain ⟨i, xs, e1, e2⟩ := o
  have hi : i ∉ own := fun z => by
    have := wipeE_in z e1
    cases this
  rw [wipeE_out hi] at e1
  rw [wipe_out hi] at e2
  exact ⟨i, xs, e1, e2⟩
/-- given back -/
theorem FR.rest {own : List Nat} (h0 : FR K mg F H σ r0) (h : FR K mg F' H' (L2.wipe σ own) r) (x : Ext F H (Own (L2.wipe σ own) (wipeE own r0)) F' H' (Own (L2.wipe σ own) r)) :
    FR K mg F' H' σ (restE own r0 r) ∧ ∀ a, Own σ (restE own r0 r) a → Own (L2.wipe σ own) r a ∨ (Own σ r0 a ∧ H a ≠ none) := by
  have nw : ∀ {a : Addr} (i : Nat) xs, i ∈ own → r0[i]? = some (Slot.box xs) → σ[i]? = some (some (.ref a)) → ¬ Own (L2.wipe σ own) (wipeE own r0) a := fun {a} i xs hi e1 e2 o => by
    obtain ⟨j, ys, q1, q2⟩ := o
    have hj : j ∉ own := fun z => by
      have := wipeE_in z q1
      cases this
    rw [wipeE_out hj] at q1
    rw [wipe_out hj] at q2
    have := h0.inj i j xs ys a e1 q1 e2 q2
    subst this
    exact hj hi
  have fz : ∀ a, F a → ¬ Own (L2.wipe σ own) (wipeE own r0) a := fun a f o => h0.notF o.wipe f
  have bx : ∀ {i : Nat} {xs : List D}, i ∈ own → r0[i]? = some (Slot.box xs) → ∃ a vs, σ[i]? = some (some (.ref a)) ∧ H' a = some (.lst vs) ∧ DRs K mg F' H' xs vs ∧ ¬ F' a ∧ H a ≠ none := fun {i xs} hi e => by
    obtain ⟨a, vs, q1, q2, q3, q4⟩ := h0.box i xs e
    have n := nw i xs hi e q1
    refine ⟨a, vs, q1, x.keep a _ q2 n, q3.mono x.fz (fun b o f e => x.keep b o e (fz b f)), fun z => ?_, by rw [q2]; exact fun z => nomatch z⟩
    rcases x.fnew a z with z | z | z
    · exact q4 z
    · exact n z
    · rw [z] at q2; cases q2
  refine ⟨⟨by rw [restE_len, h.len, wipe_length], h.ftr, fun i d e => ?_, fun i xs e => ?_, fun i j xs ys a e1 e2 e3 e4 => ?_⟩, fun a o => ?_⟩
  · by_cases hi : i ∈ own
    · have q := slotGet_some (restE_in hi e).symm (by intro z; cases z)
      obtain ⟨v, q1, q2⟩ := h0.val i d q
      exact ⟨v, q1, q2.mono x.fz (fun b o f e => x.keep b o e (fz b f))⟩
    · rw [restE_out hi] at e
      obtain ⟨v, q1, q2⟩ := h.val i d e
      rw [wipe_out hi] at q1
      exact ⟨v, q1, q2⟩
  · by_cases hi : i ∈ own
    · have q := slotGet_some (restE_in hi e).symm (by intro z; cases z)
      obtain ⟨a, vs, q1, q2, q3, q4, _⟩ := bx hi q
      exact ⟨a, vs, q1, q2, q3, q4⟩
    · rw [restE_out hi] at e
      obtain ⟨a, vs, q1, q2, q3, q4⟩ := h.box i xs e
      rw [wipe_out hi] at q1
      exact ⟨a, vs, q1, q2, q3, q4⟩
  · by_cases hi : i ∈ own
    · have q := slotGet_some (restE_in hi e1).symm (by intro z; cases z)
      by_cases hj : j ∈ own
      · have q' := slotGet_some (restE_in hj e2).symm (by intro z; cases z)
        exact h0.inj i j xs ys a q q' e3 e4
      · rw [restE_out hj] at e2
        exfalso
        rcases x.onew a ⟨j, ys, e2, by rw [wipe_out hj]; exact e4⟩ with z | z
        · exact nw i xs hi q e3 z
        · obtain ⟨b, vs, q1, q2, _⟩ := h0.box i xs q
          rw [e3] at q1; cases q1
          rw [z] at q2; cases q2
    · rw [restE_out hi] at e1
      by_cases hj : j ∈ own
      · have q' := slotGet_some (restE_in hj e2).symm (by intro z; cases z)
        exfalso
        rcases x.onew a ⟨i, xs, e1, by rw [wipe_out hi]; exact e3⟩ with z | z
        · exact nw j ys hj q' e4 z
        · obtain ⟨b, vs, q1, q2, _⟩ := h0.box j ys q'
          rw [e4] at q1; cases q1
          rw [z] at q2; cases q2
      · rw [restE_out hj] at e2
        exact h.inj i j xs ys a e1 e2 (by rw [wipe_out hi]; exact e3) (by rw [wipe_out hj]; exact e4)
  · obtain ⟨i, xs, e1, e2⟩ := o
    by_cases hi : i ∈ own
    · have q := slotGet_some (restE_in hi e1).symm (by intro z; cases z)
      obtain ⟨b, vs, q1, q2, _⟩ := h0.box i xs q
      rw [e2] at q1; cases q1
      exact .inr ⟨⟨i, xs, q, e2⟩, by rw [q2]; exact fun z => nomatch z⟩
    · rw [restE_out hi] at e1
      exact .inl ⟨i, xs, e1, by rw [wipe_out hi]; exact e2⟩
/-! ### targets -/
def gT (K : PySem.W.Frag) (mg : Str → Option Value) (T : Tg) : TG := fun v σ H Q => ∃ F d r r', FR K mg F H σ r ∧ DR K mg F H d v ∧ asgT T d r = some r' ∧
  ∀ σ', FR K mg F H σ' r' → σ'.length = σ.length → (∀ j, j ∉ tslots T → σ'[j]? = σ[j]?) → (∀ a, Own σ' r' a → Own σ r a) → Q σ' H
def gTs (K : PySem.W.Frag) (mg : Str → Option Value) (T : List Tg) : TGs := fun vs σ H Q => ∃ F ds r r', FR K mg F H σ r ∧ DRs K mg F H ds vs ∧ asgTs T ds r = some r' ∧
  ∀ σ', FR K mg F H σ' r' → σ'.length = σ.length → (∀ j, j ∉ tslotss T → σ'[j]? = σ[j]?) → (∀ a, Own σ' r' a → Own σ r a) → Q σ' H
theorem pgt_name {i : Nat} {x : Str} (hN : X.N.Nodup) (hi : X.N[i]? = some x) (hx : Loc X.env.scope x) (hf : X.fn x = true ∨ X.env.scope.names.lookup x = some .local) : PG X (.Name x pos) (gT X.K X.mg (.name i)) := by
  refine ⟨fun pins s σ H v u Q I rv h => ?_⟩
  obtain ⟨F, d, r, r', fr, dr, e, k⟩ := h
  cases e
  have hl : i < σ.length := by rw [I.len]; exact (List.getElem?_eq_some_iff.mp hi).1
  refine (pg_name (pos := pos) hN hi hx hf).run pins s σ H v u Q I rv (k _ (fr.setVal hl dr) (by simp) (fun j hj => ?_) fun a o => Own.set_sub (by intro xs; simp) o)
  have : j ≠ i := fun z => hj (by rw [z]; exact List.mem_cons_self)
  rw [List.getElem?_set_ne (Ne.symm this)]
theorem pgt_nil : PGs X [] (gTs X.K X.mg []) := by
  refine ⟨fun pins s σ H vs us Q I rv h => ?_⟩
  obtain ⟨F, ds, r, r', fr, dr, e, k⟩ := h
  cases ds with
  | cons d ds => cases e
  | nil =>
    cases e
    cases dr
    exact pgs_nil.run pins s σ H [] us Q I rv ⟨rfl, k σ fr rfl (fun _ _ => rfl) fun _ o => o⟩
theorem pgt_cons {t : Tg} {ts : List Tg} {es : List Expr} (h1 : PG X e (gT X.K X.mg t)) (h2 : PGs X es (gTs X.K X.mg ts)) (hs : (assignEach (e :: es) X.env).map (·.2) = assign e X.env :: (assignEach es X.env).map (·.2)) : PGs X (e :: es) (gTs X.K X.mg (t :: ts)) := by
  refine ⟨fun pins s σ H vs us Q I rv h => (pgs_cons h1 h2 hs).run pins s σ H vs us Q I rv ?_⟩
  obtain ⟨F, ds, r, r', fr, dr, e, k⟩ := h
  cases dr with
  | nil => cases e
  | cons q qs =>
    rename_i d ds v vs
    have e : (match asgT t d r with
      | some r' => asgTs ts ds r'
      | none => none) = some r' := e
    cases e1 : asgT t d r with
    | none => rw [e1] at e; cases e
    | some r1 =>
      rw [e1] at e
      refine ⟨v, vs, rfl, F, d, r, r1, fr, q, e1, fun σ1 fr1 l1 s1 o1 => ⟨F, ds, r1, r', fr1, qs, e, fun σ2 fr2 l2 s2 o2 => ?_⟩⟩
      refine k σ2 fr2 (l2.trans l1) (fun j hj => ?_) fun a o => o1 a (o2 a o)
      have hj : j ∉ tslots t ++ tslotss ts := hj
      rw [List.mem_append, not_or] at hj
      rw [s2 j hj.2, s1 j hj.1]
theorem assign_cons {es : List Expr} {env : PySem.Env} (h : noStar e = true) : (assignEach (e :: es) env).map (·.2) = assign e env :: (assignEach es env).map (·.2) ∧ (assignEach (e :: es) env) = (false, assign e env) :: assignEach es env := by
  cases e <;> first
    | exact ⟨rfl, rfl⟩
    | cases h
theorem assign_len {env : PySem.Env} : ∀ {es : List Expr}, es.all noStar = true → (assignEach es env).length = es.length ∧ (assignEach es env).findIdx? (·.1) = none
  | [], _ => ⟨rfl, rfl⟩
  | e :: es, h => by
    rw [List.all_cons, Bool.and_eq_true] at h
    rw [(assign_cons h.1).2]
    obtain ⟨h1, h2⟩ := assign_len (env := env) h.2
    exact ⟨by simp [h1], by simp [List.findIdx?_cons, h2]⟩
theorem pgt_tup {ts : List Tg} {es : List Expr} {j : Nat} (hc : X.calm = true) (h : PGs X es (gTs X.K X.mg ts)) (hs : es.all noStar = true) (hl : es.length = ts.length) : PG X (.Tuple es j pos) (gT X.K X.mg (.tup ts)) := by
  obtain ⟨a1, a2⟩ := assign_len (env := X.env) hs
  refine ⟨fun pins s σ H v u Q I rv h' => ?_⟩
  obtain ⟨F, d, r, r', fr, dr, e, k⟩ := h'
  cases d with
  | tup ds =>
    refine (pg_tup (n := es.length) hc h a1 a2).run pins s σ H v u Q I rv ?_
    have e : asgTs ts ds r = some r' := e
    have hd : ds.length = ts.length := asgTs_len e
    obtain ⟨a, us, rfl, s1, q1, _⟩ := rw_tup (.of dr)
    exact ⟨a, us, rfl, s1, by rw [← q1.length, hd, hl], F, ds, r, r', fr, q1, e, k⟩
  | lst ds =>
    refine (pg_unl (n := es.length) hc h a1 a2).run pins s σ H v u Q I rv ?_
    have e : asgTs ts ds r = some r' := e
    have hd : ds.length = ts.length := asgTs_len e
    obtain ⟨a, us, rfl, s1, q1⟩ := rw_lst (.of dr)
    exact ⟨a, us, rfl, SqL.of s1, by rw [← q1.length, hd, hl], F, ds, r, r', fr, q1, e, k⟩
  | _ => cases e
where
  asgTs_len : ∀ {ts : List Tg} {ds : List D} {r r' : Env}, asgTs ts ds r = some r' → ds.length = ts.length
    | [], [], _, _, _ => rfl
    | [], _ :: _, _, _, h => by cases h
    | _ :: _, [], _, _, h => by cases h
    | t :: ts, d :: ds, r, r', h => by
      have h : (match asgT t d r with
        | some r' => asgTs ts ds r'
        | none => none) = some r' := h
      split at h
      · simp [asgTs_len h]
      · cases h
end
end Ev

-- part Ev5h
set_option maxHeartbeats 1000000
/-! Ev5h: what is walked. -/
namespace Ev
open PySem PySem.Spec PyProof.Rows L2
/-- sizes of what stands in the heap -/
def Sz (K : PySem.W.Frag) (H : Hp) : Prop := (∀ a xs, SqL K H a xs → xs.length ≤ sizeLine) ∧ ∀ a xs, SqT K H a xs → xs.length ≤ sizeLine
section
variable {X : Cx} {W : WX} {c : CallT} {K : PySem.W.Frag} {mg : Str → Option Value} {F F' : Addr → Prop} {H H' H0 : Hp} {v u : V} {σ σ' : L2.St} {r r' r0 : Env} {Q : VK} {e a b tg : Expr} {pos : Pos}
theorem inv_sz {pins : List (Addr × Obj)} {s : Shared} (I : Inv X pins σ H s) : Sz X.K H := ⟨fun a xs h => (I.list h).choose_spec.2.2, fun a xs h => (I.tuple h).choose_spec.2.2⟩
theorem pe_inv {t : TE} (h : PE X e t) : PE X e fun σ H Q => t σ H fun v H1 => Sz X.K H1 → Q v H1 := ⟨fun pins s σ H Q I hw => thn (h.run pins s σ H _ I hw) fun u s1 ⟨v, H1, I1, r1, q⟩ => ⟨v, H1, I1, r1, q (inv_sz I1)⟩⟩
theorem pa_inv {es : List Expr} {t : TA} (h : PA X es t) : PA X es fun σ H Q => t σ H fun vs H1 => Sz X.K H1 → Q vs H1 := ⟨fun pos pins s σ H Q I hw => thn (h.run pos pins s σ H _ I hw) fun us s1 ⟨vs, H1, I1, r1, q⟩ => ⟨vs, H1, I1, r1, q (inv_sz I1)⟩⟩
theorem pi_imp {it : Expr} {w w' : TI} (h : PI X tg it w) (i : ∀ σ H R, w' σ H R → w σ H R) : PI X tg it w' := ⟨fun pins s σ H R I hw => h.run pins s σ H R I (i σ H R hw)⟩
/-! ### sources -/
abbrev LiveT := (Addr → Prop) → Hp → L2.St → Env → Prop
structure Src (K : PySem.W.Frag) (mg : Str → Option Value) (ds : List D) (J : L2.It) (L : LiveT) : Prop where
  len : ds.length ≤ sizeLine
  go : ∀ {F : Addr → Prop} {H : Hp} {σ : L2.St} {r : Env} (i : Nat) (d : D), FR K mg F H σ r → L F H σ r → ds[i]? = some d → J.go i H
  yld : ∀ {F : Addr → Prop} {H : Hp} {σ : L2.St} {r : Env} (i : Nat) (d : D) (x : V) (H' : Hp), FR K mg F H σ r → L F H σ r → ds[i]? = some d → J.yld i H x H' →
    (H' = H ∧ DR K mg F H d x) ∨ ∃ p us xs, H p = none ∧ H' = upd H p (.tup us) ∧ x = .ref p ∧ d = .tup xs ∧ DRs K mg F H xs us
  stop : ∀ {F : Addr → Prop} {H : Hp} {σ : L2.St} {r : Env}, FR K mg F H σ r → L F H σ r → J.stop ds.length H
def Reads1 (K : PySem.W.Frag) (mg : Str → Option Value) (L : LiveT) (d : D) (v : V) : Prop := ∀ {F : Addr → Prop} {H : Hp} {σ : L2.St} {r : Env}, FR K mg F H σ r → L F H σ r → RW K mg F H d v
theorem src_lst {L : LiveT} {xs : List D} {a : Addr} (hL : Reads1 K mg L (.lst xs) (.ref a)) (hl : xs.length ≤ sizeLine) : Src K mg xs (Itl K a) L where
  len := hl
  go := fun i d fr l e => by
    obtain ⟨b, us, eb, s1, q1⟩ := rw_lst (hL fr l)
    cases eb
    obtain ⟨v, h1, h2⟩ := q1.get e
    exact ⟨us, v, SqL.of s1, h1⟩
  yld := fun i d x H' fr l e y => by
    obtain ⟨b, us, eb, s1, q1⟩ := rw_lst (hL fr l)
    cases eb
    obtain ⟨v, h1, h2⟩ := q1.get e
    obtain ⟨y1, y2⟩ := y
    have := y2 us (SqL.of s1)
    rw [h1] at this
    cases this
    exact .inl ⟨y1, h2⟩
  stop := fun fr l => by
    obtain ⟨b, us, eb, s1, q1⟩ := rw_lst (hL fr l)
    cases eb
    exact ⟨us, SqL.of s1, by rw [q1.length]; exact Nat.le_refl _⟩
theorem src_scr {L : LiveT} {xs : List D} {a : Addr} (hL : Reads1 K mg L (.scr xs) (.ref a)) (hl : xs.length ≤ sizeLine) : Src K mg xs (Itl K a) L where
  len := hl
  go := fun i d fr l e => by
    obtain ⟨b, us, eb, s1, q1⟩ := rw_scr (hL fr l)
    cases eb
    obtain ⟨v, h1, h2⟩ := q1.get e
    exact ⟨us, v, s1, h1⟩
  yld := fun i d x H' fr l e y => by
    obtain ⟨b, us, eb, s1, q1⟩ := rw_scr (hL fr l)
    cases eb
    obtain ⟨v, h1, h2⟩ := q1.get e
    obtain ⟨y1, y2⟩ := y
    have := y2 us s1
    rw [h1] at this
    cases this
    exact .inl ⟨y1, h2⟩
  stop := fun fr l => by
    obtain ⟨b, us, eb, s1, q1⟩ := rw_scr (hL fr l)
    cases eb
    exact ⟨us, s1, by rw [q1.length]; exact Nat.le_refl _⟩
theorem src_tup {L : LiveT} {xs : List D} {a : Addr} (hL : Reads1 K mg L (.tup xs) (.ref a)) (hl : xs.length ≤ sizeLine) : Src K mg xs (Itt K a) L where
  len := hl
  go := fun i d fr l e => by
    obtain ⟨b, us, eb, s1, q1, _⟩ := rw_tup (hL fr l)
    cases eb
    obtain ⟨v, h1, h2⟩ := q1.get e
    exact ⟨us, v, s1, h1⟩
  yld := fun i d x H' fr l e y => by
    obtain ⟨b, us, eb, s1, q1, _⟩ := rw_tup (hL fr l)
    cases eb
    obtain ⟨v, h1, h2⟩ := q1.get e
    obtain ⟨y1, y2⟩ := y
    have := y2 us s1
    rw [h1] at this
    cases this
    exact .inl ⟨y1, h2⟩
  stop := fun fr l => by
    obtain ⟨b, us, eb, s1, q1, _⟩ := rw_tup (hL fr l)
    cases eb
    exact ⟨us, s1, by rw [q1.length]; exact Nat.le_refl _⟩
theorem src_str {L : LiveT} {x : Str} (hl : x.length ≤ sizeLine) : Src K mg (x.cps.toList.map fun c => D.str ⟨#[c]⟩) (Its x) L where
  len := by rw [List.length_map]; simpa [Str.length] using hl
  go := fun i d fr l e => by
    rw [List.getElem?_map] at e
    show i < x.cps.size
    cases q : x.cps.toList[i]? with
    | none => rw [q] at e; cases e
    | some c => simpa using (List.getElem?_eq_some_iff.mp q).1
  yld := fun i d y H' fr l e h => by
    obtain ⟨h1, c, h2, h3⟩ := h
    rw [List.getElem?_map] at e
    have : x.cps.toList[i]? = some c := by simpa using h2
    rw [this] at e
    cases e
    subst h3
    exact .inl ⟨h1, .str _⟩
  stop := fun fr l => by
    show x.cps.size ≤ _
    simp
theorem rangeD_get {lo hi : Int} {i : Nat} {d : D} (e : (rangeD lo hi)[i]? = some d) : i < (hi - lo).toNat ∧ d = .int (lo + (i : Nat)) := by
  unfold rangeD at e
  rw [List.getElem?_map] at e
  cases q : (List.range (hi - lo).toNat)[i]? with
  | none => rw [q] at e; cases e
  | some k =>
    rw [q] at e
    cases e
    obtain ⟨h1, h2⟩ := List.getElem?_eq_some_iff.mp q
    rw [List.length_range] at h1
    rw [List.getElem_range] at h2
    subst h2
    exact ⟨h1, rfl⟩
theorem src_rng {L : LiveT} {lo hi : Int} (hl : (hi - lo).toNat ≤ sizeLine) : Src K mg (rangeD lo hi) (Itr lo (hi - lo).toNat) L where
  len := by simpa [rangeD] using hl
  go := fun i d fr l e => (rangeD_get e).1
  yld := fun i d x H' fr l e h => by
    obtain ⟨h1, h2⟩ := rangeD_get e
    obtain ⟨y1, y2⟩ := h
    subst h2 y2
    exact .inl ⟨y1, .int _⟩
  stop := fun fr l => by
    show (hi - lo).toNat ≤ _
    simp [rangeD]
theorem enumD_get {xs : List D} {i : Nat} {d : D} (e : (enumD xs)[i]? = some d) : ∃ x, xs[i]? = some x ∧ d = .tup [.int (i : Nat), x] := by
  unfold enumD at e
  rw [List.getElem?_map] at e
  cases q : ((List.range xs.length).zip xs)[i]? with
  | none => rw [q] at e; cases e
  | some p =>
    rw [q] at e
    cases e
    rw [List.getElem?_zip_eq_some] at q
    obtain ⟨q1, q2⟩ := q
    obtain ⟨h1, h2⟩ := List.getElem?_eq_some_iff.mp q1
    simp at h2
    exact ⟨p.2, q2, by show D.tup [D.int (p.1 : Nat), p.2] = _; rw [← h2]⟩
theorem enumD_len (xs : List D) : (enumD xs).length = xs.length := by simp [enumD]
/-- a list or the script, read -/
theorem rw_seqL {d : D} {xs : List D} (h : RW K mg F H d v) (e : d = .lst xs ∨ d = .scr xs) : ∃ a us, v = .ref a ∧ SqL K H a us ∧ DRs K mg F H xs us := by
  rcases e with rfl | rfl
  · obtain ⟨a, us, e1, s1, q1⟩ := rw_lst h
    exact ⟨a, us, e1, SqL.of s1, q1⟩
  · exact rw_scr h
theorem src_enum {L : LiveT} {d0 : D} {xs : List D} {a : Addr} (hL : Reads1 K mg L d0 (.ref a)) (hd : d0 = .lst xs ∨ d0 = .scr xs) (hl : xs.length ≤ sizeLine) : Src K mg (enumD xs) (Ite K a) L where
  len := by rw [enumD_len]; exact hl
  go := fun i d fr l e => by
    obtain ⟨b, us, eb, s1, q1⟩ := rw_seqL (hL fr l) hd
    cases eb
    obtain ⟨x, e1, e2⟩ := enumD_get e
    obtain ⟨v, h1, h2⟩ := q1.get e1
    exact ⟨us, v, s1, h1⟩
  yld := fun i d x H' fr l e y => by
    obtain ⟨b, us, eb, s1, q1⟩ := rw_seqL (hL fr l) hd
    cases eb
    obtain ⟨z, e1, e2⟩ := enumD_get e
    obtain ⟨v, h1, h2⟩ := q1.get e1
    obtain ⟨T, w, y1, y2, y3, y4⟩ := y
    have := y4 us s1
    rw [h1] at this
    cases this
    exact .inr ⟨T, _, _, y2, y3, y1, e2, .cons (.int _) (.cons h2 .nil)⟩
  stop := fun fr l => by
    obtain ⟨b, us, eb, s1, q1⟩ := rw_seqL (hL fr l) hd
    cases eb
    exact ⟨us, s1, by rw [enumD_len, q1.length]; exact Nat.le_refl _⟩
theorem pairsD_get {xs ys : List D} {i : Nat} {d : D} (e : (pairsD xs ys)[i]? = some d) : ∃ x y, xs[i]? = some x ∧ ys[i]? = some y ∧ d = .tup [x, y] := by
  unfold pairsD at e
  rw [List.getElem?_map] at e
  cases q : (xs.zip ys)[i]? with
  | none => rw [q] at e; cases e
  | some p =>
    rw [q] at e
    cases e
    rw [List.getElem?_zip_eq_some] at q
    exact ⟨p.1, p.2, q.1, q.2, rfl⟩
theorem pairsD_len (xs ys : List D) : (pairsD xs ys).length = min xs.length ys.length := by simp [pairsD]
/-- a list or a tuple -/
def seqDB : Bool → List D → D
  | true, xs => .lst xs
  | false, xs => .tup xs
theorem rw_seqB {b : Bool} {xs : List D} (h : RW K mg F H (seqDB b xs) v) : ∃ a us, v = .ref a ∧ EvZ.SqB K b H a us ∧ DRs K mg F H xs us := by
  cases b with
  | true =>
    obtain ⟨a, us, e1, s1, q1⟩ := rw_lst h
    exact ⟨a, us, e1, SqL.of s1, q1⟩
  | false =>
    obtain ⟨a, us, e1, s1, q1, _⟩ := rw_tup h
    exact ⟨a, us, e1, s1, q1⟩
theorem zipD_of {d e : D} {zs : List D} (h : zipD d e = some zs) : ∃ b1 b2 xs ys, d = seqDB b1 xs ∧ e = seqDB b2 ys ∧ zs = pairsD xs ys := by
  unfold zipD at h
  split at h
  · cases h; exact ⟨true, true, _, _, rfl, rfl, rfl⟩
  · cases h; exact ⟨false, false, _, _, rfl, rfl, rfl⟩
  · cases h; exact ⟨false, true, _, _, rfl, rfl, rfl⟩
  · cases h; exact ⟨true, false, _, _, rfl, rfl, rfl⟩
  · cases h
theorem src_zipB {L : LiveT} {b1 b2 : Bool} {xs ys : List D} {a b : Addr} (hL : Reads1 K mg L (seqDB b1 xs) (.ref a)) (hM : Reads1 K mg L (seqDB b2 ys) (.ref b)) (hl : xs.length ≤ sizeLine) : Src K mg (pairsD xs ys) (EvZ.ItzB K b1 b2 a b) L where
  len := by rw [pairsD_len]; omega
  go := fun i d fr l e => by
    obtain ⟨a', us, ea, s1, q1⟩ := rw_seqB (hL fr l)
    obtain ⟨b', ws, eb, s2, q2⟩ := rw_seqB (hM fr l)
    cases ea
    cases eb
    obtain ⟨x, y, e1, e2, e3⟩ := pairsD_get e
    obtain ⟨v, h1, h2⟩ := q1.get e1
    obtain ⟨w, g1, g2⟩ := q2.get e2
    exact ⟨us, ws, v, w, s1, s2, h1, g1⟩
  yld := fun i d x H' fr l e z => by
    obtain ⟨a', us, ea, s1, q1⟩ := rw_seqB (hL fr l)
    obtain ⟨b', ws, eb, s2, q2⟩ := rw_seqB (hM fr l)
    cases ea
    cases eb
    obtain ⟨x, y, e1, e2, e3⟩ := pairsD_get e
    obtain ⟨v, h1, h2⟩ := q1.get e1
    obtain ⟨w, g1, g2⟩ := q2.get e2
    obtain ⟨T, x', y', y1, y2, y3, y4, y5⟩ := z
    have t1 := y4 us s1
    have t2 := y5 ws s2
    rw [h1] at t1
    rw [g1] at t2
    cases t1
    cases t2
    exact .inr ⟨T, _, _, y2, y3, y1, e3, .cons h2 (.cons g2 .nil)⟩
  stop := fun fr l => by
    obtain ⟨a', us, ea, s1, q1⟩ := rw_seqB (hL fr l)
    obtain ⟨b', ws, eb, s2, q2⟩ := rw_seqB (hM fr l)
    cases ea
    cases eb
    refine ⟨us, ws, s1, s2, ?_⟩
    rw [pairsD_len, q1.length, q2.length]
    omega
/-! ### how a source lives -/
/-- a shared thing, or a slot's list that is watched -/
def Live (K : PySem.W.Frag) (mg : Str → Option Value) (o : Option Nat) (d : D) (v : V) : LiveT := fun F H σ r => match o with
  | none => DR K mg F H d v
  | some i => σ[i]? = some (some v) ∧ look r (.bor i) = some d
theorem live_reads {o : Option Nat} {d : D} : Reads1 K mg (Live K mg o d v) d v := fun {F H σ r} fr l => by
  cases o with
  | none => exact .of l
  | some i => exact (RVR.bor (H0 := H) l.1).look fr l.2
/-- what keeps a source alive -/
structure LKeep (K : PySem.W.Frag) (mg : Str → Option Value) (lk : List (Nat × List D)) (L : LiveT) : Prop where
  keep : ∀ {F : Addr → Prop} {H : Hp} {σ : L2.St} {r : Env} {F' : Addr → Prop} {H' : Hp} {r' : Env}, FR K mg F H σ r → L F H σ r → (∀ a, F a → F' a) → (∀ a o, F a → H a = some o → H' a = some o) → lockOk lk r' = true → L F' H' σ r'
  grow : ∀ {F : Addr → Prop} {H : Hp} {σ : L2.St} {r : Env} {F' : Addr → Prop} {H' : Hp}, L F H σ r → (∀ a, F a → F' a) → (∀ a o, F a → H a = some o → H' a = some o) → L F' H' σ r
  wipe : ∀ {F : Addr → Prop} {H : Hp} {σ : L2.St} {r : Env} {own : List Nat}, (lk.all fun p => !own.contains p.1) = true → L F H σ r → L F H (L2.wipe σ own) (wipeE own r)
  free : lk = [] → ∀ {F : Addr → Prop} {H : Hp} {σ : L2.St} {r : Env} {F' : Addr → Prop} {H' : Hp} {σ' : L2.St} {r' : Env}, L F H σ r → (∀ a, F a → F' a) → (∀ a o, F a → H a = some o → H' a = some o) → L F' H' σ' r'
theorem lockOk_look {lk : List (Nat × List D)} {i : Nat} {xs : List D} (h : lockOk lk r = true) (hm : (i, xs) ∈ lk) : look r (.bor i) = some (.lst xs) := by
  have := List.all_eq_true.mp h _ hm
  show (match r[i]? with
    | some (.box xs) => some (.lst xs)
    | some (.val d) => some d
    | _ => none) = some (.lst xs)
  dsimp only at this
  cases q : r[i]? with
  | none => rw [q] at this; cases this
  | some s =>
    rw [q] at this
    cases s with
    | no => cases this
    | box ys => dsimp only at this ⊢; rw [eqbs_of this]
    | val d =>
      cases d with
      | lst ys => dsimp only at this ⊢; rw [eqbs_of this]
      | _ => cases this
theorem lkeep_none {lk : List (Nat × List D)} {d : D} : LKeep K mg lk (Live K mg none d v) where
  keep := fun fr l hf hk _ => DR.mono hf hk l
  grow := fun l hf hk => DR.mono hf hk l
  wipe := fun _ l => l
  free := fun _ {F H σ r F' H' σ' r'} l hf hk => DR.mono hf hk l
theorem lkeep_some {lk : List (Nat × List D)} {i : Nat} {xs : List D} (hm : (i, xs) ∈ lk) : LKeep K mg lk (Live K mg (some i) (.lst xs) v) where
  keep := fun fr l hf hk h => ⟨l.1, lockOk_look h hm⟩
  grow := fun l hf hk => l
  wipe := fun {F H σ r own} ha l => by
    have := List.all_eq_true.mp ha _ hm
    have hi : i ∉ own := by simpa using this
    refine ⟨by rw [wipe_out hi]; exact l.1, ?_⟩
    have e := l.2
    show (match (wipeE own r)[i]? with
      | some (.box xs) => some (.lst xs)
      | some (.val d) => some d
      | _ => none) = some _
    rw [wipeE_out hi]
    exact e
  free := fun e => by rw [e] at hm; cases hm
theorem LKeep.and {lk : List (Nat × List D)} {L M : LiveT} (h : LKeep K mg lk L) (g : LKeep K mg lk M) : LKeep K mg lk (fun F H σ r => L F H σ r ∧ M F H σ r) where
  keep := fun fr l hf hk hl => ⟨h.keep fr l.1 hf hk hl, g.keep fr l.2 hf hk hl⟩
  grow := fun l hf hk => ⟨h.grow l.1 hf hk, g.grow l.2 hf hk⟩
  wipe := fun ha l => ⟨h.wipe ha l.1, g.wipe ha l.2⟩
  free := fun e {F H σ r F' H' σ' r'} l hf hk => ⟨h.free e l.1 hf hk, g.free e l.2 hf hk⟩
theorem lkeep_true {lk : List (Nat × List D)} : LKeep K mg lk (fun _ _ _ _ => True) := ⟨fun _ _ _ _ _ => trivial, fun _ _ _ => trivial, fun _ _ => trivial, fun _ {_ _ _ _ _ _ _ _} _ _ _ => trivial⟩
/-- what is walked by a for is shared -/
structure LShare (K : PySem.W.Frag) (mg : Str → Option Value) (lk : List (Nat × List D)) (L Lf : LiveT) : Prop where
  sh : ∀ {F : Addr → Prop} {H : Hp} {σ : L2.St} {r : Env} {F' : Addr → Prop} {r' : Env}, L F H σ r → (∀ a, F a → F' a) → (∀ p ∈ lk, ∃ v, σ[p.1]? = some (some v) ∧ DR K mg F' H (.lst p.2) v) → Lf F' H σ r'
  fr : ∀ {F : Addr → Prop} {H : Hp} {σ : L2.St} {r : Env} {F' : Addr → Prop} {H' : Hp} {σ' : L2.St} {r' : Env}, Lf F H σ r → (∀ a, F a → F' a) → (∀ a o, F a → H a = some o → H' a = some o) → Lf F' H' σ' r'
theorem lshare_none {lk : List (Nat × List D)} {d : D} : LShare K mg lk (Live K mg none d v) (Live K mg none d v) where
  sh := fun l hf _ => DR.mono hf (fun _ _ _ e => e) l
  fr := fun {F H σ r F' H' σ' r'} l hf hk => DR.mono hf hk l
theorem lshare_some {lk : List (Nat × List D)} {i : Nat} {xs : List D} (hm : (i, xs) ∈ lk) : LShare K mg lk (Live K mg (some i) (.lst xs) v) (Live K mg none (.lst xs) v) where
  sh := fun {F H σ r F' r'} l hf hd => by
    obtain ⟨v', e1, e2⟩ := hd _ hm
    have e3 := l.1
    dsimp only at e1
    rw [e3] at e1
    cases e1
    exact e2
  fr := fun {F H σ r F' H' σ' r'} l hf hk => DR.mono hf hk l
theorem LShare.and {lk : List (Nat × List D)} {L M Lf Mf : LiveT} (h : LShare K mg lk L Lf) (g : LShare K mg lk M Mf) : LShare K mg lk (fun F H σ r => L F H σ r ∧ M F H σ r) (fun F H σ r => Lf F H σ r ∧ Mf F H σ r) where
  sh := fun {F H σ r F' r'} l hf hd => ⟨h.sh l.1 hf hd, g.sh l.2 hf hd⟩
  fr := fun {F H σ r F' H' σ' r'} l hf hk => ⟨h.fr l.1 hf hk, g.fr l.2 hf hk⟩
theorem lshare_true {lk : List (Nat × List D)} : LShare K mg lk (fun _ _ _ _ => True) (fun _ _ _ _ => True) := ⟨fun {_ _ _ _ _ _} _ _ _ => trivial, fun {_ _ _ _ _ _ _ _} _ _ _ => trivial⟩
structure SrcOk (K : PySem.W.Frag) (mg : Str → Option Value) (ds : List D) (lk : List (Nat × List D)) (J : L2.It) (F : Addr → Prop) (H : Hp) (σ : L2.St) (r : Env) : Prop where
  ex : ∃ L Lf, Src K mg ds J L ∧ Src K mg ds J Lf ∧ L F H σ r ∧ LKeep K mg lk L ∧ LShare K mg lk L Lf
  bx : ∀ q ∈ lk, r[q.1]? = some (Slot.box q.2)
/-- what a for or a comprehension gets -/
def tEvI (K : PySem.W.Frag) (mg : Str → Option Value) (W : WX) (m : M (List D × List (Nat × List D))) : TI := fun σ H R => ∃ F r, FR K mg F H σ r ∧ Goes K mg W F H σ r (m r) fun p r' F' H' => ∀ J, SrcOk K mg p.1 p.2 J F' H' σ r' → R J H'
end
end Ev

-- part Ev5i
set_option maxHeartbeats 1000000
/-! Ev5i: iterables as expressions. -/
namespace Ev
open PySem PySem.Spec PyProof.Rows L2
section
variable {X : Cx} {W : WX} {c : CallT} {K : PySem.W.Frag} {mg : Str → Option Value} {F F' : Addr → Prop} {H H' H0 : Hp} {v u : V} {σ σ' : L2.St} {r r' r0 : Env} {Q : VK} {e a b tg : Expr} {pos : Pos}
/-- temporary lists are shared -/
def FO (F : Addr → Prop) (ws : List RV) (vs : List V) : Addr → Prop := fun a => F a ∨ ∃ (j : Nat) (xs : List D), ws[j]? = some (.own xs) ∧ vs[j]? = some (.ref a)
theorem FO.fr {ws : List RV} {vs : List V} (fr : FR K mg F H σ r) (rvs : RVRs K mg H0 F H σ r ws vs) : FR K mg (FO F ws vs) H σ r := by
  have up : ∀ {d : D} {w : V}, DR K mg F H d w → DR K mg (FO F ws vs) H d w := fun q => q.mono (fun _ f => .inl f) fun _ _ _ e => e
  refine ⟨fr.len, fun a f => ?_, fun i d e => ?_, fun i xs e => ?_, fr.inj⟩
  · rcases f with f | ⟨j, xs, e1, e2⟩
    · exact fr.ftr a f
    · have q := rvs.get e1 e2
      cases q with
      | own e _ _ _ _ => rw [e]; exact fun z => nomatch z
  · obtain ⟨v, q1, q2⟩ := fr.val i d e
    exact ⟨v, q1, up q2⟩
  · obtain ⟨a, us, q1, q2, q3, q4⟩ := fr.box i xs e
    refine ⟨a, us, q1, q2, q3.mono (fun _ f => .inl f) fun _ _ _ e => e, fun z => ?_⟩
    rcases z with z | ⟨j, ys, e1, e2⟩
    · exact q4 z
    · have q := rvs.get e1 e2
      cases q with
      | own _ _ _ no _ => exact no ⟨i, xs, e, q1⟩
theorem FO.ext {ws : List RV} {vs : List V} {F0 : Addr → Prop} {O0 : Addr → Prop} (x : Ext F0 H0 O0 F H (Own σ r)) (rvs : RVRs K mg H0 F H σ r ws vs) : Ext F0 H0 O0 (FO F ws vs) H (Own σ r) where
  keep := x.keep
  fz := fun a f => .inl (x.fz a f)
  fnew := fun a f => by
    rcases f with f | ⟨j, xs, e1, e2⟩
    · exact x.fnew a f
    · have q := rvs.get e1 e2
      cases q with
      | own _ _ _ _ f => exact .inr (.inr f)
  onew := x.onew
  there := x.there
def srcO (r : Env) : RV → Option Nat
  | .bor i => (match r[i]? with
    | some (.box _) => some i
    | _ => none)
  | _ => none
theorem live_of {ws : List RV} {vs : List V} {j : Nat} {w : RV} {d : D} (fr : FR K mg F H σ r) (rvs : RVRs K mg H0 F H σ r ws vs) (hw : ws[j]? = some w) (hv : vs[j]? = some v) (hd : look r w = some d) :
    Live K mg (srcO r w) d v (FO F ws vs) H σ r ∧ (∀ lk, (∀ p ∈ lockOf r w, p ∈ lk) → LKeep K mg lk (Live K mg (srcO r w) d v) ∧ LShare K mg lk (Live K mg (srcO r w) d v) (Live K mg none d v)) ∧ ∀ q ∈ lockOf r w, r[q.1]? = some (Slot.box q.2) := by
  have q := rvs.get hw hv
  cases w with
  | val d' =>
    cases hd
    cases q with
    | val q => exact ⟨q.mono (fun _ f => .inl f) fun _ _ _ e => e, fun lk _ => ⟨lkeep_none, lshare_none⟩, fun q hq => nomatch hq⟩
  | own xs =>
    cases hd
    cases q with
    | own e q _ _ _ => exact ⟨.lst (.inr ⟨j, xs, hw, hv⟩) e (q.mono (fun _ f => .inl f) fun _ _ _ e => e), fun lk _ => ⟨lkeep_none, lshare_none⟩, fun q hq => nomatch hq⟩
  | bor i =>
    cases q with
    | bor e =>
      have hd' : (match r[i]? with
        | some (.box xs) => some (.lst xs)
        | some (.val d) => some d
        | _ => none) = some d := hd
      cases hs : r[i]? with
      | none => rw [hs] at hd'; cases hd'
      | some s =>
        rw [hs] at hd'
        cases s with
        | no => cases hd'
        | val d' =>
          cases hd'
          have e1 : srcO r (.bor i) = none := by
            show (match r[i]? with
              | some (.box _) => some i
              | _ => none) = _
            rw [hs]
          rw [e1]
          obtain ⟨v', q1, q2⟩ := fr.val i _ hs
          rw [e] at q1
          cases q1
          have e2 : lockOf r (.bor i) = [] := by
            show (match r[i]? with
              | some (.box xs) => [(i, xs)]
              | _ => []) = _
            rw [hs]
          rw [e2]
          exact ⟨q2.mono (fun _ f => .inl f) fun _ _ _ e => e, fun lk _ => ⟨lkeep_none, lshare_none⟩, fun q hq => nomatch hq⟩
        | box xs =>
          cases hd'
          have e1 : srcO r (.bor i) = some i := by
            show (match r[i]? with
              | some (.box _) => some i
              | _ => none) = _
            rw [hs]
          have e2 : lockOf r (.bor i) = [(i, xs)] := by
            show (match r[i]? with
              | some (.box xs) => [(i, xs)]
              | _ => []) = _
            rw [hs]
          rw [e1, e2]
          exact ⟨⟨e, hd⟩, fun lk hl => ⟨lkeep_some (hl _ List.mem_cons_self), lshare_some (hl _ List.mem_cons_self)⟩, fun q hq => by rw [List.mem_singleton.mp hq]; exact hs⟩
theorem Goes.look0 {α : Type} {v : RV} {f : D → M α} {k : α → Env → (Addr → Prop) → Hp → Prop} {r1 : Env} (h : Goes K mg W F H σ r (withLook v f r1) k) : ∃ d, Ev.look r1 v = some d ∧ Goes K mg W F H σ r (f d r1) k := by
  unfold withLook at h
  cases e : Ev.look r1 v with
  | none => rw [e] at h; exact h.elim
  | some d => rw [e] at h; exact ⟨d, rfl, h⟩
theorem Goes.looks0 {α : Type} {vs : List RV} {f : List D → M α} {k : α → Env → (Addr → Prop) → Hp → Prop} {r1 : Env} (h : Goes K mg W F H σ r (withLooks vs f r1) k) : ∃ ds, Ev.looks r1 vs = some ds ∧ Goes K mg W F H σ r (f ds r1) k := by
  unfold withLooks at h
  cases e : Ev.looks r1 vs with
  | none => rw [e] at h; exact h.elim
  | some d => rw [e] at h; exact ⟨d, rfl, h⟩
/-! ### for x in e -/
def iSeq (K : PySem.W.Frag) (tl : TE) : TI := fun σ H R => tl σ H fun x H1 => (∃ a xs, x = .ref a ∧ SqL K H1 a xs ∧ R (Itl K a) H1) ∨ (∃ a xs, x = .ref a ∧ SqT K H1 a xs ∧ R (Itt K a) H1) ∨ ∃ z, x = .str z ∧ R (Its z) H1
theorem pi_seq {tl : TE} (hl : PE X e tl) : PI X tg e (iSeq X.K tl) := by
  refine ⟨fun pins s σ H R I h => ?_⟩
  refine thn (hl.run pins s σ H _ I h) fun v s1 ⟨x, H1, I1, r1, q1⟩ => ?_
  rcases q1 with ⟨a, xs, e, hq, q⟩ | ⟨a, xs, e, hq, q⟩ | ⟨z, e, q⟩
  · subst e
    cases r1
    obtain ⟨its, rv, p, hz⟩ := I1.list hq
    refine wpAny_pyIter_list p.isList ?_
    refine ⟨s1.heap.objs.size, [s1.heap.objs.size], _, _, H1, rfl, I1.kept (t' := s1.toks) fun b o e => Heap.get?_push_of_some _ e, turn_list a _, ⟨_, Heap.get?_push_size _ rfl, rfl, rfl⟩, fun b hb => ?_, q⟩
    have e : b = s1.heap.objs.size := by simpa using hb
    subst e
    exact I1.fpOk (Nat.le_refl _) (I1.hok.fresh (Nat.le_refl _))
  · subst e
    cases r1
    obtain ⟨its, rv, p, hz⟩ := I1.tuple hq
    refine wpAny_pyIter_tuple (show s1.heap.IsTuple a its.toArray from p) ?_
    refine ⟨s1.heap.objs.size, [s1.heap.objs.size], _, _, H1, rfl, I1.kept (t' := s1.toks) fun b o e => Heap.get?_push_of_some _ e, turn_tuple a _, ⟨_, Heap.get?_push_size _ rfl, rfl, rfl⟩, fun b hb => ?_, q⟩
    have e : b = s1.heap.objs.size := by simpa using hb
    subst e
    exact I1.fpOk (Nat.le_refl _) (I1.hok.fresh (Nat.le_refl _))
  · subst e
    obtain ⟨t, rfl⟩ := r1
    cases ha : z.cps.all (· < 128)
    · exact wpAny_pyIter_wide ha (pi_one (tk := s1.toks) I1 _ (turn_str _ z t "str_iterator" (.inr rfl)) ⟨_, Heap.get?_push_size _ rfl, rfl, rfl⟩ q)
    · first
        | exact wpAny_pyIter_ascii ha (pi_one (tk := s1.toks) I1 _ (turn_str _ z t "str_ascii_iterator" (.inl rfl)) ⟨_, Heap.get?_push_size _ rfl, rfl, rfl⟩ q)
        | exact wpAny_pyIter_str ha (pi_one (tk := s1.toks) I1 _ (turn_str _ z t "str_ascii_iterator" (.inl rfl)) ⟨_, Heap.get?_push_size _ rfl, rfl, rfl⟩ q)
theorem pei_seq {m : E} (hl : PE X e (tEv X.K X.mg W (evE c m))) : PI X tg e (tEvI X.K X.mg W (evIt c (.seq m))) := by
  refine pi_imp (pi_seq (pe_inv hl)) fun σ H R ⟨F, r, fr, g⟩ => ?_
  have g : Goes X.K X.mg W F H σ r (M.bind (evE c m) (fun v => withLook v fun d r => match itemsD d with
      | some ds => .ok (ds, lockOf r v) r
      | none => .stuck) r) _ := g
  refine ⟨F, r, fr, g.bind0.imp fun w r1 F1 H1 hw x1 fr1 g1 v rv sz => ?_⟩
  obtain ⟨d, ld, g2⟩ := g1.look0
  have rvs : RVRs X.K X.mg H F1 H1 σ r1 [w] [v] := .cons rv .nil (fun _ _ _ _ _ z => by simp at z)
  obtain ⟨l1, k1, bx⟩ := live_of (j := 0) fr1 rvs rfl rfl ld
  have f2 := FO.fr fr1 rvs
  have x2 := FO.ext x1 rvs
  obtain ⟨lk, ls⟩ := k1 (lockOf r1 w) fun _ h => h
  have rw1 := rv.look fr1 ld
  cases d with
  | lst xs =>
    obtain ⟨a, us, rfl, s1, q1⟩ := rw_lst rw1
    exact .inl ⟨a, us, rfl, SqL.of s1, Goes.ok0 g2 x2 f2 _ ⟨⟨_, _, src_lst live_reads (by rw [q1.length]; exact sz.1 a us (SqL.of s1)), src_lst live_reads (by rw [q1.length]; exact sz.1 a us (SqL.of s1)), l1, lk, ls⟩, bx⟩⟩
  | scr xs =>
    obtain ⟨a, us, rfl, s1, q1⟩ := rw_scr rw1
    exact .inl ⟨a, us, rfl, s1, Goes.ok0 g2 x2 f2 _ ⟨⟨_, _, src_scr live_reads (by rw [q1.length]; exact sz.1 a us s1), src_scr live_reads (by rw [q1.length]; exact sz.1 a us s1), l1, lk, ls⟩, bx⟩⟩
  | tup xs =>
    obtain ⟨a, us, rfl, s1, q1, _⟩ := rw_tup rw1
    exact .inr (.inl ⟨a, us, rfl, s1, Goes.ok0 g2 x2 f2 _ ⟨⟨_, _, src_tup live_reads (by rw [q1.length]; exact sz.2 a us s1), src_tup live_reads (by rw [q1.length]; exact sz.2 a us s1), l1, lk, ls⟩, bx⟩⟩)
  | str x =>
    have g2 : Goes X.K X.mg W F H σ r (match (if x.length ≤ sizeLine then some (x.cps.toList.map fun c => D.str ⟨#[c]⟩) else none) with
      | some ds => .ok (ds, lockOf r1 w) r1
      | none => .stuck) _ := g2
    by_cases hl : x.length ≤ sizeLine
    · rw [if_pos hl] at g2
      exact .inr (.inr ⟨x, rw_str rw1, Goes.ok0 g2 x2 f2 _ ⟨⟨_, _, src_str hl, src_str hl, l1, lk, ls⟩, bx⟩⟩)
    · rw [if_neg hl] at g2
      exact g2.elim
  | _ => exact g2.elim
end
end Ev

-- part Ev5j
set_option maxHeartbeats 1000000
/-! Ev5j: range, zip, enumerate. -/
namespace Ev
open PySem PySem.Spec PyProof.Rows L2
section
variable {X : Cx} {W : WX} {c : CallT} {K : PySem.W.Frag} {mg : Str → Option Value} {F F' : Addr → Prop} {H H' H0 : Hp} {v u : V} {σ σ' : L2.St} {r r' r0 : Env} {Q : VK} {e a b tg : Expr} {pos p : Pos}
theorem looks_len : ∀ {ws : List RV} {ds : List D}, looks r ws = some ds → ds.length = ws.length
  | [], _, h => by cases h; rfl
  | w :: ws, ds, h => by
    have h : (match look r w, looks r ws with
      | some d, some ds => some (d :: ds)
      | _, _ => none) = some ds := h
    cases q : look r w with
    | none => rw [q] at h; cases h
    | some d =>
      rw [q] at h
      cases q' : looks r ws with
      | none => rw [q'] at h; cases h
      | some es => rw [q'] at h; cases h; simp [looks_len q']
theorem looks_get : ∀ {ws : List RV} {ds : List D} {j : Nat} {d : D}, looks r ws = some ds → ds[j]? = some d → ∃ w, ws[j]? = some w ∧ look r w = some d
  | [], _, _, _, h, e => by cases h; simp at e
  | w :: ws, ds, j, d, h, e => by
    have h : (match look r w, looks r ws with
      | some d, some ds => some (d :: ds)
      | _, _ => none) = some ds := h
    cases q : look r w with
    | none => rw [q] at h; cases h
    | some d' =>
      rw [q] at h
      cases q' : looks r ws with
      | none => rw [q'] at h; cases h
      | some es =>
        rw [q'] at h
        cases h
        cases j with
        | zero => simp at e; subst e; exact ⟨w, rfl, q⟩
        | succ j =>
          obtain ⟨w', h1, h2⟩ := looks_get (j := j) q' (by simpa using e)
          exact ⟨w', by simpa using h1, h2⟩
theorem evEs_len : ∀ {ms : List E} {r r1 : Env} {ws : List RV}, evEs c ms r = .ok ws r1 → ws.length = ms.length
  | [], r, r1, ws, h => by cases h; rfl
  | m :: ms, r, r1, ws, h => by
    have h : M.bind (evE c m) (fun v => M.bind (evEs c ms) fun vs => M.pure (v :: vs)) r = .ok ws r1 := h
    unfold M.bind at h
    cases q : evE c m r with
    | stuck => rw [q] at h; cases h
    | exc x r2 => rw [q] at h; cases h
    | ok w r2 =>
      rw [q] at h
      dsimp only at h
      cases q2 : evEs c ms r2 with
      | stuck => rw [q2] at h; cases h
      | exc x r2 => rw [q2] at h; cases h
      | ok ws2 r3 =>
        rw [q2] at h
        cases h
        simp [evEs_len q2]
theorem RWs.length : ∀ {ds : List D} {vs : List V}, RWs K mg F H ds vs → vs.length = ds.length
  | _, _, .nil => rfl
  | _, _, .cons _ q => by simp [RWs.length q]
theorem RWs.get : ∀ {ds : List D} {vs : List V} {j : Nat} {d : D}, RWs K mg F H ds vs → ds[j]? = some d → ∃ v, vs[j]? = some v ∧ RW K mg F H d v
  | _, _, _, _, .nil, e => by simp at e
  | _, _, 0, _, .cons q _, e => by simp at e; subst e; exact ⟨_, rfl, q⟩
  | _, _, j + 1, d, .cons _ q, e => by
    obtain ⟨v, h1, h2⟩ := RWs.get (j := j) (d := d) q (by simpa using e)
    exact ⟨v, by simpa using h1, h2⟩
theorem pei_rng {ms : List E} {es : List Expr} (hg : Gl X "range") (hm : X.mg "range" = none) (h : PA X es (tEvA X.K X.mg W (evEs c ms))) (hl : es.length = 1 ∨ es.length = 2) (hn : es.all noStar = true) (hms : ms.length = es.length) :
    PI X tg (.Call (.Name "range" p) es [] pos) (tEvI X.K X.mg W (evIt c (.rng ms))) := by
  rcases hl with hl | hl
  · match es, hl, h, hn with
    | [a], _, h, hn =>
      have hn' : noStar a = true := by simpa using hn
      refine pi_imp (pi_range1 hg hm h (star_cons hn')) fun σ H R ⟨F, r, fr, g⟩ => ?_
      have g : Goes X.K X.mg W F H σ r (M.bind (evEs c ms) (fun vs => withLooks vs fun ds => match ds with
        | [.int j] => if small62 j && decide (j.toNat ≤ sizeLine) then M.pure (rangeD 0 j, []) else stuckM
        | [.int i, .int j] => if small62 i && small62 j && decide ((j - i).toNat ≤ sizeLine) then M.pure (rangeD i j, []) else stuckM
        | _ => stuckM) r) _ := g
      refine ⟨F, r, fr, g.bind0.imp fun ws r1 F1 H1 hw x1 fr1 g1 vs rvs => ?_⟩
      obtain ⟨ds, ld, g2⟩ := g1.looks0
      have rws := rvs.looks fr1 ld
      have len := (looks_len ld).trans ((evEs_len hw).trans hms)
      split at g2
      · rename_i j
        cases rws with
        | cons q qs =>
          cases qs
          cases rw_int q
          by_cases hc : (small62 j && decide (j.toNat ≤ sizeLine)) = true
          · rw [if_pos hc] at g2
            simp only [Bool.and_eq_true, decide_eq_true_eq, small62] at hc
            refine ⟨j, rfl, hc.1.1, hc.1.2, ?_⟩
            have := Goes.ok0 (g2 : Goes _ _ _ _ _ _ _ (.ok (rangeD 0 j, []) r1) _) x1 fr1 (Itr 0 (j - 0).toNat) ⟨⟨fun _ _ _ _ => True, fun _ _ _ _ => True, src_rng (by simpa using hc.2), src_rng (by simpa using hc.2), trivial, lkeep_true, lshare_true⟩, fun q hq => nomatch hq⟩
            simpa using this
          · rw [if_neg hc] at g2
            exact g2.elim
      · cases len
      · exact g2.elim
  · match es, hl, h, hn with
    | [a, b], _, h, hn =>
      have hn' : noStar a = true ∧ noStar b = true := by simpa using hn
      have s2 : starEach [b] X.env = [(false, eval b X.env)] := star_cons hn'.2
      refine pi_imp (pi_range2 hg hm h (by rw [star_cons hn'.1, s2]) s2) fun σ H R ⟨F, r, fr, g⟩ => ?_
      have g : Goes X.K X.mg W F H σ r (M.bind (evEs c ms) (fun vs => withLooks vs fun ds => match ds with
        | [.int j] => if small62 j && decide (j.toNat ≤ sizeLine) then M.pure (rangeD 0 j, []) else stuckM
        | [.int i, .int j] => if small62 i && small62 j && decide ((j - i).toNat ≤ sizeLine) then M.pure (rangeD i j, []) else stuckM
        | _ => stuckM) r) _ := g
      refine ⟨F, r, fr, g.bind0.imp fun ws r1 F1 H1 hw x1 fr1 g1 vs rvs => ?_⟩
      obtain ⟨ds, ld, g2⟩ := g1.looks0
      have rws := rvs.looks fr1 ld
      have len := (looks_len ld).trans ((evEs_len hw).trans hms)
      split at g2
      · cases len
      · rename_i i j
        cases rws with
        | cons q qs =>
          cases qs with
          | cons q' qs =>
            cases qs
            cases rw_int q
            cases rw_int q'
            by_cases hc : (small62 i && small62 j && decide ((j - i).toNat ≤ sizeLine)) = true
            · rw [if_pos hc] at g2
              simp only [Bool.and_eq_true, decide_eq_true_eq, small62] at hc
              refine ⟨i, j, rfl, ⟨hc.1.1.1, hc.1.1.2, hc.1.2.1, hc.1.2.2⟩, ?_⟩
              exact Goes.ok0 (g2 : Goes _ _ _ _ _ _ _ (.ok (rangeD i j, []) r1) _) x1 fr1 (Itr i (j - i).toNat) ⟨⟨fun _ _ _ _ => True, fun _ _ _ _ => True, src_rng hc.2, src_rng hc.2, trivial, lkeep_true, lshare_true⟩, fun q hq => nomatch hq⟩
            · rw [if_neg hc] at g2
              exact g2.elim
      · exact g2.elim
theorem locks_sub : ∀ {ws : List RV} {j : Nat} {w : RV}, ws[j]? = some w → ∀ p ∈ lockOf r w, p ∈ locksOf r ws
  | [], _, _, e, _, _ => by simp at e
  | w' :: ws, 0, w, e, p, h => by
    simp at e
    subst e
    exact List.mem_append_left _ h
  | w' :: ws, j + 1, w, e, p, h => List.mem_append_right _ (locks_sub (j := j) (by simpa using e) p h)
theorem locks_all : ∀ {ws : List RV}, (∀ (j : Nat) w, ws[j]? = some w → ∀ q ∈ lockOf r w, r[q.1]? = some (Slot.box q.2)) → ∀ q ∈ locksOf r ws, r[q.1]? = some (Slot.box q.2)
  | [], _, q, hq => nomatch hq
  | w :: ws, h, q, hq => by
    rcases List.mem_append.mp hq with z | z
    · exact h 0 w rfl q z
    · exact locks_all (fun j w e => h (j + 1) w (by simpa using e)) q z
theorem pei_enum {ms : List E} {elts : List Expr} {kk : Nat} {tpos : Pos} (hg : Gl X "enumerate") (hm : X.mg "enumerate" = none) (h : PA X [a] (tEvA X.K X.mg W (evEs c ms))) (hn : noStar a = true) :
    PI X (.Tuple elts kk tpos) (.Call (.Name "enumerate" p) [a] [] pos) (tEvI X.K X.mg W (evIt c (.enum ms))) := by
  refine pi_imp (pi_enum hg hm (pa_inv h) (star_cons hn)) fun σ H R ⟨F, r, fr, g⟩ => ?_
  have g : Goes X.K X.mg W F H σ r (M.bind (evEs c ms) (fun vs => withLooks vs fun ds r => match ds with
      | [.lst xs] => .ok (enumD xs, locksOf r vs) r
      | [.scr xs] => .ok (enumD xs, locksOf r vs) r
      | _ => .stuck) r) _ := g
  refine ⟨F, r, fr, g.bind0.imp fun ws r1 F1 H1 hw x1 fr1 g1 vs rvs sz => ?_⟩
  obtain ⟨ds, ld, g2⟩ := g1.looks0
  have rws := rvs.looks fr1 ld
  have go : ∀ d xs, ds = [d] → (d = .lst xs ∨ d = .scr xs) → Goes X.K X.mg W F H σ r (.ok (enumD xs, locksOf r1 ws) r1) (fun p r' F' H' => ∀ J, SrcOk X.K X.mg p.1 p.2 J F' H' σ r' → R J H') → ∃ a xs, vs = [.ref a] ∧ SqL X.K H1 a xs ∧ R (Ite X.K a) H1 := by
    clear g2
    intro d xs ed hd g2
    subst ed
    obtain ⟨w, hw1, hw2⟩ := looks_get (j := 0) ld rfl
    cases rws with
    | cons q qs =>
      cases qs
      obtain ⟨a, us, e1, s1, q1⟩ := rw_seqL q hd
      subst e1
      obtain ⟨l1, k1, bx⟩ := live_of (j := 0) fr1 rvs hw1 rfl hw2
      obtain ⟨lk, ls⟩ := k1 _ (locks_sub hw1)
      have el : ws.length = 1 := by rw [← looks_len ld]; rfl
      exact ⟨a, us, rfl, s1, Goes.ok0 g2 (FO.ext x1 rvs) (FO.fr fr1 rvs) _ ⟨⟨_, _, src_enum live_reads hd (by rw [q1.length]; exact sz.1 a us s1), src_enum live_reads hd (by rw [q1.length]; exact sz.1 a us s1), l1, lk, ls⟩, locks_all fun j w' e => by
        cases j with
        | zero => rw [hw1] at e; cases e; exact bx
        | succ j => rw [List.getElem?_eq_none (by omega)] at e; cases e⟩⟩
  split at g2
  · exact go _ _ rfl (.inl rfl) g2
  · exact go _ _ rfl (.inr rfl) g2
  · exact g2.elim
theorem pei_zip {ms : List E} {elts : List Expr} {kk : Nat} {tpos : Pos} (hg : Gl X "zip") (hm : X.mg "zip" = none) (h : PA X [a, b] (tEvA X.K X.mg W (evEs c ms))) (hn : noStar a = true ∧ noStar b = true) :
    PI X (.Tuple elts kk tpos) (.Call (.Name "zip" p) [a, b] [] pos) (tEvI X.K X.mg W (evIt c (.zip ms))) := by
  refine pi_imp (EvZ.pi_zipB hg hm (pa_inv h) (star_cons hn.1) (star_any (by simp [hn.2]))) fun σ H R ⟨F, r, fr, g⟩ => ?_
  have g : Goes X.K X.mg W F H σ r (M.bind (evEs c ms) (fun vs => withLooks vs fun ds r => match ds with
      | [d, e] => (match zipD d e with
        | some xs => .ok (xs, locksOf r vs) r
        | none => .stuck)
      | _ => .stuck) r) _ := g
  refine ⟨F, r, fr, g.bind0.imp fun ws r1 F1 H1 hw x1 fr1 g1 vs rvs sz => ?_⟩
  obtain ⟨ds, ld, g2⟩ := g1.looks0
  have rws := rvs.looks fr1 ld
  split at g2
  · rename_i d d'
    obtain ⟨w, hw1, hw2⟩ := looks_get (j := 0) ld rfl
    obtain ⟨w', hw1', hw2'⟩ := looks_get (j := 1) ld rfl
    cases rws with
    | cons q qs =>
      cases qs with
      | cons q' qs =>
        cases qs
        obtain ⟨l1, k1, bx1⟩ := live_of (j := 0) fr1 rvs hw1 rfl hw2
        obtain ⟨l2, k2, bx2⟩ := live_of (j := 1) fr1 rvs hw1' rfl hw2'
        have kk := (k1 _ (locks_sub hw1)).1.and (k2 _ (locks_sub hw1')).1
        have ls := (k1 _ (locks_sub hw1)).2.and (k2 _ (locks_sub hw1')).2
        have el : ws.length = 2 := by rw [← looks_len ld]; rfl
        have bx : ∀ q ∈ locksOf r1 ws, r1[q.1]? = some (Slot.box q.2) := locks_all fun j w' e => by
          match j with
          | 0 => rw [hw1] at e; cases e; exact bx1
          | 1 => rw [hw1'] at e; cases e; exact bx2
          | j + 2 => rw [List.getElem?_eq_none (by omega)] at e; cases e
        have f2 := FO.fr fr1 rvs
        have x2 := FO.ext x1 rvs
        split at g2
        · rename_i zs ez
          obtain ⟨b1, b2, xs, ys, rfl, rfl, rfl⟩ := zipD_of ez
          obtain ⟨a1, us, e1, s1, q1⟩ := rw_seqB q
          obtain ⟨a2, us', e2, s2, q2⟩ := rw_seqB q'
          subst e1 e2
          have hsz : xs.length ≤ sizeLine := by
            rw [q1.length]
            cases b1 with
            | true => exact sz.1 a1 us s1
            | false => exact sz.2 a1 us s1
          refine ⟨a1, a2, b1, b2, us, us', rfl, s1, s2, Goes.ok0 g2 x2 f2 _ ⟨⟨_, _, src_zipB ?_ ?_ hsz, src_zipB ?_ ?_ hsz, ⟨l1, l2⟩, kk, ls⟩, bx⟩⟩
          · exact fun fr l => live_reads fr l.1
          · exact fun fr l => live_reads fr l.2
          · exact fun fr l => live_reads fr l.1
          · exact fun fr l => live_reads fr l.2
        · exact g2.elim
  · exact g2.elim
end
end Ev

-- part EvX8
set_option maxHeartbeats 1000000
/-! EvX8: a list comprehension that may let an exception out (lc_coreX is printed by mklcx.py after HandS.Comp's lc_core). -/
namespace Ev
open PySem PySem.Spec PyProof.Rows L2
section
variable {X : Cx}
theorem post_ends {M : Model} {A : Around} {E : Value → Shared → Prop} {use : Option (Value → Sem Unit)} {Q : Value → Shared → Prop} {acc : Value} {C : Addr} {ce : PySem.Env} {s' : Shared} (hC : ce.locals = C) (h : compPost M A E use Q acc C (.ok .next) s') : compEnds M A E use Q acc ce (.ok .next) s' := by
  subst hC
  cases use <;> exact h
theorem thnX {α : Type} {t : Sem α} {Q Q' : α → Shared → Prop} {M : Model} {A A' : Around} {E : Value → Shared → Prop} {s : Shared} {ce : PySem.Env} {use : Option (Value → Sem Unit)} {Qf : Value → Shared → Prop} {acc : Value} (h : wpAny M A t Q (notedBy M A' ce (CompFails M A' E ce)) s) (hQ : ∀ a s, Q a s → Q' a s) :
    wpAny M A t Q' (notedBy M A' ce fun e s' => compEnds M A' E use Qf acc ce (.error e) s') s :=
  wpAny_mono h hQ fun _ _ z => wpAny_mono z (fun _ _ w => by cases use <;> exact w) fun _ _ w => by cases use <;> exact w
theorem lc_coreX {W : WX} {pins : List (Addr × Obj)} {s : Shared} {σ : L2.St} {H : Hp} {Q : VK} {elt tg iter : Expr} {ifs : List Expr} {scope : Scope} {own : List (Str × Nat)} {pos pos' : Pos} {wi : TI} {g : TG} {tt : TT} {te : TE} {use : Option (Value → Sem Unit)} {Qf : Value → Shared → Prop}
    (hc : X.calm = true) (hN : X.N.Nodup) (I : Inv X pins σ H s) (hi : PI X tg iter wi) (ok : BlkOk X.N X.env.scope scope own)
    (tk : TakesF X W) (hg : ∀ (s : Shared) (H : Hp) (C : Addr) (cl : List (Str × Addr)) (fp : List Addr) (xe : Value → Shared → Prop), TakesF ((X.blk s H scope (compEnvC scope cl C X.env) fp).tr [] xe) (fun cls d _ H' => W cls d σ H') → PG ((X.blk s H scope (compEnvC scope cl C X.env) fp).tr [] xe) tg g) (ht : ∀ (s : Shared) (H : Hp) (C : Addr) (cl : List (Str × Addr)) (fp : List Addr) (xe : Value → Shared → Prop), TakesF ((X.blk s H scope (compEnvC scope cl C X.env) fp).tr [] xe) (fun cls d _ H' => W cls d σ H') → PTs ((X.blk s H scope (compEnvC scope cl C X.env) fp).tr [] xe) ifs tt)
    (he : ∀ (s : Shared) (H : Hp) (C : Addr) (cl : List (Str × Addr)) (fp : List Addr) (xe : Value → Shared → Prop), TakesF ((X.blk s H scope (compEnvC scope cl C X.env) fp).tr [] xe) (fun cls d _ H' => W cls d σ H') → PE ((X.blk s H scope (compEnvC scope cl C X.env) fp).tr [] xe) elt te) (hs : ∀ x, foldedSetIterable iter X.env x = pure x)
    (h : tLc wi g tt te (own.map (·.2)) σ H Q)
    (hRR : ∀ D C s' m H', Inv X pins σ H' s' → Q (.ref D) H' → s'.heap.Ns C m → FpOk X pins H' C → compPost (model X.prog X.w) X.A X.xe use Qf (.ref D) C (.ok .next) s') :
    wpAny (model X.prog X.w) X.A (comprehension (.ListComp elt [⟨tg, iter, ifs, 0⟩] scope pos) scope X.env pos' (newList []) false (eval iter X.env) use) Qf X.xe s := by
  have hfree : ∀ y ∈ scope.names, y.2 = .free → ∃ c, X.env.cells.lookup y.1 = some c := fun y hy e => by
    rcases ok.free y hy e with k | k
    · exact I.ok.has _ (.inl k)
    · exact I.ok.has _ (.inr k)
  refine comprehension_at (use := use) rfl hs (closure_ok hfree) ok.kind (fun y hy e => by rw [ok.uniq y hy, e])
    (thn (hi.run pins s σ H _ I h) fun xv s1 hx => thn hx fun itv s2 h2 => ?_)
  obtain ⟨it, fp, tn, J, H2, e, I2, T, st2, f2, q⟩ := h2
  subst e
  refine wpAny_newObj_type (newEnv_comp ?_) (by show 0 ≤ sizeLine; decide)
  generalize hD : s2.heap.objs.size = D
  have hDn : H2 D = none := I2.hok.fresh (Nat.le_of_eq hD)
  obtain ⟨W, ⟨m0, w0⟩, turn⟩ := q D hDn
  -- the new list
  generalize hs3 : ({ s2 with heap := s2.heap.push { cls := .type "list", data := .seq ([] : List Value).toArray } } : Shared) = s3
  have I3 : Inv X pins σ (upd H2 D (.lst [])) s3 := by
    rw [← hs3]
    refine I2.laid (t' := s2.toks) (fun b o e => Heap.get?_push_of_some _ e) (Nat.le_of_eq hD) ⟨Nat.zero_le _, [], 0, .nil, ?_⟩
    rw [← hD]
    exact Heap.get?_push_size _ rfl
  have h3 : s3.heap = s2.heap.push { cls := .type "list", data := .seq ([] : List Value).toArray } := by rw [← hs3]
  have sz : ∀ b ∈ fp, b < s2.heap.objs.size := fun b hb => by
    obtain ⟨o, e, _⟩ := T.obj _ _ st2 b hb
    exact Heap.lt_size e
  have f3 : ∀ b ∈ fp, FpOk X pins (upd H2 D (.lst [])) b ∧ b < s3.heap.objs.size := fun b hb => by
    have hlt := sz b hb
    refine ⟨⟨?_, (f2 b hb).2⟩, by rw [h3, Heap.size_push]; exact Nat.lt_succ_of_lt hlt⟩
    rw [upd_ne (by rw [← hD]; exact Nat.ne_of_lt hlt)]
    exact (f2 b hb).1
  have st3 : tn 0 s3.heap := T.keep _ _ _ st2 fun b _ o e => by rw [h3]; exact Heap.get?_push_of_some _ e
  have I4 := block_start I3 ok hN f3
  have tkb := blk_takes (ce := compEnvC scope (cellsFrom (s3.heap.objs.size + 1) scope.names (cloFrom X.env.cells scope.names [])) s3.heap.objs.size X.env) (scope := scope) tk I3 (fun b hb => (f3 b hb).1) rfl rfl
  have pg := hg s3 (upd H2 D (.lst [])) s3.heap.objs.size (cellsFrom (s3.heap.objs.size + 1) scope.names (cloFrom X.env.cells scope.names [])) fp _ tkb
  have pt := ht s3 (upd H2 D (.lst [])) s3.heap.objs.size (cellsFrom (s3.heap.objs.size + 1) scope.names (cloFrom X.env.cells scope.names [])) fp _ tkb
  have pe := he s3 (upd H2 D (.lst [])) s3.heap.objs.size (cellsFrom (s3.heap.objs.size + 1) scope.names (cloFrom X.env.cells scope.names [])) fp _ tkb
  clear tkb
  show codeAny _ _ (.compStart (.ListComp elt [⟨tg, iter, ifs, 0⟩] scope pos) 0 (.ref it) (.ref D) (compEnvC scope (cellsFrom (s3.heap.objs.size + 1) scope.names (cloFrom X.env.cells scope.names [])) s3.heap.objs.size X.env)) (compEnds (model X.prog X.w) X.A X.xe use Qf (.ref D) (compEnvC scope (cellsFrom (s3.heap.objs.size + 1) scope.names (cloFrom X.env.cells scope.names [])) s3.heap.objs.size X.env)) { s3 with heap := pushCells (s3.heap.push { cls := .type "dict", data := .dict #[] }) scope.names }
  have nfp : ∀ b ∈ fp, (upd H2 D (.lst [])) b = none := fun b hb => (f3 b hb).1.1
  generalize hce : compEnvC scope (cellsFrom (s3.heap.objs.size + 1) scope.names (cloFrom X.env.cells scope.names [])) s3.heap.objs.size X.env = ce at I4 pg pt pe ⊢
  have I4 := inv_toTrB (xe := notedBy (model X.prog X.w) X.A ce (CompFails (model X.prog X.w) X.A X.xe ce)) I4
  have cL : ce.locals = s3.heap.objs.size := by subst hce; rfl
  generalize hH3 : upd H2 D (.lst []) = H3 at I3 I4 pg pt pe w0 nfp f3
  generalize hs4 : ({ s3 with heap := pushCells (s3.heap.push { cls := .type "dict", data := .dict #[] }) scope.names } : Shared) = s4 at I4 ⊢
  have st4 : tn 0 s4.heap := T.keep _ _ _ st3 fun b _ o e => by rw [← hs4]; exact pushCells_keeps _ _ _ _ (Heap.get?_push_of_some _ e)
  have stat : ∀ {σ' : L2.St} {H' : Hp} {s' : Shared}, Inv ((X.blk s3 H3 scope ce fp).tr [] (notedBy (model X.prog X.w) X.A ce (CompFails (model X.prog X.w) X.A X.xe ce))) [] σ' H' s' → (∀ b ∈ fp, H' b = none) → ∀ b ∈ fp, FpOk ((X.blk s3 H3 scope ce fp).tr [] (notedBy (model X.prog X.w) X.A ce (CompFails (model X.prog X.w) X.A X.xe ce))) [] H' b := fun {σ' H' s'} I' hn b hb =>
    ⟨hn b hb, (I'.ok.exf b hb).1, I'.ok.exfs b hb, .inl hb, fun x c e => (I'.ok.exf b hb).2 x c e, fun p hp => absurd (show p ∈ ([] : List (Addr × Obj)) ++ [] from hp) (by simp)⟩
  have loop : codeAny (model X.prog X.w) X.A (.compLoop (.ListComp elt [⟨tg, iter, ifs, 0⟩] scope pos) 0 (.ref it) (.ref D) ce) (compEnds (model X.prog X.w) X.A X.xe use Qf (.ref D) ce) s4 := by
    refine compLoop_any (fun n s' => ∃ i H', Inv ((X.blk s3 H3 scope ce fp).tr [] (notedBy (model X.prog X.w) X.A ce (CompFails (model X.prog X.w) X.A X.xe ce))) [] (wipe σ (own.map (·.2))) H' s' ∧ tn i s'.heap ∧ (∀ b ∈ fp, H' b = none) ∧ W i n H') ?_ m0 ⟨0, H3, I4, st4, nfp, w0⟩
    rintro n s5 ⟨i, H5, I5, st5, n5, w5⟩
    rcases turn i n H5 w5 with ⟨stop, qq⟩ | ⟨go, Nx, hNx, step⟩
    · have td := T.done ((X.blk s3 H3 scope ce fp).tr [] (notedBy (model X.prog X.w) X.A ce (CompFails (model X.prog X.w) X.A X.xe ce))) rfl rfl rfl hc i [] s5 _ H5 (fun _ _ => False) I5 (stat I5 n5) st5 stop
      refine thnF td fun r s6 ⟨hr, I6⟩ => ?_
      subst hr
      -- back in the def's context
      have I7 : Inv X pins σ H5 s6 := I3.call' (ch := fp) I6.os I6.base I6.hok I6.bare fun b hb => ⟨(f3 b hb).1.2.2.2.1, (f3 b hb).1.2.1, (f3 b hb).1.2.2.2.2.1, (f3 b hb).1.2.2.2.2.2⟩
      have nC : H5 s3.heap.objs.size = none := by
        have z : H5 ce.locals = none := I6.free
        rw [cL] at z
        exact z
      obtain ⟨m, hn, _⟩ := I6.loc
      have hn : s6.heap.Ns ce.locals m := hn
      rw [cL] at hn
      exact post_ends cL (hRR D s3.heap.objs.size s6 m H5 I7 qq hn (I3.fpOk (Nat.le_refl _) nC))
    · have ti := T.item ((X.blk s3 H3 scope ce fp).tr [] (notedBy (model X.prog X.w) X.A ce (CompFails (model X.prog X.w) X.A X.xe ce))) rfl rfl rfl hc i [] s5 _ H5 (fun _ _ => False) I5 (stat I5 n5) st5 go
      refine thnF ti fun r s6 ⟨u, hr, h6⟩ => ?_
      subst hr
      refine thnF h6 fun _ s7 ⟨x, H7, I7, r7, y7, st7, n7⟩ => ?_
      have I7' := I7.pinned (stat I7 n7) (T.obj _ _ st7)
      refine thnX (pg.run _ s7 _ H7 x u _ I7' r7 (step x H7 y7)) fun _ s8 ⟨σ8, H8, I8, hw8, q8⟩ => ?_
      refine thnX (pt.run _ s8 σ8 H8 _ I8 q8) fun b s9 ⟨H9, I9, q9⟩ => ?_
      -- the turn's end
      have fin : ∀ {s' : Shared} {H' : Hp}, Inv ((X.blk s3 H3 scope ce fp).tr [] (notedBy (model X.prog X.w) X.A ce (CompFails (model X.prog X.w) X.A X.xe ce))) ([] ++ pinsAt fp s7.heap) σ8 H' s' → Nx H' → ∃ m, m < n ∧ ∃ i H', Inv ((X.blk s3 H3 scope ce fp).tr [] (notedBy (model X.prog X.w) X.A ce (CompFails (model X.prog X.w) X.A X.xe ce))) [] (wipe σ (own.map (·.2))) H' s' ∧ tn i s'.heap ∧ (∀ b ∈ fp, H' b = none) ∧ W i m H' := fun {s' H'} I' nx => by
        obtain ⟨m', hm, w'⟩ := hNx H' nx
        have pin' : ∀ b ∈ fp, ∀ o, s7.heap.get? b = some o → s'.heap.get? b = some o ∧ H' b = none := fun b hb o e =>
          let z := I'.pin (b, o) (List.mem_append_right _ (List.mem_append_right _ (mem_pinsAt hb e)))
          ⟨z.1, z.2.1⟩
        have hl : (wipe σ (own.map (·.2))).length = σ8.length := by rw [← hw8, wipe_length]
        refine ⟨m', hm, i + 1, H', (I'.unpinned (pins := [])).weak hl (fun j v e => ?_), T.keep _ _ _ st7 fun b hb o e => (pin' b hb o e).1, fun b hb => ?_, w'⟩
        · rw [← hw8] at e
          exact (wipe_some e).1
        · obtain ⟨o, e, _⟩ := T.obj _ _ st7 b hb
          exact (pin' b hb o e).2
      cases b with
      | false =>
        simp only [Bool.false_eq_true, if_false] at q9 ⊢
        exact fin I9 q9
      | true =>
        simp only [if_true] at q9 ⊢
        refine thnX (pe.run _ s9 σ8 H9 _ I9 q9) fun z s10 ⟨yv, H10, I10, r10, acc, hD10, hz10, nx⟩ => ?_
        exact app_ok (X := (X.blk s3 H3 scope ce fp).tr [] (notedBy (model X.prog X.w) X.A ce (CompFails (model X.prog X.w) X.A X.xe ce))) I10 hD10 hz10 r10 fun s11 I11 => fin I11 nx
  exact codeAny_compStart_list loop (T.self X.A 0 _ _ _ st4 loop)
/-- as a value -/
theorem pe_lcX {W : WX} {elt tg iter : Expr} {ifs : List Expr} {scope : Scope} {own : List (Str × Nat)} {pos : Pos} {wi : TI} {g : TG} {tt : L2.St → TT} {te : L2.St → TE} (hc : X.calm = true) (hN : X.N.Nodup) (hi : PI X tg iter wi) (ok : BlkOk X.N X.env.scope scope own) (tk : TakesF X W)
    (hg : ∀ σ (s : Shared) (H : Hp) (C : Addr) (cl : List (Str × Addr)) (fp : List Addr) (xe : Value → Shared → Prop), TakesF ((X.blk s H scope (compEnvC scope cl C X.env) fp).tr [] xe) (fun cls d _ H' => W cls d σ H') → PG ((X.blk s H scope (compEnvC scope cl C X.env) fp).tr [] xe) tg g)
    (ht : ∀ σ (s : Shared) (H : Hp) (C : Addr) (cl : List (Str × Addr)) (fp : List Addr) (xe : Value → Shared → Prop), TakesF ((X.blk s H scope (compEnvC scope cl C X.env) fp).tr [] xe) (fun cls d _ H' => W cls d σ H') → PTs ((X.blk s H scope (compEnvC scope cl C X.env) fp).tr [] xe) ifs (tt σ))
    (he : ∀ σ (s : Shared) (H : Hp) (C : Addr) (cl : List (Str × Addr)) (fp : List Addr) (xe : Value → Shared → Prop), TakesF ((X.blk s H scope (compEnvC scope cl C X.env) fp).tr [] xe) (fun cls d _ H' => W cls d σ H') → PE ((X.blk s H scope (compEnvC scope cl C X.env) fp).tr [] xe) elt (te σ)) (hs : ∀ x, foldedSetIterable iter X.env x = pure x := by intro _; rfl) :
    PE X (.ListComp elt [⟨tg, iter, ifs, 0⟩] scope pos) (fun σ => tLc wi g (tt σ) (te σ) (own.map (·.2)) σ) := by
  refine ⟨fun pins s σ H Q I h => ?_⟩
  rw [eval_ListComp]
  refine lc_coreX hc hN I hi ok tk (hg σ) (ht σ) (he σ) hs h fun D C s' m H' I' q hn f => ⟨m, hn, fun h'' sb => ?_⟩
  obtain ⟨f0, f1, f2, f3, f4, f5⟩ := f
  exact ⟨.ref D, H', I'.turned (t' := s'.toks) (fun b o hb e => (sb.2 b hb).trans e) f0 f1 f3 f4 f5, rfl, q⟩
/-- name = [..] on one line, the name a local -/
theorem ps_setLcX {W : WX} {i : Nat} {y : Str} {py : Pos} {elt tg iter : Expr} {ifs : List Expr} {scope : Scope} {own : List (Str × Nat)} {pos spos : Pos} {wi : TI} {g : TG} {tt : L2.St → TT} {te : L2.St → TE} (hc : X.calm = true) (hN : X.N.Nodup) (hy : X.N[i]? = some y) (hyl : X.env.scope.names.lookup y = some .local)
    (hsw : swapsWith (.ListComp elt [⟨tg, iter, ifs, 0⟩] scope pos) (some (.Name y py)) spos.line X.env = pure true) (hi : PI X tg iter wi) (ok : BlkOk X.N X.env.scope scope own) (tk : TakesF X W)
    (hg : ∀ σ (s : Shared) (H : Hp) (C : Addr) (cl : List (Str × Addr)) (fp : List Addr) (xe : Value → Shared → Prop), TakesF ((X.blk s H scope (compEnvC scope cl C X.env) fp).tr [] xe) (fun cls d _ H' => W cls d σ H') → PG ((X.blk s H scope (compEnvC scope cl C X.env) fp).tr [] xe) tg g)
    (ht : ∀ σ (s : Shared) (H : Hp) (C : Addr) (cl : List (Str × Addr)) (fp : List Addr) (xe : Value → Shared → Prop), TakesF ((X.blk s H scope (compEnvC scope cl C X.env) fp).tr [] xe) (fun cls d _ H' => W cls d σ H') → PTs ((X.blk s H scope (compEnvC scope cl C X.env) fp).tr [] xe) ifs (tt σ))
    (he : ∀ σ (s : Shared) (H : Hp) (C : Addr) (cl : List (Str × Addr)) (fp : List Addr) (xe : Value → Shared → Prop), TakesF ((X.blk s H scope (compEnvC scope cl C X.env) fp).tr [] xe) (fun cls d _ H' => W cls d σ H') → PE ((X.blk s H scope (compEnvC scope cl C X.env) fp).tr [] xe) elt (te σ)) (hs : ∀ x, foldedSetIterable iter X.env x = pure x := by intro _; rfl) :
    PS X (.Assign [.Name y py] (.ListComp elt [⟨tg, iter, ifs, 0⟩] scope pos) spos) (tAsg (fun σ => tLc wi g (tt σ) (te σ) (own.map (·.2)) σ) (gName i)) := by
  refine ⟨fun pins s σ H D I h => ?_⟩
  rw [exec_Assign_Name_used _ _ _ _ hsw]
  refine wpAny_bind (wpAny_standAt (wpAny_bind ?_))
  show wpAny _ X.A (do let _ ← comprehension (.ListComp elt [⟨tg, iter, ifs, 0⟩] scope pos) scope X.env (firstIterPos [⟨tg, iter, ifs, 0⟩] pos) (newList []) false (eval iter X.env) (some (assign (.Name y py) X.env))) _ _ s
  have h : tLc wi g (tt σ) (te σ) (own.map (·.2)) σ H (fun x H1 => gName i x σ H1 D.nx) := h
  refine wpAny_bind (thn (lc_coreX (Qf := fun _ s' => SP X pins D .next s') hc hN I hi ok tk (hg σ) (ht σ) (he σ) hs h fun L C s' m H' I' q hn f => ?_) fun _ s' hq => wpAny_pure (wpAny_pure hq))
  show wpAny _ _ (assign (.Name y py) X.env (.ref L)) _ _ _
  refine wpAny_assign_Name (store_ok2 (v := V.ref L) I' hN hy (.inl hyl) rfl (fun s2 I2 ⟨a, sb, ha⟩ => ?_) (.inr hyl))
  obtain ⟨f0, f1, f2, f3, f4, f5⟩ := f
  have haC : C ≠ a := by
    rcases ha with z | z
    · rw [z]; exact f1
    · exact fun e => f4 y a z e.symm
  refine ⟨m, hn.sameBut sb haC, fun h3 sb3 => ?_⟩
  exact ⟨_, H', I2.turned (t' := s2.toks) (fun b o hb e => (sb3.2 b hb).trans e) f0 f1 f3 f4 f5, q⟩
end
end Ev

-- part Ev5k
set_option maxHeartbeats 1000000
/-! Ev5k: comprehensions. -/
namespace Ev
open PySem PySem.Spec PyProof.Rows L2
/-- no exception is wished for -/
def WF : WX := fun _ _ _ _ => False
/-- .. as the slots around it stand -/
def WA (W : WX) (σ : L2.St) : WX := fun cls d _ H => W cls d σ H
section
variable {X : Cx} {W : WX} {c : CallT} {K : PySem.W.Frag} {mg : Str → Option Value} {F F' : Addr → Prop} {H H' H0 : Hp} {v u : V} {σ σ' : L2.St} {r r' r0 : Env} {Q : VK} {e a b tg : Expr} {pos p : Pos}
theorem wipe_in {own : List Nat} {i : Nat} {x : Option V} (hi : i ∈ own) (e : (L2.wipe σ own)[i]? = some x) : x = none := by
  cases x with
  | none => rfl
  | some v => exact absurd hi (wipe_some e).2
theorem wipe_wipe {own : List Nat} (hl : σ'.length = σ.length) (h : ∀ j, j ∉ own → σ'[j]? = (L2.wipe σ own)[j]?) : L2.wipe σ' own = L2.wipe σ own := by
  apply List.ext_getElem?
  intro i
  by_cases hi : i ∈ own
  · by_cases hb : i < σ.length
    · have h1 : i < (L2.wipe σ own).length := by rw [wipe_length]; exact hb
      have h2 : i < (L2.wipe σ' own).length := by rw [wipe_length, hl]; exact hb
      rw [List.getElem?_eq_getElem h1, List.getElem?_eq_getElem h2]
      rw [wipe_in hi (List.getElem?_eq_getElem h1), wipe_in hi (List.getElem?_eq_getElem h2)]
    · rw [List.getElem?_eq_none (by rw [wipe_length, hl]; omega), List.getElem?_eq_none (by rw [wipe_length]; omega)]
  · rw [wipe_out hi, h i hi]
/-- what only the comprehension has stays so -/
theorem tmp_ext {O O' : Addr → Prop} {a : Addr} {o : HO} (x : Ext F H O F' H' O') (nf : ¬ F a) (no : ¬ O a) (e : H a = some o) : ¬ F' a ∧ ¬ O' a ∧ H' a = some o := by
  refine ⟨fun z => ?_, fun z => ?_, x.keep a o e no⟩
  · rcases x.fnew a z with z | z | z
    · exact nf z
    · exact no z
    · rw [z] at e; cases e
  · rcases x.onew a z with z | z
    · exact no z
    · rw [z] at e; cases e
theorem Ext.updT {O O' : Addr → Prop} {a : Addr} {o : HO} (x : Ext F H O F' H' O') (hn : H a = none) : Ext F H O F' (upd H' a o) O' where
  keep := fun b u e no => by
    rw [upd_ne (fun z => by rw [z, hn] at e; cases e)]
    exact x.keep b u e no
  fz := x.fz
  fnew := x.fnew
  onew := x.onew
  there := fun b e => by
    by_cases z : b = a
    · rw [z]; exact hn
    · rw [upd_ne z] at e; exact x.there b e
theorem lockOk_wipe {lk : List (Nat × List D)} {own : List Nat} (ha : (lk.all fun p => !own.contains p.1) = true) (h : lockOk lk r = true) : lockOk lk (wipeE own r) = true := by
  refine List.all_eq_true.mpr fun p hp => ?_
  have h1 := List.all_eq_true.mp ha p hp
  have h2 := List.all_eq_true.mp h p hp
  have hi : p.1 ∉ own := by simpa using h1
  rw [wipeE_out hi]
  exact h2
def cTurn (c : CallT) (ifs : List E) (elt : E) : M (Option D) := M.bind (evIfs c ifs) fun b => if b then M.bind (evE c elt) fun v => M.bind (toD v) fun d => M.pure (some d) else M.pure none
theorem bind_ok {α β : Type} {m : M α} {f : α → M β} {b : β} {r r2 : Env} (h : M.bind m f r = .ok b r2) : ∃ a r1, m r = .ok a r1 ∧ f a r1 = .ok b r2 := by
  unfold M.bind at h
  cases e : m r with
  | stuck => rw [e] at h; cases h
  | exc x r1 => rw [e] at h; cases h
  | ok a r1 => rw [e] at h; exact ⟨a, r1, rfl, h⟩
theorem compL_cons {tg : Tg} {own : List Nat} {lk : List (Nat × List D)} {turn : M (Option D)} {d : D} {ds xs : List D} {r3 : Env} (h : compL tg own lk turn (d :: ds) r = .ok xs r3) :
    ∃ r1 o r2 ys, asgT tg d r = some r1 ∧ turn r1 = .ok o r2 ∧ lockOk lk r2 = true ∧ compL tg own lk turn ds (wipeE own r2) = .ok ys r3 ∧ xs = o.toList ++ ys := by
  unfold compL at h
  split at h
  · cases h
  · rename_i r1 e1
    split at h
    · rename_i o r2 e2
      by_cases hl : lockOk lk r2 = true
      · rw [if_pos hl] at h
        split at h
        · rename_i ys r3' e3
          cases h
          exact ⟨r1, o, r2, ys, e1, e2, hl, e3, rfl⟩
        · cases h
        · cases h
      · rw [if_neg hl] at h
        cases h
    · cases h
    · cases h
def preR (acc : List D) : Res (List D) → Res (List D)
  | .ok xs r => .ok (acc ++ xs) r
  | .exc x r => .exc x r
  | .stuck => .stuck
theorem compL_step {tg : Tg} {own : List Nat} {lk : List (Nat × List D)} {turn : M (Option D)} {d : D} {ds acc : List D} {Rf : Res (List D)} (h : preR acc (compL tg own lk turn (d :: ds) r) = Rf) (hs : Rf ≠ .stuck) :
    ∃ r1, asgT tg d r = some r1 ∧ ((∃ o r2, turn r1 = .ok o r2 ∧ lockOk lk r2 = true ∧ preR (acc ++ o.toList) (compL tg own lk turn ds (wipeE own r2)) = Rf) ∨ ∃ x r2, turn r1 = .exc x r2 ∧ Rf = .exc x r2) := by
  subst h
  rw [compL] at hs ⊢
  cases e1 : asgT tg d r with
  | none => rw [e1] at hs; exact absurd rfl hs
  | some r1 =>
    rw [e1] at hs
    refine ⟨r1, rfl, ?_⟩
    dsimp only at hs ⊢
    cases e2 : turn r1 with
    | stuck => rw [e2] at hs; exact absurd rfl hs
    | exc x r2 => exact .inr ⟨x, r2, rfl, rfl⟩
    | ok o r2 =>
      rw [e2] at hs
      dsimp only at hs ⊢
      by_cases hl : lockOk lk r2 = true
      · rw [if_pos hl]
        refine .inl ⟨o, r2, rfl, hl, ?_⟩
        cases compL tg own lk turn ds (wipeE own r2) with
        | ok xs r3 => simp [preR]
        | exc x r3 => rfl
        | stuck => rfl
      · rw [if_neg hl] at hs; exact absurd rfl hs
/-- what stands at turn i -/
def CInv (K : PySem.W.Frag) (mg : Str → Option Value) (L : LiveT) (tg : Tg) (own : List Nat) (lk : List (Nat × List D)) (turn : M (Option D)) (ds : List D) (F1 : Addr → Prop) (H1 : Hp) (σ : L2.St) (r1 : Env) (D : Addr) (Rf : Res (List Ev.D)) (i : Nat) (m : Nat) (H : Hp) : Prop :=
  m = ds.length - i ∧ i ≤ ds.length ∧ ∃ F r acc us, FR K mg F H (L2.wipe σ own) r ∧ Ext F1 H1 (Own (L2.wipe σ own) r1) F H (Own (L2.wipe σ own) r) ∧ ¬ F D ∧ ¬ Own (L2.wipe σ own) r D ∧ H D = some (.lst us) ∧ DRs K mg F H acc us ∧ acc.length ≤ i ∧
    L F H (L2.wipe σ own) r ∧ preR acc (compL tg own lk turn (ds.drop i) r) = Rf
theorem comp_imp {me : E} {mt : Tg} {mi : It} {mifs : List E} {os : List Nat} (hts : ∀ j ∈ tslots mt, j ∈ os) {σ : L2.St} {H : Hp} {Q : VK} (h : tEv K mg W (evE c (.comp me mt mi mifs os)) σ H Q) :
    tLc (tEvI K mg W (evIt c mi)) (gT K mg mt) (tEvT K mg (WA W σ) (evIfs c mifs)) (tEv K mg (WA W σ) (evE c me)) os σ H Q := by
  obtain ⟨F, r, fr, g⟩ := h
  have g : Goes K mg W F H σ r (match evIt c mi r with
    | .ok (ds, lk) r0 => if (lk.all fun p => !os.contains p.1) = true then (match compL mt os lk (cTurn c mifs me) ds (wipeE os r0) with
      | .ok xs r1 => .ok (RV.own xs) (restE os r0 r1)
      | .exc x r1 => .exc x (restE os r0 (wipeE os r1))
      | .stuck => .stuck) else .stuck
    | .exc x r0 => .exc x r0
    | .stuck => .stuck) _ := g
  refine ⟨F, r, fr, ?_⟩
  cases ei : evIt c mi r with
  | stuck => rw [ei] at g; exact g
  | exc x r0 => rw [ei] at g; exact g
  | ok p r0 =>
    obtain ⟨ds, lk⟩ := p
    rw [ei] at g
    dsimp only at g
    by_cases hlk : (lk.all fun p => !os.contains p.1) = true
    case neg => rw [if_neg hlk] at g; exact g.elim
    rw [if_pos hlk] at g
    generalize ec : compL mt os lk (cTurn c mifs me) ds (wipeE os r0) = Rf at g
    have hs : Rf ≠ .stuck := fun z => by rw [z] at g; exact g.elim
    intro F1 H1 x1 fr1 J so D hD
    obtain ⟨L, Lf, src, _, l0, lkp, _⟩ := so.ex
    have frw := fr1.wipe os
    have n1 : ¬ F1 D := fun z => fr1.ftr D z hD
    have n2 : ∀ {σ r}, FR K mg F1 H1 σ r → ¬ Own σ r D := fun fr z => fr.ownH z hD
    -- back in the slots around it
    have toEnd : ∀ (F6 : Addr → Prop) (H6 : Hp) (rx : Env), FR K mg F6 H6 (L2.wipe σ os) rx → Ext F1 H1 (Own (L2.wipe σ os) (wipeE os r0)) F6 H6 (Own (L2.wipe σ os) rx) →
        FR K mg F6 H6 σ (restE os r0 rx) ∧ Ext F H (Own σ r) F6 H6 (Own σ (restE os r0 rx)) ∧ ∀ a, Own σ (restE os r0 rx) a → Own (L2.wipe σ os) rx a ∨ (Own σ r0 a ∧ H1 a ≠ none) := by
      intro F6 H6 rx fr6 x6
      obtain ⟨frR, ownR⟩ := FR.rest fr1 fr6 x6
      refine ⟨frR, x1.trans ⟨fun a o e no => x6.keep a o e fun z => no z.wipe, x6.fz, fun a f => ?_, fun a z => ?_, x6.there⟩, ownR⟩
      · rcases x6.fnew a f with z | z | z
        · exact .inl z
        · exact .inr (.inl z.wipe)
        · exact .inr (.inr z)
      · rcases ownR a z with z | ⟨z, _⟩
        · rcases x6.onew a z with z | z
          · exact .inl z.wipe
          · exact .inr z
        · exact .inl z
    refine ⟨CInv K mg L mt os lk (cTurn c mifs me) ds F1 H1 σ (wipeE os r0) D Rf, ⟨_, rfl, Nat.zero_le _, F1, wipeE os r0, [], [], ?_, Ext.refl.updT hD, n1, n2 frw, upd_same .., .nil, Nat.le_refl _, ?_, ?_⟩, ?_⟩
    · exact frw.updTemp n1 (n2 frw)
    · exact lkp.grow (lkp.wipe hlk l0) (fun _ f => f) fun b o f e => by
        have nz : b ≠ D := fun z => n1 (by rw [← z]; exact f)
        rw [upd_ne nz]; exact e
    · rw [List.drop_zero, ec]
      cases Rf <;> rfl
    rintro i m Hi ⟨rfl, hi, Fi, ri, acc, us, fri, xi, nF, nO, hDi, dr, al, li, ci⟩
    by_cases hlt : i < ds.length
    · have ed : ds[i]? = some ds[i] := List.getElem?_eq_getElem hlt
      generalize ds[i] = d at ed
      refine .inr ⟨src.go i d fri li ed, CInv K mg L mt os lk (cTurn c mifs me) ds F1 H1 σ (wipeE os r0) D Rf (i + 1) (ds.length - (i + 1)), fun H' w => ⟨_, by omega, w⟩, fun x H' y => ?_⟩
      have e0 : ds.drop i = d :: ds.drop (i + 1) := by
        rw [List.drop_eq_getElem_cons hlt]
        rw [List.getElem?_eq_getElem hlt] at ed
        cases ed
        rfl
      rw [e0] at ci
      obtain ⟨ra, ea, ct⟩ := compL_step ci hs
      -- the turn's value stands
      obtain ⟨F2, fr2, x2, dx⟩ : ∃ F2, FR K mg F2 H' (L2.wipe σ os) ri ∧ Ext Fi Hi (Own (L2.wipe σ os) ri) F2 H' (Own (L2.wipe σ os) ri) ∧ DR K mg F2 H' d x := by
        rcases src.yld i d x H' fri li ed y with ⟨e1, e2⟩ | ⟨p, ws, zs, e1, e2, e3, e4, e5⟩
        · subst e1
          exact ⟨Fi, fri, Ext.refl, e2⟩
        · subst e2 e3 e4
          refine ⟨Fp Fi p, fri.alloc e1 (fun _ f => .inl f) (fun _ f => f), Ext.alloc e1 (fun _ f => .inl f) (fun _ f => f), .tup (.inr rfl) (.inl (upd_same ..)) (e5.mono (fun _ f => .inl f) fun a o _ e => upd_new e1 e)⟩
      refine ⟨F2, d, ri, ra, fr2, dx, ea, fun σ2 fr3 len2 oth own2 => ?_⟩
      have ew : L2.wipe σ2 os = L2.wipe σ os := wipe_wipe (by rw [len2, wipe_length]) fun j hj => oth j fun z => hj (hts j z)
      have x3 : Ext F2 H' (Own (L2.wipe σ os) ri) F2 H' (Own σ2 ra) := ⟨fun _ _ e _ => e, fun _ f => f, fun _ f => .inl f, fun _ o => .inl (own2 _ o), fun _ e => e⟩
      have x13 := (xi.trans x2).trans x3
      obtain ⟨t1, t2, t3⟩ := tmp_ext x2 nF nO hDi
      obtain ⟨t1, t2, t3⟩ := tmp_ext x3 t1 t2 t3
      -- the block's slots forgotten
      have wip : ∀ (F6 : Addr → Prop) (H6 : Hp) (rx : Env), FR K mg F6 H6 σ2 rx → Ext F1 H1 (Own (L2.wipe σ os) (wipeE os r0)) F6 H6 (Own σ2 rx) → FR K mg F6 H6 (L2.wipe σ os) (wipeE os rx) ∧ Ext F1 H1 (Own (L2.wipe σ os) (wipeE os r0)) F6 H6 (Own (L2.wipe σ os) (wipeE os rx)) := by
        intro F6 H6 rx fr6 x6
        have w6 := fr6.wipe os
        rw [ew] at w6
        refine ⟨w6, x6.keep, x6.fz, x6.fnew, fun a z => x6.onew a ?_, x6.there⟩
        rw [← ew] at z
        exact z.wipe
      -- an exception leaves
      have exf : ∀ (x : Exc) (rx : Env), Rf = .exc x rx → ∀ (F6 : Addr → Prop) (H6 : Hp) (cls : Value) (d : Option Addr), Ext F2 H' (Own σ2 ra) F6 H6 (Own σ2 rx) → FR K mg F6 H6 σ2 rx → ExcR K mg F6 H6 x cls d → WA W σ cls d σ2 H6 := by
        intro x rx e F6 H6 cls d x6 fr6 er
        rw [e] at g
        obtain ⟨w1, w2⟩ := wip F6 H6 rx fr6 (x13.trans x6)
        obtain ⟨y1, y2, _⟩ := toEnd F6 H6 _ w1 w2
        exact g F6 H6 cls d y2 y1 er
      refine ⟨ew, F2, ra, fr3, ?_⟩
      have ct : ∀ R, cTurn c mifs me ra = R → (∃ o r2, R = .ok o r2 ∧ lockOk lk r2 = true ∧ preR (acc ++ o.toList) (compL mt os lk (cTurn c mifs me) (ds.drop (i + 1)) (wipeE os r2)) = Rf) ∨ ∃ x r2, R = .exc x r2 ∧ Rf = .exc x r2 := fun R e => by rw [← e]; exact ct
      unfold cTurn M.bind at ct
      cases eb : evIfs c mifs ra with
      | stuck =>
        rw [eb] at ct
        rcases ct _ rfl with ⟨_, _, z, _⟩ | ⟨_, _, z, _⟩ <;> cases z
      | exc x rc =>
        rw [eb] at ct
        rcases ct _ rfl with ⟨_, _, z, _⟩ | ⟨x', r', z, e⟩
        · cases z
        · cases z
          exact exf _ _ e
      | ok bb rc =>
      rw [eb] at ct
      dsimp only at ct
      intro F4 H4 x4 fr4
      obtain ⟨t1, t2, t3⟩ := tmp_ext x4 t1 t2 t3
      have x14 := x13.trans x4
      have dr4 : DRs K mg F4 H4 acc us := x4.drs fr3 ((x2.drs fri dr))
      -- the end of a turn
      have fin : ∀ (rb : Env) (o : Option Ev.D) (F6 : Addr → Prop) (H6 : Hp) (us' : List V), lockOk lk rb = true → preR (acc ++ o.toList) (compL mt os lk (cTurn c mifs me) (ds.drop (i + 1)) (wipeE os rb)) = Rf → FR K mg F6 H6 σ2 rb → Ext F1 H1 (Own (L2.wipe σ os) (wipeE os r0)) F6 H6 (Own σ2 rb) → ¬ F6 D → ¬ Own σ2 rb D → H6 D = some (.lst us') → DRs K mg F6 H6 (acc ++ o.toList) us' → (∀ a, Fi a → F6 a) → (∀ a o, Fi a → Hi a = some o → H6 a = some o) →
          CInv K mg L mt os lk (cTurn c mifs me) ds F1 H1 σ (wipeE os r0) D Rf (i + 1) (ds.length - (i + 1)) H6 := by
        intro rb o F6 H6 us' hl ef6 fr6 x6 nf no hd6 dr6 hf hk
        obtain ⟨w1, w2⟩ := wip F6 H6 rb fr6 x6
        refine ⟨rfl, hlt, F6, wipeE os rb, acc ++ o.toList, us', w1, w2, nf, fun z => no ?_, hd6, dr6, ?_, lkp.keep fri li hf hk (lockOk_wipe hlk hl), ef6⟩
        · rw [← ew] at z
          exact z.wipe
        · cases o <;> simp <;> omega
      have hf4 : ∀ a, Fi a → F4 a := fun a f => x4.fz a (x2.fz a f)
      have hk4 : ∀ a o, Fi a → Hi a = some o → H4 a = some o := fun a o f e => x4.keep a o (x2.keep a o e fun z => fri.notF z f) fun z => fr3.notF z (x2.fz a f)
      cases bb with
      | false =>
        rw [if_neg (by decide)]
        rcases ct _ rfl with ⟨o, r2, z, hl, e⟩ | ⟨x', r', z, e⟩
        · have z : Res.ok none rc = Res.ok o r2 := z
          cases z
          exact fin rc none F4 H4 us hl e fr4 x14 t1 t2 t3 (by simpa using dr4) hf4 hk4
        · have z : Res.ok none rc = Res.exc x' r' := z
          cases z
      | true =>
        rw [if_pos rfl]
        refine ⟨F4, rc, fr4, ?_⟩
        simp only [if_true] at ct
        cases ee : evE c me rc with
        | stuck =>
          rw [ee] at ct
          rcases ct _ rfl with ⟨_, _, z, _⟩ | ⟨_, _, z, _⟩ <;> cases z
        | exc x rd =>
          rw [ee] at ct
          rcases ct _ rfl with ⟨_, _, z, _⟩ | ⟨x', r', z, e⟩
          · cases z
          · cases z
            exact fun F6 H6 cls d x6 fr6 er => exf _ _ e F6 H6 cls d (x4.trans x6) fr6 er
        | ok w rd =>
        rw [ee] at ct
        dsimp only at ct
        cases ed2 : toD w rd with
        | stuck =>
          rw [ed2] at ct
          rcases ct _ rfl with ⟨_, _, z, _⟩ | ⟨_, _, z, _⟩ <;> cases z
        | exc x re => exact absurd ed2 toD_noexc
        | ok dd re =>
        rw [ed2] at ct
        rcases ct _ rfl with ⟨o, rb, z, hl, e⟩ | ⟨x', r', z, e⟩
        case inr =>
          have z : Res.ok (some dd) re = Res.exc x' r' := z
          cases z
        have z : Res.ok (some dd) re = Res.ok o rb := z
        cases z
        intro F5 H5 x5 fr5 y rv
        obtain ⟨t1, t2, t3'⟩ := tmp_ext x5 t1 t2 t3
        obtain ⟨F6, q1, q2, q3, fr6, dy, q6⟩ := toD_ok fr5 rv ed2
        have ny : y = .ref D → ∀ xs, w ≠ .own xs := fun ey xs ew => by
          subst ew ey
          cases rv with
          | own _ _ _ _ z => rw [z] at t3; cases t3
        have nF6 : ¬ F6 D := fun z => by
          rcases q2 D z with z | ⟨z1, z2 | ⟨xs, z2⟩⟩
          · exact t1 z
          · exact t2 z2
          · exact ny z1 xs z2
        have x56 : Ext F4 H4 (Own σ2 rc) F6 H5 (Own σ2 re) := by
          refine ⟨x5.keep, fun a f => q1 a (x5.fz a f), fun a f => ?_, fun a z => x5.onew a (q3 a z), x5.there⟩
          rcases q2 a f with z | ⟨z1, z2 | ⟨xs, z2⟩⟩
          · exact x5.fnew a z
          · exact .inr (x5.onew a z2)
          · subst z1 z2
            cases rv with
            | own _ _ _ _ z => exact .inr (.inr z)
        have nO6 : ¬ Own σ2 re D := fun z => t2 (q3 D z)
        refine ⟨us, t3', ?_, ?_⟩
        · have := dr.length
          have : ds.length ≤ sizeLine := src.len
          omega
        have up6 : ∀ a u, F6 a → H5 a = some u → upd H5 D (.lst (us ++ [y])) a = some u := fun a u f e => by
          have nz : a ≠ D := fun z => nF6 (by rw [← z]; exact f)
          rw [upd_ne nz]; exact e
        refine fin re (some dd) F6 _ (us ++ [y]) hl e (fr6.updTemp nF6 nO6) ((x14.trans x56).updT hD) nF6 nO6 (upd_same ..) ?_ (fun a f => q1 a (x5.fz a (hf4 a f))) ?_
        · refine DRs.append ?_ (.cons ?_ .nil)
          · exact (x56.drs fr4 dr4).mono (fun _ f => f) up6
          · exact dy.mono (fun _ f => f) up6
        · intro a o f e
          exact up6 a o (q1 a (x5.fz a (hf4 a f))) (x5.keep a o (hk4 a o f e) fun z => fr4.notF z (hf4 a f))
    · have ei' : i = ds.length := by omega
      subst ei'
      rw [List.drop_length] at ci
      have ci : Res.ok (acc ++ []) ri = Rf := ci
      rw [List.append_nil] at ci
      subst ci
      refine .inl ⟨src.stop fri li, ?_⟩
      obtain ⟨frR, xR, ownR⟩ := toEnd Fi Hi ri fri xi
      refine g Fi Hi xR frR _ (.own hDi dr nF ?_ ?_)
      · intro z
        rcases ownR D z with z | ⟨_, z⟩
        · exact nO z
        · exact z hD
      · exact x1.there D hD
theorem pts_ev {mifs : List E} {ifs : List Expr} (hl : (ifs = [] ∧ mifs = []) ∨ ∃ e m, ifs = [e] ∧ mifs = [m] ∧ PT X e (tEvT X.K X.mg W (evT c m))) : PTs X ifs (tEvT X.K X.mg W (evIfs c mifs)) := by
  rcases hl with ⟨rfl, rfl⟩ | ⟨e, m, rfl, rfl, h⟩
  · refine ⟨fun pins s σ H Q I ⟨F, r, fr, g⟩ => pts_nil.run pins s σ H Q I ?_⟩
    exact Goes.ok (r := r) g fr
  · refine pts_one ⟨fun pins s σ H Q I ⟨F, r, fr, g⟩ => h.run pins s σ H Q I ⟨F, r, fr, ?_⟩⟩
    have g : Goes X.K X.mg W F H σ r (M.bind (evE c m) (fun v => withLook v fun d => match truD d with
      | some true => M.pure true
      | some false => M.pure false
      | none => stuckM) r) _ := g
    show Goes X.K X.mg W F H σ r (M.bind (evE c m) (fun v => withLook v fun d => liftO (truD d)) r) _
    have : (fun v => withLook v fun d => liftO (truD d)) = (fun v => withLook v fun d => (match truD d with
      | some true => M.pure true
      | some false => M.pure false
      | none => stuckM : M Bool)) := by
      funext v
      congr 1
      funext d
      cases truD d with
      | none => rfl
      | some b => cases b <;> rfl
    rw [this]
    exact g
/-- the block of a comprehension, with what it may let out -/
abbrev blkX (X : Cx) (s : Shared) (H : Hp) (scope : Scope) (C : Addr) (cl : List (Str × Addr)) (fp : List Addr) (xe : Value → Shared → Prop) : Cx := (X.blk s H scope (compEnvC scope cl C X.env) fp).tr [] xe
theorem pev_comp {elt iter : Expr} {ifs : List Expr} {scope : Scope} {own : List (Str × Nat)} {me : E} {mt : Tg} {mi : It} {mifs : List E} (hc : X.calm = true) (hN : X.N.Nodup) (hi : PI X tg iter (tEvI X.K X.mg W (evIt c mi))) (ok : BlkOk X.N X.env.scope scope own) (tk : TakesF X W)
    (hg : ∀ σ (s : Shared) (H : Hp) (C : Addr) (cl : List (Str × Addr)) (fp : List Addr) (xe : Value → Shared → Prop), TakesF (blkX X s H scope C cl fp xe) (WA W σ) → PG (blkX X s H scope C cl fp xe) tg (gT X.K X.mg mt))
    (ht : ∀ σ (s : Shared) (H : Hp) (C : Addr) (cl : List (Str × Addr)) (fp : List Addr) (xe : Value → Shared → Prop), TakesF (blkX X s H scope C cl fp xe) (WA W σ) → PTs (blkX X s H scope C cl fp xe) ifs (tEvT X.K X.mg (WA W σ) (evIfs c mifs)))
    (he : ∀ σ (s : Shared) (H : Hp) (C : Addr) (cl : List (Str × Addr)) (fp : List Addr) (xe : Value → Shared → Prop), TakesF (blkX X s H scope C cl fp xe) (WA W σ) → PE (blkX X s H scope C cl fp xe) elt (tEv X.K X.mg (WA W σ) (evE c me)))
    (hs : ∀ x, foldedSetIterable iter X.env x = pure x) (hts : ∀ j ∈ tslots mt, j ∈ own.map (·.2)) :
    PE X (.ListComp elt [⟨tg, iter, ifs, 0⟩] scope pos) (tEv X.K X.mg W (evE c (.comp me mt mi mifs (own.map (·.2))))) :=
  pe_imp (pe_lcX hc hN hi ok tk hg ht he hs) fun σ H Q h => comp_imp hts h
end
end Ev

-- part Ev5l
set_option maxHeartbeats 1000000
/-! Ev5l: methods of lists. -/
namespace Ev
open PySem PySem.Spec PyProof.Rows L2
section
variable {X : Cx} {W : WX} {c : CallT} {K : PySem.W.Frag} {mg : Str → Option Value} {F F' : Addr → Prop} {H H' H0 : Hp} {v u : V} {σ σ' : L2.St} {r r' r0 : Env} {Q : VK} {e a b tg : Expr} {pos p apos cpos : Pos}
theorem toD_ext {F0 : Addr → Prop} {O0 : Addr → Prop} {w : RV} (x : Ext F0 H0 O0 F H (Own σ r)) (rv : RVR K mg H0 F H σ r w v) (h1 : ∀ x, F x → F' x) (h2 : ∀ x, F' x → F x ∨ (v = .ref x ∧ (Own σ r x ∨ ∃ xs, w = .own xs))) (h3 : ∀ x, Own σ r' x → Own σ r x) :
    Ext F0 H0 O0 F' H (Own σ r') := by
  refine ⟨x.keep, fun a f => h1 a (x.fz a f), fun a f => ?_, fun a z => x.onew a (h3 a z), x.there⟩
  rcases h2 a f with z | ⟨z1, z2 | ⟨xs, z2⟩⟩
  · exact x.fnew a z
  · exact .inr (x.onew a z2)
  · subst z1 z2
    cases rv with
    | own _ _ _ _ z => exact .inr (.inr z)
theorem mut_box {i : Nat} (h : isMut r i = true) : ∃ xs, r[i]? = some (.box xs) := by
  have h : (match r[i]? with
    | some (.box _) => true
    | _ => false) = true := h
  cases q : r[i]? with
  | none => rw [q] at h; cases h
  | some s =>
    rw [q] at h
    cases s with
    | box xs => exact ⟨xs, rfl⟩
    | _ => cases h
theorem pev_app {i : Nat} {x : Str} {m : E} (hN : X.N[i]? = some x) (hv : Vis X.env.scope x) (hd : (x == ("__debug__" : Str)) = false) (hcd : (x == ("__classdict__" : Str)) = false) (he : PE X e (tEv X.K X.mg W (evE c m))) (hn : noStar e = true) (hline : (apos.endLine == cpos.line) = true) :
    PE X (.Call (.Attribute (.Name x p) "append" apos) [e] [] cpos) (tEv X.K X.mg W (evE c (.app i m))) := by
  have s1 : starEach [e] X.env = [(false, eval e X.env)] := star_cons hn
  refine pe_imp (pe_bm PySem.F.plainAttrs_list PySem.F.slot_list_append PySem.F.type_list_append mt_append (pe_var hN hv hd hcd) (pa_cons he pa_nil s1) rfl (by rw [s1]; rfl) hline s1 rfl) fun σ H Q ⟨F, r, fr, g⟩ => ?_
  have g : Goes X.K X.mg W F H σ r (if isMut r i then M.bind (evE c m) (fun v => M.bind (toD v) fun d r => match r[i]? with
      | some (.box xs) => if xs.length < sizeLine then .ok (RV.val .non) (r.set i (.box (xs ++ [d]))) else .stuck
      | _ => .stuck) r else .stuck) _ := g
  by_cases hm : isMut r i = true
  case neg => rw [if_neg hm] at g; exact g.elim
  rw [if_pos hm] at g
  obtain ⟨xs0, e0⟩ := mut_box hm
  obtain ⟨a, vs0, h1, h2, h3, h4⟩ := fr.box i xs0 e0
  refine ⟨.ref a, h1, .inl ⟨rfl, vs0, SqL.of h2⟩, F, r, fr, g.bind0.imp fun w r1 F1 H1 _ x1 fr1 g1 v rv => ?_⟩
  unfold M.bind at g1
  cases ed : toD w r1 with
  | stuck => rw [ed] at g1; exact g1.elim
  | exc y r2 =>
    exfalso
    cases w with
    | val d => cases ed
    | own xs => cases ed
    | bor j =>
      have ed : (match r1[j]? with
        | some (.box xs) => Res.ok (D.lst xs) (r1.set j (.val (.lst xs)))
        | some (.val d) => .ok d r1
        | _ => .stuck) = Res.exc y r2 := ed
      split at ed <;> cases ed
  | ok d r2 =>
    rw [ed] at g1
    dsimp only at g1
    obtain ⟨F2, q1, q2, q3, fr2, dr, q6⟩ := toD_ok fr1 rv ed
    have x2 := toD_ext x1 rv q1 q2 q3
    split at g1
    · rename_i xs er
      obtain ⟨a', vs, h1', h2', h3', h4'⟩ := fr2.box i xs er
      rw [h1] at h1'
      cases h1'
      by_cases hl : xs.length < sizeLine
      · rw [if_pos hl] at g1
        refine ⟨a, vs, v, rfl, rfl, h2', by rw [← h3'.length]; exact hl, ?_⟩
        exact Goes.ok0 g1 (x2.trans (Ext.updBox er h1)) (fr2.updBox er h1 (h3'.append (.cons dr .nil))) _ (.val .non)
      · rw [if_neg hl] at g1
        exact g1.elim
    · exact g1.elim
theorem pev_pop {i : Nat} {x : Str} (hN : X.N[i]? = some x) (hv : Vis X.env.scope x) (hd : (x == ("__debug__" : Str)) = false) (hcd : (x == ("__classdict__" : Str)) = false) (hline : (apos.endLine == cpos.line) = true) :
    PE X (.Call (.Attribute (.Name x p) "pop" apos) [] [] cpos) (tEv X.K X.mg W (evE c (.pop i))) := by
  refine pe_imp (pe_bm0 PySem.F.plainAttrs_list PySem.F.slot_list_pop PySem.F.type_list_pop mt_pop (pe_var hN hv hd hcd) rfl hline) fun σ H Q ⟨F, r, fr, g⟩ => ?_
  have g : Goes X.K X.mg W F H σ r (match r[i]? with
    | some (.box xs) => (match xs.getLast? with
      | some d => .ok (RV.val d) (r.set i (.box xs.dropLast))
      | none => .stuck)
    | _ => .stuck) _ := g
  split at g
  · rename_i xs er
    obtain ⟨a, vs, h1, h2, h3, h4⟩ := fr.box i xs er
    refine ⟨.ref a, h1, .inl ⟨rfl, vs, SqL.of h2⟩, ?_⟩
    split at g
    · rename_i d el
      rw [List.getLast?_eq_getElem?] at el
      obtain ⟨y, hy, dr⟩ := h3.get el
      rw [h3.length] at hy
      refine ⟨a, vs, y, rfl, rfl, h2, hy, ?_⟩
      have x2 : Ext F H (Own σ r) F (upd H a (.lst vs.dropLast)) (Own σ (r.set i (.box xs.dropLast))) := Ext.updBox er h1
      exact Goes.ok0 g x2 (fr.updBox er h1 h3.dropLast) _ (.val (x2.dr fr dr))
    · exact g.elim
  · exact g.elim
theorem pev_popAt {i : Nat} {x : Str} {m : E} (hN : X.N[i]? = some x) (hv : Vis X.env.scope x) (hd : (x == ("__debug__" : Str)) = false) (hcd : (x == ("__classdict__" : Str)) = false) (he : PE X e (tEv X.K X.mg W (evE c m))) (hn : noStar e = true) (hline : (apos.endLine == cpos.line) = true) :
    PE X (.Call (.Attribute (.Name x p) "pop" apos) [e] [] cpos) (tEv X.K X.mg W (evE c (.popAt i m))) := by
  have s1 : starEach [e] X.env = [(false, eval e X.env)] := star_cons hn
  refine pe_imp (pe_bm PySem.F.plainAttrs_list PySem.F.slot_list_pop PySem.F.type_list_pop mt_popAt (pe_var hN hv hd hcd) (pa_cons he pa_nil s1) rfl (by rw [s1]; rfl) hline s1 rfl) fun σ H Q ⟨F, r, fr, g⟩ => ?_
  have g : Goes X.K X.mg W F H σ r (if isMut r i then M.bind (evE c m) (fun v => withLook v fun d r => match r[i]?, d with
      | some (.box xs), .int k => if small62 k then (match atIx xs.length k with
        | some k => (match xs[k]? with
          | some x => .ok (RV.val x) (r.set i (.box (xs.eraseIdx k)))
          | none => .stuck)
        | none => .stuck) else .stuck
      | _, _ => .stuck) r else .stuck) _ := g
  by_cases hm : isMut r i = true
  case neg => rw [if_neg hm] at g; exact g.elim
  rw [if_pos hm] at g
  obtain ⟨xs0, e0⟩ := mut_box hm
  obtain ⟨a, vs0, h1, h2, h3, h4⟩ := fr.box i xs0 e0
  refine ⟨.ref a, h1, .inl ⟨rfl, vs0, SqL.of h2⟩, F, r, fr, g.bind0.imp fun w r1 F1 H1 _ x1 fr1 g1 v rv => ?_⟩
  obtain ⟨d, ld, g2⟩ := g1.look0
  have rw1 := rv.look fr1 ld
  split at g2
  · rename_i xs k er
    cases rw_int rw1
    obtain ⟨a', vs, h1', h2', h3', h4'⟩ := fr1.box i xs er
    rw [h1] at h1'
    cases h1'
    by_cases hk : small62 k = true
    case neg => rw [if_neg hk] at g2; exact g2.elim
    rw [if_pos hk] at g2
    simp only [Bool.and_eq_true, decide_eq_true_eq, small62] at hk
    split at g2
    · rename_i j ej
      split at g2
      · rename_i y ey
        obtain ⟨z, hz, dr⟩ := h3'.get ey
        rw [atIx_ixN, h3'.length] at ej
        refine ⟨a, vs, k, j, z, rfl, rfl, h2', by omega, by omega, (ixN_seq ej).1, hz, ?_⟩
        have x2 : Ext F1 H1 (Own σ r1) F1 (upd H1 a (.lst (vs.eraseIdx j))) (Own σ (r1.set i (.box (xs.eraseIdx j)))) := Ext.updBox er h1
        exact Goes.ok0 g2 (x1.trans x2) (fr1.updBox er h1 (h3'.eraseIdx j)) _ (.val (x2.dr fr1 dr))
      · exact g2.elim
    · exact g2.elim
  · exact g2.elim
end
end Ev

-- part Ev5m
set_option maxHeartbeats 1000000
/-! Ev5m: chains, slices, reversed copies. -/
namespace Ev
open PySem PySem.Spec PyProof.Rows L2
section
variable {X : Cx} {W : WX} {c : CallT} {K : PySem.W.Frag} {mg : Str → Option Value} {F F' : Addr → Prop} {H H' H0 : Hp} {v u : V} {σ σ' : L2.St} {r r' r0 : Env} {Q : VK} {e a b d tg : Expr} {pos p p2 apos cpos : Pos}
theorem chain_ok {op op' : CmpOp} {m1 m2 m3 : E} {rr rr' : R2} (hs : OpS K mg rr fun a b => asB (cmpOp op a b)) (hs' : OpS K mg rr' fun a b => asB (cmpOp op' a b)) {σ : L2.St} {H : Hp} {Q : VK} (h : tEv K mg W (evE c (.cmp2 op op' m1 m2 m3)) σ H Q) :
    tChain rr rr' (tEv K mg W (evE c m1)) (tEv K mg W (evE c m2)) (tEv K mg W (evE c m3)) σ H Q := by
  obtain ⟨F, r, fr, g⟩ := h
  have g : Goes K mg W F H σ r (M.bind (evE c m1) (fun x => M.bind (evE c m2) fun y => withLook x fun d => withLook y fun e => match cmpOp op d e with
      | some true => M.bind (evE c m3) fun z => withLook y fun e => withLook z fun f => liftO ((cmpOp op' e f).map fun b => .val (.bl b))
      | some false => M.pure (RV.val (.bl false))
      | none => stuckM) r) _ := g
  refine ⟨F, r, fr, g.bind.imp fun x r1 F1 H1 _ x1 fr1 g1 v1 rv1 => ⟨F1, r1, fr1, g1.bind.imp fun y r2 F2 H2 _ x2 fr2 g2 v2 rv2 => ?_⟩⟩
  obtain ⟨d, ld, g3⟩ := g2.look
  obtain ⟨e, le, g4⟩ := g3.look
  cases hc : cmpOp op d e with
  | none => rw [hc] at g4; exact g4.elim
  | some k =>
    rw [hc] at g4
    refine hs fr2 ((rv1.ext x2 fr1).look fr2 ld) (rv2.look fr2 le) (show asB (cmpOp op d e) = some (.val (.bl k)) by rw [hc]; rfl) fun F3 H3 z x3 fr3 rv3 => ?_
    have ez : z = .bl k := by
      cases rv3 with
      | val q => exact rw_bl (.of q)
    subst ez
    refine ⟨k, rfl, ?_⟩
    cases k with
    | false =>
      rw [if_neg (by decide)]
      exact g4 F3 H3 x3 fr3 _ (.val (.bl false))
    | true =>
      rw [if_pos rfl]
      have g5 := Goes.from x3 g4
      refine ⟨F3, r2, fr3, g5.bind.imp fun z r4 F4 H4 _ x4 fr4 g6 v4 rv4 => ?_⟩
      obtain ⟨e', le', g7⟩ := g6.look
      obtain ⟨f, lf, g8⟩ := g7.look
      obtain ⟨w, hw, g9⟩ := g8.lift
      have rv2' := ((rv2.ext x3 fr2).ext x4 fr3).look fr4 le'
      exact hs' fr4 rv2' (rv4.look fr4 lf) hw fun F5 H5 z x5 fr5 rv5 => g9 F5 H5 x5 fr5 z (rv5.base fun a e => (x1.trans (x2.trans (x3.trans x4))).there a e)
theorem pev_cmp2 {op op' : CmpOp} {m1 m2 m3 : E} (hu : X.A.units + 65 < cLine) (ha : PE X a (tEv X.K X.mg W (evE c m1))) (hb : PE X b (tEv X.K X.mg W (evE c m2))) (hd : PE X d (tEv X.K X.mg W (evE c m3))) (hm : behindInMarks op' d = false) :
    PE X (.Compare a [op, op'] [b, d] pos) (tEv X.K X.mg W (evE c (.cmp2 op op' m1 m2 m3))) := by
  obtain ⟨rr, ho, hs⟩ := cmp_rule (X := X) op hu
  obtain ⟨rr', ho', hs'⟩ := cmp_rule (X := X) op' hu
  exact pe_imp (pe_chain ho ho' ha hb hd hm) fun σ H Q h => chain_ok hs hs' h
theorem evT_bool {m : E} (hb : ∀ r w r', evE c m r = .ok w r' → ∃ b, w = .val (.bl b)) {σ : L2.St} {H : Hp} {Q : Bool → Hp → Prop} (h : tEvT K mg W (evT c m) σ H Q) :
    tEv K mg W (evE c m) σ H fun v H' => ∃ k, v = .bl k ∧ Q k H' := by
  obtain ⟨F, r, fr, g⟩ := h
  have g : Goes K mg W F H σ r (M.bind (evE c m) (fun x => withLook x fun d => liftO (truD d)) r) _ := g
  refine ⟨F, r, fr, g.bind.imp fun x r1 F1 H1 hx x1 fr1 g1 v1 rv1 => ?_⟩
  obtain ⟨b, rfl⟩ := hb _ _ _ hx
  have g2 : Goes K mg W F1 H1 σ r1 (.ok b r1) _ := g1
  exact ⟨b, rw_bl (rv1.look fr1 rfl), g2.ok fr1⟩
theorem cmp2_bool {op op' : CmpOp} {m1 m2 m3 : E} (r : Env) (w : RV) (r' : Env) (h : evE c (.cmp2 op op' m1 m2 m3) r = .ok w r') : ∃ b, w = .val (.bl b) := by
  have h : M.bind (evE c m1) (fun x => M.bind (evE c m2) fun y => withLook x fun d => withLook y fun e => match cmpOp op d e with
      | some true => M.bind (evE c m3) fun z => withLook y fun e => withLook z fun f => liftO ((cmpOp op' e f).map fun b => .val (.bl b))
      | some false => M.pure (RV.val (.bl false))
      | none => stuckM) r = .ok w r' := h
  obtain ⟨x, r1, _, h⟩ := bind_ok h
  obtain ⟨y, r2, _, h⟩ := bind_ok h
  have lk : ∀ {α : Type} {v : RV} {f : D → M α} {r : Env} {a : α} {r' : Env}, withLook v f r = .ok a r' → ∃ d, f d r = .ok a r' := by
    intro α v f r a r' h
    unfold withLook at h
    split at h
    · exact ⟨_, h⟩
    · cases h
  obtain ⟨d, h⟩ := lk h
  obtain ⟨e, h⟩ := lk h
  cases hc : cmpOp op d e with
  | none => rw [hc] at h; cases h
  | some k =>
    rw [hc] at h
    cases k with
    | false => cases h; exact ⟨false, rfl⟩
    | true =>
      obtain ⟨z, r3, _, h⟩ := bind_ok h
      obtain ⟨e', h⟩ := lk h
      obtain ⟨f, h⟩ := lk h
      cases q : cmpOp op' e' f with
      | none => rw [q] at h; cases h
      | some b => rw [q] at h; cases h; exact ⟨b, rfl⟩
theorem pevt_cmp2 {op op' : CmpOp} {m1 m2 m3 : E} (hu : X.A.units + 65 < cLine) (ha : PE X a (tEv X.K X.mg W (evE c m1))) (hb : PE X b (tEv X.K X.mg W (evE c m2))) (hd : PE X d (tEv X.K X.mg W (evE c m3))) (hm : behindInMarks op' d = false) :
    PT X (.Compare a [op, op'] [b, d] pos) (tEvT X.K X.mg W (evT c (.cmp2 op op' m1 m2 m3))) := by
  obtain ⟨rr, ho, hs⟩ := cmp_rule (X := X) op hu
  obtain ⟨rr', ho', hs'⟩ := cmp_rule (X := X) op' hu
  refine pt_imp (pt_chain ho ho' ha hb hd hm) fun σ H Q h => ?_
  exact chain_ok hs hs' (evT_bool cmp2_bool h)
/-! ### slices -/
def tEvO (K : PySem.W.Frag) (mg : Str → Option Value) (W : WX) (m : M (Option Int)) : TO := fun σ H Q => ∃ F r, FR K mg F H σ r ∧ Goes K mg W F H σ r (m r) fun o r' F' H' => Q o H'
theorem partI_int {d : D} {j : Int} (h : partI d = some j) : d = .int j := by
  cases d with
  | int i =>
    have h : (if fits64 i then some i else none) = some j := h
    split at h
    · cases h; rfl
    · cases h
  | _ => cases h
theorem po_ev {o : Option Expr} {m : Option E} (h : (o = none ∧ m = none) ∨ ∃ e n, o = some e ∧ m = some n ∧ PE X e (tEv X.K X.mg W (evE c n))) : PO X o (tEvO X.K X.mg W (evO c m)) := by
  rcases h with ⟨rfl, rfl⟩ | ⟨e, n, rfl, rfl, h⟩
  · refine ⟨fun pins s σ H Q I ⟨F, r, fr, g⟩ => po_none.run pins s σ H Q I ?_⟩
    exact Goes.ok (r := r) g fr
  · refine ⟨fun pins s σ H Q I ⟨F, r, fr, g⟩ => (po_some h).run pins s σ H Q I ?_⟩
    have g : Goes X.K X.mg W F H σ r (M.bind (evE c n) (fun v => withLook v fun d => liftO ((partI d).map some)) r) _ := g
    refine ⟨F, r, fr, g.bind.imp fun x r1 F1 H1 _ x1 fr1 g1 v1 rv1 => ?_⟩
    obtain ⟨d, ld, g2⟩ := g1.look
    obtain ⟨o, ho, g3⟩ := g2.lift
    cases hp : partI d with
    | none => rw [hp] at ho; cases ho
    | some j =>
      rw [hp] at ho
      cases ho
      cases partI_int hp
      exact ⟨j, rw_int (rv1.look fr1 ld), Goes.ok (r := r1) g3 fr1⟩
theorem pev_sli {lo hi : Option Expr} {m : E} {ml mh : Option E} (ha : PE X a (tEv X.K X.mg W (evE c m))) (hl : PO X lo (tEvO X.K X.mg W (evO c ml))) (hh : PO X hi (tEvO X.K X.mg W (evO c mh))) :
    PE X (.Subscript a (.Slice lo hi none p2) pos) (tEv X.K X.mg W (evE c (.sli m ml mh))) := by
  refine pe_imp (pe_slice slr_any ha hl hh) fun σ H Q ⟨F, r, fr, g⟩ => ?_
  have g : Goes X.K X.mg W F H σ r (M.bind (evE c m) (fun x => M.bind (evO c ml) fun l => M.bind (evO c mh) fun h => withLook x fun d => liftO (sliI d l h)) r) _ := g
  refine ⟨F, r, fr, g.bind.imp fun x r1 F1 H1 _ x1 fr1 g1 v1 rv1 => ⟨F1, r1, fr1, g1.bind.imp fun l r2 F2 H2 _ x2 fr2 g2 => ⟨F2, r2, fr2, g2.bind.imp fun h r3 F3 H3 _ x3 fr3 g3 => ?_⟩⟩⟩
  obtain ⟨d, ld, g4⟩ := g3.look
  obtain ⟨w, hw, g5⟩ := g4.lift
  have q := ((rv1.ext x2 fr1).ext x3 fr2).look fr3 ld
  exact sls_any fr3 q hw fun F5 H5 z x5 fr5 rv5 => g5 F5 H5 x5 fr5 z (rv5.base fun a e => (x1.trans (x2.trans x3)).there a e)
/-! ### reversed copies -/
theorem fm_congr {α β : Type} {f g : α → Option β} : ∀ {l : List α}, (∀ a ∈ l, f a = g a) → l.filterMap f = l.filterMap g
  | [], _ => rfl
  | a :: l, h => by rw [List.filterMap_cons, List.filterMap_cons, h a List.mem_cons_self, fm_congr fun b hb => h b (List.mem_cons_of_mem _ hb)]
theorem rev_pick (xs : Array Value) : ((List.range xs.size).filterMap fun (m : Nat) => xs[(((xs.size : Int) - 1) + (m : Int) * (-1)).toNat]?).toArray = xs.toList.reverse.toArray := by
  have e : (List.range xs.size).filterMap (fun (m : Nat) => xs[(((xs.size : Int) - 1) + (m : Int) * (-1)).toNat]?) = ((List.range xs.size).map fun k => xs.size - 1 - k).filterMap (xs[·]?) := by
    rw [List.filterMap_map]
    apply fm_congr
    intro k hk
    have := List.mem_range.mp hk
    have e2 : (((xs.size : Int) - 1) + (k : Int) * (-1)).toNat = xs.size - 1 - k := by omega
    rw [e2]
    rfl
  rw [e, PySem.W.krv_range, List.filterMap_reverse, PySem.W.krv_all]
theorem getItem_tuple_rev {prog : Program} {w : World} {A : Around} {E : Value → Shared → Prop} {s : Shared} {t sl : Addr} {items : Array Value} {vl vu vs : Value} {Q : Value → Shared → Prop} (ht : IsTup s.heap t items) (hs : s.heap.IsSliceOf sl vl vu vs) (pl : IsPart vl none) (pu : IsPart vu none) (ps : IsPart vs (some (-1)))
    (h : Q (.ref s.heap.objs.size) { s with heap := s.heap.push { cls := .type "tuple", data := .seq items.toList.reverse.toArray } })
    (hsz : items.size ≤ sizeLine) : wpAny (model prog w) A (getItem (.ref t) (.ref sl)) Q E s := by
  have htake : sizeOk (.seq items.toList.reverse.toArray) := by
    show items.toList.reverse.toArray.size ≤ sizeLine
    simpa using hsz
  obtain ⟨os, hos, hcs, hds⟩ := id hs
  have hTs : s.TypeIs (.ref sl) "slice" := ⟨os, hos, hcs⟩
  unfold getItem
  try with_reducible refine wpAny_holding ?_
  first | refine wpAny_bind (wpAny_pure ?_) | skip
  refine wpAny_bind (wpAny_sequenceKey ht.typeIs (by decide) ?_)
  refine wpAny_bind (wpAny_callSpecial?_slot (name := Str.ofString "__getitem__") ht.typeIs PyProof.Rows.slot_tuple_getitem
    (wpAny_call_entry PyProof.Rows.slot_tuple_getitem ht.typeIs entry_tuple_getitem ?_ (args_tuple_getitem _ _)))
  show wpAny _ _ (Builtin.Tuple.tupleItemsOf (.ref t) >>= _) _ _ s
  refine wpAny_bind (tupleItemsOf_ ht ?_)
  refine wpAny_bind (wpAny_typeOf hTs ?_)
  rw [if_pos (by decide)]
  refine wpAny_bind ?_
  unfold Builtin.Slice.sliceApplied Builtin.Slice.sliceFields
  refine wpAny_bind (wpAny_bind (wpAny_field hos hds (x := vl) rfl (wpAny_bind (wpAny_field hos hds (x := vu) rfl (wpAny_bind (wpAny_field hos hds (x := vs) rfl (wpAny_pure ?_)))))))
  refine wpAny_bind (HT.slicePart_ ps ?_)
  show wpAny _ _ (if ((-1 : Int) == 0) = true then _ else _) _ _ s
  rw [if_neg (by decide)]
  refine wpAny_bind (HT.slicePart_ pl (wpAny_bind (HT.slicePart_ pu (wpAny_bind (wpAny_pure ?_)))))
  have e1 : Builtin.Slice.sliceAdjust none none (-1) (items.size : Int) = ((items.size : Int) - 1, -1) := rfl
  have e2 : Builtin.Slice.slicePlaces ((items.size : Int) - 1) (-1) (-1) = items.size := by
    unfold Builtin.Slice.slicePlaces
    rw [if_neg (by decide)]
    by_cases hz : ((items.size : Int) - 1 > -1)
    · rw [if_pos hz, show (- -1 : Int) = 1 by decide, Int.ediv_one]; omega
    · rw [if_neg hz]; omega
  show wpAny _ _ (match Builtin.Slice.sliceAdjust none none (-1) (items.size : Int) with | (lo, hi) => pure (lo, (-1 : Int), Builtin.Slice.slicePlaces lo hi (-1))) _ _ s
  rw [e1]
  show wpAny _ _ (pure ((items.size : Int) - 1, (-1 : Int), Builtin.Slice.slicePlaces ((items.size : Int) - 1) (-1) (-1))) _ _ s
  rw [e2]
  refine wpAny_pure ?_
  have hno : ¬ ((((items.size : Int) - 1) == 0 && (-1 : Int) == 1 && items.size == items.size) = true) := by
    intro q
    rw [Bool.and_eq_true, Bool.and_eq_true] at q
    exact absurd q.1.2 (by decide)
  show wpAny _ _ (if (((items.size : Int) - 1) == 0 && (-1 : Int) == 1 && items.size == items.size) = true then _ else _) _ _ s
  rw [if_neg hno, rev_pick]
  first
    | exact wpAny_bind (m := Builtin.Tuple.tupleExact _) (wpAny_newObj_type (wpAny_pure ⟨_, rfl, wpAny_pure h⟩) htake)
    | exact wpAny_bind (m := Builtin.Tuple.tupleExact _) (wpAny_newObj_type (wpAny_bind (wpAny_pure (wpAny_pure ⟨_, rfl, wpAny_pure h⟩))) htake)
    | exact wpAny_bind (wpAny_bind (m := Builtin.Tuple.tupleExact _) (wpAny_newObj_type (wpAny_pure (wpAny_pure ⟨_, rfl, wpAny_pure h⟩)) htake))
    | exact wpAny_bind (wpAny_bind (m := Builtin.Tuple.tupleExact _) (wpAny_newObj_type (wpAny_pure ⟨_, rfl, wpAny_pure h⟩) htake))
def tRevA (K : PySem.W.Frag) (te : TE) : TE := fun σ H Q => te σ H fun x H1 => (∃ a xs, x = .ref a ∧ SqL K H1 a xs ∧ ∀ p, H1 p = none → Q (.ref p) (upd H1 p (.lst xs.reverse))) ∨ ∃ a xs, x = .ref a ∧ SqT K H1 a xs ∧ ∀ p, H1 p = none → Q (.ref p) (upd H1 p (.tup xs.reverse))
theorem pe_revA {te : TE} {k : Nat} {p1 p3 : Pos} (he : PE X e te) : PE X (.Subscript e (.Slice none none (some (.UnaryOp .USub (.Constant (.int 1) k p1) p2)) p3) pos) (tRevA X.K te) := by
  refine ⟨fun pins s σ H Q I h => ?_⟩
  refine Subscript_ (thn (he.run pins s σ H _ I h) fun v s1 ⟨x, H1, I1, r1, q1⟩ => ?_)
  have hst : PO X (some (.UnaryOp .USub (.Constant (.int 1) k p1) p2)) (tPart (tUn (rU fun i => .int (-i)) (tC (.int 1)))) := po_some (pe_un un_neg pe_int)
  refine wpAny_Slice (thn (po_none.run pins s1 σ H1 (fun o H2 => o = none ∧ H2 = H1) I1 ⟨rfl, rfl⟩) fun vl s2 ⟨l, H2, I2, pl, el, e2⟩ => ?_)
  subst el e2
  refine thn (po_none.run pins s2 σ H2 (fun o H3 => o = none ∧ H3 = H2) I2 ⟨rfl, rfl⟩) fun vu s3 ⟨u, H3, I3, pu, eu, e3⟩ => ?_
  subst eu e3
  refine thn (hst.run pins s3 σ H3 (fun o H4 => o = some (-1) ∧ H4 = H3) I3 ⟨1, rfl, -1, rfl, rfl, rfl⟩) fun vs s4 ⟨o, H4, I4, ps, eo, e4⟩ => ?_
  subst eo e4
  have I5 : Inv X pins σ H4 { s4 with heap := s4.heap.push { cls := .type "slice", data := .fields #[vl, vu, vs] } } := I4.kept (t' := s4.toks) fun b ob q => Heap.get?_push_of_some _ q
  rcases q1 with ⟨a, xs, ex, hx, q⟩ | ⟨a, xs, ex, hx, q⟩
  · subst ex
    cases r1
    obtain ⟨its, r, ht, hz⟩ := I5.list hx
    have hlen := r.length
    show wpAny (model X.prog X.w) X.A (subscriptTail e (.Slice none none (some (.UnaryOp .USub (.Constant (.int 1) k p1) p2)) p3) (.ref a) (.ref s4.heap.objs.size)) (EP X pins σ Q) X.xe { s4 with heap := s4.heap.push { cls := .type "slice", data := .fields #[vl, vu, vs] } }
    refine tail_any (ops := [.ref a, .ref s4.heap.objs.size]) ht.isList.typeIs (PySem.slot_list_getitem.lookup) ?_ (by with_unfolding_all rfl)
    refine wpAny_getItem_list_slice ht.isList (Heap.IsSliceOf.new _ vl vu vs) pl pu ps (by decide) ?_ (by rw [List.size_toArray]; omega)
    rw [PySem.W.krv_pick]
    refine ⟨.ref _, _, I5.laid (t' := s4.toks) (o := .lst xs.reverse) (fun b ob q => Heap.get?_push_of_some _ q) (Nat.le_refl _) ?_, rfl, q _ (I5.hok.fresh (Nat.le_refl _))⟩
    exact ⟨by rw [List.length_reverse]; exact hz, _, 0, r.reverse, Heap.get?_push_size _ rfl⟩
  · subst ex
    cases r1
    obtain ⟨its, r, ht, hz⟩ := I5.tuple hx
    have hlen := r.length
    show wpAny (model X.prog X.w) X.A (subscriptTail e (.Slice none none (some (.UnaryOp .USub (.Constant (.int 1) k p1) p2)) p3) (.ref a) (.ref s4.heap.objs.size)) (EP X pins σ Q) X.xe { s4 with heap := s4.heap.push { cls := .type "slice", data := .fields #[vl, vu, vs] } }
    refine tail_any (ops := [.ref a, .ref s4.heap.objs.size]) ht.typeIs (PyProof.Rows.slot_tuple_getitem.lookup) ?_ (by with_unfolding_all rfl)
    refine getItem_tuple_rev ht (Heap.IsSliceOf.new _ vl vu vs) pl pu ps ?_ (by rw [List.size_toArray]; omega)
    refine ⟨.ref _, _, I5.laid (t' := s4.toks) (o := .tup xs.reverse) (fun b ob q => Heap.get?_push_of_some _ q) (Nat.le_refl _) ?_, rfl, q _ (I5.hok.fresh (Nat.le_refl _))⟩
    exact ⟨by rw [List.length_reverse]; exact hz, _, r.reverse, IsTup.new _ _⟩
theorem pev_rev {m : E} {k : Nat} {p1 p3 : Pos} (he : PE X e (tEv X.K X.mg W (evE c m))) : PE X (.Subscript e (.Slice none none (some (.UnaryOp .USub (.Constant (.int 1) k p1) p2)) p3) pos) (tEv X.K X.mg W (evE c (.rev m))) := by
  refine pe_imp (pe_revA he) fun σ H Q ⟨F, r, fr, g⟩ => ?_
  have g : Goes X.K X.mg W F H σ r (M.bind (evE c m) (fun x => withLook x fun d => liftO (revOp d)) r) _ := g
  refine ⟨F, r, fr, g.bind.imp fun x r1 F1 H1 _ x1 fr1 g1 v1 rv1 => ?_⟩
  obtain ⟨d, ld, g2⟩ := g1.look
  obtain ⟨w, hw, g3⟩ := g2.lift
  have q := rv1.look fr1 ld
  cases d <;> first
    | (cases hw; done)
    | skip
  case lst xs =>
    cases hw
    obtain ⟨a, us, rfl, s1, q1⟩ := rw_lst q
    refine .inl ⟨a, us, rfl, SqL.of s1, fun p hp => ?_⟩
    have x2 : Ext F1 H1 (Own σ r1) F1 (upd H1 p (.lst us.reverse)) (Own σ r1) := Ext.alloc hp (fun _ f => f) (fun _ f => .inl f)
    have f2 : FR X.K X.mg F1 (upd H1 p (.lst us.reverse)) σ r1 := fr1.alloc hp (fun _ f => f) (fun _ f => .inl f)
    exact g3 F1 _ x2 f2 _ (.own (upd_same ..) (x2.drs fr1 q1).reverse (fun z => fr1.ftr p z hp) (fun z => fr1.ownH z hp) (x1.there p hp))
  case tup xs =>
    cases hw
    obtain ⟨a, us, rfl, s1, q1, _⟩ := rw_tup q
    refine .inr ⟨a, us, rfl, s1, fun p hp => ?_⟩
    have x2 : Ext F1 H1 (Own σ r1) (Fp F1 p) (upd H1 p (.tup us.reverse)) (Own σ r1) := Ext.alloc hp (fun _ f => .inl f) (fun _ f => f)
    have f2 : FR X.K X.mg (Fp F1 p) (upd H1 p (.tup us.reverse)) σ r1 := fr1.alloc hp (fun _ f => .inl f) (fun _ f => f)
    exact g3 _ _ x2 f2 _ (.val (.tup (.inr rfl) (.inl (upd_same ..)) (x2.drs fr1 q1).reverse))
end
end Ev

-- part Ev5n
set_option maxHeartbeats 1000000
/-! Ev5n: isinstance, sorted. -/
namespace Ev
open PySem PySem.Spec PyProof.Rows L2
def tyNs : List String := ["NoneType", "bool", "int", "str", "tuple", "list"]
def uNs : List String := ["int", "bool", "str", "list", "tuple"]
theorem kit_all : ∀ t ∈ tyNs, ∀ u ∈ uNs, kitB t u = some (subTy t u) := by decide +kernel
theorem tyD_in {d : D} {t : String} (h : tyD d = some t) : t ∈ tyNs := by
  cases d <;> cases h <;> decide
section
variable {X : Cx} {W : WX} {c : CallT} {K : PySem.W.Frag} {mg : Str → Option Value} {F F' : Addr → Prop} {H H' H0 : Hp} {v u : V} {σ σ' : L2.St} {r r' r0 : Env} {Q : VK} {e a b d tg : Expr} {pos p p2 apos cpos : Pos}
theorem ty_of {d : D} {t : String} (q : RW K mg F H d v) (h : tyD d = some t) : TyX K H v (.type t) := by
  cases d with
  | non => cases h; rw [rw_non q]; exact .base .non
  | bl b => cases h; rw [rw_bl q]; exact .base (.bl b)
  | int i => cases h; rw [rw_int q]; exact .base (.int i)
  | str x => cases h; rw [rw_str q]; exact .base (.str x)
  | lst xs =>
    cases h
    obtain ⟨a, us, rfl, s1, q1⟩ := rw_lst q
    exact .base (.lst s1)
  | tup xs =>
    cases h
    obtain ⟨a, us, rfl, s1, q1, _⟩ := rw_tup q
    rcases s1 with (s1 | ⟨o, s1⟩) | ⟨o, its, n, k1, k2, _⟩
    · exact .base (.tup s1)
    · exact .fTuple s1
    · exact .kTuple k1 k2
  | _ => cases h
/-- names of built-in types -/
structure TyE (X : Cx) (e : Expr) (t : String) : Prop where
  pe : PE X e (tC (.ty t))
  star : noStar e = true
  mem : t ∈ uNs
theorem tye {x : Str} {t : String} (hg : Gl X x) (hm : X.mg x = none) (ht : tyName x = some t) : TyE X (.Name x pos) t := by
  unfold tyName at ht
  have go : ∀ {u : String}, x = Str.ofString u → bootBuiltins (Str.ofString u) = some (.type u) → Str.ofString u ≠ "__name__" → (Str.ofString u == ("__debug__" : Str)) = false → u ∈ uNs → TyE X (.Name x pos) u := fun {u} e hb hn hd hu => by
    subst e
    exact ⟨pe_bltn hg hm hb rfl hn hd, rfl, hu⟩
  repeat (first
    | (split at ht; · rename_i e; cases ht; exact go e (by first | exact boot_int | exact boot_bool | exact boot_str | exact boot_list | exact boot_tuple) (by decide) (by decide) (by decide))
    | cases ht)
inductive TyEs (X : Cx) : List Expr → List String → Prop
  | nil : TyEs X [] []
  | cons {e : Expr} {es : List Expr} {t : String} {ts : List String} : TyE X e t → TyEs X es ts → TyEs X (e :: es) (t :: ts)
theorem TyEs.pa : ∀ {es : List Expr} {ts : List String}, TyEs X es ts → PA X es fun σ H Q => Q (ts.map V.ty) H
  | _, _, .nil => pa_nil
  | _, _, .cons h t => pa_imp (pa_cons h.pe t.pa (star_cons h.star)) fun σ H Q q => q
theorem TyEs.mem : ∀ {es : List Expr} {ts : List String}, TyEs X es ts → ∀ t ∈ ts, t ∈ uNs
  | _, _, .nil, _, h => by cases h
  | _, _, .cons h t, x, hx => by
    rcases List.mem_cons.mp hx with rfl | hx
    · exact h.mem
    · exact t.mem x hx
theorem TyEs.len : ∀ {es : List Expr} {ts : List String}, TyEs X es ts → ts.length = es.length
  | _, _, .nil => rfl
  | _, _, .cons _ t => by simp [t.len]
theorem kitAny_tys {t : String} (ht : t ∈ tyNs) : ∀ {ts : List String}, (∀ u ∈ ts, u ∈ uNs) → PySem.W.kitAny K (.type t) (ts.map Value.type) = some (ts.any fun u => subTy t u)
  | [], _ => rfl
  | u :: ts, h => by
    refine kitAny_cons (kit_ty (kit_all t ht u (h u List.mem_cons_self))) (fun hb => ?_) fun hb => ?_
    · rw [List.any_cons, hb, Bool.false_or]
      exact kitAny_tys ht fun w hw => h w (List.mem_cons_of_mem _ hw)
    · rw [List.any_cons, hb, Bool.true_or]
theorem paired_tys : ∀ ts : List String, Paired ClsV (ts.map V.ty) (ts.map Value.type)
  | [] => .nil
  | t :: ts => .cons (.ty t) (paired_tys ts)
theorem isi_reads {m : E} {ts : List String} {σ : L2.St} {H : Hp} {Q : VK} (h : tEv K mg W (evE c (.bi (.isi ts) [m])) σ H Q) :
    tEv K mg W (evE c m) σ H fun v H1 => ∃ F1 r1 d t, FR K mg F1 H1 σ r1 ∧ RW K mg F1 H1 d v ∧ tyD d = some t ∧ ∀ F2 H2, Ext F1 H1 (Own σ r1) F2 H2 (Own σ r1) → FR K mg F2 H2 σ r1 → Q (.bl (ts.any fun u => subTy t u)) H2 := by
  obtain ⟨F, r, fr, g⟩ := h
  have g : Goes K mg W F H σ r (M.bind (M.bind (evE c m) fun v => M.bind (M.pure []) fun vs => M.pure (v :: vs)) (fun vs => withLooks vs fun ds => liftO (biOp (.isi ts) ds)) r) _ := g
  refine ⟨F, r, fr, ?_⟩
  unfold M.bind at g
  cases h1 : evE c m r with
  | stuck => rw [h1] at g; exact g.elim
  | exc x r1 => rw [h1] at g; exact g
  | ok w r1 =>
    rw [h1] at g
    intro F1 H1 x1 fr1 v rv
    have g : Goes K mg W F H σ r (withLooks [w] (fun ds => liftO (biOp (.isi ts) ds)) r1) _ := g
    obtain ⟨ds, ld, g2⟩ := g.looks0
    obtain ⟨d, hd1, hd2⟩ : ∃ d, ds = [d] ∧ look r1 w = some d := by
      have e1 := looks_len ld
      match ds, e1 with
      | [d], _ =>
        obtain ⟨w', hw', hl'⟩ := looks_get (j := 0) ld rfl
        cases hw'
        exact ⟨d, rfl, hl'⟩
    subst hd1
    have g3 : Goes K mg W F H σ r (liftO ((tyD d).map fun t => RV.val (.bl (ts.any fun u => subTy t u))) r1) _ := g2
    cases ht : tyD d with
    | none => rw [ht] at g3; exact g3.elim
    | some t =>
      rw [ht] at g3
      exact ⟨F1, r1, d, t, fr1, rv.look fr1 hd2, ht, fun F2 H2 x2 fr2 => Goes.ok0 (g3 : Goes K mg W F H σ r (.ok (RV.val (.bl (ts.any fun u => subTy t u))) r1) _) (x1.trans x2) fr2 _ (.val (.bl _))⟩
theorem pev_isi1 {m : E} {t : String} (hg : Gl X "isinstance") (hm : X.mg "isinstance" = none) (he : PE X e (tEv X.K X.mg W (evE c m))) (hn : noStar e = true) (ht : TyE X a t) : PE X (.Call (.Name "isinstance" p) [e, a] [] pos) (tEv X.K X.mg W (evE c (.bi (.isi [t]) [m]))) := by
  refine pe_imp (pe_callB call_isi hg hm boot_isinstance (pa_cons he (pa_cons ht.pe pa_nil (star_cons ht.star)) (star_cons hn)) (by decide) (by decide) (star_cons hn) (star_any (by simp [ht.star]))) fun σ H Q h => ?_
  obtain ⟨F, r, fr, g⟩ := isi_reads h
  refine ⟨F, r, fr, g.imp fun w r1 F1 H1 _ x1 fr1 k v rv => ?_⟩
  obtain ⟨F1', r1', d, s, f1, q1, q2, k2⟩ := k v rv
  refine ⟨v, .ty t, .type s, .type t, subTy s t, rfl, .ty t, ty_of q1 q2, kit_ty (kit_all s (tyD_in q2) t ht.mem), ?_⟩
  have := k2 F1' H1 Ext.refl f1
  simpa using this
theorem pev_isiT {m : E} {ts : List String} {es : List Expr} {j : Nat} (hg : Gl X "isinstance") (hm : X.mg "isinstance" = none) (he : PE X e (tEv X.K X.mg W (evE c m))) (hn : noStar e = true) (ht : TyEs X es ts) (hl : es.length ≤ 1000) :
    PE X (.Call (.Name "isinstance" p) [e, .Tuple es j p2] [] pos) (tEv X.K X.mg W (evE c (.bi (.isi ts) [m]))) := by
  refine pe_imp (pe_callB call_isiT hg hm boot_isinstance (pa_cons he (pa_cons (pe_tup ht.pa) pa_nil rfl) (star_cons hn)) (by decide) (by decide) (star_cons hn) rfl) fun σ H Q h => ?_
  obtain ⟨F, r, fr, g⟩ := isi_reads h
  refine ⟨F, r, fr, g.imp fun w r1 F1 H1 _ x1 fr1 k v rv => ?_⟩
  obtain ⟨F1', r1', d, s, f1, q1, q2, k2⟩ := k v rv
  refine ⟨by rw [List.length_map, ht.len, sizeLine_eq]; omega, fun q hq => ?_⟩
  have x2 : Ext F1' H1 (Own σ r1') F1' (upd H1 q (.tup (ts.map V.ty))) (Own σ r1') := Ext.alloc hq (fun _ f => f) (fun _ f => .inl f)
  have f2 : FR X.K X.mg F1' (upd H1 q (.tup (ts.map V.ty))) σ r1' := f1.alloc hq (fun _ f => f) (fun _ f => .inl f)
  have q1' : RW X.K X.mg F1' (upd H1 q (.tup (ts.map V.ty))) d v := by
    cases q1 with
    | of z => exact .of (x2.dr f1 z)
    | lst z1 z2 => exact .lst (upd_new hq z1) (x2.drs f1 z2)
  exact ⟨v, q, _, .type s, _, _, rfl, upd_same .., paired_tys ts, ty_of q1' q2, kitAny_tys (tyD_in q2) ht.mem, k2 F1' _ x2 f2⟩
/-! ### sorted -/
theorem sortI_perm : ∀ xs : List Int, (sortI xs).Perm xs
  | [] => .nil
  | x :: xs => by
    have ins : ∀ (y : Int) (l : List Int), (insI y l).Perm (y :: l) := by
      intro y l
      induction l with
      | nil => exact .refl _
      | cons z l ih =>
        unfold insI
        split
        · exact .refl _
        · exact (List.Perm.cons z ih).trans (List.Perm.swap y z l)
    exact (ins x _).trans (List.Perm.cons x (sortI_perm xs))
theorem sortI_sorted : ∀ xs : List Int, (sortI xs).Pairwise (· ≤ ·)
  | [] => .nil
  | x :: xs => by
    have ins : ∀ (y : Int) (l : List Int), l.Pairwise (· ≤ ·) → (insI y l).Pairwise (· ≤ ·) ∧ ∀ z ∈ insI y l, z = y ∨ z ∈ l := by
      intro y l
      induction l with
      | nil => intro _; exact ⟨.cons (by simp) .nil, by simp [insI]⟩
      | cons z l ih =>
        intro h
        obtain ⟨h1, h2⟩ := List.pairwise_cons.mp h
        unfold insI
        split
        · rename_i hy
          refine ⟨.cons (fun w hw => ?_) h, by simp⟩
          rcases List.mem_cons.mp hw with rfl | hw
          · exact hy
          · exact Int.le_trans hy (h1 w hw)
        · rename_i hy
          obtain ⟨i1, i2⟩ := ih h2
          refine ⟨.cons (fun w hw => ?_) i1, fun w hw => ?_⟩
          · rcases i2 w hw with rfl | hw
            · omega
            · exact h1 w hw
          · rcases List.mem_cons.mp hw with rfl | hw
            · simp
            · rcases i2 w hw with rfl | hw
              · simp
              · simp [hw]
    exact (ins x _ (sortI_sorted xs)).1
theorem sortI_unique {xs ys : List Int} (h1 : ys.Perm xs) (h2 : ys.Pairwise (· ≤ ·)) : ys = sortI xs :=
  List.Perm.eq_of_pairwise (fun a b _ _ => Int.le_antisymm) h2 (sortI_sorted xs) (h1.trans (sortI_perm xs).symm)
theorem leS_total (a b : Str) : leS a b = true ∨ leS b a = true := by
  unfold leS
  by_cases h : b.cps.toList < a.cps.toList
  · right
    have : ¬ a.cps.toList < b.cps.toList := fun z => List.lt_irrefl _ (List.lt_trans h z)
    simp [this]
  · left; simp [h]
theorem leS_trans {a b c : Str} (h1 : leS a b = true) (h2 : leS b c = true) : leS a c = true := by
  unfold leS at *
  simp only [Bool.not_eq_true', decide_eq_false_iff_not, List.not_lt] at *
  exact List.le_trans h1 h2
theorem leS_anti {a b : Str} (h1 : leS a b = true) (h2 : leS b a = true) : a = b := by
  unfold leS at *
  simp only [Bool.not_eq_true', decide_eq_false_iff_not, List.not_lt] at *
  have := List.le_antisymm h1 h2
  cases a; cases b
  simp at this
  subst this
  rfl
theorem insS_perm : ∀ (y : Str) (l : List Str), (insS y l).Perm (y :: l) := by
  intro y l
  induction l with
  | nil => exact .refl _
  | cons z l ih =>
    unfold insS
    split
    · exact .refl _
    · exact (List.Perm.cons z ih).trans (List.Perm.swap y z l)
theorem sortS_perm : ∀ xs : List Str, (sortS xs).Perm xs
  | [] => .nil
  | x :: xs => (insS_perm x _).trans (List.Perm.cons x (sortS_perm xs))
theorem insS_sorted (y : Str) : ∀ (l : List Str), l.Pairwise (fun a b => leS a b = true) → (insS y l).Pairwise (fun a b => leS a b = true)
  | [], _ => .cons (by simp) .nil
  | z :: l, h => by
    obtain ⟨h1, h2⟩ := List.pairwise_cons.mp h
    unfold insS
    split
    · rename_i hy
      refine .cons (fun w hw => ?_) h
      rcases List.mem_cons.mp hw with rfl | hw
      · exact hy
      · exact leS_trans hy (h1 w hw)
    · rename_i hy
      refine .cons (fun w hw => ?_) (insS_sorted y l h2)
      rcases List.mem_cons.mp ((insS_perm y l).mem_iff.mp hw) with rfl | hw
      · rcases leS_total z w with h | h
        · exact h
        · exact absurd h hy
      · exact h1 w hw
theorem sortS_sorted : ∀ xs : List Str, (sortS xs).Pairwise (fun a b => leS a b = true)
  | [] => .nil
  | x :: xs => insS_sorted x _ (sortS_sorted xs)
theorem sortS_unique {xs ys : List Str} (h1 : ys.Perm xs) (h2 : ys.Pairwise (fun a b => leS a b = true)) : ys = sortS xs :=
  List.Perm.eq_of_pairwise (fun a b _ _ => leS_anti) h2 (sortS_sorted xs) (h1.trans (sortS_perm xs).symm)
end
end Ev

-- part EvS1
set_option maxHeartbeats 3200000
/-! EvS1: sets of texts. -/
namespace Ev
open PySem PySem.Spec PyProof.Rows L2
open PySem.Froz (SD sObj TxOk addTx tailTx)
section
variable {P : Program} {w : World} {A : Around} {E : Value → Shared → Prop} {s : Shared}
theorem tailTx_ris {ep : Nat} {es1 : Array (Int × Value)} {t2 : SetTable} {b : Bool} (h : Ris t2.place.toList) : Ris (tailTx ep es1 t2 b).2.2.place.toList := by
  unfold tailTx
  split
  · exact relayAll_ris _ _ _
  · exact h
theorem tailTx_led {ep : Nat} {es1 : Array (Int × Value)} {t2 : SetTable} {b : Bool} : (tailTx ep es1 t2 b).2.2.led = t2.led := by
  unfold tailTx
  split
  · exact relayAll_led _ _ _
  · rfl
theorem addTx_ris {h : Int} {v : Value} {D : SD} (r : Ris D.2.2.place.toList) : Ris (addTx h v D).2.2.place.toList := by
  unfold addTx
  refine tailTx_ris ?_
  split
  · exact layNew_ris _ _ _ _ r
  · exact layNew_ris _ _ _ _ r
theorem addTx_led {h : Int} {v : Value} {D : SD} : (addTx h v D).2.2.led = D.2.2.led := by
  unfold addTx
  rw [tailTx_led]
  split
  · exact layNew_led _ _ _ _
  · exact layNew_led _ _ _ _
/-- a text that is there already -/
theorem add_old {a : Addr} {T : String} {D : SD} {l : List Str} {k : Str} {u : Tok} {Q : Bool → Shared → Prop} (ho : s.heap.get? a = some (sObj T D)) (F : TxOk P w D l) (hk : k ∈ l) (hb : l.length < scanBound) (h : Q false s) :
    wpAny (model P w) A (setAddHashed a (.str k u) (hashStr w k)) Q E s := by
  obtain ⟨es, ep, t⟩ := D
  have hd : (sObj T (es, ep, t)).data = .set es ep t := rfl
  have hf : t.fits es.size = true := F.fit
  have hel : ElemsOf (PySem.strKind P w) es.toList := F.el
  have hb0 : es.size < scanBound := by rw [show es.size = l.length from F.sz]; exact hb
  have hkey : (PySem.strKind P w).is k (.str k u) = true := Froz.is_str k u
  unfold setAddHashed setAddHashedIn
  refine wpAny_holding (wpAny_bind (wpAny_setState_of ho hd hf ?_))
  dsimp only
  rw [byScan_of rfl hb0 hel]
  simp only [↓reduceIte]
  unfold setAddByScan
  refine wpAny_bind ?_
  refine wpAny_bind (wpAny_rule ?_)
  refine wpAny_bind (wpAny_setScan_of (knd := PySem.strKind P w) (k := k) hkey ho hd hf hel ?_)
  cases hfi : List.findIdx? (fun e => (PySem.strKind P w).is k e.2) es.toList with
  | some j =>
    dsimp only
    exact wpAny_pure (wpAny_pure h)
  | none =>
    exfalso
    obtain ⟨e, he, q⟩ := (F.mem k).mp hk
    have c := List.findIdx?_eq_none_iff.mp hfi e he
    rw [q] at c
    cases c
/-- the set at a holds the texts l, each once -/
def TxAt (P : Program) (w : World) (h : Heap) (a : Addr) (l : List Str) : Prop :=
  ∃ D : SD, h.get? a = some (sObj "set" D) ∧ TxOk P w D l ∧ Ris D.2.2.place.toList ∧ (w.params.followText "set-order" = true ∨ D.2.2.led = true) ∧ l.Nodup
theorem TxAt.keep {h h' : Heap} {a : Addr} {l : List Str} (x : TxAt P w h a l) (k : ∀ o, h.get? a = some o → h'.get? a = some o) : TxAt P w h' a l := by
  obtain ⟨D, e, r⟩ := x
  exact ⟨D, k _ e, r⟩
theorem tx_add {a : Addr} {l : List Str} {k : Str} {u : Tok} {Q : Bool → Shared → Prop} (x : TxAt P w s.heap a l) (hb : l.length + 1 < scanBound)
    (h : ∀ b h' l', Heap.SameBut a s.heap h' → TxAt P w h' a l' → (∀ z, z ∈ l' ↔ z = k ∨ z ∈ l) → l'.length ≤ l.length + 1 → Q b { s with heap := h' }) : wpAny (model P w) A (setAddHashed a (.str k u) (hashStr w k)) Q E s := by
  obtain ⟨D, ho, F, r, ld, nd⟩ := x
  by_cases hk : k ∈ l
  · refine add_old ho F hk (by omega) (h false s.heap l (Heap.SameBut.refl a s.heap) ⟨D, ho, F, r, ld, nd⟩ (fun z => ⟨.inr, fun q => q.elim (fun e => e ▸ hk) id⟩) (by omega))
  · refine Froz.add_x ho F hk hb (h true _ (k :: l) (Heap.SameBut.update s.heap a _) ⟨_, Froz.get_upd _ ho rfl, Froz.add_ok u F, addTx_ris r, ?_, List.nodup_cons.mpr ⟨hk, nd⟩⟩ (fun z => List.mem_cons) (by simp))
    rw [addTx_led]
    exact ld
end
section
variable {P : Program} {w : World} {A : Around} {R : Result → Shared → Prop} {I : Addr} {fp wr : List Addr} {G : Array GenState → Array GenState → Prop} {n : Nat} {Pv : Nat → Value → Prop} {St : Nat → Shared → Prop}
theorem loopTx (W : WalksS P w A.in1 I fp wr G n Pv St) (S : Addr) (hSf : S ∉ fp) (xs : List Str) (hsz : xs.length = n) (hn1 : n < 64) (hval : ∀ i v, Pv i v → ∃ t, v = .str (xs.getD i Str.empty) t) :
    ∀ (k i : Nat) (s : Shared), n - i = k → i ≤ n → St i s → (∃ l, TxAt P w s.heap S l ∧ (∀ z, z ∈ l ↔ z ∈ xs.take i) ∧ l.length ≤ i) →
      (∀ s' l, Moved (S :: wr) G s s' → TxAt P w s'.heap S l → (∀ z, z ∈ l ↔ z ∈ xs) → l.length ≤ n → R (.ok (.ret .none)) s') →
      codeAny (model P w) A (.builtin "set.update.loop" ⟨[.ref S, .ref I], []⟩) R s := by
  have hSw : S ∉ wr := fun h => hSf (W.sub _ h)
  have hsub : ∀ b ∈ wr, b ∈ S :: wr := fun b hb => List.mem_cons_of_mem _ hb
  intro k
  induction k with
  | zero =>
    intro i s hk hi hst ⟨l, hS, hm, hl⟩ hR
    have hin : i = n := by omega
    subst hin
    refine codeAny_builtin PyProof.Rows.F.entry_set_update_loop ?_
    rw [Around.under_plainId PyProof.Rows.F.plain_set_update_loop _]
    show wpAny _ A.in1 (pyNext (.ref I) >>= _) _ _ s
    refine wpAny_bind (W.done s _ _ hst fun s' mv => ?_)
    show wpAny _ A.in1 (ret Value.none) _ _ s'
    exact wpAny_pure (hR s' l (mv.mono hsub) (hS.keep fun o e => mv.heap S o hSw e) (fun z => by rw [hm z, List.take_of_length_le (by omega)]) hl)
  | succ k ih =>
    intro i s hk hi hst ⟨l, hS, hm, hl⟩ hR
    have hlt : i < n := by omega
    refine codeAny_builtin PyProof.Rows.F.entry_set_update_loop ?_
    rw [Around.under_plainId PyProof.Rows.F.plain_set_update_loop _]
    show wpAny _ A.in1 (pyNext (.ref I) >>= _) _ _ s
    refine wpAny_bind (W.item i s _ _ hlt hst fun v s' hP hst' mv => ?_)
    obtain ⟨t, rfl⟩ := hval i v hP
    have hS' : TxAt P w s'.heap S l := hS.keep fun o e => mv.heap S o hSw e
    show wpAny _ A.in1 (holding [Value.str (xs.getD i Str.empty) t] (setAdd S (.str (xs.getD i Str.empty) t)) >>= _) _ _ s'
    refine wpAny_bind (wpAny_holding ?_)
    unfold setAdd
    refine wpAny_holding ?_
    refine wpAny_bind ((PySem.strKind P w).pyHash (k := xs.getD i Str.empty) (strKind_is _ _ _ _) ?_)
    refine tx_add (s := { s' with toks := s'.toks + 1 }) hS' (by unfold scanBound; omega) fun b h' l' hsb hS2 hm2 hl2 => ?_
    have ht : ∀ z, z ∈ l' ↔ z ∈ xs.take (i + 1) := fun z => by
      have hx : xs[i]? = some (xs.getD i Str.empty) := by
        rw [List.getD_eq_getElem?_getD]
        rw [List.getElem?_eq_getElem (by omega)]
        rfl
      rw [hm2 z, hm z, List.take_add_one, hx]
      simp [or_comm]
    refine wpAny_pure ⟨plainId_quiet PyProof.Rows.F.plain_set_update_loop _, ih (i + 1) _ (by omega) hlt (W.frame _ s' _ _ hst' (Nat.le_succ _) fun b hb o e => ?_) ⟨l', hS2, ht, by omega⟩ fun s'' l'' mv'' hS'' hm'' hl'' => ?_⟩
    · rw [hsb.2 b (fun h : b = S => hSf (by rw [← h]; exact hb))]; exact e
    · refine hR s'' l'' (Moved.trans W.gtrans ((mv.mono hsub).then_heap (Nat.le_succ _) fun b o hb e => ?_) mv'') hS'' hm'' hl''
      rw [hsb.2 b (fun h : b = S => hb (by rw [h]; exact List.mem_cons_self))]; exact e
end
section
variable {P : Program} {w : World} {A : Around} {E : Value → Shared → Prop} {s : Shared}
theorem call_set_texts {l : Addr} {items : Array Value} {xs : List Str} {Q : Value → Shared → Prop} (hh : A.handled = none) (hl : s.heap.IsList l items) (hi : StrsAre items.toList xs) (hn1 : xs.length < 64)
    (h : ∀ (h' : Heap) (tk : Nat) ks, TxAt P w h' s.heap.objs.size ks → (∀ z, z ∈ ks ↔ z ∈ xs) → ks.length < 64 → (∀ b o, s.heap.get? b = some o → h'.get? b = some o) → Q (.ref s.heap.objs.size) { s with heap := h', toks := tk }) :
    wpAny (model P w) A (call (.type "set") [.ref l]) Q E s := by
  have hisz : xs.length = items.size := by rw [← StrsAre.len_eq hi, Array.length_toList]
  obtain ⟨c, tl, hmro⟩ := PySem.F.called_set.mro
  have hmade := PySem.F.called_set.made
  have hsub := PySem.F.called_set.sub
  refine wpAny_call (codeAny_of_tree ?_)
  show wpAny _ _ (callAny (.type "set") _) _ _ _
  refine wpAny_pure ⟨Code.quiet_builtin _ (by decide +kernel), codeAny_builtin PySem.F.entry_type_call ?_⟩
  rw [Around.under_plain (weight_type_call_type "set" [.ref l] []) rfl]
  have h1 := PySem.F.called_set.notType
  have h2 := PySem.F.called_set.canCreate
  have hct := PySem.F.typeCall_set_1 (.ref l)
  repeat (any_goals (first | assumption | wp_step))
  refine codeAny_mono (code_set_led1 (.ref l) (E := E) (Q₁ := fun obj s₁ => obj = .ref s.heap.objs.size ∧ s₁ = { s with heap := s.heap.push { cls := .type "set", dict := none, data := .set #[] 0 (.fresh 0 0 (!w.params.followText "set-order")) } }) ⟨rfl, rfl⟩) fun r s₁ hr => ?_
  cases r with
  | error e => exact hr
  | ok fl =>
    cases fl with
    | ret obj =>
      obtain ⟨rfl, rfl⟩ := hr
      have hS : (s.heap.push { cls := .type "set", dict := none, data := .set #[] 0 (.fresh 0 0 (!w.params.followText "set-order")) }).get? s.heap.objs.size = some { cls := .type "set", dict := none, data := .set #[] 0 (.fresh 0 0 (!w.params.followText "set-order")) } := Heap.get?_push_size _ rfl
      have hT : Shared.TypeIs { s with heap := s.heap.push { cls := .type "set", dict := none, data := .set #[] 0 (.fresh 0 0 (!w.params.followText "set-order")) } } (.ref s.heap.objs.size) "set" := ⟨_, hS, rfl⟩
      have hli := PySem.F.called_set.init.lookup
      have hbi := PySem.F.called_set.init.bind (.ref s.heap.objs.size)
      repeat (any_goals (first | assumption | wp_step))
      refine codeAny_mono (codeAny_call_builtin (R := wants (fun r s₂ => r = .none ∧ ∃ h' tk ks, s₂ = { s with heap := h', toks := tk } ∧ TxAt P w h' s.heap.objs.size ks ∧ (∀ z, z ∈ ks ↔ z ∈ xs) ∧ ks.length < 64 ∧
          (∀ b o, s.heap.get? b = some o → h'.get? b = some o)) E) PySem.F.called_set.init.plain PySem.F.entry_set_init (check_set_init_1 hT ?_)) fun r₂ s₂ hr₂ => ?_
      · obtain ⟨ol, hol, hcl, nl, hdl⟩ := hl
        obtain ⟨ocls, odict, odata, oslots⟩ := ol
        simp only at hcl hdl
        subst hcl; subst hdl
        have hol' : (s.heap.push { cls := .type "set", dict := none, data := .set #[] 0 (.fresh 0 0 (!w.params.followText "set-order")) }).get? l = some { cls := .type "list", dict := odict, data := .seq items nl, slots := oslots } := Heap.get?_push_of_some _ hol
        have hsls := PySem.F.sub_list_set
        have hslf := PySem.F.sub_list_frozenset
        have hne : (Value.type "list" == Value.type "dict") = false := by decide
        have hl1 : (s.heap.push { cls := .type "set", dict := none, data := .set #[] 0 (.fresh 0 0 (!w.params.followText "set-order")) }).IsList l items := ⟨_, hol', rfl, nl, rfl⟩
        unfold Builtin.«set.__init__» noKeywords Builtin.Frozenset.updateFrom
        generalize hPI : pyIter = PI
        wp_walk
        subst hPI
        refine wpAny_pyIter_list hl1 ?_
        refine wpAny_bind (wpAny_runValue ?_)
        have hlS : l < s.heap.objs.size := Heap.lt_size hol
        have hh3 : A.in1.in1.in1.handled = none := by simp [hh]
        have hneI : l ≠ (s.heap.push { cls := .type "set", dict := none, data := .set #[] 0 (.fresh 0 0 (!w.params.followText "set-order")) }).objs.size := by
          rw [Heap.size_push]; exact Nat.ne_of_lt (Nat.lt_succ_of_lt hlS)
        have hSf : s.heap.objs.size ∉ [(s.heap.push { cls := .type "set", dict := none, data := .set #[] 0 (.fresh 0 0 (!w.params.followText "set-order")) }).objs.size, l] := by
          rw [Heap.size_push]; simp only [List.mem_cons, List.mem_singleton, List.not_mem_nil, or_false, not_or]
          exact ⟨Nat.ne_of_lt (Nat.lt_succ_self _), Nat.ne_of_gt hlS⟩
        have hval : ∀ (i : Nat) (v : Value), items[i]? = some v → ∃ t, v = .str (xs.getD i Str.empty) t := fun i v hv => SS.strs_at hi i v (by rw [Array.getElem?_toList]; exact hv)
        refine loopTx ((Walks.list hh3 _ l hneI items).toS) s.heap.objs.size hSf xs hisz (by rw [← hisz]; exact hn1) hval (items.size - 0) 0 _ (by omega) (Nat.zero_le _)
          ⟨⟨_, Heap.get?_push_size _ rfl, rfl, rfl⟩, (hl1.push _)⟩ ?hS0 ?hR
        case hS0 =>
          have hget : ((s.heap.push { cls := .type "set", dict := none, data := .set #[] 0 (.fresh 0 0 (!w.params.followText "set-order")) }).push { cls := .type "list_iterator", data := .fields #[.ref l, .int 0 0] }).get? s.heap.objs.size
              = some { cls := .type "set", dict := none, data := .set #[] 0 (.fresh 0 0 (!w.params.followText "set-order")) } := Heap.get?_push_of_some _ hS
          refine ⟨[], ⟨(#[], 0, .fresh 0 0 (!w.params.followText "set-order")), hget, Froz.TxOk.nil (by rfl), ?_, ?_, .nil⟩, fun z => by simp, Nat.le_refl _⟩
          · exact List.Pairwise.nil
          · cases q : w.params.followText "set-order" with
            | true => exact .inl rfl
            | false => exact .inr rfl
        case hR =>
          intro s' ks hm hS' hk' hl'
          obtain ⟨h', g2, d', tk', os'⟩ := s'
          have eg : g2 = s.gens := hm.gens
          have ed : d' = s.drawn := hm.drawn
          have eo : os' = s.os := hm.os
          subst eg; subst ed; subst eo
          show wpAny _ _ _ _ _ _
          refine wpAny_pure ?_
          show wpAny _ _ (ret Value.none) _ _ _
          refine wpAny_pure ⟨rfl, h', tk', ks, rfl, hS', hk', by omega, fun b o e => ?_⟩
          have hb := Heap.lt_size e
          have hb1 : b ≠ s.heap.objs.size := Nat.ne_of_lt hb
          have hb2 : b ≠ (s.heap.push { cls := .type "set", dict := none, data := .set #[] 0 (.fresh 0 0 (!w.params.followText "set-order")) }).objs.size := by
            rw [Heap.size_push]; exact Nat.ne_of_lt (Nat.lt_succ_of_lt hb)
          exact hm.heap b o (by simp only [List.mem_cons, List.mem_singleton, List.not_mem_nil, or_false, not_or]; exact ⟨hb1, hb2⟩) (Heap.get?_push_of_some _ (Heap.get?_push_of_some _ e))
      · cases r₂ with
        | error e => exact hr₂
        | ok fl₂ =>
          cases fl₂ with
          | ret r =>
            obtain ⟨rfl, h', tk, ks, rfl, hS', hm', hl', hk'⟩ := hr₂
            repeat (any_goals (first | assumption | wp_step))
            exact h _ _ _ hS' hm' hl' hk'
          | _ => exact hr₂.elim
    | _ => exact hr.elim
theorem perm_of_sub : ∀ {ks m : List Str}, ks.Nodup → (∀ z ∈ ks, z ∈ m) → m.length = ks.length → m.Perm ks
  | [], m, _, _, hl => by
    have : m = [] := List.length_eq_zero_iff.mp hl
    rw [this]
  | k :: ks, m, nd, sub, hl => by
    obtain ⟨n1, n2⟩ := List.nodup_cons.mp nd
    have hk := sub k List.mem_cons_self
    refine (List.perm_cons_erase hk).trans (List.Perm.cons k (perm_of_sub n2 (fun z hz => ?_) ?_))
    · have ne : z ≠ k := fun e => n1 (by rw [← e]; exact hz)
      exact (List.mem_erase_of_ne ne).mpr (sub z (List.mem_cons_of_mem _ hz))
    · rw [List.length_erase_of_mem hk, hl]; rfl
def keyS (v : Value) : Str := match v with | .str k _ => k | _ => Str.empty
theorem strs_of : ∀ (l : List Value), (∀ v ∈ l, ∃ k tk, v = Value.str k tk) → StrsAre l (l.map keyS)
  | [], _ => .nil
  | v :: l, h => by
    obtain ⟨k, tk, rfl⟩ := h v List.mem_cons_self
    exact .cons k tk (strs_of l fun v hv => h v (List.mem_cons_of_mem _ hv))
theorem sorted_texts {a : Addr} {ks : List Str} {Q : Value → Shared → Prop} (x : TxAt P w s.heap a ks) (hh : A.handled = none) (h64 : ks.length < 64)
    (hQ : ∀ s' p (out : Array Value) (c : Nat) (ns : List Str), (∀ b o, s.heap.get? b = some o → s'.heap.get? b = some o) → s'.gens = s.gens → s'.os = s.os → s.heap.objs.size ≤ p →
      s'.heap.get? p = some (seqObj "list" out c) → StrsAre out.toList ns → ns.Perm ks → sortedS ns = true → Q (.ref p) s') :
    wpAny (model P w) A (call (.builtin "sorted") [.ref a]) Q E s := by
  obtain ⟨⟨es, ep, t⟩, ho, F, hr, hl, nd⟩ := x
  have hes : es.size = ks.length := F.sz
  have hb : es.size < scanBound := by rw [hes]; unfold scanBound; omega
  refine Calls.call_function_entry kind_sorted plain_sorted entry_sorted (args_sorted1 _) ?_
  unfold Builtin.«sorted»
  refine wpAny_bind (m := checkCount "sorted" 1 1 _) (wpAny_pure ?_)
  refine wpAny_bind (collect_set (A := A.in1) hh ⟨_, ho, rfl, rfl⟩ F.fit hb hr hl fun s1 vs k1 hz g1 o1 pm => ?_)
  have hvl : vs.length = ks.length := by rw [pm.length_eq, List.length_map, Array.length_toList]; exact hes
  have good : ∀ e ∈ es.toList, ∃ k tk, e.2 = Value.str k tk := fun e he => by
    obtain ⟨⟨k, hk, _⟩, _⟩ := F.el e he
    have hk : Value.isStrOf k e.2 = true := hk
    cases q : e.2 with
    | str k' tk => exact ⟨k', tk, rfl⟩
    | _ => rw [q] at hk; cases hk
  have hI : StrsAre vs (vs.map keyS) := strs_of vs fun v hv => by
    obtain ⟨e, he, q⟩ := List.mem_map.mp (pm.mem_iff.mp hv)
    obtain ⟨k, tk, h1⟩ := good e he
    exact ⟨k, tk, by rw [← q]; exact h1⟩
  have pk : (vs.map keyS).Perm ks := by
    have q := pm.map keyS
    rw [List.map_map] at q
    refine q.trans ?_
    have isk : ∀ e ∈ es.toList, (PySem.strKind P w).is (keyS e.2) e.2 = true := fun e he => by
      obtain ⟨k, tk, h1⟩ := good e he
      rw [h1]
      exact Froz.is_str k tk
    have sub : ∀ z ∈ ks, z ∈ es.toList.map (keyS ∘ fun x => x.2) := fun z hz => by
      obtain ⟨e, he, q⟩ := (F.mem z).mp hz
      exact List.mem_map.mpr ⟨e, he, (PySem.strKind P w).inj e.2 _ _ (isk e he) q⟩
    have len : (es.toList.map (keyS ∘ fun x => x.2)).length = ks.length := by rw [List.length_map, Array.length_toList]; exact hes
    exact perm_of_sub nd sub len
  refine wpAny_bind (wpAny_newList ?_ (by rw [hvl, sizeLine_eq]; omega))
  have hoL : (s1.heap.push (seqObj "list" vs.toArray 0)).get? s1.heap.objs.size = some (seqObj "list" vs.toArray 0) := Heap.get?_push_size _ rfl
  refine wpAny_bind (wpAny_holding (wpAny_call_entry slot_list_sort ⟨_, hoL, rfl⟩ entry_list_sort (list_sort_treeK strKind_oneLt hoL hI.keysOf (fun v₁ v₂ rest e => keyKind_strs (by rw [← e]; exact hI)) (by rw [hvl]; exact h64) fun st' a1 a2 => ⟨_, rfl, ?_⟩) (args_list_sort _)))
  obtain ⟨ss', b1, b2, b3⟩ := sorted_out_str hI a1 a2
  obtain ⟨c, hc⟩ := sortedHeap_at (vs := vs) (out := (arrOf st').map (·.2)) hoL
  refine wpAny_pure ⟨_, rfl, hQ _ s1.heap.objs.size _ c ss' (fun b u e => ?_) g1 o1 hz hc b1 (b2.trans pk) b3⟩
  have q := k1 b u e
  have hlt := Heap.lt_size q
  show (sortedHeap (s1.heap.push (seqObj "list" vs.toArray 0)) s1.heap.objs.size vs _).get? b = some u
  rw [sortedHeap_old (Nat.ne_of_lt hlt) (by rw [size_push']; exact Nat.lt_succ_of_lt hlt)]
  exact Heap.get?_push_of_some _ q
end
end Ev

-- part EvS4
set_option maxHeartbeats 2000000
/-! EvS4: sorted of alike data, the empty tuple at the head too, of a list or a tuple. -/
namespace EvT
open PySem PySem.W PySem.Calls PyProof.Rows PySem.SeqAt
section
variable {prog : Program} {w : World} {A : Around} {E : Value → Shared → Prop} {s : Shared}
theorem call_tuple_lt {Q : Value → Shared → Prop} {l b : Addr} {items items2 : Array Value} {e r : Nat → Bool} (hl : s.heap.IsTuple l items) (hb : s.heap.IsTuple b items2)
    (he : ∀ j (h1 : j < items.size) (h2 : j < items2.size), EqAt A.in1 s items[j] items2[j] (e j)) (hr : ∀ j (h1 : j < items.size) (h2 : j < items2.size), e j = false → RcLt A.in1 s items[j] items2[j] (r j))
    (h : Q (.bool (firstLt e r (decide (items.size < items2.size)) (List.range (min items.size items2.size)))) s) : wpAny (model prog w) A (call (.builtin "tuple.__lt__") [.ref l, .ref b]) Q E s := by
  obtain ⟨⟨cls, dd, data, sl⟩, ho, hc, n, hd⟩ := id hl
  obtain ⟨⟨cls2, dd2, data2, sl2⟩, ho2, hc2, n2, hd2⟩ := id hb
  simp only at hc hd hc2 hd2
  subst hc hd hc2 hd2
  exact call_meets F.slot_tuple_lt ⟨_, ho, rfl⟩ F.entry_tuple_lt (F.args_tuple_lt_2 _ _) (tuple_ltAt l b items items2 n n2 dd dd2 sl sl2 e r) ⟨ho, ho2, he, hr, h⟩
/-- one tuple against another, all keys of one type -/
theorem oneLt_tup {xs ys : List PyData} {a b : Value} {as bs : List Addr} {Q : Bool → Shared → Prop} (ra : Reads s.heap a (.tuple xs) as) (rb : Reads s.heap b (.tuple ys) bs) (h : alike (.tuple xs) (.tuple ys) = true)
    (hu : A.units + min (PyData.tuple xs).depth (PyData.tuple ys).depth < cLine) (hq : Q (dataLt (.tuple xs) (.tuple ys)) s) : wpAny (model prog w) A (oneLt' true a b) Q E s := by
  have hal : alikeAll xs ys = true := by simpa [alike] using h
  cases ra with
  | @tuple l o vs n _ as₁ h1 h2 h3 h4 =>
    cases rb with
    | @tuple l' o' vs' n' _ bs₁ k1 k2 k3 k4 =>
      have n1 : vs.size = xs.length := by simpa using ReadsAll.length _ _ _ h4
      have n2 : vs'.size = ys.length := by simpa using ReadsAll.length _ _ _ k4
      rw [dataLt_tuple, ← firstLt_toks xs ys hal, ← n1, ← n2] at hq
      rw [oneLt'_eq]
      simp only [if_true]
      refine wpAny_bind (wpAny_cRoomFor (room_here hu) ?_)
      refine wpAny_bind (wpAny_callSpecialIfBound?_slot (T := "tuple") ⟨_, h1, h2⟩ F.slot_tuple_lt (call_tuple_lt (e := pairEq xs ys) (r := fun j => dataLt (xs.getD j .none) (ys.getD j .none)) ⟨_, h1, h2, _, h3⟩ ⟨_, k1, k2, _, k3⟩ (fun j j1 j2 => ?_) (fun j j1 j2 hj => ?_) ?_))
      · have := eqAt_alikeAll xs ys A.in1 s vs.toList vs'.toList _ _ h4 k4 hal (room_in hu) j (by simpa using j1) (by simpa using j2)
        simpa using this
      · have := rcLt_alikeAll xs ys A.in1 s vs.toList vs'.toList _ _ h4 k4 hal (room_in hu) j (by simpa using j1) (by simpa using j2) hj
        simpa using this
      · exact wpAny_truthy_bool hq
theorem firsts_any {M : Model} : ∀ (vs : List Value) {Q : List (Option Value) → Shared → Prop}, (∀ v ∈ vs, ∃ a o xs n, v = .ref a ∧ s.heap.get? a = some o ∧ o.cls = .type "tuple" ∧ o.data = .seq xs n) →
    (∀ L : List (Option Value), L.length = vs.length → (∀ a o n rest, vs = .ref a :: rest → s.heap.get? a = some o → o.data = .seq #[] n → L[0]? = some none) → Q L s) → wpAny M A (vs.mapM firstOfTuple') Q E s
  | [], Q, _, h => by
    rw [List.mapM_nil]
    exact wpAny_pure (h [] rfl fun a o n rest e => by cases e)
  | v :: vs, Q, hv, h => by
    obtain ⟨a, o, xs, n, rfl, ho, hc, hd⟩ := hv _ List.mem_cons_self
    rw [List.mapM_cons]
    refine wpAny_bind ?_
    rw [kas_first_eq]
    refine wpAny_bind (Looks.here (show Looks M s.heap (typeOf (.ref a)) o.cls from (Looks.ld ho).andThen .now) ?_)
    rw [hc, if_neg (by first | decide | simp)]
    refine wpAny_bind (listItems_at ho hd (wpAny_pure ?_))
    refine wpAny_bind (firsts_any vs (Q := fun L s' => wpAny M A (pure (xs[0]? :: L)) Q E s') (fun v hv' => hv v (List.mem_cons_of_mem _ hv')) fun L hl _ => wpAny_pure (h _ (by simp [hl]) fun a' o' n' rest e ho' hd' => ?_))
    cases e
    rw [ho] at ho'
    cases ho'
    rw [hd] at hd'
    cases hd'
    rfl
theorem kind_tup0 {M : Model} {vs : List Value} {Q : SortKind → Shared → Prop} (hv : ∀ v ∈ vs, ∃ a o xs n, v = .ref a ∧ s.heap.get? a = some o ∧ o.cls = .type "tuple" ∧ o.data = .seq xs n)
    (h0 : ∃ a o n rest, vs = .ref a :: rest ∧ s.heap.get? a = some o ∧ o.data = .seq #[] n) (h : Q oneType' s) : wpAny M A (keyKind' vs.toArray) Q E s := by
  obtain ⟨a, o, n, rest, rfl, ho, hd⟩ := h0
  rw [keyKind'_eq, List.mapM_toArray, map_eq_pure_bind]
  refine wpAny_bind (wpAny_bind (firsts_any _ hv fun L hl h1 => wpAny_pure ?_))
  have e0 : L[0]? = some none := h1 a o n rest rfl ho hd
  obtain ⟨L', rfl⟩ : ∃ L', L = none :: L' := by
    cases L with
    | nil => simp at e0
    | cons x L' =>
      simp at e0
      subst e0
      exact ⟨L', rfl⟩
  rw [if_neg (by simp), if_neg (by simp)]
  rw [oneTypeOnly'_eq, List.mapM_toArray, map_eq_pure_bind]
  refine wpAny_bind (wpAny_bind (wpAny_bind (kas_mapM (r := Value.type "tuple") _ (fun v hm Q' hq => ?_) (wpAny_pure ?_))))
  · obtain ⟨a', o', xs', n', rfl, ho', hc', _⟩ := hv v hm
    exact Looks.here (show Looks M s.heap (typeOf (.ref a')) (Value.type "tuple") from hc' ▸ (Looks.ld ho').andThen .now) hq
  · have hall : ((List.map (fun _ => Value.type "tuple") (Value.ref a :: rest)).toArray.all fun x => x == Value.type "tuple") = true := by
      simp only [List.all_toArray, List.all_map, List.all_eq_true]
      intro _ _
      rfl
    have h0' : (List.map (fun _ => Value.type "tuple") (Value.ref a :: rest)).toArray[0]? = some (Value.type "tuple") := by simp
    rw [h0']
    simp only [hall, if_true]
    exact wpAny_pure (wpAny_pure h)
/-- .. or all are tuples and the first is () -/
def Sortable2 (ds : List PyData) : Prop := Sortable ds ∨ ((∀ d, d ∈ ds → ∃ xs, d = .tuple xs) ∧ ∃ r, ds = .tuple [] :: r)
theorem sorts_data {vs : List Value} {ds : List PyData} (e : EachIs (fun v d => ∃ as, Reads s.heap v d as) vs ds) (hal : AllAlike ds) (hk : Sortable2 ds) (hu : ∀ d, d ∈ ds → A.units + d.depth < cLine) : SortsAt prog w A s (dataKind s.heap ds) vs := by
  rcases hk with hk | ⟨ht, r0, rfl⟩
  · exact SortsAt.data e hal hk hu
  refine ⟨fun v hv => ?_, oneType', ?_, fun h2 E Q hq => ?_⟩
  · obtain ⟨d, hd, as, r⟩ := e.left v hv
    exact ⟨_, dataKind_some hal hd r⟩
  · intro E x y a b Q ha hb hq
    obtain ⟨d, as, hd, ra, rfl⟩ := dataKind_inv ha
    obtain ⟨d', as', hd', rb, rfl⟩ := dataKind_inv hb
    obtain ⟨xs, rfl⟩ := ht d hd
    obtain ⟨ys, rfl⟩ := ht d' hd'
    rw [keyLt'_oneType]
    exact oneLt_tup ra rb (hal _ hd _ hd') (Nat.lt_of_le_of_lt (Nat.add_le_add_left (Nat.min_le_left _ _) _) (hu _ hd)) hq
  · refine kind_tup0 (fun v hv => ?_) ?_ hq
    · obtain ⟨d, hd, as, r⟩ := e.left v hv
      obtain ⟨xs, rfl⟩ := ht d hd
      cases r with
      | tuple h1 h2 h3 h4 => exact ⟨_, _, _, _, rfl, h1, h2, h3⟩
    · cases e with
      | cons h t =>
        obtain ⟨as, r⟩ := h
        cases r with
        | @tuple a o xs n _ _ h1 h2 h3 h4 =>
          cases q : xs.toList with
          | cons f fr =>
            rw [q] at h4
            cases h4
          | nil =>
            have : xs = #[] := by
              cases xs with
              | mk l => simp at q; rw [q]
            subst this
            exact ⟨_, _, _, _, rfl, h1, h3⟩
theorem collect_B {b : Bool} {l : Addr} {vs : List Value} {Q : List Value → Shared → Prop} (hl : EvZ.SeqB b s.heap l vs.toArray)
    (h : Q vs { s with heap := (s.heap.push (seqObj "list" #[] 0)).update s.heap.objs.size (Obj.mapSeq (· ++ vs.toArray)) }) (hsz : vs.length ≤ sizeLine) :
    wpAny (model prog w) A (collect (.ref l)) Q E s := by
  cases b with
  | true => exact collect_list hl h hsz
  | false =>
    obtain ⟨o, ho, hc, n, hd⟩ := id (show s.heap.IsTuple l vs.toArray from hl)
    unfold collect
    refine wpAny_bind (wpAny_runValue (codeAny_builtin entry_proto_collect' ?_))
    show wpAny _ _ (do again (.builtin "list.__iadd__" ⟨[← newList [], .ref l], []⟩)) _ _ s
    refine wpAny_bind (wpAny_newList (wpAny_pure ⟨Code.quiet_builtin _ (by decide +kernel), codeAny_builtin entry_list_iadd' ?_⟩))
    show wpAny _ _ (Builtin.List.listExtendWith (.ref s.heap.objs.size) (.ref l) (.ref s.heap.objs.size)) _ _ { s with heap := s.heap.push (seqObj "list" #[] 0) }
    unfold Builtin.List.listExtendWith
    have ho' : (s.heap.push (seqObj "list" #[] 0)).get? l = some o := Heap.get?_push_of_some _ ho
    refine wpAny_bind (wpAny_typeOf (T := "tuple") ⟨o, ho', hc⟩ ?_)
    have ht : (Value.type "tuple" == Value.type "tuple") = true := by rfl
    rw [if_pos (by rw [ht]; simp)]
    refine wpAny_bind (listItems_at ho' hd ?_)
    refine wpAny_bind (listItems_at (xs := #[]) (n := 0) (Heap.get?_push_size _ rfl) rfl ?_)
    rw [if_neg (by simp)]
    refine wpAny_bind (listUpdate_at (xs := #[]) (n := 0) (Heap.get?_push_size _ rfl) rfl ?_ (Nat.zero_le _) (by show (#[] ++ vs.toArray).size ≤ sizeLine + 1; simp only [Array.size_append, List.size_toArray, List.length_nil]; omega))
    refine wpAny_pure ?_
    show wpAny (model prog w) A (do
        let o ← load s.heap.objs.size
        match o.data with
        | .seq xs _ => pure xs.toList
        | _ => unsupported "internal:collect") Q E { s with heap := (s.heap.push (seqObj "list" #[] 0)).update s.heap.objs.size (Obj.mapSeq (· ++ vs.toArray)) }
    refine wpAny_bind (wpAny_load (get?_update_seq (Heap.get?_push_size _ rfl) _) ?_)
    show wpAny _ _ (pure ((#[] : Array Value) ++ vs.toArray).toList) Q E _
    rw [show ((#[] : Array Value) ++ vs.toArray).toList = vs by simp]
    exact wpAny_pure h
theorem sorted_dataB {β : Type} {vs : List Value} {bs : List β} {enc : β → PyData} {R : Value → β → Prop} {b : Bool} {l : Addr} {Q : Value → Shared → Prop} (hl : EvZ.SeqB b s.heap l vs.toArray) (e : EachIs R vs bs) (er : EachIs (fun v b => ∃ as, Reads s.heap v (enc b) as) vs bs) (hal : AllAlike (bs.map enc)) (hk : Sortable2 (bs.map enc)) (hL : bs.length ≤ sizeLine)
    (hu : ∀ b, b ∈ bs → A.units + 2 + (enc b).depth < cLine) (h : ∀ out, out.length = bs.length → EachIs R out (bs.mergeSort (dataLe false enc)) → Q (.ref (s.heap.objs.size + 1)) { s with heap := sortedAll s.heap vs (List.toArray out) }) :
    wpAny (model prog w) A (call (.builtin "sorted") [.ref l]) Q E s := by
  have er' : EachIs (fun v b => ∃ as, Reads (sortingHeap (copyHeap s.heap vs) (s.heap.objs.size + 1) vs) v (enc b) as) vs bs := er.mono fun _ _ ⟨as, r⟩ => ⟨as, PyProof.Rows.Reads.keeps (fun _ _ => sorting_copy_old) r⟩
  have S : SortsAt prog w A.in1.in1 { s with heap := sortingHeap (copyHeap s.heap vs) (s.heap.objs.size + 1) vs } (dataKind (sortingHeap (copyHeap s.heap vs) (s.heap.objs.size + 1) vs) (bs.map enc)) vs :=
    sorts_data (s := { s with heap := sortingHeap (copyHeap s.heap vs) (s.heap.objs.size + 1) vs }) (each_map (R := fun v d => ∃ as, Reads (sortingHeap (copyHeap s.heap vs) (s.heap.objs.size + 1) vs) v d as) enc er') hal hk (bound_map hu)
  have hL' : vs.length ≤ sizeLine := by rw [e.length]; exact hL
  have fin := h _ (by rw [sortVals_length false rfl]; exact e.length) (sortVals_data false e er' hal)
  refine call_function_entry_kw kind_sorted plain_sorted entry_sorted (args_sorted1 _) ?_
  unfold Builtin.«sorted»
  refine wpAny_bind (m := checkCount "sorted" 1 1 _) (wpAny_pure ?_)
  refine wpAny_bind (collect_B hl ?_ hL')
  refine wpAny_bind (wpAny_newList ?_ hL')
  have hsz : ((s.heap.push (seqObj "list" #[] 0)).update s.heap.objs.size (Obj.mapSeq (· ++ vs.toArray))).objs.size = s.heap.objs.size + 1 := by
    rw [Heap.size_update, size_push']
  show wpAny _ _ _ _ _ { s with heap := copyHeap s.heap vs }
  rw [hsz]
  refine wpAny_bind (wpAny_holding (wpAny_call_entry_kw slot_list_sort ⟨_, copyHeap_at s.heap vs, rfl⟩ entry_list_sort ?body (args_list_sort _)))
  case body =>
    show wpAny (model prog w) A.in1.in1 (Builtin.«list.sort» ⟨[.ref (s.heap.objs.size + 1)], []⟩) _ _ _
    refine wpAny_mono (list_sort_vals (s := { s with heap := copyHeap s.heap vs }) (P := fun f s' => f = .done (.ret .none) ∧ Q (.ref (s.heap.objs.size + 1)) s') (copyHeap_at s.heap vs) S hL' ⟨rfl, fin⟩) (fun f s' hf => ?_) fun _ _ e => e
    obtain ⟨rfl, hq⟩ := hf
    exact ⟨_, rfl, wpAny_pure ⟨_, rfl, hq⟩⟩
end
end EvT

-- part EvS5
set_option maxHeartbeats 1000000
/-! EvS5: sorted of alike data is sound. -/
namespace Ev
open PySem PySem.Spec PyProof.Rows L2
theorem map_someS {α β : Type} {a : Option α} {f : α → β} {r : β} (h : a.map f = some r) : ∃ x, a = some x ∧ r = f x := by
  cases a with
  | none => cases h
  | some x => cases h; exact ⟨x, rfl, rfl⟩
theorem ltP_total {d e : D} (h1 : ltP d e = false) (h2 : ltP e d = false) : PySem.W.keyToks (toPy d) = PySem.W.keyToks (toPy e) := (listOrd itemOrd).total _ _ h1 h2
theorem ltP_trans {a b c : D} (h1 : ltP a b = true) (h2 : ltP b c = true) : ltP a c = true := (listOrd itemOrd).trans _ _ _ h1 h2
theorem ltP_neg {a b c : D} (h : ltP a c = true) : ltP a b = true ∨ ltP b c = true := (listOrd itemOrd).negTrans _ _ _ h
mutual
theorem alike_eq : ∀ (d e : D), PySem.W.alike (toPy d) (toPy e) = true → plain 60 d = true ∨ True → eqD d e = true → d = e
  | .non, e, _, _, h => by cases e <;> simp [eqD] at h ⊢
  | .bl a, e, ha, _, h => by cases e <;> simp [eqD, toPy, PySem.W.alike] at h ha ⊢; exact h
  | .int a, e, ha, _, h => by cases e <;> simp [eqD, toPy, PySem.W.alike] at h ha ⊢; exact h
  | .str a, e, _, _, h => by cases e <;> simp [eqD] at h ⊢; exact h
  | .tup xs, e, ha, _, h => by
    cases e with
    | tup ys => rw [alikes_eq xs ys (by simpa [toPy, PySem.W.alike] using ha) (by simpa [eqD] using h)]
    | _ => simp [eqD] at h
  | .lst xs, e, ha, _, h => by
    cases e with
    | lst ys => rw [alikes_eq xs ys (by simpa [toPy, PySem.W.alike] using ha) (by simpa [eqD] using h)]
    | _ => simp [eqD] at h
  | .scr xs, e, _, _, h => by cases e <;> simp [eqD] at h
  | .fn xs, e, _, _, h => by cases e <;> simp [eqD] at h
  | .cls xs, e, _, _, h => by cases e <;> simp [eqD] at h
  | .ty xs, e, _, _, h => by cases e <;> simp [eqD] at h
  | .exc _ _ _, e, _, _, h => by cases e <;> simp [eqD] at h
theorem alikes_eq : ∀ (xs ys : List D), PySem.W.alikeAll (toPys xs) (toPys ys) = true → eqDs xs ys = true → xs = ys
  | [], [], _, _ => rfl
  | [], _ :: _, _, h => by simp [eqDs] at h
  | _ :: _, [], _, h => by simp [eqDs] at h
  | x :: xs, y :: ys, ha, h => by
    have h : eqD x y = true ∧ eqDs xs ys = true := by simpa [eqDs] using h
    have ha := PySem.W.alike_all_cons (show PySem.W.alikeAll (toPy x :: toPys xs) (toPy y :: toPys ys) = true from ha)
    rw [alike_eq x y ha.1 (.inr trivial) h.1, alikes_eq xs ys ha.2 h.2]
end
theorem toks_eq {x y : PyData} (ha : PySem.W.alike x y = true) (h : PySem.W.keyToks x = PySem.W.keyToks y) : PyData.eqv x y = true := by
  cases e : PyData.eqv x y with
  | true => rfl
  | false =>
    have h2 := (PySem.W.toks_eqv x y ha).2 e
    have a := h2 [.inl 0] [.inl 1]
    have b := h2 [.inl 1] [.inl 0]
    rw [h, PySem.W.lex_pre] at a b
    rw [← a] at b
    exact absurd b (by decide)
theorem ltP_anti {d e : D} (ha : PySem.W.alike (toPy d) (toPy e) = true) (p : plain 60 d = true) (q : plain 60 e = true) (h1 : ltP d e = false) (h2 : ltP e d = false) : d = e :=
  alike_eq d e ha (.inr trivial) (by rw [← toPy_eqv 60 60 d e p q]; exact toks_eq ha (ltP_total h1 h2))
theorem insG_perm (x : D) : ∀ ys : List D, (insG x ys).Perm (x :: ys)
  | [] => .refl _
  | y :: ys => by
    rw [insG]
    split
    · exact ((insG_perm x ys).cons y).trans (.swap _ _ _)
    · exact .refl _
theorem sortD_perm : ∀ xs : List D, (sortD xs).Perm xs
  | [] => .refl _
  | x :: xs => (insG_perm x _).trans ((sortD_perm xs).cons x)
def LeP (a b : D) : Prop := ltP b a = false
theorem LeP.trans {a b c : D} (h1 : LeP a b) (h2 : LeP b c) : LeP a c := by
  unfold LeP at *
  cases h : ltP c a with
  | false => rfl
  | true =>
    rcases ltP_neg (b := b) h with h | h
    · rw [h] at h2; cases h2
    · rw [h] at h1; cases h1
theorem ltP_asymm {a b : D} (h : ltP a b = true) : ltP b a = false := by
  cases h2 : ltP b a with
  | false => rfl
  | true =>
    have := ltP_trans h h2
    have z : ltP a a = false := (listOrd itemOrd).irrefl _
    rw [z] at this
    cases this
theorem insG_pw (x : D) : ∀ {ys : List D}, ys.Pairwise LeP → (insG x ys).Pairwise LeP
  | [], _ => by simp [insG]
  | y :: ys, h => by
    obtain ⟨h1, h2⟩ := List.pairwise_cons.mp h
    rw [insG]
    split
    · rename_i c
      refine List.pairwise_cons.mpr ⟨fun z hz => ?_, insG_pw x h2⟩
      rcases List.mem_cons.mp ((insG_perm x ys).subset hz) with rfl | hz
      · exact ltP_asymm c
      · exact h1 z hz
    · rename_i c
      have c : LeP x y := by
        unfold LeP
        simpa using c
      refine List.pairwise_cons.mpr ⟨fun z hz => ?_, h⟩
      rcases List.mem_cons.mp hz with rfl | hz
      · exact c
      · exact c.trans (h1 z hz)
theorem sortD_pw : ∀ xs : List D, (sortD xs).Pairwise LeP
  | [] => .nil
  | x :: xs => insG_pw x (sortD_pw xs)
section
variable {X : Cx} {K : PySem.W.Frag} {mg : Str → Option Value} {F : Addr → Prop} {H : Hp} {v u : V}
def leV (p q : V × D) : Bool := PySem.W.dataLe false (fun p : V × D => toPy p.2) p q
theorem leV_eq (p q : V × D) : leV p q = !ltP q.2 p.2 := rfl
def rSortedG (K : PySem.W.Frag) : List V → Hp → VK → Prop := fun xs H Q => ∃ (a : Addr) (b : Bool) (vs : List V) (ds : List D), xs = [.ref a] ∧ EvZ.SqB K b H a vs ∧ DpAll K H vs (toPys ds) ∧ vs.length = ds.length ∧ PySem.W.AllAlike (toPys ds) ∧ EvT.Sortable2 (toPys ds) ∧ (∀ d ∈ ds, plain 59 d = true) ∧
  ∀ q, H q = none → Q (.ref q) (upd H q (.lst (((vs.zip ds).mergeSort leV).map (·.1))))
theorem toPys_map : ∀ ds : List D, toPys ds = ds.map toPy
  | [] => rfl
  | d :: ds => by rw [toPys, toPys_map ds, List.map_cons]
theorem each_zip {α β γ : Type} {R : α → β → Prop} : ∀ {us : List α} {vs : List β} {ds : List γ}, vs.length = ds.length → us.length = vs.length → (∀ i (h1 : i < us.length) (h2 : i < vs.length), R us[i] vs[i]) → PySem.W.EachIs (fun u (p : β × γ) => R u p.1) us (vs.zip ds)
  | [], [], [], _, _, _ => .nil
  | u :: us, v :: vs, d :: ds, h1, h2, h => .cons (h 0 (by simp) (by simp)) (each_zip (by simpa using h1) (by simpa using h2) fun i a b => h (i + 1) (by simpa using a) (by simpa using b))
  | [], _ :: _, _, _, h, _ => by simp at h
  | _ :: _, [], _, _, h, _ => by simp at h
  | [], [], _ :: _, h, _, _ => by simp at h
  | _ :: _, _ :: _, [], h, _, _ => by simp at h
theorem each_vals : ∀ {us : List Value} {vs : List V} {ds : List D}, Vals vs us → vs.length = ds.length → PySem.W.EachIs (fun u (p : V × D) => RelV p.1 u) us (vs.zip ds)
  | _, _, [], .nil, _ => .nil
  | _, _, d :: ds, .cons r rs, h => .cons r (each_vals rs (by simpa using h))
  | _, _, _ :: _, .nil, h => by simp at h
  | _, _, [], .cons _ _, h => by simp at h
theorem each_reads {pins : List (Addr × Obj)} {σ : L2.St} {s : Shared} (I : Inv X pins σ H s) : ∀ {us : List Value} {vs : List V} {ds : List D}, Vals vs us → DpAll X.K H vs (toPys ds) → PySem.W.EachIs (fun u (p : V × D) => ∃ as, Reads s.heap u (toPy p.2) as) us (vs.zip ds)
  | _, _, [], r, h => by
    cases h
    cases r
    exact .nil
  | _, _, d :: ds, r, h => by
    cases h with
    | cons h1 h2 =>
      cases r with
      | cons r1 r2 => exact .cons (Dp.reads I _ _ _ h1 r1) (each_reads I r2 h2)
theorem vals_each : ∀ {us : List Value} {ps : List (V × D)}, PySem.W.EachIs (fun u (p : V × D) => RelV p.1 u) us ps → Vals (ps.map (·.1)) us
  | _, _, .nil => .nil
  | _, _, .cons h t => .cons h (vals_each t)
theorem cr_sortedG (hu : X.A.units + 64 < cLine) : CallR X (.builtin "sorted") (rSortedG X.K) := by
  intro pins s σ H xs us Q I r h
  obtain ⟨a, b, vs, ds, rfl, hs, hd, hvl, hal, hk, hp, q⟩ := h
  obtain ⟨its, rv, hl, hz⟩ : ∃ its : List Value, Vals vs its ∧ EvZ.SeqB b s.heap a its.toArray ∧ vs.length ≤ sizeLine := by
    cases b with
    | true =>
      obtain ⟨its, rv, hl, hz⟩ := I.list hs
      exact ⟨its, rv, hl.isList, hz⟩
    | false =>
      obtain ⟨its, rv, hl, hz⟩ := I.tuple hs
      exact ⟨its, rv, hl, hz⟩
  rw [Vals.ref1 r]
  have em : (vs.zip ds).map (fun p : V × D => toPy p.2) = toPys ds := by
    rw [toPys_map, show (fun p : V × D => toPy p.2) = toPy ∘ Prod.snd from rfl, ← List.map_map, List.map_snd_zip (by omega)]
  refine EvT.sorted_dataB (b := b) (bs := vs.zip ds) (enc := fun p => toPy p.2) (R := fun u p => RelV p.1 u) hl (each_vals rv hvl) (each_reads I rv hd) (by rw [em]; exact hal) (by rw [em]; exact hk) (by rw [List.length_zip]; omega) (fun p hm => ?_) fun out h1 h2 => ?_
  · have := (toPy_lay 59 p.2 (hp _ (List.of_mem_zip hm).2)).2
    omega
  · obtain ⟨ep, he'⟩ := PyProof.Rows.sortedAll_at s.heap its out.toArray
    have vv := vals_each h2
    have hlen : (((vs.zip ds).mergeSort leV).map (·.1)).length ≤ sizeLine := by
      rw [List.length_map, List.length_mergeSort, List.length_zip]
      omega
    exact ⟨.ref _, upd H (s.heap.objs.size + 1) (.lst (((vs.zip ds).mergeSort leV).map (·.1))), I.laid (t' := s.toks) (fun _ _ => PyProof.Rows.sortedAll_old) (Nat.le_succ _) ⟨hlen, out, ep, vv, he'⟩, rfl, q _ (I.hok.fresh (Nat.le_succ _))⟩
theorem drs_mem : ∀ {ds : List D} {vs : List V}, DRs K mg F H ds vs → vs.length = ds.length ∧ ∀ p ∈ vs.zip ds, DR K mg F H p.2 p.1
  | _, _, .nil => ⟨rfl, fun p hp => by simp at hp⟩
  | _, _, .cons q qs => by
    obtain ⟨h1, h2⟩ := drs_mem qs
    refine ⟨by simp [h1], fun p hp => ?_⟩
    rw [List.zip_cons_cons] at hp
    rcases List.mem_cons.mp hp with rfl | hp
    · exact q
    · exact h2 p hp
theorem drs_of : ∀ {ps : List (V × D)}, (∀ p ∈ ps, DR K mg F H p.2 p.1) → DRs K mg F H (ps.map (·.2)) (ps.map (·.1))
  | [], _ => .nil
  | p :: ps, h => .cons (h p List.mem_cons_self) (drs_of fun q hq => h q (List.mem_cons_of_mem _ hq))
theorem plains_mem : ∀ {n : Nat} {xs : List D}, plains n xs = true → ∀ d ∈ xs, plain n d = true
  | n, [], _, d, h => by simp at h
  | n, x :: xs, hp, d, h => by
    have hp : plain n x = true ∧ plains n xs = true := by simpa [plains] using hp
    rcases List.mem_cons.mp h with rfl | h
    · exact hp.1
    · exact plains_mem hp.2 d h
mutual
theorem plain_up : ∀ (n : Nat) (d : D), plain n d = true → plain (n + 1) d = true
  | _, .non, _ => by simp [plain]
  | _, .bl _, _ => by simp [plain]
  | _, .int _, _ => by simp [plain]
  | n, .str x, h => by cases n <;> simpa [plain] using h
  | n + 1, .tup xs, h => by
    have := plains_up n xs (by simpa [plain] using h)
    simpa [plain] using this
  | n + 1, .lst xs, h => by
    have := plains_up n xs (by simpa [plain] using h)
    simpa [plain] using this
  | 0, .tup _, h => by simp [plain] at h
  | 0, .lst _, h => by simp [plain] at h
  | n, .scr _, h => by cases n <;> simp [plain] at h
  | n, .fn _, h => by cases n <;> simp [plain] at h
  | n, .cls _, h => by cases n <;> simp [plain] at h
  | n, .ty _, h => by cases n <;> simp [plain] at h
  | n, .exc _ _ _, h => by cases n <;> simp [plain] at h
theorem plains_up : ∀ (n : Nat) (xs : List D), plains n xs = true → plains (n + 1) xs = true
  | _, [], _ => rfl
  | n, x :: xs, h => by
    have h : plain n x = true ∧ plains n xs = true := by simpa [plains] using h
    simp [plains, plain_up n x h.1, plains_up n xs h.2]
end
theorem rSortedG_of {b : Bool} {a : Addr} {xs ys : List D} {us : List V} {Q : VK} (hD : DRs K mg F H xs us) (hs : EvZ.SqB K b H a us) (h : sortG xs = some ys) (q : ∀ us' p, H p = none → DRs K mg F H ys us' → Q (.ref p) (upd H p (.lst us'))) : rSortedG K [.ref a] H Q := by
  unfold sortG at h
  split at h
  · rename_i hc
    cases h
    unfold sortOk at hc
    simp only [Bool.and_eq_true, Bool.or_eq_true, List.all_eq_true] at hc
    obtain ⟨c1, c2, c3⟩ := hc
    have pm := plains_mem c1
    obtain ⟨hl, hm⟩ := drs_mem hD
    refine ⟨a, b, us, xs, rfl, hs, drs_dp 59 xs us c1 hD, hl, ?_, ?_, pm, fun p hp => q _ p hp ?_⟩
    · intro d hd d' hd'
      rw [toPys_map] at hd hd'
      obtain ⟨e, he, rfl⟩ := List.mem_map.mp hd
      obtain ⟨e', he', rfl⟩ := List.mem_map.mp hd'
      exact c2 e he e' he'
    · rw [toPys_map]
      rcases c3 with c3 | c3 | ⟨c3, c4⟩
      · refine .inl (.inl fun d hd => ?_)
        obtain ⟨e, he, rfl⟩ := List.mem_map.mp hd
        have := c3 e he
        unfold isTup1 at this
        split at this
        · exact ⟨_, _, rfl⟩
        · cases this
      · refine .inl (.inr fun d hd => ?_)
        obtain ⟨e, he, rfl⟩ := List.mem_map.mp hd
        have := c3 e he
        have pe := pm e he
        cases e <;> first
          | (simp [isFlat] at this; done)
          | (simp [plain] at pe; done)
          | exact ⟨fun z => (nomatch z), fun xs z => (nomatch z)⟩
      · refine .inr ⟨fun d hd => ?_, ?_⟩
        · obtain ⟨e, he, rfl⟩ := List.mem_map.mp hd
          have := c3 e he
          unfold isTupD at this
          split at this
          · exact ⟨_, rfl⟩
          · cases this
        · unfold tup0 at c4
          split at c4
          · exact ⟨_, rfl⟩
          · cases c4
    · have pr : ((us.zip xs).mergeSort leV).Perm (us.zip xs) := List.mergeSort_perm _ _
      have e : ((us.zip xs).mergeSort leV).map (·.2) = sortD xs := by
        have pw : ((us.zip xs).mergeSort leV).Pairwise (fun p q => leV p q = true) := List.pairwise_mergeSort (fun a b c h1 h2 => by
          rw [leV_eq] at h1 h2 ⊢
          simp only [Bool.not_eq_true'] at h1 h2 ⊢
          exact LeP.trans h1 h2) (fun a b => by
          rw [leV_eq, leV_eq]
          cases h : ltP b.2 a.2 with
          | false => rfl
          | true => rw [ltP_asymm h]; rfl) _
        have pp : (((us.zip xs).mergeSort leV).map (·.2)).Perm xs := by
          have := pr.map (·.2)
          rwa [List.map_snd_zip (by omega)] at this
        refine List.Perm.eq_of_pairwise (le := LeP) (fun a b ha hb h1 h2 => ?_) (List.pairwise_map.mpr (pw.imp fun h => ?_)) (sortD_pw xs) (pp.trans (sortD_perm xs).symm)
        · have ha := pp.subset ha
          have hb := (sortD_perm xs).subset hb
          exact ltP_anti (c2 a ha b hb) (plain_up 59 _ (pm a ha)) (plain_up 59 _ (pm b hb)) h2 h1
        · rw [leV_eq] at h
          simpa [LeP] using h
      rw [← e]
      exact drs_of fun p hp => hm p (pr.subset hp)
  · cases h
end
end Ev

-- part Ev5o
set_option maxHeartbeats 1000000
/-! Ev5o: sorted of lists, sets of texts. -/
namespace Ev
open PySem PySem.Spec PyProof.Rows L2
theorem risingS_pw : ∀ {l : List Str} {p : Str}, risingS p l = true → (p :: l).Pairwise (fun a b => leS a b = true)
  | [], p, _ => .cons (by simp) .nil
  | x :: r, p, h => by
    have h : (!ltCps x.cps.toList p.cps.toList && risingS x r) = true := h
    rw [Bool.and_eq_true] at h
    have ih := risingS_pw h.2
    have hp : leS p x = true := by
      unfold leS
      rw [← ltCps_eq]
      exact h.1
    refine .cons (fun w hw => ?_) ih
    rcases List.mem_cons.mp hw with rfl | hw
    · exact hp
    · exact leS_trans hp ((List.pairwise_cons.mp ih).1 w hw)
theorem sortedS_pw {l : List Str} (h : sortedS l = true) : l.Pairwise (fun a b => leS a b = true) := by
  cases l with
  | nil => exact .nil
  | cons x r => exact risingS_pw h
theorem leS_refl (a : Str) : leS a a = true := by rcases leS_total a a with h | h <;> exact h
theorem mem_putS (z x : Str) : ∀ (l : List Str), z ∈ putS x l ↔ z = x ∨ z ∈ l
  | [] => by simp [putS]
  | y :: ys => by
    unfold putS
    split
    · rename_i e; subst e; simp
    · split
      · simp
      · rw [List.mem_cons, mem_putS z x ys, List.mem_cons]
        constructor
        · rintro (h | h | h) <;> simp [h]
        · rintro (h | h | h) <;> simp [h]
theorem mem_setS (z : Str) : ∀ (l : List Str), z ∈ setS l ↔ z ∈ l
  | [] => by simp [setS]
  | x :: xs => by
    show z ∈ putS x (setS xs) ↔ _
    rw [mem_putS, mem_setS z xs, List.mem_cons]
def LtS (a b : Str) : Prop := leS a b = true ∧ a ≠ b
theorem putS_pw (x : Str) : ∀ {l : List Str}, l.Pairwise LtS → (putS x l).Pairwise LtS
  | [], _ => .cons (by simp) .nil
  | y :: ys, h => by
    obtain ⟨h1, h2⟩ := List.pairwise_cons.mp h
    unfold putS
    split
    · exact h
    · rename_i ne
      split
      · rename_i le
        refine .cons (fun w hw => ?_) h
        rcases List.mem_cons.mp hw with rfl | hw
        · exact ⟨le, ne⟩
        · obtain ⟨l1, n1⟩ := h1 w hw
          refine ⟨leS_trans le l1, fun e => ?_⟩
          subst e
          exact n1 (leS_anti l1 le)
      · rename_i le
        have le' : leS y x = true := by
          rcases leS_total x y with h | h
          · exact absurd h le
          · exact h
        refine .cons (fun w hw => ?_) (putS_pw x h2)
        rcases (mem_putS w x ys).mp hw with rfl | hw
        · exact ⟨le', fun e => ne e.symm⟩
        · exact h1 w hw
theorem setS_pw : ∀ (l : List Str), (setS l).Pairwise LtS
  | [] => .nil
  | x :: xs => putS_pw x (setS_pw xs)
theorem setS_nodup (l : List Str) : (setS l).Nodup := (setS_pw l).imp fun h => h.2
theorem setS_perm {ks xs : List Str} (nd : ks.Nodup) (hm : ∀ z, z ∈ ks ↔ z ∈ xs) : ks.Perm (setS xs) :=
  (List.perm_ext_iff_of_nodup nd (setS_nodup xs)).mpr fun z => by rw [hm z, mem_setS]
theorem setS_unique {ns ks xs : List Str} (nd : ks.Nodup) (hm : ∀ z, z ∈ ks ↔ z ∈ xs) (hp : ns.Perm ks) (hs : ns.Pairwise (fun a b => leS a b = true)) : ns = setS xs :=
  List.Perm.eq_of_pairwise (fun a b _ _ => leS_anti) hs ((setS_pw xs).imp fun h => h.1) (hp.trans (setS_perm nd hm))
section
variable {X : Cx} {W : WX} {c : CallT} {K : PySem.W.Frag} {mg : Str → Option Value} {F F' : Addr → Prop} {H H' H0 : Hp} {v u : V} {σ σ' : L2.St} {r r' r0 : Env} {Q : VK} {e a b d tg : Expr} {pos p p2 p3 apos cpos : Pos}
/-- a new list that nobody has -/
theorem Then.own {xs : List D} {us : List V} {q : Addr} (t : Then K mg F H σ r (.own xs) Q) (fr : FR K mg F H σ r) (hq : H q = none) (h : ∀ {H'}, (∀ a o, F a → H a = some o → H' a = some o) → DRs K mg F H' xs us) : Q (.ref q) (upd H q (.lst us)) :=
  t F _ _ (Ext.alloc hq (fun _ f => f) fun _ f => .inl f) (fr.alloc hq (fun _ f => f) fun _ f => .inl f) (.own (upd_same ..) (h fun a o _ e => upd_new hq e) (fun z => fr.ftr q z hq) (fun z => fr.ownH z hq) hq)
theorem bis_sorted : BiS K mg (fun xs H Q => (rSortedI K xs H Q ∨ rSortedS K xs H Q) ∨ rSortedG K xs H Q) (biOp .sorted) := by
  intro F H σ r ds vs w Q fr h1 h t
  obtain ⟨d, rfl⟩ := ds1 h rfl fun a b r => by cases a <;> rfl
  obtain ⟨v, rfl, q⟩ := rws1 h1
  cases d with
  | lst xs =>
    obtain ⟨a, us, rfl, s1, q1⟩ := rw_lst q
    have h : (match intsD xs with
      | some ns => some (RV.own ((sortI ns).map D.int))
      | none => (match strsD xs with
        | some ss => if ss.length < 64 then some (.own ((sortS ss).map D.str)) else none
        | none => (sortG xs).map RV.own)) = some w := h
    cases e : intsD xs with
    | some ns =>
      rw [e] at h
      cases h
      rw [drs_ints q1 e] at s1
      refine .inl (.inl ⟨a, ns, rfl, SqL.of s1, fun ns' p hp hs hH => ?_⟩)
      rw [sortI_unique hp hs]
      exact t.own fr hH fun _ => drs_mapInt _
    | none =>
      rw [e] at h
      cases e2 : strsD xs with
      | none =>
        rw [e2] at h
        obtain ⟨ys, h1, rfl⟩ := map_someS (show (sortG xs).map RV.own = some w from h)
        exact .inr (rSortedG_of (b := true) q1 (SqL.of s1) h1 fun us' p hp hD => t.own fr hp fun hk => hD.mono (fun _ f => f) (by assumption))
      | some ss =>
        rw [e2] at h
        have h : (if ss.length < 64 then some (RV.own ((sortS ss).map D.str)) else none) = some w := h
        split at h
        · rename_i hl
          cases h
          rw [drs_strs q1 e2] at s1
          refine .inl (.inr ⟨a, ss, rfl, SqL.of s1, hl, fun ys p hp hs hH => ?_⟩)
          rw [sortS_unique hp (sortedS_pw hs)]
          exact t.own fr hH fun _ => drs_mapStr _
        · cases h
  | tup xs =>
    obtain ⟨a, us, rfl, s1, q1, _⟩ := rw_tup q
    obtain ⟨ys, h1, rfl⟩ := map_someS (show (sortG xs).map RV.own = some w from h)
    exact .inr (rSortedG_of (b := false) q1 s1 h1 fun us' p hp hD => t.own fr hp fun hk => hD.mono (fun _ f => f) (by assumption))
  | _ => cases h
theorem cr_sortedA (hu : X.A.units + 64 < cLine) : CallR X (.builtin "sorted") (fun xs H Q => (rSortedI X.K xs H Q ∨ rSortedS X.K xs H Q) ∨ rSortedG X.K xs H Q) := (cr_sortedI.or cr_sortedS).or (cr_sortedG hu)
/-! ### sorted(set(xs)), len(set(xs)) -/
def tSortSet (K : PySem.W.Frag) (ta : TE) : TE := fun σ H Q => ta σ H fun x H1 => ∃ l, ∃ xs : List Str, x = .ref l ∧ SqL K H1 l (xs.map V.str) ∧ xs.length < 64 ∧ ∀ q, H1 q = none → Q (.ref q) (upd H1 q (.lst ((setS xs).map V.str)))
def tLenSetS (K : PySem.W.Frag) (ta : TE) : TE := fun σ H Q => ta σ H fun x H1 => ∃ l, ∃ xs : List Str, x = .ref l ∧ SqL K H1 l (xs.map V.str) ∧ xs.length < 64 ∧ Q (.int (setS xs).length) H1
theorem vals_strs : ∀ {ns : List Str} {us : List Value}, StrsAre us ns → Vals (ns.map V.str) us
  | _, _, .nil => .nil
  | _, _, .cons n t h => .cons ⟨t, rfl⟩ (vals_strs h)
theorem pe_sortSet {ta : TE} (hc : X.calm = true) (hg : Gl X "sorted") (hm : X.mg "sorted" = none) (hg2 : Gl X "set") (hm2 : X.mg "set" = none) (ha : PE X a ta) (na : starEach [a] X.env = (false, eval a X.env) :: starEach [] X.env) :
    PE X (.Call (.Name "sorted" p) [.Call (.Name "set" p2) [a] [] p3] [] pos) (tSortSet X.K ta) := by
  refine ⟨fun pins s σ H Q I h => ?_⟩
  refine Call_ (ld_blt I hg hm boot_sorted ?_)
  refine PyProof.Rows.callWith_builtin1 (PyProof.Rows.args_cons ?_ rfl) rfl rfl
  refine Call_ (ld_blt I hg2 hm2 boot_set ?_)
  refine PyProof.Rows.callWith_type1 (PyProof.Rows.args_cons (thn (ha.run pins s σ H _ I h) fun v s1 ⟨x, H1, I1, r1, q1⟩ => PyProof.Rows.args_nil ?_) na) na rfl
  obtain ⟨l, xs, rfl, hq, h1, q1⟩ := q1
  cases r1
  obtain ⟨its, r, pl, hz⟩ := I1.list hq
  refine call_set_texts (I1.ok.hd hc) pl.isList (by simpa using strsAre_of r) h1 fun h' tk ks hS hk hl64 kp => ?_
  refine PyProof.Rows.args_nil ?_
  have I2 : Inv X pins σ H1 { s1 with heap := h', toks := tk } := I1.kept kp
  refine sorted_texts (s := { s1 with heap := h', toks := tk }) hS (I1.ok.hd hc) hl64 fun s' q out cc ns k g o hp hg' hi pm hs => ?_
  obtain ⟨_, _, _, _, _, nd⟩ := hS
  have e := setS_unique nd hk pm (sortedS_pw hs)
  subst e
  have hlen : (setS xs).length < 64 := by rw [pm.length_eq]; exact hl64
  have hlen : ((setS xs).map V.str).length ≤ sizeLine := by rw [List.length_map, sizeLine_eq]; omega
  have hn : H1 q = none := I2.hok.fresh hp
  have J : Inv X pins σ (upd H1 q (.lst ((setS xs).map V.str))) { ({ s1 with heap := h', toks := tk } : Shared) with heap := s'.heap, gens := s'.gens, drawn := s'.drawn, toks := s'.toks } :=
    I2.call (ch := []) (Un.laid k hp hn) (I2.hok.laid k hp ⟨hlen, out.toList, cc, vals_strs hi, hg'⟩) (by rw [g]; exact I2.bare) (fun _ z => nomatch z)
  have e : s' = { ({ s1 with heap := h', toks := tk } : Shared) with heap := s'.heap, gens := s'.gens, drawn := s'.drawn, toks := s'.toks } := by
    cases s'
    cases s1
    cases o
    rfl
  rw [e]
  exact ⟨.ref q, _, J, rfl, q1 q hn⟩
theorem pe_lenSetS {ta : TE} (hc : X.calm = true) (hg : Gl X "len") (hm : X.mg "len" = none) (hg2 : Gl X "set") (hm2 : X.mg "set" = none) (ha : PE X a ta) (na : starEach [a] X.env = (false, eval a X.env) :: starEach [] X.env) :
    PE X (.Call (.Name "len" p) [.Call (.Name "set" p2) [a] [] p3] [] pos) (tLenSetS X.K ta) := by
  refine ⟨fun pins s σ H Q I h => ?_⟩
  refine Call_ (ld_blt I hg hm boot_len ?_)
  refine PyProof.Rows.callWith_builtin1 (PyProof.Rows.args_cons ?_ rfl) rfl rfl
  refine Call_ (ld_blt I hg2 hm2 boot_set ?_)
  refine PyProof.Rows.callWith_type1 (PyProof.Rows.args_cons (thn (ha.run pins s σ H _ I h) fun v s1 ⟨x, H1, I1, r1, q1⟩ => PyProof.Rows.args_nil ?_) na) na rfl
  obtain ⟨l, xs, rfl, hq, h1, q1⟩ := q1
  cases r1
  obtain ⟨its, r, pl, hz⟩ := I1.list hq
  refine call_set_texts (I1.ok.hd hc) pl.isList (by simpa using strsAre_of r) h1 fun h' tk ks hS hk hl64 kp => ?_
  refine PyProof.Rows.args_nil ?_
  have I2 : Inv X pins σ H1 { s1 with heap := h', toks := tk } := I1.kept kp
  obtain ⟨⟨es, ep, t⟩, ho, F, _, _, nd⟩ := hS
  have hes : es.size = ks.length := F.sz
  refine call_len_set (s := { s1 with heap := h', toks := tk }) ho ⟨rfl, rfl, rfl⟩ rfl F.fit (by rw [hes]; omega) ⟨.int (setS xs).length, H1, I2.tok _, ⟨_, by rw [hes, (setS_perm nd hk).length_eq]⟩, q1⟩
/-- one argument, read -/
theorem bi1_reads {bi : Bi} {m : E} {σ : L2.St} {H : Hp} {Q : VK} (h : tEv K mg W (evE c (.bi bi [m])) σ H Q) :
    tEv K mg W (evE c m) σ H fun v H1 => ∃ F1 r1 d w, FR K mg F1 H1 σ r1 ∧ RW K mg F1 H1 d v ∧ biOp bi [d] = some w ∧ Then K mg F1 H1 σ r1 w Q := by
  obtain ⟨F, r, fr, g⟩ := h
  have g : Goes K mg W F H σ r (M.bind (M.bind (evE c m) fun v => M.bind (M.pure []) fun vs => M.pure (v :: vs)) (fun vs => withLooks vs fun ds => liftO (biOp bi ds)) r) _ := g
  refine ⟨F, r, fr, ?_⟩
  unfold M.bind at g
  cases h1 : evE c m r with
  | stuck => rw [h1] at g; exact g.elim
  | exc x r1 => rw [h1] at g; exact g
  | ok w r1 =>
    rw [h1] at g
    intro F1 H1 x1 fr1 v rv
    have g : Goes K mg W F H σ r (withLooks [w] (fun ds => liftO (biOp bi ds)) r1) _ := g
    obtain ⟨ds, ld, g2⟩ := g.looks0
    obtain ⟨d, hd1, hd2⟩ : ∃ d, ds = [d] ∧ look r1 w = some d := by
      have e1 := looks_len ld
      match ds, e1 with
      | [d], _ =>
        obtain ⟨w', hw', hl'⟩ := looks_get (j := 0) ld rfl
        cases hw'
        exact ⟨d, rfl, hl'⟩
    subst hd1
    cases ht : biOp bi [d] with
    | none => rw [ht] at g2; exact g2.elim
    | some w' =>
      rw [ht] at g2
      exact ⟨F1, r1, d, w', fr1, rv.look fr1 hd2, ht, fun F2 H2 z x2 fr2 rv2 => Goes.ok0 (g2 : Goes K mg W F H σ r (.ok w' r1) _) (x1.trans x2) fr2 z (rv2.base fun a e => x1.there a e)⟩
theorem pev_sortSet {m : E} (hc : X.calm = true) (hg : Gl X "sorted") (hm : X.mg "sorted" = none) (hg2 : Gl X "set") (hm2 : X.mg "set" = none) (ha : PE X a (tEv X.K X.mg W (evE c m))) (hn : noStar a = true) :
    PE X (.Call (.Name "sorted" p) [.Call (.Name "set" p2) [a] [] p3] [] pos) (tEv X.K X.mg W (evE c (.bi .sortedSet [m]))) := by
  refine pe_imp (pe_sortSet hc hg hm hg2 hm2 ha (star_cons hn)) fun σ H Q h => ?_
  obtain ⟨F, r, fr, g⟩ := bi1_reads h
  refine ⟨F, r, fr, g.imp fun w r1 F1 H1 _ x1 fr1 k v rv => ?_⟩
  obtain ⟨F1', r1', d, w', f1, q1, q2, t⟩ := k v rv
  cases d with
  | lst xs =>
    have q2 : ((strsD xs).bind fun ss => if ss.length < 64 then some (RV.own ((setS ss).map D.str)) else none) = some w' := q2
    cases e2 : strsD xs with
    | none => rw [e2] at q2; cases q2
    | some ss =>
      rw [e2] at q2
      have q2 : (if ss.length < 64 then some (RV.own ((setS ss).map D.str)) else none) = some w' := q2
      split at q2
      · rename_i hl
        cases q2
        obtain ⟨a, us, rfl, s1, q3⟩ := rw_lst q1
        rw [drs_strs q3 e2] at s1
        exact ⟨a, ss, rfl, SqL.of s1, hl, fun q hq => t.own f1 hq fun _ => drs_mapStr _⟩
      · cases q2
  | _ => cases q2
theorem pev_lenSet {m : E} (hc : X.calm = true) (hg : Gl X "len") (hm : X.mg "len" = none) (hg2 : Gl X "set") (hm2 : X.mg "set" = none) (ha : PE X a (tEv X.K X.mg W (evE c m))) (hn : noStar a = true) :
    PE X (.Call (.Name "len" p) [.Call (.Name "set" p2) [a] [] p3] [] pos) (tEv X.K X.mg W (evE c (.bi .lenSet [m]))) := by
  refine pe_imp (pe_lenSetS hc hg hm hg2 hm2 ha (star_cons hn)) fun σ H Q h => ?_
  obtain ⟨F, r, fr, g⟩ := bi1_reads h
  refine ⟨F, r, fr, g.imp fun w r1 F1 H1 _ x1 fr1 k v rv => ?_⟩
  obtain ⟨F1', r1', d, w', f1, q1, q2, t⟩ := k v rv
  cases d with
  | lst xs =>
    have q2 : ((strsD xs).bind fun ss => if ss.length < 64 then some (RV.val (.int (setS ss).length)) else none) = some w' := q2
    cases e2 : strsD xs with
    | none => rw [e2] at q2; cases q2
    | some ss =>
      rw [e2] at q2
      have q2 : (if ss.length < 64 then some (RV.val (.int (setS ss).length)) else none) = some w' := q2
      split at q2
      · rename_i hl
        cases q2
        obtain ⟨a, us, rfl, s1, q3⟩ := rw_lst q1
        rw [drs_strs q3 e2] at s1
        exact ⟨a, ss, rfl, SqL.of s1, hl, t.int f1⟩
      · cases q2
  | _ => cases q2
end
end Ev

-- part EvS2
set_option maxHeartbeats 3200000
/-! EvS2: tuple(zip(xs, ys)). -/
namespace Ev
open PySem PySem.Spec PyProof.Rows L2
/-- the zip at turn i; S: the list that is filled -/
def ZS (z TI TO i1 i2 l1 l2 S : Addr) (xs ys : Array Value) (i : Nat) (h : Heap) : Prop :=
  IsPair h TI (.ref i1) (.ref i2) ∧ h.IsListIter i1 l1 i ∧ h.IsListIter i2 l2 i ∧ h.IsList l1 xs ∧ h.IsList l2 ys ∧ (∃ o, h.get? TO = some o) ∧
    ((IsZip h z TI TO .none ∧ ∃ a b, IsPair h TO a b) ∨ ∃ T f oT, IsZipHeld h z TI TO T f ∧ h.get? T = some oT ∧ T ≠ z ∧ T ≠ i1 ∧ T ≠ i2 ∧ T ≠ S)
/-- the pairs that were given out -/
def ZP (b0 : Nat) (wr : List Addr) (xs ys : Array Value) (Ts : List Addr) (h : Heap) : Prop :=
  Ts.Nodup ∧ ∀ (j : Nat) (T : Addr), Ts[j]? = some T → b0 ≤ T ∧ T ∉ wr ∧ ∃ x y, xs[j]? = some x ∧ ys[j]? = some y ∧ IsPair h T x y
section
variable {prog : Program} {w : World} {A : Around} {E : Value → Shared → Prop} {R : Result → Shared → Prop} {z TI TO i1 i2 l1 l2 S : Addr} {xs ys : Array Value} {b0 : Nat}
theorem ZS.keep {i : Nat} {h h' : Heap} (x : ZS z TI TO i1 i2 l1 l2 S xs ys i h) (hd : S ∉ [z, TI, TO, i1, i2, l1, l2]) (hk : ∀ b o, b ≠ S → h.get? b = some o → h'.get? b = some o) : ZS z TI TO i1 i2 l1 l2 S xs ys i h' := by
  simp only [List.mem_cons, List.not_mem_nil, or_false, not_or] at hd
  obtain ⟨dz, dTI, dTO, di1, di2, dl1, dl2⟩ := hd
  obtain ⟨hTI, h1, h2, hl1, hl2, ⟨oTO, hoTO⟩, hz⟩ := x
  refine ⟨hk _ _ (Ne.symm dTI) hTI, h1.at fun o e => hk _ o (Ne.symm di1) e, h2.at fun o e => hk _ o (Ne.symm di2) e, hl1.at fun o e => hk _ o (Ne.symm dl1) e, hl2.at fun o e => hk _ o (Ne.symm dl2) e, ⟨oTO, hk _ _ (Ne.symm dTO) hoTO⟩, ?_⟩
  rcases hz with ⟨hz, a, b, hTO⟩ | ⟨T, f, oT, hz, hT, r1, r2, r3, r4⟩
  · exact .inl ⟨hk _ _ (Ne.symm dz) hz, a, b, hk _ _ (Ne.symm dTO) hTO⟩
  · exact .inr ⟨T, f, oT, hk _ _ (Ne.symm dz) hz, hk _ _ r4 hT, r1, r2, r3, r4⟩
theorem ZP.keep {wr : List Addr} {Ts : List Addr} {h h' : Heap} (x : ZP b0 wr xs ys Ts h) (hk : ∀ b o, b ∉ wr → h.get? b = some o → h'.get? b = some o) : ZP b0 wr xs ys Ts h' := by
  refine ⟨x.1, fun j T e => ?_⟩
  obtain ⟨h1, h2, a, b, h3, h4, h5⟩ := x.2 j T e
  exact ⟨h1, h2, a, b, h3, h4, hk T _ h2 h5⟩
theorem ZP.push {wr : List Addr} {Ts : List Addr} {h : Heap} {T : Addr} {x y : Value} (p : ZP b0 wr xs ys Ts h) (hn : T ∉ Ts) (hb : b0 ≤ T) (hw : T ∉ wr) (hx : xs[Ts.length]? = some x) (hy : ys[Ts.length]? = some y) (hp : IsPair h T x y) : ZP b0 wr xs ys (Ts ++ [T]) h := by
  refine ⟨?_, fun j U e => ?_⟩
  · rw [List.nodup_append]
    refine ⟨p.1, by simp, fun a ha b hb => ?_⟩
    rw [List.mem_singleton.mp hb]
    exact fun e => hn (by rw [← e]; exact ha)
  · rw [List.getElem?_append] at e
    split at e
    · exact p.2 j U e
    · have hj : j = Ts.length := by
        by_cases hz : j - Ts.length = 0
        · omega
        · rw [List.getElem?_cons] at e
          rw [if_neg hz] at e
          simp at e
      subst hj
      simp at e
      subst e
      exact ⟨hb, hw, x, y, hx, hy, hp⟩
theorem zip_loop (hh : A.in1.handled = none) (D : ZipApart z TI TO i1 i2 l1 l2) (hd : S ∉ [z, TI, TO, i1, i2, l1, l2]) (res : Value) (hn : min xs.size ys.size ≤ sizeLine) :
    ∀ (k i : Nat) (s : Shared) (acc : Array Value) (c : Nat) (Ts : List Addr), min xs.size ys.size - i = k → i ≤ min xs.size ys.size → ZS z TI TO i1 i2 l1 l2 S xs ys i s.heap → s.heap.get? S = some { cls := .type "list", dict := none, data := .seq acc c, slots := #[] } →
      acc.toList = Ts.map Value.ref → Ts.length = i → ZP b0 [S, z, TO, i1, i2] xs ys Ts s.heap → b0 ≤ s.heap.objs.size →
      (∀ s' acc' c' Ts', Moved [S, z, TO, i1, i2] (fun a b => a = b) s s' → s'.heap.get? S = some { cls := .type "list", dict := none, data := .seq acc' c', slots := #[] } → acc'.toList = Ts'.map Value.ref → Ts'.length = min xs.size ys.size → ZP b0 [S, z, TO, i1, i2] xs ys Ts' s'.heap → R (.ok (.ret res)) s') →
      codeAny (model prog w) A (.builtin "list.extend.loop" ⟨[.ref S, .ref z, res], []⟩) R s := by
  have dS : S ≠ z ∧ S ≠ TO ∧ S ≠ i1 ∧ S ≠ i2 := by
    simp only [List.mem_cons, List.not_mem_nil, or_false, not_or] at hd
    exact ⟨hd.1, hd.2.2.1, hd.2.2.2.1, hd.2.2.2.2.1⟩
  intro k
  induction k with
  | zero =>
    intro i s acc c Ts hk hi hst hS ha hl hp hb hR
    have hin : i = min xs.size ys.size := by omega
    subst hin
    refine codeAny_builtin F.entry_extend_loop ?_
    rw [Around.under_plainId F.plain_extend_loop _]
    show wpAny _ A.in1 (pyNext (.ref z) >>= _) _ _ s
    obtain ⟨hTI, h1, h2, hl1, hl2, ⟨oTO, hoTO⟩, hz⟩ := hst
    have hend : xs[min xs.size ys.size]? = none ∨ ys[min xs.size ys.size]? = none := by
      rcases Nat.le_total xs.size ys.size with h | h
      · exact .inl (Array.getElem?_eq_none (by rw [Nat.min_eq_left h]; exact Nat.le_refl _))
      · exact .inr (Array.getElem?_eq_none (by rw [Nat.min_eq_right h]; exact Nat.le_refl _))
    have fin : ∀ h' : Heap, (∀ c o, c ∉ [z, TO, i1, i2] → s.heap.get? c = some o → h'.get? c = some o) → R (.ok (.ret res)) { s with heap := h' } := fun h' hkp => by
      refine hR { s with heap := h' } acc c Ts ⟨fun b o hb e => hkp b o (fun z => hb (List.mem_cons_of_mem _ z)) e, rfl, rfl, rfl, Nat.le_refl _⟩ (hkp S _ (by simp [dS.1, dS.2.1, dS.2.2.1, dS.2.2.2]) hS) ha hl (hp.keep fun b o hb e => hkp b o (fun z => hb (List.mem_cons_of_mem _ z)) e)
    rcases hz with ⟨hz, a, b, hTO⟩ | ⟨T, f, oT, hz, hT, r1, r2, r3, r4⟩
    · exact wpAny_bind (wpAny_pyNext_zip_end hh D hz hTI hTO h1 h2 hl1 hl2 hend fun h' hk => wpAny_pure (fin h' fun c o hc e => hk c o (fun x => hc (by simp [x])) (fun x => hc (by simp [x])) (fun x => hc (by simp [x])) (fun x => hc (by simp [x])) e))
    · exact wpAny_bind (wpAny_pyNext_zip_end_held hh D hz hT hTI h1 h2 hl1 hl2 hend fun h' hk => wpAny_pure (fin h' fun c o hc e => hk c o (fun x => hc (by simp [x])) (fun x => hc (by simp [x])) (fun x => hc (by simp [x])) e))
  | succ k ih =>
    intro i s acc c Ts hk hi hst hS ha hl hp hb hR
    have hix : i < xs.size := by omega
    have hiy : i < ys.size := by omega
    have ex := Array.getElem?_eq_getElem hix
    have ey := Array.getElem?_eq_getElem hiy
    refine codeAny_builtin F.entry_extend_loop ?_
    rw [Around.under_plainId F.plain_extend_loop _]
    show wpAny _ A.in1 (pyNext (.ref z) >>= _) _ _ s
    obtain ⟨hTI, h1, h2, hl1, hl2, ⟨oTO, hoTO⟩, hz⟩ := hst
    have lt : ∀ {c o}, s.heap.get? c = some o → s.heap.objs.size ≠ c := fun e => Nat.ne_of_gt (Heap.lt_size e)
    have n1 : s.heap.objs.size ≠ i1 := let ⟨_, e, _⟩ := h1; lt e
    have n2 : s.heap.objs.size ≠ i2 := let ⟨_, e, _⟩ := h2; lt e
    have nS : s.heap.objs.size ≠ S := lt hS
    have asz : acc.size = i := by rw [← Array.length_toList, ha, List.length_map]; exact hl
    have step : ∀ h' : Heap, ZS z TI TO i1 i2 l1 l2 S xs ys (i + 1) h' → IsPair h' s.heap.objs.size xs[i] ys[i] → h'.objs.size = s.heap.objs.size + 1 → s.heap.objs.size ∉ [S, z, TO, i1, i2] → (∀ c o, c ∉ [z, TO, i1, i2] → s.heap.get? c = some o → h'.get? c = some o) →
        wpAny (model prog w) A.in1 (updateSeq S (·.push (.ref s.heap.objs.size)) >>= fun _ => again (.builtin "list.extend.loop" ⟨[.ref S, .ref z, res], []⟩)) (fun fin s' => match fin with | .done f => R (.ok f) s' | .again c' => c'.quiet = true ∧ codeAny (model prog w) A c' R s') (fun e s' => R (.error e) s') { s with heap := h' } := by
      intro h' st' pr sz' nw hkp
      have hS' : h'.get? S = some { cls := .type "list", dict := none, data := .seq acc c, slots := #[] } := hkp S _ (by simp [dS.1, dS.2.1, dS.2.2.1, dS.2.2.2]) hS
      refine wpAny_bind ?_
      have oth : ∀ b o, b ≠ S → h'.get? b = some o → (h'.update S (Obj.mapSeq (·.push (.ref s.heap.objs.size)))).get? b = some o := fun b o hb e => (Heap.get?_update_other _ _ (Ne.symm hb)).trans e
      refine wpAny_updateSeq (s := { s with heap := h' }) hS' rfl (wpAny_pure ⟨plainId_quiet F.plain_extend_loop _, ih (i + 1) _ (acc.push (.ref s.heap.objs.size)) _ (Ts ++ [s.heap.objs.size]) (by omega) (by omega) (st'.keep hd oth) (Heap.get?_update_self _ hS' rfl) (by simp [ha]) (by simp [hl]) ?_ ?_ fun s'' acc' c' Ts' hm'' hS'' ha' hl' hp' => ?_⟩) (by rw [asz]; omega) (by rw [Array.size_push, asz]; omega)
      · have p1 : ZP b0 [S, z, TO, i1, i2] xs ys Ts h' := hp.keep fun b o hb e => hkp b o (fun z => hb (List.mem_cons_of_mem _ z)) e
        have p2 : ZP b0 [S, z, TO, i1, i2] xs ys (Ts ++ [s.heap.objs.size]) h' := by
          refine p1.push (fun hm => ?_) hb nw (by rw [hl]; exact ex) (by rw [hl]; exact ey) pr
          obtain ⟨j, hj⟩ := List.getElem?_of_mem hm
          obtain ⟨_, _, _, _, _, _, hpj⟩ := hp.2 j _ hj
          exact lt hpj rfl
        exact p2.keep fun b o hb e => oth b o (fun z => hb (by rw [z]; exact List.mem_cons_self)) e
      · show b0 ≤ (h'.update S _).objs.size
        rw [Heap.size_update, sz']
        omega
      · have m1 : Moved [S, z, TO, i1, i2] (fun a b => a = b) s { s with heap := h'.update S (Obj.mapSeq (·.push (.ref s.heap.objs.size))) } :=
          ⟨fun b o hb e => oth b o (fun z => hb (by rw [z]; exact List.mem_cons_self)) (hkp b o (fun z => hb (List.mem_cons_of_mem _ z)) e), rfl, rfl, rfl, Nat.le_refl _⟩
        exact hR s'' acc' c' Ts' (Moved.trans (fun _ _ _ h g => h.trans g) m1 hm'') hS'' ha' hl' hp'
    rcases hz with ⟨hz, a, b, hTO⟩ | ⟨T, f, oT, hz, hT, r1, r2, r3, r4⟩
    · refine wpAny_bind (wpAny_pyNext_zip_item D hz hTI hTO h1 h2 hl1 hl2 ex ey fun h' a1 a2 a3 a4 a5 a6 hk => ?_)
      refine step h' ⟨hk _ _ D.TIz D.TITO D.TIi1 D.TIi2 hTI, a3, a4, hl1.at fun o e => hk _ o D.l1z D.l1TO D.l1i1 D.l1i2 e, hl2.at fun o e => hk _ o D.l2z D.l2TO D.l2i1 D.l2i2 e, ⟨_, a2⟩,
          .inr ⟨s.heap.objs.size, false, _, a1, a5, lt hz, n1, n2, nS⟩⟩ a5 a6 (by simp [nS, lt hz, lt hTO, n1, n2]) fun c o hc e => hk c o (fun x => hc (by simp [x])) (fun x => hc (by simp [x])) (fun x => hc (by simp [x])) (fun x => hc (by simp [x])) e
    · have eTO : s.heap.objs.size ≠ TO := lt hoTO
      refine wpAny_bind (wpAny_pyNext_zip_item_held D hz hT hTI h1 h2 hl1 hl2 ex ey fun h' a1 a3 a4 a5 a6 hk => ?_)
      refine step h' ⟨hk _ _ D.TIz D.TIi1 D.TIi2 hTI, a3, a4, hl1.at fun o e => hk _ o D.l1z D.l1i1 D.l1i2 e, hl2.at fun o e => hk _ o D.l2z D.l2i1 D.l2i2 e, ⟨_, hk _ _ D.TOz D.TOi1 D.TOi2 hoTO⟩,
          .inr ⟨T, true, oT, a1, hk _ _ r1 r2 r3 hT, r1, r2, r3, r4⟩⟩ a5 a6 (by simp [nS, lt hz, n1, n2, eTO]) fun c o hc e => hk c o (fun x => hc (by simp [x])) (fun x => hc (by simp [x])) (fun x => hc (by simp [x])) e
theorem zip_no_len : typeLookup (.type "zip") "__len__" = pure none := am_miss_of_fast (by decide +kernel)
theorem zip_no_hint : typeLookup (.type "zip") "__length_hint__" = pure none := am_miss_of_fast (by decide +kernel)
variable {s : Shared}
theorem collect_zip {Q : List Value → Shared → Prop} (hh : A.handled = none) (D : ZipApart z TI TO i1 i2 l1 l2) (hst : ∀ S, S ∉ [z, TI, TO, i1, i2, l1, l2] → ZS z TI TO i1 i2 l1 l2 S xs ys 0 s.heap) (hlt : ∀ b ∈ [z, TI, TO, i1, i2, l1, l2], b < s.heap.objs.size) (hzt : s.TypeIs (.ref z) "zip") (hz : IsZip s.heap z TI TO .none)
    (hn : min xs.size ys.size ≤ sizeLine)
    (hQ : ∀ (h' : Heap) (tk : Nat) (Ts : List Addr), (∀ b o, b ∉ [z, TO, i1, i2] → s.heap.get? b = some o → h'.get? b = some o) → Ts.length = min xs.size ys.size → ZP (s.heap.objs.size + 1) [s.heap.objs.size, z, TO, i1, i2] xs ys Ts h' → Q (Ts.map Value.ref) { s with heap := h', toks := tk }) :
    wpAny (model prog w) A (collect (.ref z)) Q E s := by
  have hSf : s.heap.objs.size ∉ [z, TI, TO, i1, i2, l1, l2] := fun hm => Nat.lt_irrefl _ (hlt _ hm)
  have hSI : s.heap.objs.size ≠ z := fun e => hSf (by rw [e]; exact List.mem_cons_self)
  have hh1 : A.in1.handled = none := hh
  unfold collect
  refine wpAny_bind (wpAny_runValue (codeAny_builtin F.entry_proto_collect ?_))
  rw [Around.under_plainId F.plain_proto_collect _]
  show wpAny _ A.in1 (newList [] >>= fun l => again (.builtin "list.__iadd__" ⟨[l, .ref z], []⟩)) _ _ s
  refine wpAny_bind (wpAny_newObj_type ?_)
  refine wpAny_pure ⟨plainId_quiet F.plain_list_iadd _, codeAny_builtin F.entry_list_iadd ?_⟩
  rw [Around.under_plainId F.plain_list_iadd _]
  have kp1 : ∀ b o, s.heap.get? b = some o → (s.heap.push { cls := .type "list", data := .seq ([] : List Value).toArray }).get? b = some o := fun b o e => Heap.get?_push_of_some _ e
  have hT1 : Shared.TypeIs { s with heap := s.heap.push { cls := .type "list", data := .seq ([] : List Value).toArray } } (.ref z) "zip" := by
    obtain ⟨o, ho, hc⟩ := hzt
    exact ⟨o, kp1 _ _ ho, hc⟩
  have hz1 : IsZip (s.heap.push { cls := .type "list", data := .seq ([] : List Value).toArray }) z TI TO .none := kp1 _ _ hz
  show wpAny _ A.in1 (Builtin.List.listExtendWith (.ref s.heap.objs.size) (.ref z) (.ref s.heap.objs.size)) _ _ _
  unfold Builtin.List.listExtendWith
  refine wpAny_bind (wpAny_typeOf hT1 ?_)
  have h1 : Builtin.List.listSameRef (.ref s.heap.objs.size) (.ref z) = false := by simp [Builtin.List.listSameRef, hSI]
  have h2 : (Value.type "zip" == Value.type "list") = false := by decide
  have h3 : (Value.type "zip" == Value.type "tuple") = false := by decide
  simp only [h1, h2, h3, Bool.or_false, Bool.false_eq_true, if_false]
  refine wpAny_bind (wpAny_pyIter_zip hz1 ?_)
  refine wpAny_bind (wpAny_holding ?_)
  unfold Builtin.List.listLengthHint
  refine wpAny_bind (wpAny_specialOf hT1 zip_no_len ?_)
  show wpAny _ A.in1 (specialOf (Value.ref z) (Str.ofString "__length_hint__") >>= _) _ _ _
  refine wpAny_bind (wpAny_specialOf hT1 zip_no_hint ?_)
  refine wpAny_pure ?_
  show wpAny _ A.in1 (rule "list.extend.makes-room" >>= fun _ => Builtin.List.listTouch (.ref s.heap.objs.size) >>= fun _ =>
    again (.builtin "list.extend.loop" ⟨[.ref s.heap.objs.size, .ref z, .ref s.heap.objs.size], []⟩)) _ _ _
  refine wpAny_bind (wpAny_rule ?_)
  have hS₁ : (s.heap.push { cls := .type "list", data := .seq ([] : List Value).toArray }).get? s.heap.objs.size = some { cls := .type "list", data := .seq ([] : List Value).toArray } := Heap.get?_push_size _ rfl
  refine wpAny_bind ?_
  show wpAny _ A.in1 (updateSeq s.heap.objs.size (·.push .none) >>= fun _ => updateSeq s.heap.objs.size (·.pop)) _ _ _
  refine wpAny_bind (wpAny_updateSeq hS₁ rfl ?_)
  have hS₂ := Heap.get?_update_self (Obj.mapSeq (·.push Value.none)) hS₁ rfl
  refine wpAny_updateSeq hS₂ rfl ?_
  have hS₃ := Heap.get?_update_self (Obj.mapSeq (·.pop)) hS₂ rfl
  have oth : ∀ b o, b ≠ s.heap.objs.size → s.heap.get? b = some o →
      (((s.heap.push { cls := .type "list", data := .seq ([] : List Value).toArray }).update s.heap.objs.size (Obj.mapSeq (·.push Value.none))).update s.heap.objs.size (Obj.mapSeq (·.pop))).get? b = some o :=
    fun b o hb e => (Heap.get?_update_other _ _ (Ne.symm hb)).trans ((Heap.get?_update_other _ _ (Ne.symm hb)).trans (kp1 b o e))
  have st3 := (hst _ hSf).keep hSf oth
  refine wpAny_pure ⟨plainId_quiet F.plain_extend_loop _, zip_loop (b0 := s.heap.objs.size + 1) hh1 D hSf _ hn _ 0 _ _ _ [] rfl (Nat.zero_le _) st3 hS₃ rfl rfl ⟨.nil, fun j T e => by simp at e⟩ ?_ fun s' acc' c' Ts' hm hS' ha' hl' hp' => ?_⟩
  · have e1 : (((s.heap.push { cls := .type "list", data := .seq ([] : List Value).toArray }).update s.heap.objs.size (Obj.mapSeq (·.push Value.none))).update s.heap.objs.size (Obj.mapSeq (·.pop))).objs.size = s.heap.objs.size + 1 := by
      rw [Heap.size_update, Heap.size_update, Heap.size_push]
    show s.heap.objs.size + 1 ≤ (((s.heap.push { cls := .type "list", data := .seq ([] : List Value).toArray }).update s.heap.objs.size (Obj.mapSeq (·.push Value.none))).update s.heap.objs.size (Obj.mapSeq (·.pop))).objs.size
    rw [e1]
    exact Nat.le_refl _
  show wpAny _ A (load s.heap.objs.size >>= _) _ _ s'
  refine wpAny_bind (wpAny_load hS' ?_)
  refine wpAny_pure ?_
  rw [ha']
  have es : s' = { s with heap := s'.heap, toks := s'.toks } := by
    obtain ⟨h', g2, d', tk', os'⟩ := s'
    have eg : g2 = s.gens := hm.gens.symm
    have ed : d' = s.drawn := hm.drawn
    have eo : os' = s.os := hm.os
    subst eg; subst ed; subst eo
    rfl
  rw [es]
  refine hQ s'.heap s'.toks Ts' (fun b o hb e => ?_) hl' hp'
  have hlt' := Heap.lt_size e
  refine hm.heap b o (fun hmem => ?_) (oth b o (Nat.ne_of_lt hlt') e)
  rcases List.mem_cons.mp hmem with e' | hmem
  · rw [e'] at hlt'; exact Nat.lt_irrefl _ hlt'
  · exact hb hmem
theorem code_tuple_new_zip {Q₁ : Value → Shared → Prop} (hh : A.handled = none) (D : ZipApart z TI TO i1 i2 l1 l2) (hst : ∀ S, S ∉ [z, TI, TO, i1, i2, l1, l2] → ZS z TI TO i1 i2 l1 l2 S xs ys 0 s.heap) (hlt : ∀ b ∈ [z, TI, TO, i1, i2, l1, l2], b < s.heap.objs.size) (hz : IsZip s.heap z TI TO .none)
    (hn : min xs.size ys.size ≤ sizeLine)
    (h : ∀ (h' : Heap) (tk : Nat) (Ts : List Addr), (∀ b o, b ∉ [z, TO, i1, i2] → s.heap.get? b = some o → h'.get? b = some o) → Ts.length = min xs.size ys.size → ZP (s.heap.objs.size + 1) [s.heap.objs.size, z, TO, i1, i2] xs ys Ts h' →
      Q₁ (.ref h'.objs.size) { s with heap := h'.push { cls := .type "tuple", data := .seq (Ts.map Value.ref).toArray }, toks := tk }) :
    codeAny (model prog w) A (.call (.builtin "tuple.__new__") ⟨[.type "tuple", .ref z], []⟩) (wants Q₁ E) s := by
  refine codeAny_of_tree ?_
  show wpAny _ A.in1 (do checkBuiltinCall "tuple.__new__" ⟨[.type "tuple", .ref z], []⟩; again (.builtin "tuple.__new__" ⟨[.type "tuple", .ref z], []⟩)) _ _ s
  refine wpAny_bind (wpAny_of_eq (F.newCall_tuple_1 _) (wpAny_pure ⟨plainId_quiet F.plain_tuple_new _, codeAny_builtin F.entry_tuple_new ?_⟩))
  rw [Around.under_plainId F.plain_tuple_new _]
  have hsub := sub_tuple_self
  have hinit := init_tuple_lookup
  have hmh := madeHere_tuple
  have hTI : s.TypeIs (.ref z) "zip" := ⟨_, hz, rfl⟩
  have hh1 : A.in1.handled = none := hh
  wp_walk using wpAny_typeOf hTI, collect_zip (A := A.in1) hh1 D hst hlt hTI hz hn
  intro h' tk Ts hk hl hp
  show wpAny _ _ (Builtin.Tuple.tupleExact (Ts.map Value.ref).toArray >>= fun v => ret v) _ _ _
  unfold Builtin.Tuple.tupleExact
  refine wpAny_bind (wpAny_newObj_type ?_ (by show (Ts.map Value.ref).toArray.size ≤ sizeLine; rw [List.size_toArray, List.length_map, hl]; exact hn))
  refine wpAny_pure ?_
  exact h h' tk Ts hk hl hp
theorem call_tuple_zip {Q : Value → Shared → Prop} (hh : A.handled = none) (D : ZipApart z TI TO i1 i2 l1 l2) (hst : ∀ S, S ∉ [z, TI, TO, i1, i2, l1, l2] → ZS z TI TO i1 i2 l1 l2 S xs ys 0 s.heap) (hlt : ∀ b ∈ [z, TI, TO, i1, i2, l1, l2], b < s.heap.objs.size) (hz : IsZip s.heap z TI TO .none)
    (hn : min xs.size ys.size ≤ sizeLine)
    (hQ : ∀ (h' : Heap) (tk : Nat) (Ts : List Addr), (∀ b o, b ∉ [z, TO, i1, i2] → s.heap.get? b = some o → h'.get? b = some o) → Ts.length = min xs.size ys.size → ZP (s.heap.objs.size + 1) [s.heap.objs.size, z, TO, i1, i2] xs ys Ts h' →
      Q (.ref h'.objs.size) { s with heap := h'.push { cls := .type "tuple", data := .seq (Ts.map Value.ref).toArray }, toks := tk }) :
    wpAny (model prog w) A (call (.type "tuple") [.ref z]) Q E s := by
  refine callType_codes (Q₁ := fun obj s₁ => s₁.TypeIs obj "tuple" ∧ Q obj s₁) F.called_tuple (F.typeCall_tuple_1 _) F.entry_object_init
    (code_tuple_new_zip (A := A.in1) hh D hst hlt hz hn fun h' tk Ts hk hl hp => ⟨⟨_, Heap.get?_push_size _ rfl, rfl⟩, hQ h' tk Ts hk hl hp⟩) fun obj s₁ h₁ => ?_
  exact ⟨h₁.1, F.args_object_init_2 obj _, object_init_meets F.called_tuple.init.lookup F.called_tuple.made (by decide) prog w A.in1 _ s₁ ⟨h₁.1, rfl, h₁.2⟩⟩
end
section
variable {X : Cx} {a b : Expr} {ta : TA} {p p2 p3 pos : Pos}
theorem vals_getV : ∀ {xs : List V} {us : List Value} {i : Nat} {u : Value}, Vals xs us → us[i]? = some u → ∃ x, xs[i]? = some x ∧ RelV x u
  | _, _, _, _, .nil, e => by simp at e
  | _, _, 0, _, .cons r _, e => by simp at e; subst e; exact ⟨_, rfl, r⟩
  | _, _, i + 1, u, .cons _ t, e => by
    obtain ⟨x, h1, h2⟩ := vals_getV (i := i) (u := u) t (by simpa using e)
    exact ⟨x, by simpa using h1, h2⟩
/-- the pairs' tuples at Ts -/
def PairsAt (H : Hp) (xs ys : List V) (Ts : List Addr) : Prop := Ts.length = min xs.length ys.length ∧ ∀ (j : Nat) (T : Addr), Ts[j]? = some T → ∃ x y, xs[j]? = some x ∧ ys[j]? = some y ∧ H T = some (.tup [x, y])
def tTupZip (K : PySem.W.Frag) (ta : TA) : TE := fun σ H Q => ta σ H fun vs H1 => ∃ a b xs ys, vs = [.ref a, .ref b] ∧ SqL K H1 a xs ∧ SqL K H1 b ys ∧ ∀ H2 Ts q, (∀ c o, H1 c = some o → H2 c = some o) → (∀ T ∈ Ts, H1 T = none) → PairsAt H2 xs ys Ts → H2 q = some (.tup (Ts.map V.ref)) → H1 q = none → Q (.ref q) H2
theorem pe_tupZip (hc : X.calm = true) (hg : Gl X "tuple") (hm : X.mg "tuple" = none) (hg2 : Gl X "zip") (hm2 : X.mg "zip" = none) (ha : PA X [a, b] ta)
    (hs : starEach [a, b] X.env = (false, eval a X.env) :: starEach [b] X.env) (hpl : (backTo p3 (starEach [b] X.env)).any (·.1) = false) :
    PE X (.Call (.Name "tuple" p) [.Call (.Name "zip" p2) [a, b] [] p3] [] pos) (tTupZip X.K ta) := by
  refine ⟨fun pins s σ H Q I h => ?_⟩
  refine Call_ (ld_blt I hg hm boot_tuple (PyProof.Rows.callWith_type1 (PyProof.Rows.args_cons ?_ rfl) rfl rfl))
  refine Call_ (ld_blt I hg2 hm2 PyProof.Rows.boot_zip (PyProof.Rows.callWith_type1 (thn (ha.run p3 pins s σ H _ I h) fun us s1 ⟨vs, H1, I1, r1, q1⟩ => ?_) hs hpl))
  obtain ⟨a, b, xs, ys, ex, hqx, hqy, q⟩ := q1
  subst ex
  cases r1 with
  | cons r rr =>
    cases rr with
    | cons r' rr =>
      cases rr
      cases r
      cases r'
      obtain ⟨its, rv, p1, z1⟩ := I1.list hqx
      obtain ⟨its2, rv2, p2, z2⟩ := I1.list hqy
      refine call_zip_2 p1.isList p2.isList fun h' hz hTI hTO h1 h2 hsz hk => PyProof.Rows.args_nil ?_
      have I2 : Inv X pins σ H1 { s1 with heap := h' } := I1.kept (t' := s1.toks) hk
      have D := PySem.W.ktu_apart s1.heap.objs.size a b p1.lt p2.lt
      have hn : min its.toArray.size its2.toArray.size ≤ sizeLine := by
        have := rv.length
        rw [List.size_toArray, List.size_toArray]
        omega
      have l1 : a < s1.heap.objs.size := p1.lt
      have l2 : b < s1.heap.objs.size := p2.lt
      refine call_tuple_zip (s := { s1 with heap := h' }) (xs := its.toArray) (ys := its2.toArray) (I1.ok.hd hc) D (fun S _ => ⟨hTI, h1, h2, p1.isList.at fun o e => hk _ o e, p2.isList.at fun o e => hk _ o e, ⟨_, hTO⟩, .inl ⟨hz, _, _, hTO⟩⟩) ?_ hz hn fun h'' tk Ts hk2 hl hp => ?_
      · intro c hcm
        show c < h'.objs.size
        rw [hsz]
        simp only [List.mem_cons, List.not_mem_nil, or_false] at hcm
        rcases hcm with e | e | e | e | e | e | e
        · rw [e]; show (s1.heap.objs.size + 4 : Nat) < s1.heap.objs.size + 5; omega
        · rw [e]; show (s1.heap.objs.size + 2 : Nat) < s1.heap.objs.size + 5; omega
        · rw [e]; show (s1.heap.objs.size + 3 : Nat) < s1.heap.objs.size + 5; omega
        · rw [e]; show (s1.heap.objs.size : Nat) < s1.heap.objs.size + 5; omega
        · rw [e]; show (s1.heap.objs.size + 1 : Nat) < s1.heap.objs.size + 5; omega
        · rw [e]; exact Nat.lt_of_lt_of_le l1 (Nat.le_add_right _ _)
        · rw [e]; exact Nat.lt_of_lt_of_le l2 (Nat.le_add_right _ _)
      · have hb : ∀ c, c ∈ [s1.heap.objs.size + 4, s1.heap.objs.size + 3, s1.heap.objs.size, s1.heap.objs.size + 1] → s1.heap.objs.size ≤ c := fun c hcm => by
          simp only [List.mem_cons, List.not_mem_nil, or_false] at hcm
          rcases hcm with e | e | e | e
          · rw [e]; exact Nat.le_add_right _ _
          · rw [e]; exact Nat.le_add_right _ _
          · rw [e]; exact Nat.le_refl _
          · rw [e]; exact Nat.le_add_right _ _
        have kp : ∀ c o, s1.heap.get? c = some o → h''.get? c = some o := fun c o e => hk2 c o (fun hm => Nat.lt_irrefl _ (Nat.lt_of_lt_of_le (Heap.lt_size e) (hb c hm))) (hk c o e)
        have I3 : Inv X pins σ H1 { s1 with heap := h'', toks := tk } := I1.kept kp
        have hlz : Ts.length = min xs.length ys.length := by
          rw [hl, List.size_toArray, List.size_toArray, rv.length, rv2.length]
        obtain ⟨H2, J2, g2, t2⟩ := DX.takeT (P := fun T vs => ∃ (j : Nat) (x y : V), Ts[j]? = some T ∧ xs[j]? = some x ∧ ys[j]? = some y ∧ vs = [x, y]) (h' := h'') (tk := tk) I1 Ts H1 I3 hp.1 fun T hT => by
          obtain ⟨j, hj⟩ := List.getElem?_of_mem hT
          obtain ⟨b1, b2, x, y, hx, hy, pr⟩ := hp.2 j T hj
          have bT : s1.heap.objs.size ≤ T := by
            have e1 : h'.objs.size + 1 ≤ T := b1
            rw [hsz] at e1
            exact Nat.le_trans (by omega : s1.heap.objs.size ≤ s1.heap.objs.size + 5 + 1) e1
          obtain ⟨xv, hxv, rx⟩ := vals_getV rv (by simpa using hx)
          obtain ⟨yv, hyv, ry⟩ := vals_getV rv2 (by simpa using hy)
          refine ⟨bT, I1.hok.fresh bT, [xv, yv], ⟨j, xv, yv, hj, hxv, hyv, rfl⟩, fun H3 => ⟨?_, [x, y], .cons rx (.cons ry .nil), ?_⟩⟩
          · show 2 ≤ sizeLine
            decide
          · exact ⟨_, pr, rfl, _, rfl⟩
        have szq : h''.objs.size = h''.objs.size := rfl
        have J3 : Inv X pins σ (upd H2 h''.objs.size (.tup (Ts.map V.ref))) { s1 with heap := h''.push { cls := .type "tuple", data := .seq (Ts.map Value.ref).toArray }, toks := tk } := by
          refine J2.laid (t' := tk) (fun c o e => Heap.get?_push_of_some _ e) (Nat.le_refl _) ⟨?_, Ts.map Value.ref, vals_refs Ts, IsTup.new _ _⟩
          rw [List.length_map, hlz, sizeLine_eq]
          rw [sizeLine_eq] at z1
          omega
        have nq : H2 h''.objs.size = none := J2.hok.fresh (Nat.le_refl _)
        refine ⟨.ref h''.objs.size, _, J3, rfl, q _ Ts _ (fun c o e => ?_) (fun T hT => ?_) ⟨hlz, fun j T hj => ?_⟩ (upd_same ..) (I3.hok.fresh (Nat.le_refl _))⟩
        · rw [upd_ne (ne_of_none (g2 c o e) nq)]
          exact g2 c o e
        · obtain ⟨j, hj⟩ := List.getElem?_of_mem hT
          obtain ⟨b1, _⟩ := hp.2 j T hj
          have bT : s1.heap.objs.size ≤ T := by
            have e1 : h'.objs.size + 1 ≤ T := b1
            rw [hsz] at e1
            exact Nat.le_trans (by omega : s1.heap.objs.size ≤ s1.heap.objs.size + 5 + 1) e1
          exact I1.hok.fresh bT
        · obtain ⟨vs, ⟨j', x, y, e1, e2, e3, e4⟩, hH⟩ := t2 T (List.mem_of_getElem? hj)
          have ej : j' = j := by
            have b1 := (List.getElem?_eq_some_iff.mp e1)
            have b2 := (List.getElem?_eq_some_iff.mp hj)
            exact (List.getElem_inj hp.1).mp (b1.2.trans b2.2.symm)
          subst ej e4
          exact ⟨x, y, e2, e3, by rw [upd_ne (ne_of_none hH nq)]; exact hH⟩
end
end Ev

-- part Ev5p
set_option maxHeartbeats 1000000
/-! Ev5p: tuple(zip()), calls with keywords, calls of parameters. -/
namespace Ev
open PySem PySem.Spec PyProof.Rows L2
section
variable {X : Cx} {W : WX} {c : CallT} {K : PySem.W.Frag} {mg : Str → Option Value} {F F' : Addr → Prop} {H H' H0 : Hp} {v u : V} {σ σ' : L2.St} {r r' r0 : Env} {Q : VK} {e a b d tg : Expr} {pos p p2 p3 apos cpos : Pos}
theorem FR.grow (h : FR K mg F H σ r) (hk : ∀ a o, H a = some o → H' a = some o) (hf : ∀ a, F a → F' a) (hn : ∀ a, F' a → F a ∨ (H a = none ∧ H' a ≠ none)) : FR K mg F' H' σ r where
  len := h.len
  ftr := fun a f => by
    rcases hn a f with f | ⟨_, f⟩
    · intro z
      cases q : H a with
      | none => exact h.ftr a f q
      | some o => rw [hk a o q] at z; cases z
    · exact f
  val := fun i d e => by
    obtain ⟨v, q1, q2⟩ := h.val i d e
    exact ⟨v, q1, q2.mono hf fun a u _ e => hk a u e⟩
  box := fun i xs e => by
    obtain ⟨a, vs, q1, q2, q3, q4⟩ := h.box i xs e
    refine ⟨a, vs, q1, hk _ _ q2, q3.mono hf fun a u _ e => hk a u e, fun z => ?_⟩
    rcases hn a z with z | ⟨z, _⟩
    · exact q4 z
    · rw [z] at q2; cases q2
  inj := h.inj
theorem Ext.grow {O : Addr → Prop} (hk : ∀ a o, H a = some o → H' a = some o) (hf : ∀ a, F a → F' a) (hn : ∀ a, F' a → F a ∨ (H a = none ∧ H' a ≠ none)) : Ext F H O F' H' O where
  keep := fun a u e _ => hk a u e
  fz := hf
  fnew := fun a f => by
    rcases hn a f with f | ⟨f, _⟩
    · exact .inl f
    · exact .inr (.inr f)
  onew := fun a o => .inl o
  there := fun a e => by
    cases q : H a with
    | none => rfl
    | some o => rw [hk a o q] at e; cases e
theorem drs_pairs : ∀ {xs ys : List D} {us ws : List V} {Ts : List Addr}, DRs K mg F' H' xs us → DRs K mg F' H' ys ws → Ts.length = min us.length ws.length → (∀ (j : Nat) (T : Addr), Ts[j]? = some T → F' T ∧ ∃ x y, us[j]? = some x ∧ ws[j]? = some y ∧ H' T = some (.tup [x, y])) → DRs K mg F' H' (pairsD xs ys) (Ts.map V.ref)
  | [], _, _, _, Ts, .nil, _, hl, _ => by
    have : Ts = [] := List.length_eq_zero_iff.mp (by simpa using hl)
    subst this
    exact .nil
  | _ :: _, [], _, _, Ts, .cons _ _, .nil, hl, _ => by
    have : Ts = [] := List.length_eq_zero_iff.mp (by simpa using hl)
    subst this
    exact .nil
  | x :: xs, y :: ys, _, _, Ts, .cons q t, .cons q' t', hl, hT => by
    cases Ts with
    | nil => simp at hl
    | cons T Ts =>
      obtain ⟨f, x', y', e1, e2, e3⟩ := hT 0 T rfl
      simp at e1 e2
      subst e1 e2
      refine .cons (.tup f (.inl e3) (.cons q (.cons q' .nil))) ?_
      exact drs_pairs t t' (by simp at hl ⊢; omega) fun j U hj => by
        have := hT (j + 1) U (by simpa using hj)
        simpa using this
theorem pev_zipT {ms : List E} (hc : X.calm = true) (hg : Gl X "tuple") (hm : X.mg "tuple" = none) (hg2 : Gl X "zip") (hm2 : X.mg "zip" = none) (ha : PA X [a, b] (tEvA X.K X.mg W (evEs c ms))) (hn : noStar a = true ∧ noStar b = true) :
    PE X (.Call (.Name "tuple" p) [.Call (.Name "zip" p2) [a, b] [] p3] [] pos) (tEv X.K X.mg W (evE c (.bi .zipT ms))) := by
  refine pe_imp (pe_tupZip hc hg hm hg2 hm2 ha (star_cons hn.1) (star_any (by simp [hn.2]))) fun σ H Q ⟨F, r, fr, g⟩ => ?_
  have g : Goes X.K X.mg W F H σ r (M.bind (evEs c ms) (fun vs => withLooks vs fun ds => liftO (biOp .zipT ds)) r) _ := g
  refine ⟨F, r, fr, g.bind.imp fun ws r1 F1 H1 hw x1 fr1 g1 vs rvs => ?_⟩
  obtain ⟨ds, ld, g2⟩ := g1.looks
  obtain ⟨w, hw', g3⟩ := g2.lift
  have rws := rvs.looks fr1 ld
  match ds, rws, hw' with
  | [.lst xs, .lst ys], rws, hw' =>
    cases hw'
    obtain ⟨v1, v2, rfl, q1, q2⟩ := rws2 rws
    obtain ⟨a1, us, rfl, s1, d1⟩ := rw_lst q1
    obtain ⟨a2, us2, rfl, s2, d2⟩ := rw_lst q2
    refine ⟨a1, a2, us, us2, rfl, SqL.of s1, SqL.of s2, fun H2 Ts q hk hT pa hq hq0 => ?_⟩
    have hf : ∀ a, F1 a → (fun a => F1 a ∨ a = q ∨ a ∈ Ts) a := fun a f => .inl f
    have hn' : ∀ a, (fun a => F1 a ∨ a = q ∨ a ∈ Ts) a → F1 a ∨ (H1 a = none ∧ H2 a ≠ none) := fun a f => by
      rcases f with f | f | f
      · exact .inl f
      · subst f
        exact .inr ⟨hq0, by rw [hq]; exact fun z => nomatch z⟩
      · refine .inr ⟨hT a f, ?_⟩
        obtain ⟨j, hj⟩ := List.getElem?_of_mem f
        obtain ⟨x, y, _, _, e⟩ := pa.2 j a hj
        rw [e]
        exact fun z => nomatch z
    have x2 : Ext F1 H1 (Own σ r1) (fun a => F1 a ∨ a = q ∨ a ∈ Ts) H2 (Own σ r1) := Ext.grow hk hf hn'
    have f2 : FR X.K X.mg (fun a => F1 a ∨ a = q ∨ a ∈ Ts) H2 σ r1 := fr1.grow hk hf hn'
    refine g3 _ _ x2 f2 _ (.val (.tup (.inr (.inl rfl)) (.inl hq) (drs_pairs (x2.drs fr1 d1) (x2.drs fr1 d2) pa.1 fun j T hj => ?_)))
    obtain ⟨x, y, e1, e2, e3⟩ := pa.2 j T hj
    exact ⟨.inr (.inr (List.mem_of_getElem? hj)), x, y, e1, e2, e3⟩
end
end Ev

-- part Ev5q
set_option maxHeartbeats 1000000
/-! Ev5q: calls with keywords, calls of parameters. -/
namespace Ev
open PySem PySem.Spec PyProof.Rows L2
theorem nodupB_of : ∀ {l : List Nat}, nodupB l = true → l.Nodup
  | [], _ => .nil
  | i :: is, h => by
    have h : (!is.contains i && nodupB is) = true := h
    rw [Bool.and_eq_true] at h
    refine List.nodup_cons.mpr ⟨?_, nodupB_of h.2⟩
    simpa using h.1
theorem permL_get {α : Type} {xs : List α} : ∀ {is : List Nat} {ys : List α} {j : Nat} {y : α}, permL xs is = some ys → ys[j]? = some y → ∃ i, is[j]? = some i ∧ xs[i]? = some y
  | [], ys, j, y, h, e => by cases h; simp at e
  | i :: is, ys, j, y, h, e => by
    have h : (match xs[i]?, permL xs is with
      | some x, some r => some (x :: r)
      | _, _ => none) = some ys := h
    cases q : xs[i]? with
    | none => rw [q] at h; cases h
    | some x =>
      rw [q] at h
      cases q' : permL xs is with
      | none => rw [q'] at h; cases h
      | some r =>
        rw [q'] at h
        cases h
        cases j with
        | zero => simp at e; subst e; exact ⟨i, rfl, q⟩
        | succ j =>
          obtain ⟨i', h1, h2⟩ := permL_get (j := j) q' (by simpa using e)
          exact ⟨i', by simpa using h1, h2⟩
theorem permL_len {α : Type} {xs : List α} : ∀ {is : List Nat} {ys : List α}, permL xs is = some ys → ys.length = is.length
  | [], ys, h => by cases h; rfl
  | i :: is, ys, h => by
    have h : (match xs[i]?, permL xs is with
      | some x, some r => some (x :: r)
      | _, _ => none) = some ys := h
    cases q : xs[i]? with
    | none => rw [q] at h; cases h
    | some x =>
      rw [q] at h
      cases q' : permL xs is with
      | none => rw [q'] at h; cases h
      | some r => rw [q'] at h; cases h; simp [permL_len q']
theorem permL_some {α β : Type} {xs : List α} {zs : List β} (hl : xs.length = zs.length) : ∀ {is : List Nat} {ys : List α}, permL xs is = some ys → ∃ us, permL zs is = some us
  | [], _, _ => ⟨[], rfl⟩
  | i :: is, ys, h => by
    have h : (match xs[i]?, permL xs is with
      | some x, some r => some (x :: r)
      | _, _ => none) = some ys := h
    cases q : xs[i]? with
    | none => rw [q] at h; cases h
    | some x =>
      rw [q] at h
      cases q' : permL xs is with
      | none => rw [q'] at h; cases h
      | some r =>
        obtain ⟨us, hu⟩ := permL_some hl q'
        have hi : i < zs.length := by rw [← hl]; exact (List.getElem?_eq_some_iff.mp q).1
        refine ⟨zs[i] :: us, ?_⟩
        show (match zs[i]?, permL zs is with
          | some x, some r => some (x :: r)
          | _, _ => none) = _
        rw [List.getElem?_eq_getElem hi, hu]
section
variable {X : Cx} {W : WX} {c : CallT} {K : PySem.W.Frag} {mg : Str → Option Value} {F F' : Addr → Prop} {H H' H0 : Hp} {v u : V} {σ σ' : L2.St} {r r' r0 : Env} {Q : VK} {e a b d tg : Expr} {pos p p2 p3 apos cpos : Pos}
theorem RVRs.of : ∀ {ws : List RV} {vs : List V}, ws.length = vs.length → (∀ (j : Nat) w v, ws[j]? = some w → vs[j]? = some v → RVR K mg H0 F H σ r w v) →
    (∀ (i j : Nat) xs ys a, i ≠ j → ws[i]? = some (.own xs) → ws[j]? = some (.own ys) → vs[i]? = some (.ref a) → vs[j]? = some (.ref a) → False) → RVRs K mg H0 F H σ r ws vs
  | [], [], _, _, _ => .nil
  | [], _ :: _, h, _, _ => by simp at h
  | _ :: _, [], h, _, _ => by simp at h
  | w :: ws, v :: vs, h, h1, h2 => by
    refine .cons (h1 0 w v rfl rfl) (RVRs.of (by simpa using h) (fun j w v e1 e2 => h1 (j + 1) w v (by simpa using e1) (by simpa using e2)) fun i j xs ys a ne e1 e2 e3 e4 => h2 (i + 1) (j + 1) xs ys a (by omega) (by simpa using e1) (by simpa using e2) (by simpa using e3) (by simpa using e4)) ?_
    intro xs j ys a e1 e2 e3 e4
    subst e1 e3
    exact h2 0 (j + 1) xs ys a (by omega) rfl (by simpa using e2) rfl (by simpa using e4)
theorem RVRs.dist : ∀ {ws : List RV} {vs : List V} {i j : Nat} {xs ys : List D} {a : Addr}, RVRs K mg H0 F H σ r ws vs → i < j → ws[i]? = some (.own xs) → ws[j]? = some (.own ys) → vs[i]? = some (.ref a) → vs[j]? = some (.ref a) → False
  | _, _, _, _, _, _, _, .nil, _, e, _, _, _ => by simp at e
  | _, _, 0, 0, _, _, _, .cons _ _ _, h, _, _, _, _ => by omega
  | _, _, 0, j + 1, xs, ys, a, .cons _ _ k, _, e1, e2, e3, e4 => k xs j ys a (by simpa using e1) (by simpa using e2) (by simpa using e3) (by simpa using e4)
  | _, _, i + 1, 0, _, _, _, .cons _ _ _, h, _, _, _, _ => by omega
  | _, _, i + 1, j + 1, xs, ys, a, .cons _ t _, h, e1, e2, e3, e4 => RVRs.dist (i := i) (j := j) (xs := xs) (ys := ys) (a := a) t (by omega) (by simpa using e1) (by simpa using e2) (by simpa using e3) (by simpa using e4)
theorem RVRs.perm {ws zs : List RV} {vs us : List V} {is : List Nat} (h : RVRs K mg H0 F H σ r ws vs) (nd : is.Nodup) (h1 : permL ws is = some zs) (h2 : permL vs is = some us) : RVRs K mg H0 F H σ r zs us := by
  refine RVRs.of (by rw [permL_len h1, permL_len h2]) (fun j w v e1 e2 => ?_) fun i j xs ys a ne e1 e2 e3 e4 => ?_
  · obtain ⟨i, a1, a2⟩ := permL_get h1 e1
    obtain ⟨i', b1, b2⟩ := permL_get h2 e2
    rw [a1] at b1
    cases b1
    exact h.get a2 b2
  · obtain ⟨k1, a1, a2⟩ := permL_get h1 e1
    obtain ⟨k2, b1, b2⟩ := permL_get h1 e2
    obtain ⟨k1', a3, a4⟩ := permL_get h2 e3
    obtain ⟨k2', b3, b4⟩ := permL_get h2 e4
    rw [a1] at a3
    rw [b1] at b3
    cases a3
    cases b3
    have nk : k1 ≠ k2 := fun z => by
      subst z
      have x1 := List.getElem?_eq_some_iff.mp a1
      have x2 := List.getElem?_eq_some_iff.mp b1
      exact ne ((List.getElem_inj nd).mp (x1.2.trans x2.2.symm))
    rcases Nat.lt_or_gt_of_ne nk with z | z
    · exact h.dist z a2 b2 a4 b4
    · exact h.dist z b2 a2 b4 a4
/-- the keywords' values -/
theorem pk_imp {kws : List Keyword} {t t' : TA} (h : PK X kws t) (i : ∀ σ H Q, t' σ H Q → t σ H Q) : PK X kws t' := ⟨fun pos pins s σ H Q I hw => h.run pos pins s σ H Q I (i σ H Q hw)⟩
theorem pkv_nil : PK X [] (tEvA X.K X.mg W (evEs c [])) := pk_imp pk_nil fun σ H Q ⟨F, r, fr, g⟩ => Goes.ok (r := r) g fr [] .nil
theorem pkv_cons {m : E} {ms : List E} {nm : Option Str} {kws : List Keyword} (h1 : PE X e (tEv X.K X.mg W (evE c m))) (h2 : PK X kws (tEvA X.K X.mg W (evEs c ms))) : PK X (⟨nm, e, pos⟩ :: kws) (tEvA X.K X.mg W (evEs c (m :: ms))) := by
  refine pk_imp (pk_cons h1 h2) fun σ H Q ⟨F, r, fr, g⟩ => ?_
  have g : Goes X.K X.mg W F H σ r (M.bind (evE c m) (fun v => M.bind (evEs c ms) fun vs => M.pure (v :: vs)) r) _ := g
  refine ⟨F, r, fr, g.bind.imp fun w r1 F1 H1 _ x1 fr1 g1 v rv => ⟨F1, r1, fr1, g1.bind.imp fun ws r2 F2 H2 _ x2 fr2 g2 vs rvs => ?_⟩⟩
  refine Goes.ok (r := r2) g2 fr2 _ (.cons (rv.ext x2 fr1) (rvs.base fun a e => x1.there a e) fun xs j ys a e1 e2 e3 e4 => ?_)
  subst e1 e3
  have q := rvs.get e2 e4
  cases q with
  | own _ _ _ _ z =>
    cases rv with
    | own z2 _ _ _ _ => rw [z] at z2; cases z2
theorem kw_each {env : PySem.Env} {pos : Pos} : ∀ {kws : List Keyword} {ks : List Str}, kwNames kws = some ks → (backToKw pos (keywordEach kws env)).all (·.1.isSome) = true ∧ (backToKw pos (keywordEach kws env)).filterMap (·.1) = ks ∧ (backToKw pos (keywordEach kws env)).any (·.1.isNone) = false
  | [], ks, h => by cases h; exact ⟨rfl, rfl, rfl⟩
  | ⟨none, e, q⟩ :: kws, ks, h => by cases h
  | ⟨some k, e, q⟩ :: kws, ks, h => by
    have h : (kwNames kws).map (k :: ·) = some ks := h
    cases q' : kwNames kws with
    | none => rw [q'] at h; cases h
    | some ks' =>
      rw [q'] at h
      cases h
      obtain ⟨h1, h2, h3⟩ := kw_each (env := env) (pos := pos) q'
      refine ⟨?_, ?_, ?_⟩
      · show (true && (backToKw pos (keywordEach kws env)).all (·.1.isSome)) = true
        rw [h1]; rfl
      · show k :: (backToKw pos (keywordEach kws env)).filterMap (·.1) = k :: ks'
        rw [h2]
      · show (false || (backToKw pos (keywordEach kws env)).any (·.1.isNone)) = false
        rw [h3]; rfl
theorem vals_perm {vs us : List V} {ws zs : List Value} {is : List Nat} (h : Vals vs ws) (h1 : permL vs is = some us) (h2 : permL ws is = some zs) : Vals us zs := by
  refine vals_of_at (by rw [permL_len h1, permL_len h2]) fun j x u e1 e2 => ?_
  obtain ⟨i, a1, a2⟩ := permL_get h1 e1
  obtain ⟨i', b1, b2⟩ := permL_get h2 e2
  rw [a1] at b1
  cases b1
  obtain ⟨w, c1, c2⟩ := Vals.get h a2
  rw [b2] at c1
  cases c1
  exact c2
theorem kwNames_len : ∀ {kws : List Keyword} {ks : List Str}, kwNames kws = some ks → ks.length = kws.length
  | [], ks, h => by cases h; rfl
  | ⟨none, e, q⟩ :: kws, ks, h => by cases h
  | ⟨some k, e, q⟩ :: kws, ks, h => by
    have h : (kwNames kws).map (k :: ·) = some ks := h
    cases q' : kwNames kws with
    | none => rw [q'] at h; cases h
    | some ks' => rw [q'] at h; cases h; simp [kwNames_len q']
theorem pev_callk {k : Nat} {kws : List (Str × List Str)} {f : Str} {ps ks : List Str} {fl : List Bool} {ms : List E} {kw : List Keyword} {perm : List Nat} (hr : Room k X.A) (hk : KnownF X k c kws f ps fl) (hg : Gl X f) (hdb : (f == ("__debug__" : Str)) = false) (tk : TakesF X W)
    (ha : PK X kw (tEvA X.K X.mg W (evEs c ms))) (hks : kwNames kw = some ks) (hin : (f, ks) ∈ kws) (hp : kwOrder ps ks = some perm) (hms : ms.length = kw.length) :
    PE X (.Call (.Name f p) [] kw pos) (tEv X.K X.mg W (evE c (.callk f fl ms perm))) := by
  obtain ⟨fa, fd, hm, kp, hb, hkw, G⟩ := hk
  refine ⟨fun pins s σ H Q I h => ?_⟩
  obtain ⟨F, r, fr, g⟩ := h
  have g : Goes X.K X.mg W F H σ r (M.bind (evEs c ms) (fun ws => M.bind (liftO (if nodupB perm then permL ws perm else none)) fun zs => doCall c f fl zs) r) _ := g
  obtain ⟨hall, hfm, hnone⟩ := kw_each (env := X.env) (pos := pos) hks
  refine wpAny_Call_Name_kw (ld_glob I hg hm ?_ hdb)
  refine PySem.W.callWith_KW0 (h₀ := X.base) I.ok.mod.kin kp hall (thn (ha.run pos pins s σ H (fun vs H1 => vs.length = ks.length ∧ ∃ us, permL vs perm = some us ∧ spEv X.K X.mg c f fl us H1 Q fun cls d H' => W cls d σ H') I ⟨F, r, fr, g.bind0.imp fun ws r1 F1 H1 hw x1 fr1 g1 vs rvs => ?_⟩) fun zs s2 ⟨vs, H2, I2, rz, hvl, us, hus, q2⟩ => ⟨I2.kIn, ?_⟩) (by rw [hnone]; rfl)
  · unfold M.bind at g1
    cases hq : (if nodupB perm then permL ws perm else none : Option (List RV)) with
    | none => rw [hq] at g1; exact g1.elim
    | some zs =>
      rw [hq] at g1
      have g1 : Goes X.K X.mg W F H σ r (doCall c f fl zs r1) _ := g1
      split at hq
      · rename_i hnd
        have hl : ws.length = vs.length := rvs.length
        obtain ⟨us, hus⟩ := permL_some hl hq
        exact ⟨by rw [← hl, evEs_len hw, hms, kwNames_len hks], us, hus, doCall_ok x1 fr1 (rvs.perm (nodupB_of hnd) hq hus) g1⟩
      · cases hq
  · rw [hfm]
    have hl : vs.length = zs.length := rz.length
    obtain ⟨zs', hzs⟩ := permL_some hl hus
    have rz' := vals_perm rz hus hzs
    have bt : BindsTo s2 fd ⟨[], ks.zip zs⟩ (ps.zip zs') := BindsTo.of_eq (hkw ks hin perm zs zs' hp (by rw [← hl, hvl]) hzs)
    refine wpAny_call (codeAny_mono (G.run X.A X.stack s2 H2 ⟨[], ks.zip zs⟩ zs' us Q (WE W σ) hr I2.env0 bt rz' q2) fun r s' hq => ?_)
    cases r with
    | error e => exact passAtF tk σ pins H2 s2 e s' I2 hq
    | ok fl =>
      cases fl with
      | ret u => exact I2.after hq
      | next => exact False.elim hq
      | brk => exact False.elim hq
      | cont => exact False.elim hq
theorem pev_callv {k : Nat} {kws : List (Str × List Str)} {i : Nat} {x : Str} {fls : List (Str × List Bool)} {ms : List E} {es : List Expr} (hr : Room k X.A) (hk : ∀ f fl, fls.lookup f = some fl → ∃ ps, KnownF X k c kws f ps fl) (hN : X.N[i]? = some x) (hv : Vis X.env.scope x) (hdb : (x == ("__debug__" : Str)) = false) (hcd : (x == ("__classdict__" : Str)) = false) (tk : TakesF X W)
    (ha : PA X (e :: es) (tEvA X.K X.mg W (evEs c ms))) (hs : (e :: es).all noStar = true) : PE X (.Call (.Name x p) (e :: es) [] pos) (tEv X.K X.mg W (evE c (.callv i fls ms))) := by
  rw [List.all_cons, Bool.and_eq_true] at hs
  refine ⟨fun pins s σ H Q I h => ?_⟩
  obtain ⟨F, r, fr, g⟩ := h
  have g : Goes X.K X.mg W F H σ r (match r[i]? with
    | some (.val (.fn f)) => (match fls.lookup f with
      | some fl => M.bind (evEs c ms) (fun vs => doCall c f fl vs) r
      | none => .stuck)
    | _ => .stuck) _ := g
  split at g
  · rename_i f er
    split at g
    · rename_i fl el
      obtain ⟨ps, fa, fd, hm, kp, hb, _, G⟩ := hk f fl el
      obtain ⟨v, hv1, dr⟩ := fr.val i _ er
      have ev : v = .ref fa := by
        cases dr with
        | fn z => rw [hm] at z; cases z; rfl
      subst ev
      refine wpAny_Call_Name_kw (thn ((pe_var (pos := p) hN hv hdb hcd).run pins s σ H (fun v H1 => v = .ref fa ∧ H1 = H) I ⟨.ref fa, hv1, rfl, rfl⟩) fun u s1 ⟨v, H1, I1, r1, q1⟩ => ?_)
      obtain ⟨rfl, rfl⟩ := q1
      cases r1
      refine PySem.W.callWith_K (h₀ := X.base) I.ok.mod.kin kp (thn (ha.run pos pins s1 σ _ (fun vs H1 => spEv X.K X.mg c f fl vs H1 Q fun cls d H' => W cls d σ H') I1 ⟨F, r, fr, g.bind0.imp fun ws r1 F1 H1 hw x1 fr1 g1 vs rvs => doCall_ok x1 fr1 rvs g1⟩) fun us s2 ⟨vs, H2, I2, r, q⟩ => ⟨I2.kIn, ?_⟩) (star_cons hs.1) (star_any hs.2)
      exact run_fnS (E := WE W) G hr hb (passAtF tk σ) I2 r q
    · exact g.elim
  · exact g.elim
theorem pev_calle {k : Nat} {kws : List (Str × List Str)} {fe : Expr} {m : E} {fls : List (Str × List Bool)} {ms : List E} {es : List Expr} (hr : Room k X.A) (hk : ∀ f fl, fls.lookup f = some fl → ∃ ps, KnownF X k c kws f ps fl) (tk : TakesF X W) (hf : PE X fe (tEv X.K X.mg W (evE c m)))
    (harm : eval (.Call fe (e :: es) [] pos) X.env = (do callWith pos (← eval fe X.env) [] (backTo pos (starEach (e :: es) X.env)) (backToKw pos (keywordEach [] X.env))))
    (ha : PA X (e :: es) (tEvA X.K X.mg W (evEs c ms))) (hs : (e :: es).all noStar = true) : PE X (.Call fe (e :: es) [] pos) (tEv X.K X.mg W (evE c (.calle m fls ms))) := by
  rw [List.all_cons, Bool.and_eq_true] at hs
  refine ⟨fun pins s σ H Q I h => ?_⟩
  obtain ⟨F, r, fr, g⟩ := h
  have g : Goes X.K X.mg W F H σ r (M.bind (evE c m) (fun v => withLook v fun d => match d with
      | .fn f => (match fls.lookup f with
        | some fl => M.bind (evEs c ms) (fun vs => doCall c f fl vs)
        | none => stuckM)
      | _ => stuckM) r) _ := g
  rw [harm]
  refine wpAny_bind (thn (hf.run pins s σ H (fun v H1 => ∃ f fl fa, fls.lookup f = some fl ∧ v = .ref fa ∧ X.mg f = some (.ref fa) ∧ ∃ F1 r1, FR X.K X.mg F1 H1 σ r1 ∧ Goes X.K X.mg W F1 H1 σ r1 (M.bind (evEs c ms) (fun vs => doCall c f fl vs) r1) fun w r' F' H' => ∀ v, RVR X.K X.mg H1 F' H' σ r' w v → Q v H') I ⟨F, r, fr, g.bind.imp fun w r1 F1 H1 hw x1 fr1 g1 v rv => ?_⟩) fun u s1 ⟨v, H1, I1, r1, q1⟩ => ?_)
  · obtain ⟨d, ld, g2⟩ := g1.look
    have rw1 := rv.look fr1 ld
    split at g2
    · rename_i f
      cases el : fls.lookup f with
      | none => rw [el] at g2; exact g2.elim
      | some fl =>
        rw [el] at g2
        obtain ⟨ps, fa, fd, hm, kp, hb, _, G⟩ := hk f fl el
        refine ⟨f, fl, fa, el, ?_, hm, F1, r1, fr1, g2.imp fun w' r2 F2 H2 _ x2 fr2 g3 v' rv' => g3 v' (rv'.back x1)⟩
        cases rw1 with
        | of dr =>
          cases dr with
          | fn z => rw [hm] at z; cases z; rfl
    · exact g2.elim
  · obtain ⟨f, fl, fa, el, rfl, hm, F1, r1', fr1, g1⟩ := q1
    obtain ⟨ps, fa', fd, hm', kp, hb, _, G⟩ := hk f fl el
    rw [hm] at hm'
    cases hm'
    cases r1
    refine PySem.W.callWith_K (h₀ := X.base) I.ok.mod.kin kp (thn (ha.run pos pins s1 σ _ (fun vs H1 => spEv X.K X.mg c f fl vs H1 Q fun cls d H' => W cls d σ H') I1 ⟨F1, r1', fr1, g1.bind0.imp fun ws r2 F2 H2 hw x2 fr2 g2 vs rvs => doCall_ok x2 fr2 rvs g2⟩) fun us s2 ⟨vs, H2, I2, r, q⟩ => ⟨I2.kIn, ?_⟩) (star_cons hs.1) (star_any hs.2)
    exact run_fnS (E := WE W) G hr hb (passAtF tk σ) I2 r q
end
end Ev

-- part EvC
set_option maxHeartbeats 2000000
/-! EvC: what is known of the classes of errors. -/
namespace Ev
open PySem PySem.Spec PyProof.Rows L2
/-- what an __init__ that lays one field promises -/
def spIni (K : PySem.W.Frag) (C : Addr) (f : Str) : Sp := fun vs H Q _ => ∃ (a : Addr) (v : V), vs = [.ref a, v] ∧ OexC K C ∧ PySem.W.findIn K (.ref C) f = some none ∧ H a = some (exo a C none) ∧ ∀ dx, H dx = none → dx ≠ a → Q .non (upd (upd H dx (exd dx [(f, v)])) a (exo a C (some dx)))
/-- how the class makes its errors: without a field, with one -/
def Makes (P : Program) (w : World) (K : PySem.W.Frag) (mg : Str → Option Value) (C : Addr) : Option Str → Prop
  | none => PySem.W.excIn K C He.veBase "ValueError.__new__" = true
  | some f => OexC K C ∧ PySem.W.findIn K (.ref C) f = some none ∧ ∃ (fI : Addr) (fd : FuncData) (ps : List Str), PySem.W.findIn K (.ref C) "__init__" = some (some (.ref fI)) ∧ PySem.W.typeIn K (.ref fI) = some (.type "function") ∧ (∀ base, FnOk P w K mg base (L2.CX P w) 1 fI fd ps (spIni K C f)) ∧ Binds K fd ps []
structure ClsF (P : Program) (w : World) (K : PySem.W.Frag) (mg : Str → Option Value) (x : Str) (of : Option Str) (C : Addr) : Prop where
  glo : mg x = some (.ref C)
  keep : PySem.W.keepIn K (.ref C) = true
  sub : PySem.W.subIn K (.ref C) (.type "BaseException") = some true
  typ : PySem.W.typeIn K (.ref C) = some (.type "type")
  xf : XfC K C
  ec : ExcC K C
  made : Makes P w K mg C of
structure ClsAll (P : Program) (w : World) (K : PySem.W.Frag) (mg : Str → Option Value) (cls : List (Str × Option Str)) (bas : List Str) : Prop where
  one : ∀ x of, cls.lookup x = some of → ∃ C, ClsF P w K mg x of C
  mat : ∀ x ox y oy C C', cls.lookup x = some ox → cls.lookup y = some oy → mg x = some (.ref C) → mg y = some (.ref C') → PySem.W.exmOne K (.ref C) (.ref C') = some (x == y)
  bas : ∀ x ox b C, cls.lookup x = some ox → b ∈ bas → mg x = some (.ref C) → ∃ B, mg b = some (.ref B) ∧ PySem.W.kitOne K (.ref C) (.ref B) = some true
end Ev

-- part Ev6
set_option maxHeartbeats 2000000
/-! Ev6: what is translated is sound: expressions. -/
namespace Ev
open PySem PySem.Spec PyProof.Rows L2
def bNames : List Str := ["len", "abs", "int", "bool", "str", "tuple", "list", "sum", "all", "any", "sorted", "min", "max", "set", "zip", "enumerate", "range", "isinstance"]
structure Good (X : Cx) (W : WX) (k : Nat) (c : CallT) (g : SC) : Prop where
  N : X.N = g.N
  nd : g.N.Nodup
  calm : X.calm = true
  sc : ∀ x y, g.sc.names.lookup x = some y → y ≠ .free → X.env.scope.names.lookup x = some y
  fr : ∀ x, g.sc.names.lookup x = some .free → X.env.scope.names.lookup x = some .cell ∨ X.env.scope.names.lookup x = some .free
  fn : ∀ x, g.own x = true → X.fn x = true ∨ g.sc.names.lookup x = some .local
  rm : Room k X.A
  un : X.A.units + 65 < cLine
  tk : TakesF X W
  fns : ∀ f ps fl, g.fns.lookup f = some (ps, fl) → KnownF X k c g.kws f ps fl
  con : ∀ x d, g.con.lookup x = some d → ∃ v u, X.mg x = some u ∧ RelV v u ∧ ∀ F H, DR X.K X.mg F H d v
  bi : ∀ x ∈ bNames, X.mg x = none
  cl : ClsAll X.prog X.w X.K X.mg g.cls g.bas
section
variable {X : Cx} {W : WX} {k : Nat} {c : CallT} {g : SC}
theorem Good.gl (G : Good X W k c g) {x : Str} (h : g.glob x = true) : Gl X x ∧ (x == ("__debug__" : Str)) = false := by
  unfold SC.glob SC.kind at h
  rw [Bool.and_eq_true] at h
  refine ⟨?_, by simpa using h.2⟩
  show X.env.scope.names.lookup x = some .globalImplicit
  refine G.sc x _ ?_ (by decide)
  have h1 := h.1
  cases q : g.sc.names.lookup x with
  | none => rw [q] at h1; cases h1
  | some y => rw [q] at h1; cases y <;> first | rfl | cases h1
theorem idxOf_get {l : List Str} {x : Str} {i : Nat} (h : l.idxOf? x = some i) : l[i]? = some x := by
  rw [List.idxOf?, List.findIdx?_eq_some_iff_getElem] at h
  obtain ⟨h1, h2, _⟩ := h
  rw [List.getElem?_eq_getElem h1]
  simpa using h2
theorem Good.slot (G : Good X W k c g) {x : Str} {i : Nat} (h : g.slot x = some i) : X.N[i]? = some x ∧ L2.Vis X.env.scope x ∧ (x == ("__debug__" : Str)) = false ∧ (x == ("__classdict__" : Str)) = false := by
  unfold SC.slot at h
  split at h
  · rename_i hc
    rw [Bool.and_eq_true, Bool.and_eq_true] at hc
    obtain ⟨⟨hv, h1⟩, h2⟩ := hc
    refine ⟨by rw [G.N]; exact idxOf_get h, ?_, by simpa using h1, by simpa using h2⟩
    unfold SC.vis SC.kind at hv
    cases q : g.sc.names.lookup x with
    | none => rw [q] at hv; cases hv
    | some y =>
      rw [q] at hv
      cases y <;> first
        | exact .inl (G.sc x _ q (by decide))
        | exact .inr (.inl (G.sc x _ q (by decide)))
        | exact .inr (G.fr x q)
        | (simp at hv; done)
  · cases h
theorem Good.tslot (G : Good X W k c g) {x : Str} {i : Nat} (h : g.tslot x = some i) : X.N[i]? = some x ∧ L2.Loc X.env.scope x ∧ (X.fn x = true ∨ X.env.scope.names.lookup x = some .local) := by
  unfold SC.tslot at h
  split at h
  · rename_i hc
    rw [Bool.and_eq_true] at hc
    obtain ⟨hv, h1⟩ := hc
    have hf := G.fn x hv
    refine ⟨by rw [G.N]; exact idxOf_get h, ?_, hf.imp id fun z => G.sc x _ z (by decide)⟩
    unfold SC.own SC.kind at hv
    cases q : g.sc.names.lookup x with
    | none => rw [q] at hv; cases hv
    | some y =>
      rw [q] at hv
      cases y <;> first
        | exact .inl (G.sc x _ q (by decide))
        | exact .inr (G.sc x _ q (by decide))
        | (simp at hv; done)
  · cases h
theorem relS_free {sc : Scope} : ∀ {names : List (Str × NameKind)} {x : Str}, names.lookup x = some .free →
    (names.map fun (n, k) => if (k == NameKind.free && sc.kind == .function && sc.names.lookup n == some .cell) then (n, NameKind.cell) else (n, k)).lookup x = some .cell ∨
    (names.map fun (n, k) => if (k == NameKind.free && sc.kind == .function && sc.names.lookup n == some .cell) then (n, NameKind.cell) else (n, k)).lookup x = some .free
  | [], _, h => by simp at h
  | (n, k) :: r, x, h => by
    have ih := @relS_free sc r x
    show List.lookup x ((if (k == NameKind.free && sc.kind == .function && sc.names.lookup n == some .cell) = true then (n, NameKind.cell) else (n, k)) :: (r.map _)) = _ ∨ List.lookup x ((if (k == NameKind.free && sc.kind == .function && sc.names.lookup n == some .cell) = true then (n, NameKind.cell) else (n, k)) :: (r.map _)) = _
    by_cases hc : (k == NameKind.free && sc.kind == .function && sc.names.lookup n == some .cell) = true
    · rw [if_pos hc]
      cases hx : x == n with
      | true => left; simp only [List.lookup_cons, hx]
      | false => simp only [List.lookup_cons, hx] at h ⊢; exact ih h
    · rw [if_neg hc]
      cases hx : x == n with
      | true => right; simp only [List.lookup_cons, hx] at h ⊢; exact h
      | false => simp only [List.lookup_cons, hx] at h ⊢; exact ih h
/-- in a comprehension's block -/
theorem Good.blk (G : Good X W k c g) (s : Shared) (H : Hp) (scope : Scope) (C : Addr) (cl : List (Str × Addr)) (fp : List Addr) {xe : Value → Shared → Prop} {W' : WX} (tk : TakesF (blkX X s H scope C cl fp xe) W') : Good (blkX X s H scope C cl fp xe) W' k c { g with sc := scope } where
  N := G.N
  nd := G.nd
  calm := G.calm
  sc := fun x y h hy => lookup_relS_keep hy h
  fr := fun x h => relS_free h
  fn := fun x hx => by
    unfold SC.own SC.kind at hx
    show (scope.names.lookup x == some .cell) = true ∨ scope.names.lookup x = some .local
    dsimp only at hx
    cases q : scope.names.lookup x with
    | none => rw [q] at hx; cases hx
    | some y => rw [q] at hx; cases y <;> first | (left; rfl) | (right; rfl) | (simp at hx; done)
  rm := G.rm
  un := G.un
  tk := tk
  fns := G.fns
  con := G.con
  bi := G.bi
  cl := G.cl
end
/-! ### targets -/
section
variable {X : Cx} {W : WX} {k : Nat} {c : CallT} {g : SC}
theorem tg_noStar {n : Nat} {e : Expr} {t : Tg} (h : trTg g n e = some t) : noStar e = true := by
  cases n with
  | zero => cases e <;> cases h
  | succ n => cases e <;> first | rfl | cases h
theorem tg_ok : ∀ n : Nat, (∀ {e : Expr} {t : Tg}, Good X W k c g → trTg g n e = some t → PG X e (gT X.K X.mg t)) ∧ (∀ {es : List Expr} {ts : List Tg}, Good X W k c g → trTgs g n es = some ts → PGs X es (gTs X.K X.mg ts) ∧ es.all noStar = true ∧ es.length = ts.length)
  | 0 => by
    refine ⟨fun {e t} G h => ?_, fun {es ts} G h => ?_⟩
    · cases e <;> cases h
    · cases es with
      | nil => cases h; exact ⟨pgt_nil, rfl, rfl⟩
      | cons e es => cases h
  | n + 1 => by
    obtain ⟨ih1, ih2⟩ := tg_ok n
    refine ⟨fun {e t} G h => ?_, fun {es ts} G h => ?_⟩
    · cases e with
      | Name x p =>
        have h : (g.tslot x).map Tg.name = some t := h
        cases q : g.tslot x with
        | none => rw [q] at h; cases h
        | some i =>
          rw [q] at h
          cases h
          obtain ⟨h1, h2, h3⟩ := G.tslot q
          exact pgt_name (by rw [G.N]; exact G.nd) h1 h2 h3
      | Tuple ts k p =>
        have h : (trTgs g n ts).map Tg.tup = some t := h
        cases q : trTgs g n ts with
        | none => rw [q] at h; cases h
        | some us =>
          rw [q] at h
          cases h
          obtain ⟨h1, h2, h3⟩ := ih2 G q
          exact pgt_tup G.calm h1 h2 h3
      | _ => cases h
    · cases es with
      | nil => cases h; exact ⟨pgt_nil, rfl, rfl⟩
      | cons e es =>
        have h : ((trTg g n e).bind fun a => (trTgs g n es).bind fun b => some (a :: b)) = some ts := h
        cases q : trTg g n e with
        | none => rw [q] at h; cases h
        | some a =>
          rw [q] at h
          cases q2 : trTgs g n es with
          | none => rw [q2] at h; cases h
          | some b =>
            rw [q2] at h
            cases h
            obtain ⟨h1, h2, h3⟩ := ih2 G q2
            have ns := tg_noStar q
            exact ⟨pgt_cons (ih1 G q) h1 (assign_cons ns).1, by rw [List.all_cons, ns, h2]; rfl, by simp [h3]⟩
end
theorem ty_names {X : Cx} {W : WX} {k : Nat} {c : CallT} {g : SC} (G : Good X W k c g) : ∀ {es : List Expr} {ts : List String}, tyNames g es = some ts → TyEs X es ts
  | [], ts, h => by cases h; exact .nil
  | e :: es, ts, h => by
    cases e with
    | Name x p =>
      have h : (if g.glob x then ((tyName x).bind fun t => (tyNames g es).bind fun ts => some (t :: ts)) else none) = some ts := h
      split at h
      · rename_i hg
        cases q : tyName x with
        | none => rw [q] at h; cases h
        | some t =>
          rw [q] at h
          cases q2 : tyNames g es with
          | none => rw [q2] at h; cases h
          | some us =>
            rw [q2] at h
            cases h
            have hx : x ∈ bNames := by
              unfold tyName at q
              repeat (first | (split at q; · rename_i e; subst e; decide) | cases q)
            exact .cons (tye (G.gl hg).1 (G.bi x hx) q) (ty_names G q2)
      · cases h
    | _ => cases h
end Ev

-- part Ev6b
set_option maxHeartbeats 2000000
/-! Ev6b: the induction over the text: expressions. -/
namespace Ev
open PySem PySem.Spec PyProof.Rows L2
structure Snd (n : Nat) : Prop where
  e : ∀ {X : Cx} {W : WX} {k : Nat} {c : CallT} {g : SC} {e : Expr} {m : E}, Good X W k c g → trE n g e = some m → PE X e (tEv X.K X.mg W (evE c m))
  t : ∀ {X : Cx} {W : WX} {k : Nat} {c : CallT} {g : SC} {e : Expr} {m : E}, Good X W k c g → trT n g e = some m → PT X e (tEvT X.K X.mg W (evT c m))
  tb : ∀ {X : Cx} {W : WX} {k : Nat} {c : CallT} {g : SC} {op : BoolOp} {es : List Expr} {m : E}, Good X W k c g → trTB n g op es = some m → ∀ pos, PW X (.BoolOp op es pos) (tEvT X.K X.mg W (evT c m))
  c : ∀ {X : Cx} {W : WX} {k : Nat} {c : CallT} {g : SC} {a : Expr} {ops : List CmpOp} {bs : List Expr} {m : E}, Good X W k c g → trC n g a ops bs = some m → ∀ pos, PE X (.Compare a ops bs pos) (tEv X.K X.mg W (evE c m)) ∧ PT X (.Compare a ops bs pos) (tEvT X.K X.mg W (evT c m))
  ifs : ∀ {X : Cx} {W : WX} {k : Nat} {c : CallT} {g : SC} {es : List Expr} {ms : List E}, Good X W k c g → trIfs n g es = some ms → PTs X es (tEvT X.K X.mg W (evIfs c ms))
  o : ∀ {X : Cx} {W : WX} {k : Nat} {c : CallT} {g : SC} {o : Option Expr} {m : Option E}, Good X W k c g → trO n g o = some m → PO X o (tEvO X.K X.mg W (evO c m))
  es : ∀ {X : Cx} {W : WX} {k : Nat} {c : CallT} {g : SC} {es : List Expr} {ms : List E}, Good X W k c g → trEs n g es = some ms → PA X es (tEvA X.K X.mg W (evEs c ms)) ∧ es.all noStar = true ∧ ms.length = es.length
  sts : ∀ {X : Cx} {W : WX} {k : Nat} {c : CallT} {g : SC} {es : List Expr} {q : List Bool × List E}, Good X W k c g → trSts n g es = some q → PA X es (tEvD X.K X.mg W (evDs c q.1 q.2))
  ks : ∀ {X : Cx} {W : WX} {k : Nat} {c : CallT} {g : SC} {es : List Keyword} {ms : List E}, Good X W k c g → trKs n g es = some ms → PK X es (tEvA X.K X.mg W (evEs c ms)) ∧ ms.length = es.length
  b : ∀ {X : Cx} {W : WX} {k : Nat} {c : CallT} {g : SC} {op : BoolOp} {es : List Expr} {m : E}, Good X W k c g → trB n g op es = some m → ∀ pos, PE X (.BoolOp op es pos) (tEv X.K X.mg W (evE c m))
  cf : ∀ {X : Cx} {W : WX} {k : Nat} {c : CallT} {g : SC} {f : Str} {ps : List Str} {fl : List Bool} {es : List Expr} {ks : List Keyword} {m : E}, Good X W k c g → trCF n g f ps fl es ks = some m → g.glob f = true → g.fns.lookup f = some (ps, fl) → ∀ p pos, PE X (.Call (.Name f p) es ks pos) (tEv X.K X.mg W (evE c m))
  m : ∀ {X : Cx} {W : WX} {k : Nat} {c : CallT} {g : SC} {i : Nat} {x nm : Str} {es : List Expr} {m : E}, Good X W k c g → trM n g i nm es = some m → g.slot x = some i → ∀ p apos cpos, (apos.endLine == cpos.line) = true → PE X (.Call (.Attribute (.Name x p) nm apos) es [] cpos) (tEv X.K X.mg W (evE c m))
  bi : ∀ {X : Cx} {W : WX} {k : Nat} {c : CallT} {g : SC} {f : Str} {es : List Expr} {m : E}, Good X W k c g → trBi n g f es = some m → g.glob f = true → ∀ p pos, PE X (.Call (.Name f p) es [] pos) (tEv X.K X.mg W (evE c m))
  b1 : ∀ {X : Cx} {W : WX} {k : Nat} {c : CallT} {g : SC} {f : Str} {e : Expr} {m : E}, Good X W k c g → trB1 n g f e = some m → g.glob f = true → ∀ p pos, PE X (.Call (.Name f p) [e] [] pos) (tEv X.K X.mg W (evE c m))
  it : ∀ {X : Cx} {W : WX} {k : Nat} {c : CallT} {g : SC} {tg e : Expr} {m : It}, Good X W k c g → trIt n g tg e = some m → PI X tg e (tEvI X.K X.mg W (evIt c m))
theorem bind_some {α β : Type} {a : Option α} {f : α → Option β} {r : β} (h : a.bind f = some r) : ∃ x, a = some x ∧ f x = some r := by
  cases a with
  | none => cases h
  | some x => exact ⟨x, rfl, h⟩
theorem map_some {α β : Type} {a : Option α} {f : α → β} {r : β} (h : a.map f = some r) : ∃ x, a = some x ∧ r = f x := by
  cases a with
  | none => cases h
  | some x => cases h; exact ⟨x, rfl, rfl⟩
theorem tr_noStar {n : Nat} {g : SC} {e : Expr} {m : E} (h : trE n g e = some m) : noStar e = true := by
  cases n with
  | zero => cases h
  | succ n => cases e <;> first | rfl | cases h
theorem inner_eq {e : Expr} {f : Str} {es : List Expr} (h : innerOf e = some (f, es)) : ∃ p q, e = .Call (.Name f p) es [] q := by
  unfold innerOf at h
  split at h
  · cases h; exact ⟨_, _, rfl⟩
  · cases h
theorem ix_plain {n : Nat} {g : SC} {e : Expr} {m : E} (h : trE n g e = some m) : PlainIx e := by
  cases n with
  | zero => cases h
  | succ n => cases e <;> first | (intro _ _; rfl) | cases h
theorem in_marks {n : Nat} {g : SC} {op : CmpOp} {e : Expr} {m : E} (h : trE n g e = some m) : behindInMarks op e = false := by
  cases n with
  | zero => cases h
  | succ n => cases e <;> first | rfl | cases h
theorem fold_set {n : Nat} {g : SC} {tg e : Expr} {m : It} (h : trIt n g tg e = some m) {env : PySem.Env} : ∀ x, foldedSetIterable e env x = pure x := by
  cases n with
  | zero => cases h
  | succ n => cases e <;> first
    | (intro _; rfl)
    | (exfalso; cases n <;> cases h)
section
variable {n : Nat} (S : Snd n) {X : Cx} {W : WX} {k : Nat} {c : CallT} {g : SC} (G : Good X W k c g)
include S G
theorem snd_es {es : List Expr} {ms : List E} (h : trEs (n + 1) g es = some ms) : PA X es (tEvA X.K X.mg W (evEs c ms)) ∧ es.all noStar = true ∧ ms.length = es.length := by
  cases es with
  | nil => cases h; exact ⟨pev_nil, rfl, rfl⟩
  | cons e es =>
    obtain ⟨x, h1, h⟩ := bind_some (show ((trE n g e).bind fun x => (trEs n g es).bind fun xs => some (x :: xs)) = some ms from h)
    obtain ⟨xs, h2, h3⟩ := bind_some h
    cases h3
    obtain ⟨a1, a2, a3⟩ := S.es G h2
    have ns := tr_noStar h1
    exact ⟨pev_cons (S.e G h1) a1 (star_cons ns), by rw [List.all_cons, ns, a2]; rfl, by simp [a3]⟩
theorem snd_sts {es : List Expr} {q : List Bool × List E} (h : trSts (n + 1) g es = some q) : PA X es (tEvD X.K X.mg W (evDs c q.1 q.2)) := by
  unfold trSts at h
  split at h
  · cases h; exact pevD_nil
  · obtain ⟨x, h1, h⟩ := bind_some h
    obtain ⟨q', h2, h3⟩ := bind_some h
    cases h3
    exact pevD_star rfl (S.e G h1) (S.sts G h2)
  · obtain ⟨x, h1, h⟩ := bind_some h
    obtain ⟨q', h2, h3⟩ := bind_some h
    cases h3
    exact pevD_cons rfl (S.e G h1) (S.sts G h2) (star_cons (tr_noStar h1))
theorem snd_ks {es : List Keyword} {ms : List E} (h : trKs (n + 1) g es = some ms) : PK X es (tEvA X.K X.mg W (evEs c ms)) ∧ ms.length = es.length := by
  cases es with
  | nil => cases h; exact ⟨pkv_nil, rfl⟩
  | cons e es =>
    obtain ⟨nm, e, p⟩ := e
    obtain ⟨x, h1, h⟩ := bind_some (show ((trE n g e).bind fun x => (trKs n g es).bind fun xs => some (x :: xs)) = some ms from h)
    obtain ⟨xs, h2, h3⟩ := bind_some h
    cases h3
    obtain ⟨a1, a3⟩ := S.ks G h2
    exact ⟨pkv_cons (S.e G h1) a1, by simp [a3]⟩
theorem snd_o {o : Option Expr} {m : Option E} (h : trO (n + 1) g o = some m) : PO X o (tEvO X.K X.mg W (evO c m)) := by
  cases o with
  | none => cases h; exact po_ev (.inl ⟨rfl, rfl⟩)
  | some e =>
    obtain ⟨x, h1, rfl⟩ := map_some (show (trE n g e).map some = some m from h)
    exact po_ev (.inr ⟨e, x, rfl, rfl, S.e G h1⟩)
theorem snd_ifs {es : List Expr} {ms : List E} (h : trIfs (n + 1) g es = some ms) : PTs X es (tEvT X.K X.mg W (evIfs c ms)) := by
  match es, h with
  | [], h => cases h; exact pts_ev (.inl ⟨rfl, rfl⟩)
  | [e], h =>
    obtain ⟨x, h1, rfl⟩ := map_some (show (trT n g e).map (fun m => [m]) = some ms from h)
    exact pts_ev (.inr ⟨e, x, rfl, rfl, S.t G h1⟩)
  | _ :: _ :: _, h => cases h
theorem snd_c {a : Expr} {ops : List CmpOp} {bs : List Expr} {m : E} (h : trC (n + 1) g a ops bs = some m) (pos : Pos) : PE X (.Compare a ops bs pos) (tEv X.K X.mg W (evE c m)) ∧ PT X (.Compare a ops bs pos) (tEvT X.K X.mg W (evT c m)) := by
  match ops, bs, h with
  | [op], [b], h =>
    obtain ⟨x, h1, h⟩ := bind_some (show ((trE n g a).bind fun x => (trE n g b).bind fun y => some (E.cmp op x y)) = some m from h)
    obtain ⟨y, h2, h3⟩ := bind_some h
    cases h3
    exact ⟨pev_cmp G.un (S.e G h1) (S.e G h2) (in_marks h2), pevt_cmp G.un (S.e G h1) (S.e G h2) (in_marks h2)⟩
  | [op, op'], [b, d], h =>
    obtain ⟨x, h1, h⟩ := bind_some (show ((trE n g a).bind fun x => (trE n g b).bind fun y => (trE n g d).bind fun z => some (E.cmp2 op op' x y z)) = some m from h)
    obtain ⟨y, h2, h⟩ := bind_some h
    obtain ⟨z, h3, h4⟩ := bind_some h
    cases h4
    exact ⟨pev_cmp2 G.un (S.e G h1) (S.e G h2) (S.e G h3) (in_marks h3), pevt_cmp2 G.un (S.e G h1) (S.e G h2) (S.e G h3) (in_marks h3)⟩
  | [], _, h => cases h
  | [_], [], h => cases h
  | [_], _ :: _ :: _, h => cases h
  | [_, _], [], h => cases h
  | [_, _], [_], h => cases h
  | [_, _], _ :: _ :: _ :: _, h => cases h
  | _ :: _ :: _ :: _, _, h => cases h
theorem snd_b {op : BoolOp} {es : List Expr} {m : E} (h : trB (n + 1) g op es = some m) (pos : Pos) : PE X (.BoolOp op es pos) (tEv X.K X.mg W (evE c m)) := by
  match es, h with
  | [], h => cases h
  | [e], h => exact pe_one (S.e G (show trE n g e = some m from h))
  | e :: e' :: es, h =>
    obtain ⟨x, h1, h⟩ := bind_some (show ((trE n g e).bind fun x => (trB n g op (e' :: es)).bind fun y => some (boolE op x y)) = some m from h)
    obtain ⟨y, h2, h3⟩ := bind_some h
    cases op with
    | And => cases h3; exact pev_and (S.e G h1) (S.b G h2 pos)
    | Or => cases h3; exact pev_or (S.e G h1) (S.b G h2 pos)
theorem snd_tb {op : BoolOp} {es : List Expr} {m : E} (h : trTB (n + 1) g op es = some m) (pos : Pos) : PW X (.BoolOp op es pos) (tEvT X.K X.mg W (evT c m)) := by
  match es, h with
  | [], h => cases h
  | [e], h =>
    have := S.t G (show trT n g e = some m from h)
    cases op with
    | And => exact pw_and1 this
    | Or => exact pw_or1 this
  | e :: e' :: es, h =>
    obtain ⟨x, h1, h⟩ := bind_some (show ((trT n g e).bind fun x => (trTB n g op (e' :: es)).bind fun y => some (boolE op x y)) = some m from h)
    obtain ⟨y, h2, h3⟩ := bind_some h
    cases op with
    | And => cases h3; exact pevw_and (S.t G h1) (S.tb G h2 pos)
    | Or => cases h3; exact pevw_or (S.t G h1) (S.tb G h2 pos)
theorem snd_t {e : Expr} {m : E} (h : trT (n + 1) g e = some m) : PT X e (tEvT X.K X.mg W (evT c m)) := by
  have go : ∀ {e : Expr}, trE n g e = some m → (∀ whole, isTrue e X.env whole = (do let v ← whole; standAt e.pos; holding [v] (truthy v))) → PT X e (tEvT X.K X.mg W (evT c m)) := fun h1 h2 => pevt_val (S.e G h1) h2
  cases e with
  | IfExp a b d p => cases h
  | BoolOp op es p => exact (S.tb G (show trTB n g op es = some m from h) p).pt
  | Compare a ops bs p => exact (S.c G (show trC n g a ops bs = some m from h) p).2
  | UnaryOp op a p =>
    cases op with
    | Not =>
      obtain ⟨x, h1, rfl⟩ := map_some (show (trT n g a).map E.not = some m from h)
      exact pevt_not (S.t G h1)
    | _ => exact go (show trE n g _ = some m from h) fun _ => rfl
  | _ => exact go (show trE n g _ = some m from h) fun _ => rfl
theorem snd_cf {f : Str} {ps : List Str} {fl : List Bool} {es : List Expr} {ks : List Keyword} {m : E} (h : trCF (n + 1) g f ps fl es ks = some m) (hg : g.glob f = true) (hf : g.fns.lookup f = some (ps, fl)) (p pos : Pos) : PE X (.Call (.Name f p) es ks pos) (tEv X.K X.mg W (evE c m)) := by
  obtain ⟨hgl, hdb⟩ := G.gl hg
  have hk := G.fns f ps fl hf
  match ks, h with
  | [], h =>
    have h : (if es.length = ps.length then (trEs n g es).map (E.call f fl) else none) = some m := h
    split at h
    · obtain ⟨x, h1, rfl⟩ := map_some h
      obtain ⟨a1, a2, a3⟩ := S.es G h1
      exact pev_call G.rm hk hgl hdb G.tk a1 a2 fun e => by subst e; exact List.length_eq_zero_iff.mp a3
    · cases h
  | kw :: kws, h =>
    have h : (if es.isEmpty then ((trKs n g (kw :: kws)).bind fun ys => (kwNames (kw :: kws)).bind fun ns => if g.kws.contains (f, ns) then (kwOrder ps ns).map (E.callk f fl ys) else none) else none) = some m := h
    split at h
    · rename_i he
      have he : es = [] := List.isEmpty_iff.mp he
      subst he
      obtain ⟨ys, h1, h⟩ := bind_some h
      obtain ⟨ns, h2, h3⟩ := bind_some h
      split at h3
      · rename_i hc
        obtain ⟨perm, h4, rfl⟩ := map_some h3
        obtain ⟨a1, a3⟩ := S.ks G h1
        exact pev_callk G.rm hk hgl hdb G.tk a1 h2 (by simpa using hc) h4 a3
      · cases h3
    · cases h
theorem snd_m {i : Nat} {x nm : Str} {es : List Expr} {m : E} (h : trM (n + 1) g i nm es = some m) (hx : g.slot x = some i) (p apos cpos : Pos) (hl : (apos.endLine == cpos.line) = true) : PE X (.Call (.Attribute (.Name x p) nm apos) es [] cpos) (tEv X.K X.mg W (evE c m)) := by
  obtain ⟨h1, h2, h3, h4⟩ := G.slot hx
  match es, h with
  | [], h =>
    have h : (if nm = "pop" then some (E.pop i) else none) = some m := h
    split at h
    · rename_i e
      subst e
      cases h
      exact pev_pop h1 h2 h3 h4 hl
    · cases h
  | [e], h =>
    have h : (if nm = "append" then (trE n g e).map (E.app i) else if nm = "pop" then (trE n g e).map (E.popAt i) else none) = some m := h
    split at h
    · rename_i e
      subst e
      obtain ⟨y, h5, rfl⟩ := map_some h
      exact pev_app h1 h2 h3 h4 (S.e G h5) (tr_noStar h5) hl
    · split at h
      · rename_i e
        subst e
        obtain ⟨y, h5, rfl⟩ := map_some h
        exact pev_popAt h1 h2 h3 h4 (S.e G h5) (tr_noStar h5) hl
      · cases h
  | _ :: _ :: _, h => cases h
end
end Ev

-- part Ev6c
set_option maxHeartbeats 2000000
/-! Ev6c: built-ins, iterables; the induction is closed. -/
namespace Ev
open PySem PySem.Spec PyProof.Rows L2
theorem fls_look {f : Str} {fl : List Bool} : ∀ {l : List (Str × List Str × List Bool)}, (l.map fun p => (p.1, p.2.2)).lookup f = some fl → ∃ ps, l.lookup f = some (ps, fl) := by
  intro l
  induction l with
  | nil => intro hh; cases hh
  | cons a l ih =>
    intro hh
    rw [List.map_cons, List.lookup_cons] at hh
    rw [List.lookup_cons]
    split at hh
    · rename_i e1
      cases hh
      exact ⟨a.2.1, rfl⟩
    · rename_i e1
      obtain ⟨ps, hps⟩ := ih hh
      exact ⟨ps, hps⟩
section
variable {n : Nat} (S : Snd n) {X : Cx} {W : WX} {k : Nat} {c : CallT} {g : SC} (G : Good X W k c g)
include S G
theorem snd_b1 {f : Str} {e : Expr} {m : E} (h : trB1 (n + 1) g f e = some m) (hg : g.glob f = true) (p pos : Pos) : PE X (.Call (.Name f p) [e] [] pos) (tEv X.K X.mg W (evE c m)) := by
  obtain ⟨b, h1, h⟩ := bind_some (show ((bi1 f).bind fun b => (trEs n g [e]).bind fun xs => some (E.bi b xs)) = some m from h)
  obtain ⟨xs, h2, h3⟩ := bind_some h
  cases h3
  obtain ⟨a1, a2, a3⟩ := S.es G h2
  obtain ⟨hgl, hdb⟩ := G.gl hg
  unfold bi1 at h1
  split at h1
  · rename_i q; subst q; cases h1; exact pev_biB call_len bis_len hgl (G.bi _ (by decide)) boot_len (by decide) hdb a1 a2
  split at h1
  · rename_i q; subst q; cases h1; exact pev_biB call_abs bis_abs hgl (G.bi _ (by decide)) boot_abs (by decide) hdb a1 a2
  split at h1
  · rename_i q; subst q; cases h1; exact pev_biT call_int1 bis_int hgl (G.bi _ (by decide)) boot_int (by decide) hdb a1 a2
  split at h1
  · rename_i q; subst q; cases h1; exact pev_biT call_tuple_of bis_tuple hgl (G.bi _ (by decide)) boot_tuple (by decide) hdb a1 a2
  split at h1
  · rename_i q; subst q; cases h1; exact pev_biT call_list_of bis_list hgl (G.bi _ (by decide)) boot_list (by decide) hdb a1 a2
  split at h1
  · rename_i q; subst q; cases h1; exact pev_biB (cr_sum G.calm) bis_sum hgl (G.bi _ (by decide)) boot_sum (by decide) hdb a1 a2
  split at h1
  · rename_i q; subst q; cases h1; exact pev_biB (cr_all G.calm) bis_all hgl (G.bi _ (by decide)) boot_all (by decide) hdb a1 a2
  split at h1
  · rename_i q; subst q; cases h1; exact pev_biB (cr_any G.calm) bis_any hgl (G.bi _ (by decide)) boot_any (by decide) hdb a1 a2
  split at h1
  · rename_i q; subst q; cases h1; exact pev_biB (cr_sortedA (Nat.lt_of_succ_lt G.un)) bis_sorted hgl (G.bi _ (by decide)) boot_sorted (by decide) hdb a1 a2
  split at h1
  · rename_i q; subst q; cases h1; exact pev_biB (EvZ.cr_minB G.calm) bis_min hgl (G.bi _ (by decide)) boot_min (by decide) hdb a1 a2
  split at h1
  · rename_i q; subst q; cases h1; exact pev_biB (cr_max G.calm) bis_max hgl (G.bi _ (by decide)) boot_max (by decide) hdb a1 a2
  · cases h1
theorem snd_bi {f : Str} {es : List Expr} {m : E} (h : trBi (n + 1) g f es = some m) (hg : g.glob f = true) (p pos : Pos) : PE X (.Call (.Name f p) es [] pos) (tEv X.K X.mg W (evE c m)) := by
  obtain ⟨hgl, hdb⟩ := G.gl hg
  unfold trBi at h
  split at h
  · rename_i q
    subst q
    split at h
    · obtain ⟨x, h1, h⟩ := bind_some h
      obtain ⟨ts, h2, h3⟩ := bind_some h
      cases h3
      have ht := ty_names G h2
      cases ht with
      | cons t1 t2 =>
        cases t2
        exact pev_isi1 hgl (G.bi _ (by decide)) (S.e G h1) (tr_noStar h1) t1
    · split at h
      · rename_i hl
        obtain ⟨x, h1, h⟩ := bind_some h
        obtain ⟨ts, h2, h3⟩ := bind_some h
        cases h3
        exact pev_isiT hgl (G.bi _ (by decide)) (S.e G h1) (tr_noStar h1) (ty_names G h2) hl
      · cases h
    · cases h
  · split at h
    · rename_i e
      split at h
      · rename_i hh hs q
        split at h
        · rename_i hgh
          obtain ⟨p2, p3, rfl⟩ := inner_eq q
          obtain ⟨hgl2, _⟩ := G.gl hgh
          split at h
          · rename_i b q2
            unfold biOf at q2
            split at q2
            · rename_i q3
              obtain ⟨rfl, rfl, hl⟩ := q3
              cases q2
              match hs, hl, h with
              | [a], _, h =>
                obtain ⟨x, h1, rfl⟩ := map_some (show (trE n g a).map (fun x => E.bi .sortedSet [x]) = some m from h)
                exact pev_sortSet G.calm hgl (G.bi _ (by decide)) hgl2 (G.bi _ (by decide)) (S.e G h1) (tr_noStar h1)
            split at q2
            · rename_i q3
              obtain ⟨rfl, rfl, hl⟩ := q3
              cases q2
              match hs, hl, h with
              | [a], _, h =>
                obtain ⟨x, h1, rfl⟩ := map_some (show (trE n g a).map (fun x => E.bi .lenSet [x]) = some m from h)
                exact pev_lenSet G.calm hgl (G.bi _ (by decide)) hgl2 (G.bi _ (by decide)) (S.e G h1) (tr_noStar h1)
            split at q2
            · rename_i q3
              obtain ⟨rfl, rfl, hl⟩ := q3
              cases q2
              match hs, hl, h with
              | [a, b], _, h =>
                obtain ⟨xs, h1, rfl⟩ := map_some (show (trEs n g [a, b]).map (E.bi .zipT) = some m from h)
                obtain ⟨a1, a2, a3⟩ := S.es G h1
                exact pev_zipT G.calm hgl (G.bi _ (by decide)) hgl2 (G.bi _ (by decide)) a1 (by simpa using a2)
            · cases q2
          · exact S.b1 G h hg p pos
        · exact S.b1 G h hg p pos
      · exact S.b1 G h hg p pos
    · rename_i a b
      obtain ⟨w, h1, h⟩ := bind_some h
      obtain ⟨xs, h2, h3⟩ := bind_some h
      cases h3
      obtain ⟨a1, a2, a3⟩ := S.es G h2
      unfold bi2 at h1
      split at h1
      · rename_i q; subst q; cases h1; exact pev_biB (call_min2 G.calm) bis_min2 hgl (G.bi _ (by decide)) boot_min (by decide) hdb a1 a2
      split at h1
      · rename_i q; subst q; cases h1; exact pev_biB (call_max2 G.calm) bis_max2 hgl (G.bi _ (by decide)) boot_max (by decide) hdb a1 a2
      · cases h1
    · cases h
theorem snd_it {tg e : Expr} {m : It} (h : trIt (n + 1) g tg e = some m) : PI X tg e (tEvI X.K X.mg W (evIt c m)) := by
  have go : ∀ {e : Expr}, (trE n g e).map It.seq = some m → PI X tg e (tEvI X.K X.mg W (evIt c m)) := fun h => by
    obtain ⟨x, h1, rfl⟩ := map_some h
    exact pei_seq (S.e G h1)
  unfold trIt at h
  split at h
  · rename_i f es q
    obtain ⟨p, q', rfl⟩ := inner_eq q
    split at h
    · rename_i hc
      rw [Bool.and_eq_true] at hc
      obtain ⟨hgl, hdb⟩ := G.gl hc.1
      split at h
      · rename_i e1
        subst e1
        split at h
        · rename_i hl
          obtain ⟨xs, h1, rfl⟩ := map_some h
          obtain ⟨a1, a2, a3⟩ := S.es G h1
          exact pei_rng hgl (G.bi _ (by decide)) a1 hl a2 a3
        · cases h
      split at h
      · rename_i e1
        subst e1
        split at h
        · rename_i hl
          obtain ⟨xs, h1, rfl⟩ := map_some h
          obtain ⟨a1, a2, a3⟩ := S.es G h1
          match es, hl.1, a1, a2 with
          | [a, b], _, a1, a2 =>
            match tg, hl.2 with
            | .Tuple ts kk tp, _ => exact pei_zip hgl (G.bi _ (by decide)) a1 (by simpa using a2)
        · cases h
      split at h
      · rename_i e1
        subst e1
        split at h
        · rename_i hl
          obtain ⟨xs, h1, rfl⟩ := map_some h
          obtain ⟨a1, a2, a3⟩ := S.es G h1
          match es, hl.1, a1, a2 with
          | [a], _, a1, a2 =>
            match tg, hl.2 with
            | .Tuple ts kk tp, _ => exact pei_enum hgl (G.bi _ (by decide)) a1 (by simpa using a2)
        · cases h
      · exact go h
    · exact go h
  · exact go h
theorem blk_ok {scope : Scope} {own : List (Str × Nat)} (h : blkB g.N g.sc scope own = true) : BlkOk X.N X.env.scope scope own := by
  have hb : BlkOk g.N g.sc scope own := blkOk_by h
  rw [G.N]
  refine ⟨hb.kind, hb.uniq, hb.ix, fun y hy e => ?_, hb.own⟩
  rcases hb.free y hy e with z | z
  · exact .inl (G.sc _ _ z (by decide))
  · exact G.fr _ z
theorem snd_e {e : Expr} {m : E} (h : trE (n + 1) g e = some m) : PE X e (tEv X.K X.mg W (evE c m)) := by
  unfold trE at h
  split at h
  · rename_i x p
    split at h
    · rename_i i q
      cases h
      obtain ⟨h1, h2, h3, h4⟩ := G.slot q
      exact pev_var h1 h2 h3 h4
    · split at h
      · rename_i hg
        obtain ⟨hgl, hdb⟩ := G.gl hg
        split at h
        · rename_i d q
          cases h
          obtain ⟨v, u, a1, a2, a3⟩ := G.con x d q
          exact pev_glo hgl a1 a2 a3 hdb
        · split at h
          · rename_i pf q
            cases h
            obtain ⟨fa, fd, hm, _⟩ := G.fns x pf.1 pf.2 q
            exact pev_glo (v := .ref fa) hgl hm rfl (fun _ _ => .fn hm) hdb
          · cases h
      · cases h
  · cases h; exact pev_int
  · cases h; exact pev_str
  · cases h; exact pev_bl
  · cases h; exact pev_non
  · obtain ⟨q, h1, rfl⟩ := map_some h
    exact pev_tupS (S.sts G h1)
  · obtain ⟨q, h1, rfl⟩ := map_some h
    exact pev_lstS (S.sts G h1)
  · split at h
    · rename_i hl
      obtain ⟨xs, h1, rfl⟩ := map_some h
      obtain ⟨a1, a2, a3⟩ := S.es G h1
      exact pev_tup a1 (by rw [a3]; exact hl)
    · cases h
  · split at h
    · rename_i hl
      obtain ⟨xs, h1, rfl⟩ := map_some h
      obtain ⟨a1, a2, a3⟩ := S.es G h1
      exact pev_lst a1 (by rw [a3]; exact hl)
    · cases h
  · obtain ⟨x, h1, h⟩ := bind_some h
    obtain ⟨y, h2, h3⟩ := bind_some h
    cases h3
    exact pev_bin (S.e G h1) (S.e G h2)
  · obtain ⟨x, h1, rfl⟩ := map_some h
    exact pev_not (S.e G h1)
  · obtain ⟨x, h1, rfl⟩ := map_some h
    exact pev_neg (S.e G h1)
  · exact (S.c G h _).1
  · exact S.b G h _
  · obtain ⟨x, h1, h⟩ := bind_some h
    obtain ⟨y, h2, h⟩ := bind_some h
    obtain ⟨z, h3, h4⟩ := bind_some h
    cases h4
    exact pev_ite (S.t G h1) (S.e G h2) (S.e G h3)
  · obtain ⟨x, h1, h⟩ := bind_some h
    obtain ⟨y, h2, h⟩ := bind_some h
    obtain ⟨z, h3, h4⟩ := bind_some h
    cases h4
    exact pev_sli (S.e G h1) (S.o G h2) (S.o G h3)
  · obtain ⟨x, h1, rfl⟩ := map_some h
    exact pev_rev (S.e G h1)
  · obtain ⟨x, h1, h⟩ := bind_some h
    obtain ⟨y, h2, h3⟩ := bind_some h
    cases h3
    exact pev_idx (S.e G h1) (S.e G h2) (ix_plain h2)
  · split at h
    · rename_i hg
      split at h
      · rename_i pf q
        exact S.cf G h hg q _ _
      · split at h
        · exact S.bi G h hg _ _
        · cases h
    · split at h
      · rename_i i q
        split at h
        · cases h
        · rename_i he
          obtain ⟨xs, h1, rfl⟩ := map_some h
          obtain ⟨a1, a2, a3⟩ := S.es G h1
          obtain ⟨b1, b2, b3, b4⟩ := G.slot q
          rename_i f0 _ es0 _ _ _ _
          cases es0 with
          | nil => exact absurd rfl he
          | cons e es =>
            refine pev_callv (kws := g.kws) G.rm (fun f fl hf => ?_) b1 b2 b3 b4 G.tk a1 a2
            obtain ⟨ps, hps⟩ := fls_look hf
            exact ⟨ps, G.fns f ps fl hps⟩
      · cases h
  · split at h
    · rename_i hl
      split at h
      · rename_i i q
        exact S.m G h q _ _ _ hl
      · cases h
    · cases h
  · split at h
    · cases h
    · rename_i es0 _ he
      obtain ⟨f, h1, h⟩ := bind_some h
      obtain ⟨xs, h2, rfl⟩ := map_some h
      obtain ⟨a1, a2, a3⟩ := S.es G h2
      cases es0 with
      | nil => exact absurd rfl he
      | cons e es =>
        refine pev_calle (kws := g.kws) G.rm (fun f fl hf => ?_) G.tk (S.e G h1) rfl a1 a2
        obtain ⟨ps, hps⟩ := fls_look hf
        exact ⟨ps, G.fns f ps fl hps⟩
  · split at h
    · rename_i hb
      obtain ⟨a, h1, h⟩ := bind_some h
      obtain ⟨t, h2, h⟩ := bind_some h
      obtain ⟨b, h3, h⟩ := bind_some h
      obtain ⟨x, h4, h⟩ := bind_some h
      split at h
      · rename_i ht
        cases h
        refine pev_comp G.calm (by rw [G.N]; exact G.nd) (S.it G h1) (blk_ok S G hb) G.tk (fun σ s H C cl fp xe tk => ?_) (fun σ s H C cl fp xe tk => ?_) (fun σ s H C cl fp xe tk => ?_) (fold_set h1) fun j hj => ?_
        · exact (tg_ok n).1 (G.blk s H _ C cl fp tk) h2
        · exact S.ifs (G.blk s H _ C cl fp tk) h3
        · exact S.e (G.blk s H _ C cl fp tk) h4
        · have := List.all_eq_true.mp ht j hj
          simpa using this
      · cases h
    · cases h
  · cases h
end
theorem snd : ∀ n, Snd n
  | 0 => ⟨fun _ h => by (cases h), fun _ h => by (cases h), fun _ h => by (cases h), fun _ h => by (cases h), fun _ h => by (cases h), fun _ h => by (cases h), fun _ h => by (cases h), fun _ h => by (cases h), fun _ h => by (cases h), fun _ h => by (cases h), fun _ h => by (cases h), fun _ h => by (cases h), fun _ h => by (cases h), fun _ h => by (cases h), fun _ h => by (cases h)⟩
  | n + 1 => by
    have S := snd n
    exact ⟨fun G h => snd_e S G h, fun G h => snd_t S G h, fun G h pos => snd_tb S G h pos, fun G h pos => snd_c S G h pos, fun G h => snd_ifs S G h, fun G h => snd_o S G h, fun G h => snd_es S G h, fun G h => snd_sts S G h, fun G h => snd_ks S G h, fun G h pos => snd_b S G h pos,
      fun G h h1 h2 p pos => snd_cf S G h h1 h2 p pos, fun G h h1 p a c' hl => snd_m S G h h1 p a c' hl, fun G h h1 p pos => snd_bi S G h h1 p pos, fun G h h1 p pos => snd_b1 S G h h1 p pos, fun G h => snd_it S G h⟩
end Ev

-- part Ev7
set_option maxHeartbeats 2000000
/-! Ev7: statements. -/
namespace Ev
open PySem PySem.Spec PyProof.Rows L2
/-- the slots of the lent parameters -/
def SC.pinned (g : SC) (i : Nat) : Prop := ∃ x, g.N[i]? = some x ∧ x ∈ g.pin
section
variable (K : PySem.W.Frag) (mg : Str → Option Value) (W : WX) (P : Nat → Prop)
def GoesS (F : Addr → Prop) (H : Hp) (σ : L2.St) (r : Env) (R : Res Flow) (D : Ends) : Prop := match R with
  | .ok f r' => ∀ F' H' σ', Ext F H (Own σ r) F' H' (Own σ' r') → FR K mg F' H' σ' r' → (∀ i, P i → σ'[i]? = σ[i]?) → σ'.length = σ.length → (match f with
    | .next => D.nx σ' H'
    | .brk => D.bk σ' H'
    | .cont => D.ct σ' H'
    | .ret rv => ∀ v, RVR K mg H F' H' σ' r' rv v → D.rt v H')
  | .exc x r' => ∀ F' H' σ' cls d, Ext F H (Own σ r) F' H' (Own σ' r') → FR K mg F' H' σ' r' → (∀ i, P i → σ'[i]? = σ[i]?) → σ'.length = σ.length → ExcR K mg F' H' x cls d → W cls d σ' H'
  | .stuck => False
def tEvS (m : M Flow) : TS := fun D σ H => ∃ F r, FR K mg F H σ r ∧ GoesS K mg W P F H σ r (m r) D
end
section
variable {K : PySem.W.Frag} {mg : Str → Option Value} {W : WX} {P : Nat → Prop} {F F' : Addr → Prop} {H H' : Hp} {σ σ' : L2.St} {r r' : Env} {D D' : Ends} {R : Res Flow} {α : Type}
theorem GoesS.from (x : Ext F H (Own σ r) F' H' (Own σ' r')) (hp : ∀ i, P i → σ'[i]? = σ[i]?) (hl : σ'.length = σ.length) (h : GoesS K mg W P F H σ r R D) : GoesS K mg W P F' H' σ' r' R D := by
  cases R with
  | stuck => exact h
  | exc e r1 => exact fun F2 H2 σ2 cls d x2 fr2 hp2 l2 er => h F2 H2 σ2 cls d (x.trans x2) fr2 (fun i pi => (hp2 i pi).trans (hp i pi)) (l2.trans hl) er
  | ok f r1 =>
    intro F2 H2 σ2 x2 fr2 hp2 l2
    have := h F2 H2 σ2 (x.trans x2) fr2 (fun i pi => (hp2 i pi).trans (hp i pi)) (l2.trans hl)
    cases f with
    | ret rv => exact fun v rv' => this v (rv'.base fun a e => x.there a e)
    | _ => exact this
/-- an expression first -/
theorem GoesS.bind {m : M α} {f : α → M Flow} (h : GoesS K mg W P F H σ r (M.bind m f r) D) : Goes K mg W F H σ r (m r) fun a r1 F1 H1 => GoesS K mg W P F1 H1 σ r1 (f a r1) D := by
  unfold M.bind at h
  cases e : m r with
  | stuck => rw [e] at h; exact h
  | exc x r1 =>
    rw [e] at h
    exact fun F1 H1 cls d x1 fr1 er => h F1 H1 σ cls d x1 fr1 (fun _ _ => rfl) rfl er
  | ok a r1 =>
    rw [e] at h
    exact fun F1 H1 x1 fr1 => GoesS.from x1 (fun _ _ => rfl) rfl h
theorem GoesS.bind0 {m : M α} {f : α → M Flow} (h : GoesS K mg W P F H σ r (M.bind m f r) D) : Goes K mg W F H σ r (m r) fun a r1 _ _ => GoesS K mg W P F H σ r (f a r1) D := by
  unfold M.bind at h
  cases e : m r with
  | stuck => rw [e] at h; exact h
  | exc x r1 =>
    rw [e] at h
    exact fun F1 H1 cls d x1 fr1 er => h F1 H1 σ cls d x1 fr1 (fun _ _ => rfl) rfl er
  | ok a r1 =>
    rw [e] at h
    exact fun _ _ _ _ => h
end
section
variable {X : Cx} {W : WX} {c : CallT} {P : Nat → Prop} {e a b : Expr} {pos p : Pos}
theorem ps_imp {s : Stmt} {t t' : TS} (h : PS X s t) (i : ∀ D σ H, t' D σ H → t D σ H) : PS X s t' := ⟨fun pins s σ H D I hw => h.run pins s σ H D I (i D σ H hw)⟩
theorem pss_imp {s : List Stmt} {t t' : TS} (h : PSs X s t) (i : ∀ D σ H, t' D σ H → t D σ H) : PSs X s t' := ⟨fun pins s σ H D I hw => h.run pins s σ H D I (i D σ H hw)⟩
theorem psv_nil : PSs X [] (tEvS X.K X.mg W P (evSs c [])) := pss_imp pss_nil fun D σ H ⟨F, r, fr, g⟩ => g F H σ Ext.refl fr (fun _ _ => rfl) rfl
theorem psv_cons {s : Stmt} {ss : List Stmt} {m : St} {ms : List St} (h1 : PS X s (tEvS X.K X.mg W P (evS c m))) (h2 : PSs X ss (tEvS X.K X.mg W P (evSs c ms))) : PSs X (s :: ss) (tEvS X.K X.mg W P (evSs c (m :: ms))) := by
  refine pss_imp (pss_cons h1 h2) fun D σ H ⟨F, r, fr, g⟩ => ⟨F, r, fr, ?_⟩
  have g : GoesS X.K X.mg W P F H σ r (match evS c m r with
    | .ok .next r1 => evSs c ms r1
    | o => o) D := g
  cases e : evS c m r with
  | stuck => rw [e] at g; exact g
  | exc x r1 => rw [e] at g; exact g
  | ok f r1 =>
    rw [e] at g
    cases f with
    | next => exact fun F1 H1 σ1 x1 fr1 hp hl => ⟨F1, r1, fr1, GoesS.from x1 hp hl g⟩
    | brk => exact g
    | cont => exact g
    | ret rv => exact g
theorem psv_pass : PS X (.Pass pos) (tEvS X.K X.mg W P (evS c .pass)) := ps_imp ps_pass fun D σ H ⟨F, r, fr, g⟩ => g F H σ Ext.refl fr (fun _ _ => rfl) rfl
theorem psv_brk : PS X (.Break pos) (tEvS X.K X.mg W P (evS c .brk)) := ps_imp ps_break fun D σ H ⟨F, r, fr, g⟩ => g F H σ Ext.refl fr (fun _ _ => rfl) rfl
theorem psv_cont : PS X (.Continue pos) (tEvS X.K X.mg W P (evS c .cont)) := ps_imp ps_continue fun D σ H ⟨F, r, fr, g⟩ => g F H σ Ext.refl fr (fun _ _ => rfl) rfl
theorem psv_ret0 : PS X (.Return none pos) (tEvS X.K X.mg W P (evS c .ret0)) := ps_imp ps_retN fun D σ H ⟨F, r, fr, g⟩ => g F H σ Ext.refl fr (fun _ _ => rfl) rfl .non (.val .non)
theorem psv_expr {m : E} (he : PE X e (tEv X.K X.mg W (evE c m))) (hs : swapsWith e none pos.line X.env = pure false) : PS X (.Expr e pos) (tEvS X.K X.mg W P (evS c (.expr m))) := by
  refine ps_imp (ps_expr he hs) fun D σ H ⟨F, r, fr, g⟩ => ?_
  have g : GoesS X.K X.mg W P F H σ r (M.bind (evE c m) (fun _ => M.pure .next) r) D := g
  exact ⟨F, r, fr, g.bind.imp fun w r1 F1 H1 _ x1 fr1 g1 v rv => g1 F1 H1 σ Ext.refl fr1 (fun _ _ => rfl) rfl⟩
theorem psv_ret {m : E} (he : PE X e (tEv X.K X.mg W (evE c m))) : PS X (.Return (some e) pos) (tEvS X.K X.mg W P (evS c (.ret m))) := by
  refine ps_imp (ps_ret he) fun D σ H ⟨F, r, fr, g⟩ => ?_
  have g : GoesS X.K X.mg W P F H σ r (M.bind (evE c m) (fun v => M.pure (.ret v)) r) D := g
  exact ⟨F, r, fr, g.bind0.imp fun w r1 F1 H1 _ x1 fr1 g1 v rv => g1 F1 H1 σ x1 fr1 (fun _ _ => rfl) rfl v rv⟩
theorem psv_if {m : E} {ma mb : List St} {sa sb : List Stmt} (hc : PT X e (tEvT X.K X.mg W (evT c m))) (ha : PSs X sa (tEvS X.K X.mg W P (evSs c ma))) (hb : PSs X sb (tEvS X.K X.mg W P (evSs c mb))) : PS X (.If e sa sb pos) (tEvS X.K X.mg W P (evS c (.ifs m ma mb))) := by
  refine ps_imp (ps_if hc ha hb) fun D σ H ⟨F, r, fr, g⟩ => ?_
  have g : GoesS X.K X.mg W P F H σ r (M.bind (evT c m) (fun t => if t then evSs c ma else evSs c mb) r) D := g
  refine ⟨F, r, fr, g.bind.imp fun t r1 F1 H1 _ x1 fr1 g1 => ?_⟩
  cases t with
  | true => rw [if_pos rfl] at g1 ⊢; exact ⟨F1, r1, fr1, g1⟩
  | false => rw [if_neg Bool.false_ne_true] at g1 ⊢; exact ⟨F1, r1, fr1, g1⟩
/-! ### name = value -/
theorem asg_name {K : PySem.W.Frag} {mg : Str → Option Value} {F F1 : Addr → Prop} {H H1 : Hp} {σ : L2.St} {r r1 r2 : Env} {w : RV} {v : V} {i : Nat} (x1 : Ext F H (Own σ r) F1 H1 (Own σ r1)) (fr1 : FR K mg F1 H1 σ r1) (rv : RVR K mg H F1 H1 σ r1 w v) (hi : i < σ.length) (h : asgRV i w r1 = some r2) :
    ∃ F2, Ext F H (Own σ r) F2 H1 (Own (σ.set i (some v)) r2) ∧ FR K mg F2 H1 (σ.set i (some v)) r2 := by
  cases w with
  | val d =>
    cases h
    cases rv with
    | val q =>
      refine ⟨F1, ⟨x1.keep, x1.fz, x1.fnew, fun a o => ?_, x1.there⟩, fr1.setVal hi q⟩
      exact x1.onew a (Own.set_sub (by intro xs; simp) o)
  | own xs =>
    cases h
    cases rv with
    | own e q nf no fz =>
      rename_i a us
      refine ⟨F1, ⟨x1.keep, x1.fz, x1.fnew, fun b o => ?_, x1.there⟩, fr1.setBox hi e q nf no⟩
      obtain ⟨j, ys, e1, e2⟩ := o
      rcases get_set e1 with ⟨rfl, _⟩ | ⟨n, e1⟩
      · rw [List.getElem?_set_self hi] at e2
        cases e2
        exact .inr fz
      · rw [List.getElem?_set_ne (Ne.symm n)] at e2
        exact x1.onew b ⟨j, ys, e1, e2⟩
  | bor j =>
    have h : (match r1[j]? with
      | some (.box xs) => some ((r1.set j (.val (.lst xs))).set i (.val (.lst xs)))
      | some (.val d) => some (r1.set i (.val d))
      | _ => none) = some r2 := h
    cases rv with
    | bor e =>
      cases q : r1[j]? with
      | none => rw [q] at h; cases h
      | some s =>
        rw [q] at h
        cases s with
        | no => cases h
        | val d =>
          cases h
          obtain ⟨v', q1, q2⟩ := fr1.val j d q
          rw [e] at q1
          cases q1
          refine ⟨F1, ⟨x1.keep, x1.fz, x1.fnew, fun a o => ?_, x1.there⟩, fr1.setVal hi q2⟩
          exact x1.onew a (Own.set_sub (by intro xs; simp) o)
        | box xs =>
          cases h
          obtain ⟨a, us, q1, q2, q3, q4⟩ := fr1.box j xs q
          rw [e] at q1
          cases q1
          have fr2 := fr1.share q e
          have x2 : Ext F1 H1 (Own σ r1) (Fp F1 a) H1 (Own σ (r1.set j (.val (.lst xs)))) := Ext.share q e
          refine ⟨Fp F1 a, ?_, fr2.setVal hi (.lst (.inr rfl) q2 (q3.mono (fun _ f => .inl f) fun _ _ _ e => e))⟩
          have x3 := x1.trans x2
          exact ⟨x3.keep, x3.fz, x3.fnew, fun b o => x3.onew b (Own.set_sub (by intro xs; simp) o), x3.there⟩
theorem psv_set_imp {K : PySem.W.Frag} {mg : Str → Option Value} {i : Nat} {m : E} (hp : ¬ P i) {D : Ends} {σ : L2.St} {H : Hp} (hl : i < σ.length) (h : tEvS K mg W P (evS c (.asg (.name i) m)) D σ H) : tAsg (tEv K mg W (evE c m)) (gName i) D σ H := by
  obtain ⟨F, r, fr, g⟩ := h
  have g : GoesS K mg W P F H σ r (M.bind (evE c m) (fun v r => match asgRV i v r with
      | some r' => .ok .next r'
      | none => .stuck) r) D := g
  refine ⟨F, r, fr, g.bind0.imp fun w r1 F1 H1 _ x1 fr1 g1 v rv => ?_⟩
  split at g1
  · rename_i r2 e
    obtain ⟨F2, x2, fr2⟩ := asg_name x1 fr1 rv hl e
    refine g1 F2 H1 _ x2 fr2 (fun j pj => ?_) (by simp)
    have : j ≠ i := fun z => hp (z ▸ pj)
    rw [List.getElem?_set_ne (Ne.symm this)]
  · exact g1.elim
end
end Ev

-- part EvX1
set_option maxHeartbeats 2000000
/-! EvX1: exceptions that are made. -/
namespace Ev
open PySem PySem.Spec PyProof.Rows L2
theorem pmk_own0 {X : Cx} {C : Addr} {bmB : List Value} {B newId initId : String} {x : Str} {p pos : Pos} (F : ExcBaseFacts B newId initId bmB) (q : PySem.W.excIn X.K C bmB newId = true) (gC : X.mg x = some (.ref C))
    (kC : PySem.W.keepIn X.K (.ref C) = true) (r : Raises X (.ref C)) (hg : Gl X x) (hdb : (x == ("__debug__" : Str)) = false) :
    PMk X (.Call (.Name x p) [] [] pos) (fun _ H Q => Q (.ref C) none H) := by
  intro pins s σ H Q I h
  refine wpAny_Call_Name_kw (ld_glob I hg gC ?_ hdb)
  refine PySem.W.callWith_K0 I.kIn kC ?_
  show wpAny _ _ (call (.ref C) []) _ _ _
  obtain ⟨bm, N, nm, qn, bs, hdct, sn, sub, ab, col, dd, k0, k1, k2, k3, k5, mN, hC, hN, hni, T⟩ := exc_obj I.kIn q
  refine wpAny_call_exc_subT F T hC hN hni (fun h' e hm => ?_) (by simp)
  exact mk_of I hm r h (I.hok.gone hm.new)
/-- a class of errors without fields -/
structure Cls0 (X : Cx) (x : Str) (C : Addr) : Prop where
  exc : PySem.W.excIn X.K C He.veBase "ValueError.__new__" = true
  glo : X.mg x = some (.ref C)
  keep : PySem.W.keepIn X.K (.ref C) = true
  sub : PySem.W.subIn X.K (.ref C) (.type "BaseException") = some true
  typ : PySem.W.typeIn X.K (.ref C) = some (.type "type")
theorem psv_raise0 {X : Cx} {W : WX} {c : CallT} {P : Nat → Prop} {x : Str} {C : Addr} {p pos pos' : Pos} (T : Cls0 X x C) (hc : X.calm = true) (tk : Takes X W) (hg : Gl X x) (hdb : (x == ("__debug__" : Str)) = false) :
    PS X (.Raise (some (.Call (.Name x p) [] [] pos)) none pos') (tEvS X.K X.mg W P (evS c (.raise x [] []))) := by
  refine ps_imp (ps_raise hc tk (pmk_own0 PySem.F.excBase_ValueError T.exc T.glo T.keep (raises_own T.sub T.typ) hg hdb)) fun D σ H ⟨F, r, fr, g⟩ => ?_
  have e : evS c (.raise x [] []) r = .exc ⟨x, [], []⟩ r := by
    rw [evS]
    rfl
  rw [e] at g
  exact g F H σ (.ref C) none Ext.refl fr (fun _ _ => rfl) rfl ⟨⟨C, T.glo, rfl⟩, rfl, rfl⟩
theorem init_ok {P : Program} {w : World} {K : PySem.W.Frag} {mg : Str → Option Value} {base : Heap} {nm qual s y f : Str} {params : Arguments} {scope : Scope} {fI : Addr} {fd : FuncData} {p1 p2 p3 p4 : Pos} {C : Addr}
    (h1 : FunD K nm qual params [.Assign [.Attribute (.Name s p1) f p2] (.Name y p3) p4] scope [] [] fI fd) (h3 : FnScope [s, y] [s, y] scope) (ls : scope.names.lookup s = some .local) (ly : scope.names.lookup y = some .local)
    (ds : (s == ("__debug__" : Str)) = false) (cs : (s == ("__classdict__" : Str)) = false) (dy : (y == ("__debug__" : Str)) = false) (cy : (y == ("__classdict__" : Str)) = false) :
    FnOk P w K mg base (L2.CX P w) 1 fI fd [s, y] (spIni K C f) := by
  refine h1.ok h3 (fun vs H Q E ⟨a, v, e, _⟩ => by rw [e]; rfl) fun cdv A outer s0 H vs Q E hr hsp => ?_
  obtain ⟨a, v, rfl, T, hno, ha, q⟩ := hsp
  refine ⟨_, pss_cons (ps_ost (pe_var (i := 0) rfl (.inl ls) ds cs) (pe_var (i := 1) rfl (.inl ly) dy cy)) pss_nil, ?_⟩
  exact ⟨v, rfl, .ref a, rfl, a, C, rfl, T, hno, .inl ⟨ha, fun dx n ne => q dx n ne⟩⟩
/-- a class of errors with one field, laid by its __init__ -/
structure Cls1 (X : Cx) (x f : Str) (C : Addr) : Prop where
  oex : OexC X.K C
  noN : PySem.W.findIn X.K (.ref C) f = some none
  glo : X.mg x = some (.ref C)
  ini : ∃ (fI : Addr) (fd : FuncData) (ps : List Str), PySem.W.findIn X.K (.ref C) "__init__" = some (some (.ref fI)) ∧ PySem.W.typeIn X.K (.ref fI) = some (.type "function") ∧ FnOk X.prog X.w X.K X.mg X.base (L2.CX X.prog X.w) 1 fI fd ps (spIni X.K C f) ∧ Binds X.K fd ps []
theorem passF {X : Cx} {W : WX} (tk : Takes X W) : Passes (L2.CX X.prog X.w) X (fun _ _ _ => False) := fun pins σ H s e s' I c => tk e s' (XE.of_call I (fun _ _ _ h => h.elim) c)
theorem psv_raise1 {X : Cx} {W : WX} {c : CallT} {P : Nat → Prop} {x f : Str} {C : Addr} {e : Expr} {m : E} {p pos pos' : Pos} (T : Cls1 X x f C) (hc : X.calm = true) (tk : Takes X W) (hr : Room 2 X.A) (hg : Gl X x) (hdb : (x == ("__debug__" : Str)) = false)
    (ha : PA X [e] (tEvA X.K X.mg W (evEs c [m]))) (he : starEach [e] X.env = (false, eval e X.env) :: starEach [] X.env) :
    PS X (.Raise (some (.Call (.Name x p) [e] [] pos)) none pos') (tEvS X.K X.mg W P (evS c (.raise x [f] [m]))) := by
  obtain ⟨fI, fd, ps, iC, tI, F1, hb⟩ := T.ini
  refine ps_imp (ps_raise hc tk (pmk_oex T.oex iC tI F1 hr hb .nil (passF tk) hg T.glo ha hdb he rfl)) fun D σ H ⟨F, r, fr, g⟩ => ?_
  have g : GoesS X.K X.mg W P F H σ r (M.bind (evEs c [m]) (fun vs => M.bind (toDs vs) fun ds => fun r => .exc ⟨x, [f], ds⟩ r) r) D := by
    rw [evS] at g
    exact g
  refine ⟨F, r, fr, g.bind0.imp fun ws r1 F1 H1 hw x1 fr1 g1 vs rvs => ?_⟩
  unfold M.bind at g1
  cases h1 : toDs ws r1 with
  | stuck => rw [h1] at g1; exact g1.elim
  | exc _ _ => exact (toDs_noexc h1).elim
  | ok ds r2 =>
    rw [h1] at g1
    obtain ⟨F2, f2, n2, o2, fr2, d2⟩ := toDs_ok fr1 rvs h1
    have x2 := Ext.shared (F1 := F1) (H1 := H1) x1 rvs f2 n2 o2
    have wl : vs.length = 1 := by rw [← rvs.length, evEs_length hw]; rfl
    obtain ⟨v, rfl⟩ := List.length_eq_one_iff.mp wl
    refine ⟨by simp, fun a hn => ⟨a, v, rfl, T.oex, T.noN, upd_same, fun dx hdx ne => ?_⟩⟩
    have hd1 : H1 dx = none := by rw [← hdx, upd_ne ne]
    refine ⟨rfl, dx, [(f, v)], upd_same, by rw [upd_ne ne]; exact upd_same, hd1, ?_⟩
    have eH : upd (del (upd (upd (upd H1 a (exo a C none)) dx (exd dx [(f, v)])) a (exo a C (some dx))) a) dx (.xd [(f, v)]) = upd H1 dx (.xd [(f, v)]) := by
      funext b
      by_cases h1 : b = dx
      · subst h1; rw [upd_same, upd_same]
      · rw [upd_ne h1, upd_ne h1]
        by_cases h2 : b = a
        · subst h2; rw [del_same, hn]
        · rw [del_ne h2, upd_ne h2, upd_ne h1, upd_ne h2]
    rw [eH]
    have g1 : GoesS X.K X.mg W P F H σ r (.exc ⟨x, [f], ds⟩ r2) D := g1
    refine g1 F2 (upd H1 dx (.xd [(f, v)])) σ (.ref C) (some dx) (x2.trans (Ext.alloc hd1 (fun _ f => f) fun _ f => .inl f)) (fr2.alloc hd1 (fun _ f => f) fun _ f => .inl f) (fun _ _ => rfl) rfl ⟨⟨C, T.glo, rfl⟩, [v], upd_same, d2.mono (fun _ f => f) fun a o _ e => upd_new hd1 e, rfl⟩
end Ev

-- part EvX2
set_option maxHeartbeats 2000000
/-! EvX2: several except clauses that name the error. -/
namespace Ev
open PySem PySem.Spec PyProof.Rows L2
abbrev TC := Addr → Value → Option Addr → TS
/-- the ends of a clause: its name goes -/
def goneE (i : Nat) (D : Ends) : Ends := { nx := fun τ G => D.nx (τ.set i none) G, rt := D.rt, bk := fun τ G => D.bk (τ.set i none) G, ct := fun τ G => D.ct (τ.set i none) G }
def wA (K : PySem.W.Frag) (i : Nat) (Wo : WX) (D : Ends) : List (Value × TC) → WX
  | [] => Wo
  | p :: r => fun cls d τ G => ∃ b, PySem.W.exmOne K cls p.1 = some b ∧ (b = true → ∀ a, G a = none → p.2 a cls d (goneE i D) (τ.set i (some (.ref a))) G) ∧ (b = false → wA K i Wo D r cls d τ G)
inductive HdA (X : Cx) (n : Str) : List ExceptHandler → List (Value × TC) → Prop
  | nil : HdA X n [] []
  | cons {x : Str} {c : Value} {ts : TC} {b0 : Stmt} {su : List Stmt} {p1 p2 : Pos} {hds : List ExceptHandler} {l : List (Value × TC)} (hc : Names X x c)
      (hsu : ∀ (a : Addr) (oe : Obj) (cls : Value) (d : Option Addr) (pn : List (Addr × Obj)), Zc cls d oe → (∃ vs, oe.data = .fields vs) → PSs (X.suite a ((a, oe) :: pn)) (b0 :: su) (ts a cls d)) (r : HdA X n hds l) :
      HdA X n (.ExceptHandler (some (.Name x p1)) (some n) (b0 :: su) p2 :: hds) ((c, ts) :: l)
theorem ps_tryA {X : Cx} {body : List Stmt} {hd0 : ExceptHandler} {hds : List ExceptHandler} {l : List (Value × TC)} {pos : Pos} {tb : WX → TS} {Wo : WX} {i : Nat} {n : Str} (hst : X.stack = X.env :: X.outer) (hfm : X.env.frame = some X.env.locals) (hnd : X.N.Nodup) (hix : X.N[i]? = some n) (hlc : X.env.kindOf n = some .local) (tko : Takes X Wo)
    (hbd : ∀ (W : WX) (pn : List (Addr × Obj)) (xe : Value → Shared → Prop), Takes (X.tr pn xe) W → PassesOwn (model X.prog X.w) X.A X.env xe → PSs (X.tr pn xe) body (tb W))
    (hhd : HdA X n (hd0 :: hds) l) : PS X (.Try body (hd0 :: hds) [] [] pos) (fun D σ H => tb (wA X.K i Wo D l) D σ H) := by
  refine ⟨fun pins t0 τ0 G0 D I0 hw => ?_⟩
  have iok := I0.ok
  have hfrm : X.A.frames = some (X.env :: X.outer) := by rw [iok.frames, hst]
  refine wpAny_Try_except ?_
  refine wpAny_mono ((hbd (wA X.K i Wo D l) (X.pn ++ pins) (fun er t1 => wpAny (model X.prog X.w) X.A (noteFrame er X.env) (fun _ t2 => wpAny (model X.prog X.w) X.A (setFlight er none) (fun _ t3 => wpAny (model X.prog X.w) X.A (handleBy er X.env (hd0 :: hds)) (SP X pins D) X.xe t3) X.xe t2) X.xe t1) (fun er t1 xx => ?_) PassesOwn.looking).run [] t0 τ0 G0 D (I0.toTry _) hw) (fun fl t1 sp => ?_) (fun _ _ z => z)
  · obtain ⟨a, B, tI, pin2, τ, G, cls, d, rfl, I1, below, upto, sky, new, os, bare, want⟩ := xx
    have J : Inv X pins τ G tI := I1.ofTry iok
    have sky2 : Sky B (X.env :: X.outer) a (Zc cls d) X.env.locals t1.heap := by rw [← hst]; exact sky
    show wpAny (model X.prog X.w) X.A (noteFrame (.ref a) X.env) _ _ _
    refine Sky.land Zc.steady hfrm hfm sky2 fun hp3 land3 upto3 => ?_
    have K3 : Inv X pins τ G { t1 with heap := hp3 } := J.landed below land3.1 (upto.trans upto3) os bare
    obtain ⟨ob3, vs3, at3, zc3, da3⟩ := land3.there
    have off : a ∉ frs (X.env :: X.outer) := fun hm => by
      obtain ⟨_, ob, e1, e2⟩ := land3.2.2.1.mem hm
      rw [at3] at e1
      cases e1
      exact e2 _ da3
    have offL : a ≠ X.env.locals := fun z => off (List.mem_filterMap.mpr ⟨X.env, List.mem_cons_self, by rw [hfm, z]⟩)
    have offF : a ∉ X.fs := fun hm => by
      obtain ⟨ev, h1, h2⟩ := List.mem_filterMap.mp hm
      exact off (List.mem_filterMap.mpr ⟨ev, List.mem_cons_of_mem _ h1, h2⟩)
    have S3 := K3.suite at3 da3 new offL offF
    have walk : ∀ {hs2 : List ExceptHandler} {l2 : List (Value × TC)}, HdA X n hs2 l2 → wA X.K i Wo D l2 cls d τ G → wpAny (model X.prog X.w) X.A (handleBy (.ref a) X.env hs2) (SP X pins D) X.xe { t1 with heap := hp3 } := by
      intro hs2 l2 ok2
      induction ok2 with
      | nil =>
        intro w2
        refine wpAny_handleBy_nil ?_
        obtain ⟨y1, y2, y3, ob, vs, TB, oT, tsx, q1, q2, q3, q4, q5⟩ := id land3
        unfold PySem.passOn
        refine wpAny_bind (wpAny_field q1 q3 q4 ?_)
        rw [if_neg (show ¬ ((Value.ref TB == Value.none) = true) by simp)]
        have out : wpAny (model X.prog X.w) X.A (setFlight (.ref a) X.env.frame) (fun _ t4 => wpAny (model X.prog X.w) X.A (throw (.ref a) : Sem PySem.Flow) (SP X pins D) X.xe t4) X.xe { t1 with heap := hp3 } := by
          rw [hfm]
          refine HandSPX.setFlight_upZ land3 fun hp4 fl4 upto4 => wpAny_throw (tko _ _ ?_)
          exact ⟨a, B, tI, pins, τ, G, cls, d, rfl, J, below, (upto.trans upto3).trans upto4, .inr (.inr (by rw [hst]; exact fl4)), new, os, bare, w2⟩
        first
          | exact wpAny_bind (wpAny_pure (wpAny_bind out))
          | exact wpAny_bind out
      | @cons x c ts b0 su p1 p2 hs3 l3 hc hsu r ih =>
        rintro ⟨b, hb, yes, no⟩
        refine wpAny_handleBy_cons (codeAny_handlers_test ?_) (by intro q; cases q)
        have ltyp : PySem.W.Looks (model X.prog X.w) hp3 (typeOf (.ref a)) cls := fun A2 Q2 E2 t2 keep q => wpAny_typeOf_ref (keep _ _ at3) (by rw [zc3.1]; exact q)
        have lmat := PySem.W.exm_one (M := model X.prog X.w) K3.kIn ltyp hb
        have ask : ∀ {Q2 : Value → Shared → Prop} {E2 : Value → Shared → Prop}, Q2 c { t1 with heap := hp3 } → wpAny (model X.prog X.w) (X.A.mark (some (.ref a))) (eval (.Name x p1) X.env) Q2 E2 { t1 with heap := hp3 } := fun {Q2 E2} q => by
          obtain ⟨g1, g2, g3 | ⟨g3, g4, g5⟩⟩ := hc
          · exact ld_glob (X := X.suite a ((a, ob3) :: (X.pn ++ pins))) S3 g1 g3 q g2
          · exact ld_blt (X := X.suite a ((a, ob3) :: (X.pn ++ pins))) S3 g1 g3 g4 q g5 g2
        refine ask (lmat.here ?_)
        cases b with
        | true =>
          refine codeAny_handlers_suite_as ?_
          refine HandSPX.lands_againZ land3 fun hp4 land4 upto4 => ?_
          have K4 : Inv X pins τ G { t1 with heap := hp4 } := J.landed below land4.1 ((upto.trans upto3).trans upto4) os bare
          obtain ⟨ob4, vs4, at4, zc4, da4⟩ := land4.there
          have S4 := K4.suite at4 da4 new offL offF
          refine store_ok (X := X.suite a ((a, ob4) :: (X.pn ++ pins))) (v := .ref a) S4 hnd hix (.inl hlc) rfl (fun t5 S5 => ?_) (.inr hlc)
          refine wpAny_mono ((hsu a ob4 cls d (X.pn ++ pins) zc4 ⟨_, da4⟩).run [] t5 _ G _ S5 (yes rfl a new)) (fun fl t6 sp6 => ?_) (fun _ _ z => z.elim)
          have gone : ∀ {τ6 : L2.St} {G6 : Hp} {Q6 : Shared → Prop}, Inv (X.suite a ((a, ob4) :: (X.pn ++ pins))) [] τ6 G6 t6 → (∀ t7, Inv X pins (τ6.set i none) G6 t7 → Q6 t7) →
              wpAny (model X.prog X.w) X.A (do bindName X.env n .none; unbindBehindTheSuite X.env n p2) (fun _ t7 => Q6 t7) X.xe t6 := fun {τ6 G6 Q6} S6 k => gone_ok (S6.unsuite iok) hnd hix hlc k
          cases fl with
          | next =>
            obtain ⟨τ6, G6, S6, z6⟩ := sp6
            exact gone S6 fun t7 J7 => ⟨_, _, J7, z6⟩
          | brk =>
            obtain ⟨τ6, G6, S6, z6⟩ := sp6
            exact gone S6 fun t7 J7 => ⟨_, _, J7, z6⟩
          | cont =>
            obtain ⟨τ6, G6, S6, z6⟩ := sp6
            exact gone S6 fun t7 J7 => ⟨_, _, J7, z6⟩
          | ret u =>
            obtain ⟨v6, τ6, G6, S6, r6, z6⟩ := sp6
            exact gone S6 fun t7 J7 => ⟨_, _, _, J7, r6, z6⟩
        | false =>
          show wpAny _ X.A (handleBy (.ref a) X.env hs3) _ _ _
          exact ih (no rfl)
    exact walk hhd want
  · cases fl with
    | next =>
      obtain ⟨τ, G, J, z⟩ := sp
      exact wpAny_execs_nil ⟨τ, G, J.ofTry iok, z⟩
    | brk =>
      obtain ⟨τ, G, J, z⟩ := sp
      exact ⟨τ, G, J.ofTry iok, z⟩
    | cont =>
      obtain ⟨τ, G, J, z⟩ := sp
      exact ⟨τ, G, J.ofTry iok, z⟩
    | ret u =>
      obtain ⟨v, τ, G, J, r, z⟩ := sp
      exact ⟨v, τ, G, J.ofTry iok, r, z⟩
end Ev

-- part EvX3
set_option maxHeartbeats 2000000
/-! EvX3: what a clause asks of its error. -/
namespace Ev
open PySem PySem.Spec PyProof.Rows L2
/-- isinstance(e, c) of the error that is held, with or without a dict -/
def rIsD (K : PySem.W.Frag) (C a : Addr) (cls : Value) (d : Option Addr) : List V → Hp → VK → Prop := fun xs H Q => ∃ (c : V) (cv : Value) (b : Bool), xs = [.ref a, c] ∧ cls = .ref C ∧ (∀ u, RelV c u → u = cv) ∧ PySem.W.kitOne K (.ref C) cv = some b ∧ (∀ dd, d = some dd → ∃ fs, H dd = some (.xd fs)) ∧ Q (.bl b) H
theorem call_isD {X : Cx} {a C : Addr} {cls : Value} {d : Option Addr} {oe : Obj} {pn : List (Addr × Obj)} (T : ExcC X.K C) (hz : Zc cls d oe) (hf : ∃ vs, oe.data = .fields vs) : CallR (X.suite a ((a, oe) :: pn)) (.builtin "isinstance") (rIsD X.K C a cls d) := by
  intro pins t τ G xs us Q I r hw
  obtain ⟨c, cv, b, rfl, rfl, hcv, hk, hd, q⟩ := hw
  cases r with
  | cons r1 rr =>
    cases rr with
    | cons r2 rr =>
      cases rr
      cases r1
      obtain rfl := hcv _ r2
      obtain ⟨at_, _⟩ := I.pin (a, oe) (List.mem_append.mpr (.inl List.mem_cons_self))
      obtain ⟨vs, hv⟩ := hf
      obtain ⟨cd, hcd, _⟩ := PySem.W.any_some T.hd
      have J : ∃ od, PySem.W.InstAt t.heap a oe C od := by
        cases d with
        | none => exact ⟨none, at_, hz.1, by unfold PySem.W.notCls; rw [hv] <;> rfl, by rw [hz.2]; trivial⟩
        | some dd =>
          obtain ⟨fs, hx⟩ := hd dd rfl
          obtain ⟨mA, hns, _⟩ : ObjOk X.prog X.w G t.heap dd (.xd fs) := I.hok dd _ hx
          obtain ⟨od, ho, _⟩ := lookIn_ns hns
          exact ⟨some od, at_, hz.1, by unfold PySem.W.notCls; rw [hv] <;> rfl, by rw [hz.2]; exact ho⟩
      obtain ⟨od, J⟩ := J
      exact PySem.W.kia_one (PySem.W.kitx_exc (by rw [hcd]; rfl) T.hg T.hk T.hs T.ha T.hn T.ht T.hm) I.kIn J hk (fun z => nomatch z) fun tk => ⟨.bl b, G, I.kept (t' := tk) fun _ _ z => z, rfl, q⟩
end Ev

-- part EvX4
set_option maxHeartbeats 2000000
/-! EvX4: the suite of a clause. -/
namespace Ev
open PySem PySem.Spec PyProof.Rows L2
/-- a constant's value -/
def cstV : D → Option V
  | .non => some .non
  | .bl b => some (.bl b)
  | .int i => some (.int i)
  | .str x => some (.str x)
  | _ => none
/-- what an item tells -/
def itemR (H : Hp) (d : Option Addr) : XE → V → Prop
  | .cst c, v => cstV c = some v
  | .fld f, v => ∃ dd fs, d = some dd ∧ H dd = some (.xd fs) ∧ fs.lookup f = some v
  | .isi b, v => v = .bl b ∧ ∀ dd, d = some dd → ∃ fs, H dd = some (.xd fs)
inductive ItemsR (H : Hp) (d : Option Addr) : List XE → List V → Prop
  | nil : ItemsR H d [] []
  | cons {m : XE} {ms : List XE} {v : V} {vs : List V} (h : itemR H d m v) (r : ItemsR H d ms vs) : ItemsR H d (m :: ms) (v :: vs)
def tItem (i : Nat) (a C : Addr) (cls : Value) (d : Option Addr) (m : XE) : TE := fun σ H Q => cls = .ref C ∧ σ[i]? = some (some (.ref a)) ∧ ∃ v, itemR H d m v ∧ Q v H
def tItems (i : Nat) (a C : Addr) (cls : Value) (d : Option Addr) (ms : List XE) : TA := fun σ H Q => cls = .ref C ∧ σ[i]? = some (some (.ref a)) ∧ ∃ vs, ItemsR H d ms vs ∧ Q vs H
section
variable {X : Cx} {i : Nat} {a C : Addr} {cls : Value} {d : Option Addr} {oe : Obj} {pn : List (Addr × Obj)} {n : Str} {p p2 p3 pos : Pos} {j : Nat}
theorem pi_str {x : Str} : PE (X.suite a ((a, oe) :: pn)) (.Constant (.str x) j pos) (tItem i a C cls d (.cst (.str x))) := pe_imp pe_str fun σ H Q ⟨_, _, v, h, q⟩ => by
  cases h
  exact q
theorem pi_int {x : Int} : PE (X.suite a ((a, oe) :: pn)) (.Constant (.int x) j pos) (tItem i a C cls d (.cst (.int x))) := pe_imp pe_int fun σ H Q ⟨_, _, v, h, q⟩ => by
  cases h
  exact q
theorem pi_bl {x : Bool} : PE (X.suite a ((a, oe) :: pn)) (.Constant (.bool x) j pos) (tItem i a C cls d (.cst (.bl x))) := pe_imp pe_bl fun σ H Q ⟨_, _, v, h, q⟩ => by
  cases h
  exact q
theorem pi_fld {f : Str} (T : XfC X.K C) (hno : PySem.W.findIn X.K (.ref C) f = some none) (hz : Zc cls d oe) (hf : ∃ vs, oe.data = .fields vs) (hN : X.N[i]? = some n) (hv : Vis X.env.scope n) (hd : (n == ("__debug__" : Str)) = false) (hcd : (n == ("__classdict__" : Str)) = false) (hb : attributeBase (.Name n p) f X.env (eval (.Name n p) X.env) = eval (.Name n p) X.env) :
    PE (X.suite a ((a, oe) :: pn)) (.Attribute (.Name n p) f pos) (tItem i a C cls d (.fld f)) :=
  pe_imp (pe_xf T hno hz hf (pe_var (X := X.suite a ((a, oe) :: pn)) hN hv hd hcd) hb) fun σ H Q ⟨hc, hs, v, ⟨dd, fs, e1, e2, e3⟩, q⟩ => ⟨.ref a, hs, rfl, hc, dd, fs, v, e1, e2, e3, q⟩
theorem pi_isi {x : Str} {B : Addr} {b : Bool} (T : ExcC X.K C) (hz : Zc cls d oe) (hf : ∃ vs, oe.data = .fields vs) (hN : X.N[i]? = some n) (hv : Vis X.env.scope n) (hd : (n == ("__debug__" : Str)) = false) (hcd : (n == ("__classdict__" : Str)) = false) (hgi : Gl X "isinstance") (hmi : X.mg "isinstance" = none)
    (hgx : Gl X x) (hmx : X.mg x = some (.ref B)) (hdx : (x == ("__debug__" : Str)) = false) (hk : PySem.W.kitOne X.K (.ref C) (.ref B) = some b) :
    PE (X.suite a ((a, oe) :: pn)) (.Call (.Name "isinstance" p) [.Name n p2, .Name x p3] [] pos) (tItem i a C cls d (.isi b)) := by
  refine pe_imp (pe_callB (X := X.suite a ((a, oe) :: pn)) (call_isD T hz hf) hgi hmi boot_isinstance (pa_cons (pe_var (X := X.suite a ((a, oe) :: pn)) hN hv hd hcd) (pa_cons (pe_glob (X := X.suite a ((a, oe) :: pn)) (v := .ref B) hgx hmx rfl hdx) pa_nil))) fun σ H Q h => ?_
  obtain ⟨hc, hs, v, ⟨rfl, hx⟩, q⟩ := h
  exact ⟨.ref a, hs, .ref B, .ref B, b, rfl, hc, fun u r => r, hk, hx, q⟩
theorem pi_nil : PA (X.suite a ((a, oe) :: pn)) [] (tItems i a C cls d []) := pa_imp pa_nil fun σ H Q ⟨_, _, vs, h, q⟩ => by
  cases h
  exact q
theorem pi_cons {e : Expr} {es : List Expr} {m : XE} {ms : List XE} (h1 : PE (X.suite a ((a, oe) :: pn)) e (tItem i a C cls d m)) (h2 : PA (X.suite a ((a, oe) :: pn)) es (tItems i a C cls d ms)) (hs : starEach (e :: es) X.env = (false, eval e X.env) :: starEach es X.env) : PA (X.suite a ((a, oe) :: pn)) (e :: es) (tItems i a C cls d (m :: ms)) :=
  pa_imp (pa_cons h1 h2 hs) fun σ H Q ⟨hc, hi, vs, h, q⟩ => by
    cases h with
    | cons h r => exact ⟨hc, hi, _, h, hc, hi, _, r, q⟩
end
end Ev

-- part Ev7b
set_option maxHeartbeats 2000000
/-! Ev7b: tuple targets, items. -/
namespace Ev
open PySem PySem.Spec PyProof.Rows L2
section
variable {X : Cx} {W : WX} {c : CallT} {P : Nat → Prop} {e a b : Expr} {pos p pt pt2 : Pos} {K : PySem.W.Frag} {mg : Str → Option Value} {F F1 : Addr → Prop} {H H1 H0 : Hp} {σ : L2.St} {r r1 r2 : Env}
theorem ps_impL {s : Stmt} {t t' : TS} (h : PS X s t) (i : ∀ D σ H, σ.length = X.N.length → t' D σ H → t D σ H) : PS X s t' := ⟨fun pins s σ H D I hw => h.run pins s σ H D I (i D σ H I.len hw)⟩
/-! ### a, b = e -/
theorem psv_asgT {m : E} {es : List Expr} {j : Nat} {ts : List Tg} (he : PE X e (tEv X.K X.mg W (evE c m))) (hg : PG X (.Tuple es j p) (gT X.K X.mg (.tup ts))) (hs : swapsWithSole [.Tuple es j p] e pos.line X.env = pure false) (hw : swappedStores [.Tuple es j p] e X.env = pure none) (hpin : ∀ i ∈ tslots (.tup ts), ¬ P i) :
    PS X (.Assign [.Tuple es j p] e pos) (tEvS X.K X.mg W P (evS c (.asg (.tup ts) m))) := by
  refine ps_imp (ps_asg he hg hs hw rfl) fun D σ H ⟨F, r, fr, g⟩ => ?_
  have g : GoesS X.K X.mg W P F H σ r (M.bind (evE c m) (fun v => M.bind (toD v) fun d r => match asgT (.tup ts) d r with
      | some r' => .ok .next r'
      | none => .stuck) r) D := g
  refine ⟨F, r, fr, g.bind0.imp fun w r1 F1 H1 _ x1 fr1 g1 v rv => ?_⟩
  unfold M.bind at g1
  cases ed : toD w r1 with
  | stuck => rw [ed] at g1; exact g1.elim
  | exc y r2 => exact (toD_noexc ed).elim
  | ok d r2 =>
    rw [ed] at g1
    dsimp only at g1
    obtain ⟨F2, q1, q2, q3, fr2, dr, q6⟩ := toD_ok fr1 rv ed
    have x2 := toD_ext x1 rv q1 q2 q3
    split at g1
    · rename_i r3 e3
      refine ⟨F2, d, r2, r3, fr2, dr, e3, fun σ' fr3 hl ho hown => g1 F2 H1 σ' ⟨x2.keep, x2.fz, x2.fnew, fun a z => x2.onew a (hown a z), x2.there⟩ fr3 (fun i pi => ho i fun z => hpin i z pi) hl⟩
    · exact g1.elim
/-! ### x[i] = e -/
theorem psv_asgI {m mi : E} {ix : Expr} {i : Nat} {x : Str} {px : Pos} (hN : X.N[i]? = some x) (hv : Vis X.env.scope x) (hd : (x == ("__debug__" : Str)) = false) (hcd : (x == ("__classdict__" : Str)) = false) (he : PE X e (tEv X.K X.mg W (evE c m))) (hi : PE X ix (tEv X.K X.mg W (evE c mi))) (hs : swapsWithSole [.Subscript (.Name x px) ix p] e pos.line X.env = pure false) (hw : swappedStores [.Subscript (.Name x px) ix p] e X.env = pure none)
    (ha : ∀ v, assign (.Subscript (.Name x px) ix p) X.env v = (do
      let ov ← holding [v] (eval (.Name x px) X.env)
      let iv ← holding [v, ov] (eval ix X.env)
      standAt p
      holding [v, ov, iv] (setItem ov iv v)
      release [v, ov, iv] [])) :
    PS X (.Assign [.Subscript (.Name x px) ix p] e pos) (tEvS X.K X.mg W P (evS c (.asgI i mi m))) := by
  refine ps_imp (ps_asg he (pg_sub (pe_var hN hv hd hcd) hi set_list ha) hs hw rfl) fun D σ H ⟨F, r, fr, g⟩ => ?_
  have g : GoesS X.K X.mg W P F H σ r (M.bind (evE c m) (fun v => M.bind (toD v) fun d r => if isMut r i then M.bind (evE c mi) (fun k => withLook k fun kd r => match r[i]?, kd with
        | some (.box xs), .int k => (match atIx xs.length k with
          | some k => .ok .next (r.set i (.box (xs.set k d)))
          | none => .stuck)
        | _, _ => .stuck) r else .stuck) r) D := g
  refine ⟨F, r, fr, g.bind0.imp fun w r1 F1 H1 _ x1 fr1 g1 v rv => ?_⟩
  unfold M.bind at g1
  cases ed : toD w r1 with
  | stuck => rw [ed] at g1; exact g1.elim
  | exc y r2 => exact (toD_noexc ed).elim
  | ok d r2 =>
    rw [ed] at g1
    dsimp only at g1
    obtain ⟨F2, q1, q2, q3, fr2, dr, q6⟩ := toD_ok fr1 rv ed
    have x2 := toD_ext x1 rv q1 q2 q3
    by_cases hm : isMut r2 i = true
    case neg => rw [if_neg hm] at g1; exact g1.elim
    rw [if_pos hm] at g1
    obtain ⟨xs0, e0⟩ := mut_box hm
    obtain ⟨a, vs0, h1, h2, h3, h4⟩ := fr2.box i xs0 e0
    have g2 := GoesS.from x2 (fun _ _ => rfl) rfl (show GoesS X.K X.mg W P F H σ r (M.bind (evE c mi) _ r2) D from g1)
    refine ⟨.ref a, h1, F2, r2, fr2, g2.bind.imp fun w3 r3 F3 H3 _ x3 fr3 g3 v3 rv3 => ?_⟩
    unfold withLook at g3
    cases ld : look r3 w3 with
    | none => rw [ld] at g3; exact g3.elim
    | some kd =>
      rw [ld] at g3
      dsimp only at g3
      split at g3
      · rename_i xs kk er
        cases rw_int (rv3.look fr3 ld)
        obtain ⟨a', vs, h1', h2', h3', h4'⟩ := fr3.box i xs er
        rw [h1] at h1'
        cases h1'
        split at g3
        · rename_i j ej
          rw [atIx_ixN, h3'.length] at ej
          refine ⟨a, vs, kk, j, rfl, rfl, h2', ej, ?_⟩
          exact g3 F3 _ σ (Ext.updBox er h1) (fr3.updBox er h1 (h3'.set (x3.dr fr2 dr) j)) (fun _ _ => rfl) rfl
        · exact g3.elim
      · exact g3.elim
/-! ### a, b = x, y -/
def setAll : L2.St → List Nat → List V → L2.St
  | σ, i :: is, v :: vs => setAll (σ.set i (some v)) is vs
  | σ, _, _ => σ
theorem setAll_len : ∀ (is : List Nat) (vs : List V) (σ : L2.St), (setAll σ is vs).length = σ.length
  | [], _, _ => rfl
  | _ :: _, [], _ => rfl
  | i :: is, v :: vs, σ => by
    show (setAll (σ.set i (some v)) is vs).length = _
    rw [setAll_len is vs]; simp
theorem setAll_out : ∀ {is : List Nat} {vs : List V} {σ : L2.St} {j : Nat}, j ∉ is → (setAll σ is vs)[j]? = σ[j]?
  | [], _, _, _, _ => rfl
  | _ :: _, [], _, _, _ => rfl
  | i :: is, v :: vs, σ, j, h => by
    rw [List.mem_cons, not_or] at h
    show (setAll (σ.set i (some v)) is vs)[j]? = _
    rw [setAll_out h.2, List.getElem?_set_ne (Ne.symm h.1)]
def NoBor (ws : List RV) : Prop := ∀ (j k : Nat), ws[j]? ≠ some (.bor k)
theorem solid_noexc : ∀ {ws : List RV} {x : Exc} {r r' : Env}, solid ws r = .exc x r' → False
  | [], _, _, _, h => by cases h
  | .val d :: ws, x, r, r', h => by
    have h : M.bind (solid ws) (fun z => M.pure (RV.val d :: z)) r = .exc x r' := h
    unfold M.bind at h
    cases e : solid ws r with
    | stuck => rw [e] at h; cases h
    | exc _ _ => exact solid_noexc e
    | ok _ _ => rw [e] at h; cases h
  | .own d :: ws, x, r, r', h => by
    have h : M.bind (solid ws) (fun z => M.pure (RV.own d :: z)) r = .exc x r' := h
    unfold M.bind at h
    cases e : solid ws r with
    | stuck => rw [e] at h; cases h
    | exc _ _ => exact solid_noexc e
    | ok _ _ => rw [e] at h; cases h
  | .bor i :: ws, x, r, r', h => by
    have h : M.bind (toD (.bor i)) (fun d => M.bind (solid ws) fun z => M.pure (RV.val d :: z)) r = .exc x r' := h
    unfold M.bind at h
    cases e : toD (.bor i) r with
    | stuck => rw [e] at h; cases h
    | exc _ _ => exact toD_noexc e
    | ok d r1 =>
      rw [e] at h
      dsimp only at h
      cases e2 : solid ws r1 with
      | stuck => rw [e2] at h; cases h
      | exc _ _ => exact solid_noexc e2
      | ok _ _ => rw [e2] at h; cases h
theorem solid_cons {w : RV} {ws zs : List RV} {r r' : Env} (h : solid (w :: ws) r = .ok zs r') :
    ∃ w' zs' r1, zs = w' :: zs' ∧ solid ws r1 = .ok zs' r' ∧ (((∀ k, w ≠ .bor k) ∧ w' = w ∧ r1 = r) ∨ ∃ i d, w = .bor i ∧ toD w r = .ok d r1 ∧ w' = .val d) := by
  cases w with
  | val d =>
    obtain ⟨z, r1, e1, e2⟩ := bind_ok (show M.bind (solid ws) (fun z => M.pure (RV.val d :: z)) r = .ok zs r' from h)
    cases e2
    exact ⟨_, z, r, rfl, e1, .inl ⟨fun k => (fun z => nomatch z), rfl, rfl⟩⟩
  | own d =>
    obtain ⟨z, r1, e1, e2⟩ := bind_ok (show M.bind (solid ws) (fun z => M.pure (RV.own d :: z)) r = .ok zs r' from h)
    cases e2
    exact ⟨_, z, r, rfl, e1, .inl ⟨fun k => (fun z => nomatch z), rfl, rfl⟩⟩
  | bor i =>
    obtain ⟨d, r1, e0, h⟩ := bind_ok (show M.bind (toD (.bor i)) (fun d => M.bind (solid ws) fun z => M.pure (RV.val d :: z)) r = .ok zs r' from h)
    obtain ⟨z, r2, e1, e2⟩ := bind_ok h
    cases e2
    exact ⟨_, z, r1, rfl, e1, .inr ⟨i, d, rfl, e0, rfl⟩⟩
theorem solid_own : ∀ {ws zs : List RV} {r r' : Env} {j : Nat} {xs : List D}, solid ws r = .ok zs r' → zs[j]? = some (.own xs) → ws[j]? = some (.own xs)
  | [], zs, _, _, _, _, h, e => by cases h; simp at e
  | w :: ws, zs, r, r', j, xs, h, e => by
    obtain ⟨w', zs', r1, rfl, e1, e2⟩ := solid_cons h
    cases j with
    | zero =>
      simp at e
      subst e
      rcases e2 with ⟨_, e3, _⟩ | ⟨i, d, _, _, e3⟩
      · rw [← e3]; rfl
      · cases e3
    | succ j =>
      have := solid_own (j := j) (xs := xs) e1 (by simpa using e)
      simpa using this
theorem solid_nobor : ∀ {ws zs : List RV} {r r' : Env}, solid ws r = .ok zs r' → NoBor zs ∧ zs.length = ws.length
  | [], zs, _, _, h => by cases h; exact ⟨fun j k => by simp, rfl⟩
  | w :: ws, zs, r, r', h => by
    obtain ⟨w', zs', r1, rfl, e1, e2⟩ := solid_cons h
    obtain ⟨h1, h2⟩ := solid_nobor e1
    refine ⟨fun j k => ?_, by simp [h2]⟩
    cases j with
    | zero =>
      intro z
      simp at z
      rcases e2 with ⟨nb, e3, _⟩ | ⟨i, d, _, _, e3⟩
      · exact nb k (by rw [← e3]; exact z)
      · rw [e3] at z; cases z
    | succ j => intro z; exact h1 j k (by simpa using z)
/-- what is carried over a sharing -/
theorem RVR.carry {F2 : Addr → Prop} {r2 : Env} {w : RV} {v : V} (h1 : ∀ a, F a → F2 a) (h2 : ∀ a, F2 a → F a ∨ Own σ r a) (h3 : ∀ a, Own σ r2 a → Own σ r a) (q : RVR K mg H0 F H σ r w v) : RVR K mg H0 F2 H σ r2 w v := by
  cases q with
  | val q => exact .val (q.mono h1 fun _ _ _ e => e)
  | bor e => exact .bor e
  | own e q nf no fz =>
    refine .own e (q.mono h1 fun _ _ _ e => e) (fun z => ?_) (fun z => no (h3 _ z)) fz
    rcases h2 _ z with z | z
    · exact nf z
    · exact no z
theorem solid_ok : ∀ {ws zs : List RV} {vs : List V} {F : Addr → Prop} {r r' : Env}, FR K mg F H σ r → ws.length = vs.length → (∀ (j : Nat) w v, ws[j]? = some w → vs[j]? = some v → RVR K mg H0 F H σ r w v) → solid ws r = .ok zs r' →
    ∃ F', (∀ a, F a → F' a) ∧ (∀ a, F' a → F a ∨ Own σ r a) ∧ (∀ a, Own σ r' a → Own σ r a) ∧ FR K mg F' H σ r' ∧ (∀ (j : Nat) w v, zs[j]? = some w → vs[j]? = some v → RVR K mg H0 F' H σ r' w v)
  | [], zs, vs, F, r, r', fr, hl, hq, h => by
    cases h
    exact ⟨F, fun _ f => f, fun _ f => .inl f, fun _ o => o, fr, fun j w v e => by simp at e⟩
  | w :: ws, zs, [], F, r, r', fr, hl, hq, h => by simp at hl
  | w :: ws, zs, v :: vs, F, r, r', fr, hl, hq, h => by
    obtain ⟨w', zs', r1, rfl, e1, e2⟩ := solid_cons h
    have q0 := hq 0 w v rfl rfl
    -- the first one
    obtain ⟨F1, b1, b2, b3, b4, b5⟩ : ∃ F1, (∀ a, F a → F1 a) ∧ (∀ a, F1 a → F a ∨ Own σ r a) ∧ (∀ a, Own σ r1 a → Own σ r a) ∧ FR K mg F1 H σ r1 ∧ RVR K mg H0 F1 H σ r1 w' v := by
      rcases e2 with ⟨_, e3, e4⟩ | ⟨i, d, e3, e4, e5⟩
      · subst e3 e4
        exact ⟨F, fun _ f => f, fun _ f => .inl f, fun _ o => o, fr, q0⟩
      · subst e5
        obtain ⟨F1, c1, c2, c3, c4, c5, _⟩ := toD_ok fr q0 e4
        refine ⟨F1, c1, fun a f => ?_, c3, c4, .val c5⟩
        rcases c2 a f with z | ⟨_, z | ⟨xs, z⟩⟩
        · exact .inl z
        · exact .inr z
        · rw [e3] at z; cases z
    obtain ⟨F2, d1, d2, d3, d4, d5⟩ := solid_ok (vs := vs) b4 (by simpa using hl) (fun j w v e1 e2 => (hq (j + 1) w v (by simpa using e1) (by simpa using e2)).carry b1 b2 b3) e1
    refine ⟨F2, fun a f => d1 a (b1 a f), fun a f => ?_, fun a o => b3 a (d3 a o), d4, fun j w v e1 e2 => ?_⟩
    · rcases d2 a f with z | z
      · exact b2 a z
      · exact .inr (b3 a z)
    · cases j with
      | zero =>
        simp at e1 e2
        subst e1 e2
        exact b5.carry d1 d2 d3
      | succ j => exact d5 j w v (by simpa using e1) (by simpa using e2)
/-- the slots are given their values -/
theorem par_ok : ∀ {is : List Nat} {ws : List RV} {vs : List V} {σ : L2.St} {r r' : Env}, FR K mg F H σ r → RVRs K mg H0 F H σ r ws vs → NoBor ws → (∀ i ∈ is, i < σ.length) → parAsg is ws r = some r' →
    FR K mg F H (setAll σ is vs) r' ∧ (∀ a, Own (setAll σ is vs) r' a → Own σ r a ∨ H0 a = none) ∧ is.length = vs.length
  | [], [], _, σ, r, r', fr, .nil, _, _, h => by
    cases h
    exact ⟨fr, fun a o => .inl o, rfl⟩
  | [], _ :: _, _, _, _, _, _, _, _, _, h => by cases h
  | _ :: _, [], _, _, _, _, _, _, _, _, h => by cases h
  | i :: is, w :: ws, _, σ, r, r', fr, .cons (v := v) (vs := vs) q t kk, nb, hi, h => by
    have h : (match asgRV i w r with
      | some r' => parAsg is ws r'
      | none => none) = some r' := h
    have hii := hi i List.mem_cons_self
    have nb' : NoBor ws := fun j k z => nb (j + 1) k (by simpa using z)
    cases w with
    | bor j => exact absurd rfl (nb 0 j)
    | val d =>
      have h : parAsg is ws (r.set i (.val d)) = some r' := h
      cases q with
      | val q =>
        have fr1 := fr.setVal hii q
        have sub : ∀ a, Own (σ.set i (some v)) (r.set i (.val d)) a → Own σ r a := fun a o => Own.set_sub (by intro xs; simp) o
        have t1 : RVRs K mg H0 F H (σ.set i (some v)) (r.set i (.val d)) ws vs := by
          refine RVRs.of t.length (fun j w v' e1 e2 => ?_) fun a b xs ys c ne e1 e2 e3 e4 => ?_
          · have q := t.get e1 e2
            cases q with
            | val q => exact .val q
            | own z1 z2 z3 z4 z5 => exact .own z1 z2 z3 (fun z => z4 (sub _ z)) z5
            | bor _ => exact absurd e1 (nb' j _)
          · rcases Nat.lt_or_gt_of_ne ne with z | z
            · exact t.dist z e1 e2 e3 e4
            · exact t.dist z e2 e1 e4 e3
        obtain ⟨a1, a2, a3⟩ := par_ok (is := is) fr1 t1 nb' (fun j hj => by rw [List.length_set]; exact hi j (List.mem_cons_of_mem _ hj)) h
        exact ⟨a1, fun a o => (a2 a o).imp (sub a) id, by simp [a3]⟩
    | own xs =>
      have h : parAsg is ws (r.set i (.box xs)) = some r' := h
      cases q with
      | own e q nf no fz =>
        rename_i a us
        have fr1 := fr.setBox hii e q nf no
        have sub : ∀ b, Own (σ.set i (some (.ref a))) (r.set i (.box xs)) b → Own σ r b ∨ b = a := fun b o => by
          obtain ⟨j, ys, e1, e2⟩ := o
          rcases get_set e1 with ⟨rfl, _⟩ | ⟨n, e1⟩
          · rw [List.getElem?_set_self hii] at e2
            cases e2
            exact .inr rfl
          · rw [List.getElem?_set_ne (Ne.symm n)] at e2
            exact .inl ⟨j, ys, e1, e2⟩
        have t1 : RVRs K mg H0 F H (σ.set i (some (.ref a))) (r.set i (.box xs)) ws vs := by
          refine RVRs.of t.length (fun j w v' e1 e2 => ?_) fun a b xs ys c ne e1 e2 e3 e4 => ?_
          · have q := t.get e1 e2
            cases q with
            | val q => exact .val q
            | own z1 z2 z3 z4 z5 =>
              refine .own z1 z2 z3 (fun z => ?_) z5
              rcases sub _ z with z | z
              · exact z4 z
              · subst z
                exact kk xs j _ _ rfl e1 rfl e2
            | bor _ => exact absurd e1 (nb' j _)
          · rcases Nat.lt_or_gt_of_ne ne with z | z
            · exact t.dist z e1 e2 e3 e4
            · exact t.dist z e2 e1 e4 e3
        obtain ⟨a1, a2, a3⟩ := par_ok (is := is) fr1 t1 nb' (fun j hj => by rw [List.length_set]; exact hi j (List.mem_cons_of_mem _ hj)) h
        refine ⟨a1, fun b o => ?_, by simp [a3]⟩
        rcases a2 b o with z | z
        · rcases sub b z with z | z
          · exact .inl z
          · subst z; exact .inr fz
        · exact .inr z
end
end Ev

-- part Ev7c
set_option maxHeartbeats 2000000
/-! Ev7c: a, b = x, y; loops. -/
namespace Ev
open PySem PySem.Spec PyProof.Rows L2
section
variable {X : Cx} {W : WX} {c : CallT} {P : Nat → Prop} {e a b : Expr} {pos p pt pt2 : Pos} {K : PySem.W.Frag} {mg : Str → Option Value} {F F1 : Addr → Prop} {H H1 H0 : Hp} {σ : L2.St} {r r1 r2 : Env}
theorem par_reads {is : List Nat} {ms : List E} {D : Ends} (hlen : ∀ i ∈ is, i < σ.length) (hpin : ∀ i ∈ is, ¬ P i) (h : tEvS K mg W P (evS c (.par is ms)) D σ H) :
    tEvA K mg W (evEs c ms) σ H fun vs H1 => vs.length = is.length ∧ ∀ H2, (H2 = H1 ∨ ∃ p, H1 p = none ∧ H2 = upd H1 p (.tup vs)) → D.nx (setAll σ is vs) H2 := by
  obtain ⟨F, r, fr, g⟩ := h
  have g : GoesS K mg W P F H σ r (M.bind (evEs c ms) (fun vs => M.bind (solid vs) fun vs r => match parAsg is vs r with
      | some r' => .ok .next r'
      | none => .stuck) r) D := g
  refine ⟨F, r, fr, g.bind0.imp fun ws r1 F1 H1 _ x1 fr1 g1 vs rvs => ?_⟩
  unfold M.bind at g1
  cases es : solid ws r1 with
  | stuck => rw [es] at g1; exact g1.elim
  | exc _ _ => exact (solid_noexc es).elim
  | ok zs r2 =>
    rw [es] at g1
    dsimp only at g1
    split at g1
    · rename_i r3 e3
      obtain ⟨F2, a1, a2, a3, a4, a5⟩ := solid_ok fr1 rvs.length (fun j w v e1 e2 => rvs.get e1 e2) es
      obtain ⟨nb, ln⟩ := solid_nobor es
      have rz : RVRs K mg H F2 H1 σ r2 zs vs := RVRs.of (by rw [ln, rvs.length]) a5 fun i j xs ys a ne e1 e2 e3 e4 => by
        rcases Nat.lt_or_gt_of_ne ne with z | z
        · exact rvs.dist z (solid_own es e1) (solid_own es e2) e3 e4
        · exact rvs.dist z (solid_own es e2) (solid_own es e1) e4 e3
      obtain ⟨b1, b2, b3⟩ := par_ok a4 rz nb hlen e3
      have x3 : Ext F H (Own σ r) F2 H1 (Own (setAll σ is vs) r3) := by
        refine ⟨x1.keep, fun a f => a1 a (x1.fz a f), fun a f => ?_, fun a o => ?_, x1.there⟩
        · rcases a2 a f with z | z
          · exact x1.fnew a z
          · exact .inr (x1.onew a z)
        · rcases b2 a o with z | z
          · exact x1.onew a (a3 a z)
          · exact .inr z
      refine ⟨b3.symm, fun H2 h2 => ?_⟩
      have hp : ∀ i, P i → (setAll σ is vs)[i]? = σ[i]? := fun i pi => setAll_out fun hm => hpin i hm pi
      rcases h2 with rfl | ⟨q, hq, rfl⟩
      · exact g1 F2 _ _ x3 b1 hp (setAll_len ..)
      · exact g1 F2 _ _ (x3.trans (Ext.alloc hq (fun _ f => f) fun _ f => .inl f)) (b1.alloc hq (fun _ f => f) fun _ f => .inl f) hp (setAll_len ..)
    · exact g1.elim
/-- names as targets -/
def gNames (is : List Nat) : TGs := fun vs σ H Q => vs.length = is.length ∧ Q (setAll σ is vs) H
theorem pgs_names {k : Nat} {g : SC} (G : Good X W k c g) : ∀ {ts : List Expr} {is : List Nat}, slotsOf g ts = some is → PGs X ts (gNames is) ∧ (assignEach ts X.env).length = ts.length ∧ (assignEach ts X.env).findIdx? (·.1) = none ∧ is.length = ts.length ∧ (∀ i ∈ is, i < X.N.length ∧ ¬ g.pinned i)
  | [], is, h => by
    cases h
    refine ⟨⟨fun pins s σ H vs us Q I r h => pgs_nil.run pins s σ H vs us Q I r ⟨List.length_eq_zero_iff.mp h.1, ?_⟩⟩, rfl, rfl, rfl, by simp⟩
    have := h.2
    have e : vs = [] := List.length_eq_zero_iff.mp h.1
    subst e
    exact this
  | t :: ts, is, h => by
    cases t with
    | Name x px =>
      obtain ⟨i, h1, h⟩ := bind_some (show ((g.tslot x).bind fun i => (slotsOf g ts).bind fun is => some (i :: is)) = some is from h)
      obtain ⟨js, h2, h3⟩ := bind_some h
      cases h3
      obtain ⟨a1, a2, a3, a4, a5⟩ := pgs_names G h2
      obtain ⟨b1, b2, b3⟩ := G.tslot h1
      refine ⟨⟨fun pins s σ H vs us Q I r h => (pgs_cons (pg_name (pos := px) (by rw [G.N]; exact G.nd) b1 b2 b3) a1 rfl).run pins s σ H vs us Q I r ?_⟩, by show (assignEach ts X.env).length + 1 = _; rw [a2]; rfl, ?_, by simp [a4], fun j hj => ?_⟩
      · obtain ⟨hl, hq⟩ := h
        cases vs with
        | nil => simp at hl
        | cons v vs => exact ⟨v, vs, rfl, by simpa using hl, hq⟩
      · show List.findIdx? (·.1) ((false, assign (.Name x px) X.env) :: assignEach ts X.env) = none
        rw [List.findIdx?_cons]
        simp [a3]
      · rcases List.mem_cons.mp hj with rfl | hj
        · refine ⟨(List.getElem?_eq_some_iff.mp b1).1, fun ⟨y, hy, hp⟩ => ?_⟩
          rw [← G.N, b1] at hy
          cases hy
          unfold SC.tslot at h1
          split at h1
          · rename_i hc
            rw [Bool.and_eq_true] at hc
            have := hc.2
            simp at this
            exact this hp
          · cases h1
        · exact a5 j hj
    | _ => cases h
theorem psv_parG {k : Nat} {g : SC} (G : Good X W k c g) {ts vs : List Expr} {is : List Nat} {ms : List E} {kt k2 : Nat} (hsl : slotsOf g ts = some is) (ha : PA X vs (tEvA X.K X.mg W (evEs c ms))) (hl : ms.length ≤ 1000) (hw : swappedStores [.Tuple ts kt pt] (.Tuple vs k2 pt2) X.env = pure none) :
    PS X (.Assign [.Tuple ts kt pt] (.Tuple vs k2 pt2) pos) (tEvS X.K X.mg W g.pinned (evS c (.par is ms))) := by
  obtain ⟨a1, a2, a3, a4, a5⟩ := pgs_names G hsl
  refine ps_impL (ps_asg (pe_tup ha) (pg_tup (n := ts.length) G.calm a1 a2 a3) rfl hw rfl) fun D σ H hlen h => ?_
  obtain ⟨F, r, fr, g2⟩ := par_reads (fun i hi => by rw [hlen]; exact (a5 i hi).1) (fun i hi => (a5 i hi).2) h
  refine ⟨F, r, fr, g2.imp fun ws r1 F1 H1 hw x1 fr1 q vs rvs => ?_⟩
  obtain ⟨q1, q2⟩ := q vs rvs
  refine ⟨?_, fun p hp => ⟨p, vs, rfl, SqT.of (upd_same ..), by rw [q1, a4], q1, q2 _ (.inr ⟨p, hp, rfl⟩)⟩⟩
  rw [← rvs.length, evEs_len hw, sizeLine_eq]
  omega
theorem psv_par2 {k : Nat} {g : SC} (G : Good X W k c g) {x y : Str} {px py : Pos} {v w : Expr} {i j : Nat} {ms : List E} {kt k2 : Nat} (hsl : slotsOf g [.Name x px, .Name y py] = some [i, j]) (hij : i ≠ j) (hx : X.env.scope.names.lookup x = some .local) (hy : X.env.scope.names.lookup y = some .local) (ha : PA X [v, w] (tEvA X.K X.mg W (evEs c ms)))
    (hw : swappedStores [.Tuple [.Name x px, .Name y py] kt pt] (.Tuple [v, w] k2 pt2) X.env = pure (some [x, y])) :
    PS X (.Assign [.Tuple [.Name x px, .Name y py] kt pt] (.Tuple [v, w] k2 pt2) pos) (tEvS X.K X.mg W g.pinned (evS c (.par [i, j] ms))) := by
  obtain ⟨a1, a2, a3, a4, a5⟩ := pgs_names G hsl
  obtain ⟨i', h1, h⟩ := bind_some (show ((g.tslot x).bind fun i => (slotsOf g [.Name y py]).bind fun is => some (i :: is)) = some [i, j] from hsl)
  obtain ⟨js, h2, h3⟩ := bind_some h
  cases h3
  obtain ⟨j', h4, h5⟩ := bind_some (show ((g.tslot y).bind fun i => (slotsOf g []).bind fun is => some (i :: is)) = some [j] from h2)
  cases h5
  refine ps_impL (ps_par G.calm (by rw [G.N]; exact G.nd) (G.tslot h1).1 (G.tslot h4).1 hij hx hy ha hw rfl) fun D σ H hlen h => ?_
  obtain ⟨F, r, fr, g2⟩ := par_reads (fun i hi => by rw [hlen]; exact (a5 i hi).1) (fun i hi => (a5 i hi).2) h
  refine ⟨F, r, fr, g2.imp fun ws r1 F1 H1 hw x1 fr1 q vs rvs => ?_⟩
  obtain ⟨q1, q2⟩ := q vs rvs
  match vs, q1, q2 with
  | [a, b], _, q2 => exact ⟨a, b, rfl, q2 _ (.inl rfl)⟩
theorem psv_par3 {k : Nat} {g : SC} (G : Good X W k c g) {x y z : Str} {px py pz : Pos} {v w u : Expr} {i j l : Nat} {ms : List E} {kt k2 : Nat} (hsl : slotsOf g [.Name x px, .Name y py, .Name z pz] = some [i, j, l]) (hij : i ≠ j) (hil : i ≠ l) (hjl : j ≠ l) (hx : X.env.scope.names.lookup x = some .local) (hy : X.env.scope.names.lookup y = some .local) (hz : X.env.scope.names.lookup z = some .local) (ha : PA X [v, w, u] (tEvA X.K X.mg W (evEs c ms)))
    (hw : swappedStores [.Tuple [.Name x px, .Name y py, .Name z pz] kt pt] (.Tuple [v, w, u] k2 pt2) X.env = pure (some [x, y, z])) :
    PS X (.Assign [.Tuple [.Name x px, .Name y py, .Name z pz] kt pt] (.Tuple [v, w, u] k2 pt2) pos) (tEvS X.K X.mg W g.pinned (evS c (.par [i, j, l] ms))) := by
  obtain ⟨a1, a2, a3, a4, a5⟩ := pgs_names G hsl
  obtain ⟨i', h1, h⟩ := bind_some (show ((g.tslot x).bind fun i => (slotsOf g [.Name y py, .Name z pz]).bind fun is => some (i :: is)) = some [i, j, l] from hsl)
  obtain ⟨js, h2, h3⟩ := bind_some h
  cases h3
  obtain ⟨j', h4, h⟩ := bind_some (show ((g.tslot y).bind fun i => (slotsOf g [.Name z pz]).bind fun is => some (i :: is)) = some [j, l] from h2)
  obtain ⟨ls, h6, h7⟩ := bind_some h
  cases h7
  obtain ⟨l', h8, h9⟩ := bind_some (show ((g.tslot z).bind fun i => (slotsOf g []).bind fun is => some (i :: is)) = some [l] from h6)
  cases h9
  refine ps_impL (ps_par3 G.calm (by rw [G.N]; exact G.nd) (G.tslot h1).1 (G.tslot h4).1 (G.tslot h8).1 hij hil hjl hx hy hz ha hw rfl) fun D σ H hlen h => ?_
  obtain ⟨F, r, fr, g2⟩ := par_reads (fun i hi => by rw [hlen]; exact (a5 i hi).1) (fun i hi => (a5 i hi).2) h
  refine ⟨F, r, fr, g2.imp fun ws r1 F1 H1 hw x1 fr1 q vs rvs => ?_⟩
  obtain ⟨q1, q2⟩ := q vs rvs
  match vs, q1, q2 with
  | [a, b, d], _, q2 => exact ⟨a, b, d, rfl, q2 _ (.inl rfl)⟩
end
end Ev

-- part Ev7d
set_option maxHeartbeats 2000000
/-! Ev7d: loops. -/
namespace Ev
open PySem PySem.Spec PyProof.Rows L2
section
variable {X : Cx} {W : WX} {c : CallT} {P : Nat → Prop} {e a b tg it : Expr} {pos p pt pt2 : Pos} {K : PySem.W.Frag} {mg : Str → Option Value} {F F1 : Addr → Prop} {H H1 H0 : Hp} {σ : L2.St} {r r1 r2 : Env}
theorem set_same {i : Nat} {s : Slot} (h : r[i]? = some s) : r.set i s = r := by
  apply List.ext_getElem?
  intro j
  by_cases hj : i = j
  · subst hj
    rw [List.getElem?_set_self (List.getElem?_eq_some_iff.mp h).1, h]
  · rw [List.getElem?_set_ne hj]
theorem share_all : ∀ {lk : List (Nat × List D)} {F : Addr → Prop} {r : Env}, FR K mg F H σ r → (∀ q ∈ lk, r[q.1]? = some (Slot.box q.2) ∨ r[q.1]? = some (Slot.val (.lst q.2))) →
    ∃ F', (∀ a, F a → F' a) ∧ (∀ a, F' a → F a ∨ Own σ r a) ∧ FR K mg F' H σ (shareL lk r) ∧ (∀ a, Own σ (shareL lk r) a → Own σ r a) ∧ ∀ q ∈ lk, ∃ v, σ[q.1]? = some (some v) ∧ DR K mg F' H (.lst q.2) v
  | [], F, r, fr, _ => ⟨F, fun _ f => f, fun _ f => .inl f, fr, fun _ o => o, fun q hq => nomatch hq⟩
  | (i, xs) :: lk, F, r, fr, h => by
    have hb := h _ List.mem_cons_self
    dsimp only at hb
    obtain ⟨F1, b1, b2, b3, b4, v, b5, b6⟩ : ∃ F1, (∀ a, F a → F1 a) ∧ (∀ a, F1 a → F a ∨ Own σ r a) ∧ FR K mg F1 H σ (r.set i (.val (.lst xs))) ∧ (∀ a, Own σ (r.set i (.val (.lst xs))) a → Own σ r a) ∧ ∃ v, σ[i]? = some (some v) ∧ DR K mg F1 H (.lst xs) v := by
      rcases hb with hb | hb
      · obtain ⟨a, vs, q1, q2, q3, q4⟩ := fr.box i xs hb
        refine ⟨Fp F a, fun _ f => .inl f, fun c f => ?_, fr.share hb q1, fun a o => Own.share (by intro ys; simp) o, .ref a, q1, .lst (.inr rfl) q2 (q3.mono (fun _ f => .inl f) fun _ _ _ e => e)⟩
        rcases f with f | f
        · exact .inl f
        · subst f; exact .inr ⟨i, xs, hb, q1⟩
      · obtain ⟨v, q1, q2⟩ := fr.val i _ hb
        rw [set_same hb]
        exact ⟨F, fun _ f => f, fun _ f => .inl f, fr, fun _ o => o, v, q1, q2⟩
    have h' : ∀ q ∈ lk, (r.set i (.val (.lst xs)))[q.1]? = some (Slot.box q.2) ∨ (r.set i (.val (.lst xs)))[q.1]? = some (Slot.val (.lst q.2)) := fun q hq => by
      by_cases e : i = q.1
      · right
        have hq' := h q (List.mem_cons_of_mem _ hq)
        rw [← e] at hq' ⊢
        have hi : i < r.length := by
          rcases hb with z | z <;> exact (List.getElem?_eq_some_iff.mp z).1
        rw [List.getElem?_set_self hi]
        rcases hb with z | z <;> rcases hq' with z' | z' <;> rw [z] at z' <;> cases z' <;> rfl
      · rw [List.getElem?_set_ne e]
        exact h q (List.mem_cons_of_mem _ hq)
    obtain ⟨F2, c1, c2, c3, c4, c5⟩ := share_all b3 h'
    refine ⟨F2, fun a f => c1 a (b1 a f), fun a f => ?_, c3, fun a o => b4 a (c4 a o), fun q hq => ?_⟩
    · rcases c2 a f with z | z
      · exact b2 a z
      · exact .inr (b4 a z)
    · rcases List.mem_cons.mp hq with rfl | hq
      · exact ⟨v, b5, b6.mono c1 fun _ _ _ e => e⟩
      · exact c5 q hq
theorem psv_for {mt : Tg} {mi : It} {mb : List St} {body : List Stmt} (hp : PassesOwn (model X.prog X.w) X.A X.env X.xe) (hc : X.calm = true) (hi : PI X tg it (tEvI X.K X.mg W (evIt c mi))) (hg : PG X tg (gT X.K X.mg mt)) (hb : PSs X body (tEvS X.K X.mg W P (evSs c mb)))
    (hs : ∀ x, foldedSetIterable it X.env x = pure x) (hpin : ∀ i ∈ tslots mt, ¬ P i) : PS X (.For tg it body [] pos) (tEvS X.K X.mg W P (evS c (.for_ mt mi mb))) := by
  refine ps_imp (ps_for hp hc hi hg hb hs) fun D σ H ⟨F, r, fr, g⟩ => ?_
  have g : GoesS X.K X.mg W P F H σ r (match evIt c mi r with
    | .ok (ds, lk) r0 => forL mt (evSs c mb) ds (shareL lk r0)
    | .exc x r0 => .exc x r0
    | .stuck => .stuck) D := g
  refine ⟨F, r, fr, ?_⟩
  cases ei : evIt c mi r with
  | stuck => rw [ei] at g; exact g
  | exc x r0 =>
    rw [ei] at g
    exact fun F1 H1 cls d x1 fr1 er => g F1 H1 σ cls d x1 fr1 (fun _ _ => rfl) rfl er
  | ok q r0 =>
    obtain ⟨ds, lk⟩ := q
    rw [ei] at g
    dsimp only at g
    intro F1 H1 x1 fr1 J so
    obtain ⟨L, Lf, _, src, l0, _, lsh⟩ := so.ex
    obtain ⟨F2, a1, a2, a3, a4, a5⟩ := share_all (lk := lk) fr1 fun q hq => .inl (so.bx q hq)
    have x2 : Ext F H (Own σ r) F2 H1 (Own σ (shareL lk r0)) := by
      refine ⟨x1.keep, fun a f => a1 a (x1.fz a f), fun a f => ?_, fun a o => x1.onew a (a4 a o), x1.there⟩
      rcases a2 a f with z | z
      · exact x1.fnew a z
      · exact .inr (x1.onew a z)
    have lf0 : Lf F2 H1 σ (shareL lk r0) := lsh.sh l0 a1 a5
    have g0 := GoesS.from x2 (fun _ _ => rfl) rfl g
    refine ⟨fun i m σ' H' => m = ds.length - i ∧ i ≤ ds.length ∧ ∃ F r, FR X.K X.mg F H' σ' r ∧ Lf F H' σ' r ∧ GoesS X.K X.mg W P F H' σ' r (forL mt (evSs c mb) (ds.drop i) r) D, ⟨_, rfl, Nat.zero_le _, F2, _, a3, lf0, g0⟩, ?_⟩
    rintro i m σi Hi ⟨rfl, hile, Fi, ri, fri, li, gi⟩
    by_cases hlt : i < ds.length
    · have ed : ds[i]? = some ds[i] := List.getElem?_eq_getElem hlt
      have e0 : ds.drop i = ds[i] :: ds.drop (i + 1) := List.drop_eq_getElem_cons hlt
      generalize ds[i] = d at ed e0
      rw [e0] at gi
      have gi : GoesS X.K X.mg W P Fi Hi σi ri (match asgT mt d ri with
        | none => .stuck
        | some r1 => match evSs c mb r1 with
          | .ok .next r2 => forL mt (evSs c mb) (ds.drop (i + 1)) r2
          | .ok .cont r2 => forL mt (evSs c mb) (ds.drop (i + 1)) r2
          | .ok .brk r2 => .ok .next r2
          | .ok (.ret rv) r2 => .ok (.ret rv) r2
          | .exc x r2 => .exc x r2
          | .stuck => .stuck) D := gi
      refine .inr ⟨src.go i d fri li ed, fun σ' H' => (ds.length - (i + 1)) = ds.length - (i + 1) ∧ i + 1 ≤ ds.length ∧ ∃ F r, FR X.K X.mg F H' σ' r ∧ Lf F H' σ' r ∧ GoesS X.K X.mg W P F H' σ' r (forL mt (evSs c mb) (ds.drop (i + 1)) r) D, fun σ' H' w => ⟨_, by omega, w⟩, fun x H' y => ?_⟩
      obtain ⟨F3, fr3, x3, dx⟩ : ∃ F3, FR X.K X.mg F3 H' σi ri ∧ Ext Fi Hi (Own σi ri) F3 H' (Own σi ri) ∧ DR X.K X.mg F3 H' d x := by
        rcases src.yld i d x H' fri li ed y with ⟨e1, e2⟩ | ⟨p, ws, zs, e1, e2, e3, e4, e5⟩
        · subst e1
          exact ⟨Fi, fri, Ext.refl, e2⟩
        · subst e2 e3 e4
          exact ⟨Fp Fi p, fri.alloc e1 (fun _ f => .inl f) (fun _ f => f), Ext.alloc e1 (fun _ f => .inl f) (fun _ f => f), .tup (.inr rfl) (.inl (upd_same ..)) (e5.mono (fun _ f => .inl f) fun a o _ e => upd_new e1 e)⟩
      have l3 : ∀ {σ' r'}, Lf F3 H' σ' r' := fun {σ' r'} => lsh.fr li x3.fz fun a o f e => x3.keep a o e fun z => fri.notF z f
      cases ea : asgT mt d ri with
      | none => rw [ea] at gi; exact gi.elim
      | some r1 =>
        rw [ea] at gi
        dsimp only at gi
        refine ⟨F3, d, ri, r1, fr3, dx, ea, fun σ2 fr4 len2 oth own2 => ⟨F3, r1, fr4, ?_⟩⟩
        have x4 : Ext Fi Hi (Own σi ri) F3 H' (Own σ2 r1) := ⟨x3.keep, x3.fz, x3.fnew, fun a o => x3.onew a (own2 a o), x3.there⟩
        have g4 := GoesS.from x4 (fun j pj => oth j fun z => hpin j z pj) len2 gi
        have again : ∀ r2, GoesS X.K X.mg W P F3 H' σ2 r1 (forL mt (evSs c mb) (ds.drop (i + 1)) r2) D → ∀ F5 H5 σ5, Ext F3 H' (Own σ2 r1) F5 H5 (Own σ5 r2) → FR X.K X.mg F5 H5 σ5 r2 → (∀ i, P i → σ5[i]? = σ2[i]?) → σ5.length = σ2.length →
            (ds.length - (i + 1)) = ds.length - (i + 1) ∧ i + 1 ≤ ds.length ∧ ∃ F r, FR X.K X.mg F H5 σ5 r ∧ Lf F H5 σ5 r ∧ GoesS X.K X.mg W P F H5 σ5 r (forL mt (evSs c mb) (ds.drop (i + 1)) r) D := fun r2 g5 F5 H5 σ5 x5 fr5 hp5 hl5 =>
          ⟨rfl, hlt, F5, r2, fr5, lsh.fr (l3 (σ' := σ2) (r' := r1)) x5.fz fun a o f e => x5.keep a o e fun z => fr4.notF z f, GoesS.from x5 hp5 hl5 g5⟩
        cases eb : evSs c mb r1 with
        | stuck => rw [eb] at g4; exact g4.elim
        | exc x r2 => rw [eb] at g4; exact g4
        | ok f r2 =>
          rw [eb] at g4
          cases f with
          | next => exact again r2 g4
          | cont => exact again r2 g4
          | brk => exact g4
          | ret rv => exact g4
    · have ei' : i = ds.length := by omega
      subst ei'
      rw [List.drop_length] at gi
      exact .inl ⟨src.stop fri li, gi Fi Hi σi Ext.refl fri (fun _ _ => rfl) rfl⟩
theorem psv_while {m : E} {mb : List St} {body : List Stmt} (hp : PassesOwn (model X.prog X.w) X.A X.env X.xe) (hc : PT X e (tEvT X.K X.mg W (evT c m))) (hb : PSs X body (tEvS X.K X.mg W P (evSs c mb))) : PS X (.While e body [] pos) (tEvS X.K X.mg W P (evS c (.while_ m mb))) := by
  refine ps_imp (ps_while hp hc hb) fun D σ H ⟨F, r, fr, g⟩ => ?_
  have g : GoesS X.K X.mg W P F H σ r (whileL (evT c m) (evSs c mb) loopMost r) D := g
  refine ⟨fun n σ' H' => ∃ F r, FR X.K X.mg F H' σ' r ∧ GoesS X.K X.mg W P F H' σ' r (whileL (evT c m) (evSs c mb) n r) D, ⟨loopMost, F, r, fr, g⟩, ?_⟩
  rintro n σi Hi ⟨Fi, ri, fri, gi⟩
  cases n with
  | zero => exact gi.elim
  | succ n =>
    have gi : GoesS X.K X.mg W P Fi Hi σi ri (match evT c m ri with
      | .ok false r1 => .ok .next r1
      | .ok true r1 => (match evSs c mb r1 with
        | .ok .next r2 => whileL (evT c m) (evSs c mb) n r2
        | .ok .cont r2 => whileL (evT c m) (evSs c mb) n r2
        | .ok .brk r2 => .ok .next r2
        | .ok (.ret rv) r2 => .ok (.ret rv) r2
        | .exc x r2 => .exc x r2
        | .stuck => .stuck)
      | .exc x r1 => .exc x r1
      | .stuck => .stuck) D := gi
    refine ⟨Fi, ri, fri, ?_⟩
    cases et : evT c m ri with
    | stuck => rw [et] at gi; exact gi
    | exc x r1 =>
      rw [et] at gi
      exact fun F1 H1 cls d x1 fr1 er => gi F1 H1 σi cls d x1 fr1 (fun _ _ => rfl) rfl er
    | ok t r1 =>
      rw [et] at gi
      intro F1 H1 x1 fr1
      cases t with
      | false =>
        rw [if_neg Bool.false_ne_true]
        exact gi F1 H1 σi x1 fr1 (fun _ _ => rfl) rfl
      | true =>
        rw [if_pos rfl]
        dsimp only at gi
        have g1 := GoesS.from x1 (fun _ _ => rfl) rfl gi
        refine ⟨fun σ' H' => ∃ F r, FR X.K X.mg F H' σ' r ∧ GoesS X.K X.mg W P F H' σ' r (whileL (evT c m) (evSs c mb) n r) D, fun σ' H' w => ⟨n, Nat.lt_succ_self n, w⟩, F1, r1, fr1, ?_⟩
        cases eb : evSs c mb r1 with
        | stuck => rw [eb] at g1; exact g1.elim
        | exc x r2 => rw [eb] at g1; exact g1
        | ok f r2 =>
          rw [eb] at g1
          cases f with
          | next => exact fun F5 H5 σ5 x5 fr5 hp5 hl5 => ⟨F5, r2, fr5, GoesS.from x5 hp5 hl5 g1⟩
          | cont => exact fun F5 H5 σ5 x5 fr5 hp5 hl5 => ⟨F5, r2, fr5, GoesS.from x5 hp5 hl5 g1⟩
          | brk => exact g1
          | ret rv => exact g1
end
end Ev

-- part EvX5
set_option maxHeartbeats 2000000
/-! EvX5: try. -/
namespace Ev
open PySem PySem.Spec PyProof.Rows L2
section
variable {K : PySem.W.Frag} {mg : Str → Option Value} {F : Addr → Prop} {H : Hp} {σ : L2.St} {r : Env} {P : Nat → Prop}
theorem FR.setNo (h : FR K mg F H σ r) (i : Nat) : FR K mg F H σ (r.set i .no) where
  len := by rw [List.length_set]; exact h.len
  ftr := h.ftr
  val := fun j d e => by
    rcases get_set e with ⟨_, e⟩ | ⟨_, e⟩
    · cases e
    · exact h.val j d e
  box := fun j xs e => by
    rcases get_set e with ⟨_, e⟩ | ⟨_, e⟩
    · cases e
    · exact h.box j xs e
  inj := fun j k xs ys a e1 e2 e3 e4 => by
    rcases get_set e1 with ⟨_, e⟩ | ⟨_, e1⟩
    · cases e
    · rcases get_set e2 with ⟨_, e⟩ | ⟨_, e2⟩
      · cases e
      · exact h.inj j k xs ys a e1 e2 e3 e4
theorem FR.junk (h : FR K mg F H σ r) {i : Nat} {o : Option V} (hi : ∀ s, r[i]? = some s → s = .no) : FR K mg F H (σ.set i o) r := by
  have out : ∀ (j : Nat) (s : Slot), r[j]? = some s → s ≠ .no → (σ.set i o)[j]? = σ[j]? := fun j s e n => by
    rw [List.getElem?_set_ne]
    intro z
    subst z
    exact n (hi s e)
  refine ⟨by rw [List.length_set]; exact h.len, h.ftr, fun j d e => ?_, fun j xs e => ?_, fun j k xs ys a e1 e2 e3 e4 => ?_⟩
  · rw [out j _ e (fun z => nomatch z)]; exact h.val j d e
  · rw [out j _ e (fun z => nomatch z)]; exact h.box j xs e
  · rw [out j _ e1 (fun z => nomatch z)] at e3
    rw [out k _ e2 (fun z => nomatch z)] at e4
    exact h.inj j k xs ys a e1 e2 e3 e4
/-! ### a clause's items -/
def okX : XE → Prop
  | .cst d => scalD d = true
  | _ => True
theorem cst_dr {d : D} (h : scalD d = true) : ∃ v, cstV d = some v ∧ DR K mg F H d v := by
  cases d with
  | non => exact ⟨_, rfl, .non⟩
  | bl b => exact ⟨_, rfl, .bl b⟩
  | int i => exact ⟨_, rfl, .int i⟩
  | str x => exact ⟨_, rfl, .str x⟩
  | _ => cases h
theorem zip_dr : ∀ {ns : List Str} {ds : List D} {vs : List V} {f : Str} {d : D}, DRs K mg F H ds vs → (ns.zip ds).lookup f = some d → ∃ v, (ns.zip vs).lookup f = some v ∧ DR K mg F H d v
  | [], _, _, _, _, _, h => by cases h
  | _ :: _, [], _, _, _, _, h => by cases h
  | n :: ns, d0 :: ds, v0 :: vs, f, d, .cons q qs, h => by
    have h : ((n, d0) :: ns.zip ds).lookup f = some d := h
    show ∃ v, ((n, v0) :: ns.zip vs).lookup f = some v ∧ _
    rw [List.lookup_cons] at h ⊢
    split at h
    · cases h
      exact ⟨v0, rfl, q⟩
    · exact zip_dr qs h
theorem items_ok {x : Exc} {cls : Value} {d : Option Addr} (er : ExcR K mg F H x cls d) : ∀ {ms : List XE} {ds : List D}, (∀ m ∈ ms, okX m) → xeVs x ms = some ds → ∃ vs, ItemsR H d ms vs ∧ DRs K mg F H ds vs ∧ vs.length = ms.length
  | [], ds, _, h => by
    cases h
    exact ⟨[], .nil, .nil, rfl⟩
  | m :: ms, ds, ok, h => by
    obtain ⟨d1, h1, h⟩ := bind_some (show ((xeV x m).bind fun d => (xeVs x ms).bind fun ds => some (d :: ds)) = some ds from h)
    obtain ⟨ds', h2, h3⟩ := bind_some h
    cases h3
    obtain ⟨vs, i1, i2, i3⟩ := items_ok er (fun m hm => ok m (List.mem_cons_of_mem _ hm)) h2
    have key : ∃ v, itemR H d m v ∧ DR K mg F H d1 v := by
      cases m with
      | cst c =>
        cases h1
        exact cst_dr (ok _ List.mem_cons_self)
      | fld f =>
        have h1 : (x.ns.zip x.vs).lookup f = some d1 := h1
        obtain ⟨_, e2⟩ := er
        cases d with
        | none =>
          have e2 : x.ns = [] ∧ x.vs = [] := e2
          rw [e2.1] at h1
          cases h1
        | some p =>
          obtain ⟨us, q1, q2, _⟩ := e2
          obtain ⟨v, q3, q4⟩ := zip_dr q2 h1
          exact ⟨v, ⟨p, _, rfl, q1, q3⟩, q4⟩
      | isi b =>
        cases h1
        refine ⟨.bl b, ⟨rfl, fun dd e => ?_⟩, .bl b⟩
        obtain ⟨_, e2⟩ := er
        subst e
        obtain ⟨us, q1, _⟩ := e2
        exact ⟨_, q1⟩
    obtain ⟨v, k1, k2⟩ := key
    exact ⟨v :: vs, .cons k1 i1, .cons k2 i2, by simp [i3]⟩
/-- t = [..] in a clause -/
def suiteT (i j : Nat) (C : Addr) (ms : List XE) : TC := fun a cls d => tSeq (tAsg (tLst (tItems i a C cls d ms)) (gName j)) tNext
inductive HL (mg : Str → Option Value) (cl : List (Str × Option Str)) (len : Nat) (P : Nat → Prop) (i : Nat) : List (Str × Nat × List XE) → List (Value × TC) → Prop
  | nil : HL mg cl len P i [] []
  | cons {x : Str} {j : Nat} {ms : List XE} {C : Addr} {of : Option Str} {hs : List (Str × Nat × List XE)} {l : List (Value × TC)} : mg x = some (.ref C) → cl.lookup x = some of → j < len → ¬ P j → (∀ m ∈ ms, okX m) → ms.length ≤ 1000 → HL mg cl len P i hs l → HL mg cl len P i ((x, j, ms) :: hs) ((.ref C, suiteT i j C ms) :: l)
theorem HL.get {cl : List (Str × Option Str)} {len i : Nat} {hs : List (Str × Nat × List XE)} {l : List (Value × TC)} (h : HL mg cl len P i hs l) {x : Str} {p : Nat × List XE} (e : hs.lookup x = some p) : p.1 < len ∧ ¬ P p.1 ∧ (∀ m ∈ p.2, okX m) ∧ p.2.length ≤ 1000 := by
  induction h with
  | nil => cases e
  | cons _ _ h1 h2 h3 h4 _ ih =>
    rw [List.lookup_cons] at e
    split at e
    · cases e; exact ⟨h1, h2, h3, h4⟩
    · exact ih e
theorem wA_ok {Pg : Program} {w : World} {cl : List (Str × Option Str)} {bas : List Str} (CA : ClsAll Pg w K mg cl bas) {W : WX} {D : Ends} {x : Str} {C : Addr} {ox : Option Str} {d : Option Addr} {len i : Nat} (hC : mg x = some (.ref C)) (hx : cl.lookup x = some ox)
    {hs : List (Str × Nat × List XE)} {l : List (Value × TC)} (h : HL mg cl len P i hs l) (h0 : hs.lookup x = none → W (.ref C) d σ H) (h1 : ∀ p, hs.lookup x = some p → ∀ a, H a = none → suiteT i p.1 C p.2 a (.ref C) d (goneE i D) (σ.set i (some (.ref a))) H) : wA K i W D l (.ref C) d σ H := by
  induction h with
  | nil => exact h0 rfl
  | @cons y j ms C' of hs l a1 a2 a3 a4 a5 a6 a7 ih =>
    refine ⟨x == y, CA.mat x ox y of C C' hx a2 hC a1, fun e a ha => ?_, fun e => ih (fun z => h0 ?_) fun p z => h1 p ?_⟩
    · have exy : x = y := by simpa using e
      subst exy
      rw [a1] at hC
      cases hC
      exact h1 (j, ms) (by rw [List.lookup_cons, e]) a ha
    · rw [List.lookup_cons, e]; exact z
    · rw [List.lookup_cons, e]; exact z
end
theorem look_of_mem {x : Str} : ∀ {cl : List (Str × Option Str)}, (cl.map (·.1)).contains x = true → ∃ o, cl.lookup x = some o
  | [], h => by cases h
  | (y, o) :: cl, h => by
    rw [List.lookup_cons]
    cases e : x == y with
    | true => exact ⟨o, rfl⟩
    | false =>
      rw [List.map_cons, List.contains_cons, e, Bool.false_or] at h
      exact look_of_mem h
theorem psv_try {X : Cx} {W : WX} {c : CallT} {P : Nat → Prop} {i : Nat} {n : Str} {mb : List St} {cl : List (Str × Option Str)} {bas : List Str} {hs : List (Str × Nat × List XE)} {l : List (Value × TC)} {body : List Stmt} {hd0 : ExceptHandler} {hds : List ExceptHandler} {pos : Pos}
    (hst : X.stack = X.env :: X.outer) (hfm : X.env.frame = some X.env.locals) (hnd : X.N.Nodup) (hix : X.N[i]? = some n) (hlc : X.env.kindOf n = some .local) (tk : Takes X W) (CA : ClsAll X.prog X.w X.K X.mg cl bas) (hPi : ¬ P i)
    (hbd : ∀ (W' : WX) (pn : List (Addr × Obj)) (xe : Value → Shared → Prop), Takes (X.tr pn xe) W' → PassesOwn (model X.prog X.w) X.A X.env xe → PSs (X.tr pn xe) body (tEvS X.K X.mg W' P (evSs c mb)))
    (hhd : HdA X n (hd0 :: hds) l) (hl : HL X.mg cl X.N.length P i hs l) : PS X (.Try body (hd0 :: hds) [] [] pos) (tEvS X.K X.mg W P (evS c (.try_ mb i (cl.map (·.1)) hs))) := by
  refine ps_impL (ps_tryA (tb := fun W' => tEvS X.K X.mg W' P (evSs c mb)) hst hfm hnd hix hlc tk hbd hhd) fun D σ H hlen ⟨F, r, fr, g⟩ => ⟨F, r, fr, ?_⟩
  have hi : i < X.N.length := (List.getElem?_eq_some_iff.mp hix).1
  have g : GoesS X.K X.mg W P F H σ r (match evSs c mb r with
    | .exc x r1 => if !(cl.map (·.1)).contains x.cls then .stuck else (match hs.lookup x.cls with
      | some p => (match xeVs x p.2 with
        | some ds => if p.1 = i then .stuck else .ok .next ((r1.set i .no).set p.1 (.box ds))
        | none => .stuck)
      | none => .exc x r1)
    | o => o) D := by
    rw [evS] at g
    exact g
  cases e : evSs c mb r with
  | stuck => rw [e] at g; exact g
  | ok f r1 => rw [e] at g; exact g
  | exc x r1 =>
    rw [e] at g
    dsimp only at g
    intro F1 H1 σ1 cls d x1 fr1 hp hl1 er
    obtain ⟨⟨C, hC, rfl⟩, _⟩ := id er
    cases hk : (cl.map (·.1)).contains x.cls with
    | false => rw [hk] at g; exact g.elim
    | true =>
      rw [hk] at g
      simp only [Bool.not_true, Bool.false_eq_true, if_false] at g
      obtain ⟨ox, hox⟩ := look_of_mem hk
      refine wA_ok CA hC hox hl (fun hn => ?_) fun p hpk a ha => ?_
      · rw [hn] at g
        exact g F1 H1 σ1 _ d x1 fr1 hp hl1 er
      · rw [hpk] at g
        dsimp only at g
        obtain ⟨b1, b2, b3, b4⟩ := hl.get hpk
        cases hv : xeVs x p.2 with
        | none => rw [hv] at g; exact g.elim
        | some ds =>
          rw [hv] at g
          dsimp only at g
          by_cases hne : p.1 = i
          · rw [if_pos hne] at g; exact g.elim
          · rw [if_neg hne] at g
            obtain ⟨vs, i1, i2, i3⟩ := items_ok er b3 hv
            have hi1 : i < σ1.length := by rw [hl1, hlen]; exact hi
            have hj1 : p.1 < σ1.length := by rw [hl1, hlen]; exact b1
            refine ⟨rfl, List.getElem?_set_self hi1, vs, i1, by rw [i3, sizeLine_eq]; omega, fun q hq => ?_⟩
            show D.nx (((σ1.set i (some (.ref a))).set p.1 (some (.ref q))).set i none) (upd H1 q (.lst vs))
            have no : ∀ s, (r1.set i Slot.no)[i]? = some s → s = .no := fun s es => by
              rcases get_set es with ⟨_, z⟩ | ⟨z, _⟩
              · exact z
              · exact absurd rfl z
            have f1 : FR X.K X.mg F1 H1 (σ1.set i (some (.ref a))) (r1.set i .no) := (fr1.setNo i).junk no
            have f2 : FR X.K X.mg F1 (upd H1 q (.lst vs)) (σ1.set i (some (.ref a))) (r1.set i .no) := f1.alloc hq (fun _ f => f) fun _ f => .inl f
            have nF : ¬ F1 q := fun z => fr1.ftr q z hq
            have nO : ¬ Own (σ1.set i (some (.ref a))) (r1.set i .no) q := fun z => f1.ownH z hq
            have f3 : FR X.K X.mg F1 (upd H1 q (.lst vs)) ((σ1.set i (some (.ref a))).set p.1 (some (.ref q))) ((r1.set i .no).set p.1 (.box ds)) :=
              f2.setBox (by rw [List.length_set]; exact hj1) upd_same (i2.mono (fun _ f => f) fun a o _ e => upd_new hq e) nF nO
            have f4 : FR X.K X.mg F1 (upd H1 q (.lst vs)) (((σ1.set i (some (.ref a))).set p.1 (some (.ref q))).set i none) ((r1.set i .no).set p.1 (.box ds)) := f3.junk fun s es => by
              rw [List.getElem?_set_ne hne] at es
              exact no s es
            refine g F1 (upd H1 q (.lst vs)) _ (x1.trans ⟨fun b o eb _ => upd_new hq eb, fun _ f => f, fun _ f => .inl f, fun b ob => ?_, fun b eb => ?_⟩) f4 (fun k pk => ?_) ?_
            · obtain ⟨k, xs, e1, e2⟩ := ob
              rcases get_set e1 with ⟨ek, _⟩ | ⟨nk, e1⟩
              · subst ek
                rw [List.getElem?_set_ne (Ne.symm hne), List.getElem?_set_self (by rw [List.length_set]; exact hj1)] at e2
                cases e2
                exact .inr hq
              · rcases get_set e1 with ⟨_, z⟩ | ⟨ni, e1⟩
                · cases z
                · rw [List.getElem?_set_ne (Ne.symm ni), List.getElem?_set_ne (Ne.symm nk), List.getElem?_set_ne (Ne.symm ni)] at e2
                  exact .inl ⟨k, xs, e1, e2⟩
            · by_cases z : b = q
              · rw [z]; exact hq
              · rw [upd_ne z] at eb; exact eb
            · have k1 : k ≠ i := fun z => hPi (z ▸ pk)
              have k2 : k ≠ p.1 := fun z => b2 (z ▸ pk)
              rw [List.getElem?_set_ne (Ne.symm k1), List.getElem?_set_ne (Ne.symm k2), List.getElem?_set_ne (Ne.symm k1)]
              exact hp k pk
            · simp only [List.length_set]
              exact hl1
end Ev

-- part Ev8
set_option maxHeartbeats 2000000
/-! Ev8: the induction over the text: statements. -/
namespace Ev
open PySem PySem.Spec PyProof.Rows L2
structure GoodS (X : Cx) (W : WX) (k : Nat) (c : CallT) (g : SC) : Prop extends Good X W k c g where
  eq : X.env.scope = g.sc
  kd : g.sc.kind = .function
  po : PassesOwn (model X.prog X.w) X.A X.env X.xe
  st : X.stack = X.env :: X.outer
  fm : X.env.frame = some X.env.locals
  two : Room 2 X.A
section
variable {X : Cx} {W : WX} {k : Nat} {c : CallT} {g : SC}
theorem no_any {f : Expr → Bool} (hf : ∀ v, noStar v = true → f v = false) : ∀ {vs : List Expr}, vs.all noStar = true → ¬ (vs.any f = true)
  | [], _ => by simp
  | v :: vs, h => by
    rw [List.all_cons, Bool.and_eq_true] at h
    rw [List.any_cons, hf v h.1, Bool.false_or]
    exact no_any hf h.2
theorem swap_none {ts vs : List Expr} {kt k2 : Nat} {pt pt2 : Pos} {env : PySem.Env} (hk : env.scope.kind = .function) (hns : vs.all noStar = true) (h : swapB env.scope ts vs = some false) : swappedStores [.Tuple ts kt pt] (.Tuple vs k2 pt2) env = pure none := by
  have hb : (env.blockKind != .function) = false := by unfold Env.blockKind; rw [hk]; rfl
  unfold swapB at h
  unfold swappedStores
  simp only []
  rw [hb, Bool.or_false]
  by_cases c1 : (!(ts.length == 2 || ts.length == 3) || vs.length != ts.length) = true
  · rw [if_pos c1]
  · rw [if_neg c1] at h ⊢
    rw [if_neg (no_any (fun v hv => by cases v <;> first | rfl | cases hv) hns)]
    by_cases c2 : ((swapNames env.scope ts).length != ts.length || (swapNames env.scope ts).eraseDups.length != (swapNames env.scope ts).length) = true
    · exact if_pos c2
    · rw [if_neg c2] at h
      refine (if_neg c2).trans ?_
      by_cases c3 : vs.all (foldedForSure 8) = true
      · exact if_pos c3
      · rw [if_neg c3] at h
        split at h <;> cases h
theorem swap_some {ts vs : List Expr} {kt k2 : Nat} {pt pt2 : Pos} {env : PySem.Env} (hk : env.scope.kind = .function) (hns : vs.all noStar = true) (h : swapB env.scope ts vs = some true) : swappedStores [.Tuple ts kt pt] (.Tuple vs k2 pt2) env = pure (some (swapNames env.scope ts)) ∧ (ts.length = 2 ∨ ts.length = 3) ∧ vs.length = ts.length ∧ (swapNames env.scope ts).length = ts.length := by
  have hb : (env.blockKind != .function) = false := by unfold Env.blockKind; rw [hk]; rfl
  unfold swapB at h
  by_cases c1 : (!(ts.length == 2 || ts.length == 3) || vs.length != ts.length) = true
  · rw [if_pos c1] at h; cases h
  · rw [if_neg c1] at h
    by_cases c2 : ((swapNames env.scope ts).length != ts.length || (swapNames env.scope ts).eraseDups.length != (swapNames env.scope ts).length) = true
    · rw [if_pos c2] at h; cases h
    · rw [if_neg c2] at h
      by_cases c3 : vs.all (foldedForSure 8) = true
      · rw [if_pos c3] at h; cases h
      · rw [if_neg c3] at h
        by_cases c4 : vs.all (constantsAlone 8) = true
        · rw [if_pos c4] at h; cases h
        · refine ⟨?_, ?_⟩
          · unfold swappedStores
            simp only []
            rw [hb, Bool.or_false, if_neg c1, if_neg (no_any (fun v hv => by cases v <;> first | rfl | cases hv) hns)]
            refine (if_neg c2).trans ?_
            refine (if_neg c3).trans ?_
            exact if_neg c4
          · simp only [Bool.or_eq_true, Bool.not_eq_true', bne_iff_ne, ne_eq, not_or, Bool.not_eq_false, Decidable.not_not, beq_iff_eq] at c1 c2
            exact ⟨c1.1, c1.2, c2.1⟩
theorem swap_local {sc : Scope} {f : Expr → Option Str} (hf : ∀ x p, f (.Name x p) ≠ none → sc.names.lookup x = some .local) : ∀ {ts : List Expr}, (ts.filterMap f).length = ts.length → ∀ x p, Expr.Name x p ∈ ts → sc.names.lookup x = some .local
  | [], _, _, _, hm => nomatch hm
  | t :: ts, h, x, p, hm => by
    rw [List.filterMap_cons] at h
    cases q : f t with
    | none =>
      rw [q] at h
      have := List.length_filterMap_le f ts
      simp at h
      omega
    | some y =>
      rw [q] at h
      rcases List.mem_cons.mp hm with e | hm
      · subst e
        exact hf x p (by rw [q]; exact fun z => nomatch z)
      · exact swap_local hf (by simpa using h) x p hm
theorem swapNames_local {sc : Scope} {ts : List Expr} (h : (swapNames sc ts).length = ts.length) : ∀ x p, Expr.Name x p ∈ ts → sc.names.lookup x = some .local := by
  refine swap_local (fun x p hn => ?_) h
  dsimp only at hn
  split at hn
  · rename_i hc
    rw [Bool.and_eq_true] at hc
    simpa using hc.1
  · exact absurd rfl hn
theorem swapNames_eq {sc : Scope} {ts : List Expr} (h : (swapNames sc ts).length = ts.length) {xs : List Str} (hx : ts.filterMap isNm = xs) (hl : xs.length = ts.length) : swapNames sc ts = xs := by
  subst hx
  have key : ∀ {f : Expr → Option Str} {l : List Expr}, (∀ t y, f t = some y → isNm t = some y) → (l.filterMap f).length = l.length → l.filterMap f = l.filterMap isNm := by
    intro f l hf
    induction l with
    | nil => intro _; rfl
    | cons t l ih =>
      intro h
      rw [List.filterMap_cons] at h ⊢
      rw [List.filterMap_cons]
      cases q : f t with
      | none =>
        rw [q] at h
        have := List.length_filterMap_le f l
        simp at h
        omega
      | some y =>
        rw [q] at h
        rw [hf t y q]
        have h2 : (l.filterMap f).length = l.length := by
          have h : (y :: l.filterMap f).length = (t :: l).length := h
          simpa only [List.length_cons, Nat.add_right_cancel_iff] using h
        show y :: l.filterMap f = y :: l.filterMap isNm
        rw [ih h2]
  refine key (fun t y ht => ?_) h
  cases t <;> first
    | (dsimp only at ht; split at ht <;> cases ht <;> rfl)
    | cases ht
/-- a, b = x, y -/
theorem snd_par (G : GoodS X W k c g) {ts vs : List Expr} {is : List Nat} {ms : List E} {kt k2 : Nat} {pt pt2 pos : Pos} (h1 : slotsOf g ts = some is) (ha : PA X vs (tEvA X.K X.mg W (evEs c ms))) (hns : vs.all noStar = true) (hms : ms.length = vs.length) (hl : vs.length ≤ 1000) (hnd : is.Nodup) (hsw : (swapB g.sc ts vs).isSome = true) :
    PS X (.Assign [.Tuple ts kt pt] (.Tuple vs k2 pt2) pos) (tEvS X.K X.mg W g.pinned (evS c (.par is ms))) := by
  have hk : X.env.scope.kind = .function := by rw [G.eq]; exact G.kd
  rw [← G.eq] at hsw
  cases hb : swapB X.env.scope ts vs with
  | none => rw [hb] at hsw; cases hsw
  | some b =>
    cases b with
    | false => exact psv_parG G.toGood h1 ha (by rw [hms]; exact hl) (swap_none hk hns hb)
    | true =>
      obtain ⟨s1, s2, s3, s4⟩ := swap_some (kt := kt) (k2 := k2) (pt := pt) (pt2 := pt2) hk hns hb
      have lc := swapNames_local s4
      rcases s2 with s2 | s2
      · match ts, s2, vs, s3, h1 with
        | [t1, t2], s2, [v, w], s3, h1 =>
          clear s2 s3 hb
          cases t1 <;> first | (cases h1; done) | skip
          cases t2 <;> first | (exfalso; unfold slotsOf at h1; obtain ⟨_, _, h1⟩ := bind_some h1; cases h1; done) | skip
          rename_i x px y py
          have il : is.length = 2 := (pgs_names G.toGood h1).2.2.2.1
          match is, il with
          | [i, j], _ =>
            have e := swapNames_eq s4 (xs := [x, y]) rfl rfl
            rw [e] at s1
            exact psv_par2 G.toGood h1 (by simpa using hnd) (lc x px (by simp)) (lc y py (by simp)) ha s1
      · match ts, s2, vs, s3, h1 with
        | [t1, t2, t3], s2, [v, w, u], s3, h1 =>
          clear s2 s3 hb
          cases t1 <;> first | (cases h1; done) | skip
          cases t2 <;> first | (exfalso; unfold slotsOf at h1; obtain ⟨_, _, h1⟩ := bind_some h1; cases h1; done) | skip
          cases t3 <;> first | (exfalso; unfold slotsOf at h1; obtain ⟨_, _, h1⟩ := bind_some h1; obtain ⟨_, h1, _⟩ := bind_some h1; unfold slotsOf at h1; obtain ⟨_, _, h1⟩ := bind_some h1; cases h1; done) | skip
          rename_i x px y py z pz
          have il : is.length = 3 := (pgs_names G.toGood h1).2.2.2.1
          match is, il with
          | [i, j, l], _ =>
            have e := swapNames_eq s4 (xs := [x, y, z]) rfl rfl
            rw [e] at s1
            have hnd' : (i ≠ j ∧ i ≠ l) ∧ j ≠ l := by simpa using hnd
            exact psv_par3 G.toGood h1 hnd'.1.1 hnd'.1.2 hnd'.2 (lc x px (by simp)) (lc y py (by simp)) (lc z pz (by simp)) ha s1
end
end Ev

-- part EvX6
set_option maxHeartbeats 2000000
/-! EvX6: the text of a try. -/
namespace Ev
open PySem PySem.Spec PyProof.Rows L2
section
variable {X : Cx} {W : WX} {k : Nat} {c : CallT} {g : SC}
theorem x_ok (G : GoodS X W k c g) {of : Option Str} {n x : Str} {C : Addr} {i : Nat} (T : ClsF X.prog X.w X.K X.mg x of C) (hx : g.cls.lookup x = some of) (hN : X.N[i]? = some n) (hv : Vis X.env.scope n) (hd : (n == ("__debug__" : Str)) = false) (hcd : (n == ("__classdict__" : Str)) = false)
    {e : Expr} {m : XE} (h : trX g of n e = some m) : noStar e = true ∧ okX m ∧ ∀ (a : Addr) (oe : Obj) (cls : Value) (d : Option Addr) (pn : List (Addr × Obj)), Zc cls d oe → (∃ vs, oe.data = .fields vs) → PE (X.suite a ((a, oe) :: pn)) e (tItem i a C cls d m) := by
  unfold trX at h
  split at h
  · cases h; exact ⟨rfl, rfl, fun a oe cls d pn hz hf => pi_str⟩
  · cases h; exact ⟨rfl, rfl, fun a oe cls d pn hz hf => pi_int⟩
  · cases h; exact ⟨rfl, rfl, fun a oe cls d pn hz hf => pi_bl⟩
  · split at h
    · rename_i hc
      obtain ⟨rfl, rfl⟩ := hc
      cases h
      have mk := T.made
      exact ⟨rfl, trivial, fun a oe cls d pn hz hf => pi_fld T.xf mk.2.1 hz hf hN hv hd hcd rfl⟩
    · cases h
  · split at h
    · rename_i hc
      obtain ⟨rfl, rfl, h1, h2, h3⟩ := hc
      cases h
      obtain ⟨B, hB, hk⟩ := G.cl.bas x of _ C hx h2 T.glo
      exact ⟨rfl, trivial, fun a oe cls d pn hz hf => pi_isi T.ec hz hf hN hv hd hcd (G.toGood.gl h1).1 (G.bi _ (by decide)) (G.toGood.gl h3).1 hB (G.toGood.gl h3).2 hk⟩
    · cases h
  · cases h
theorem xs_ok (G : GoodS X W k c g) {of : Option Str} {n x : Str} {C : Addr} {i : Nat} (T : ClsF X.prog X.w X.K X.mg x of C) (hx : g.cls.lookup x = some of) (hN : X.N[i]? = some n) (hv : Vis X.env.scope n) (hd : (n == ("__debug__" : Str)) = false) (hcd : (n == ("__classdict__" : Str)) = false) :
    ∀ {es : List Expr} {ms : List XE}, trXs g of n es = some ms → ms.length = es.length ∧ (∀ m ∈ ms, okX m) ∧ ∀ (a : Addr) (oe : Obj) (cls : Value) (d : Option Addr) (pn : List (Addr × Obj)), Zc cls d oe → (∃ vs, oe.data = .fields vs) → PA (X.suite a ((a, oe) :: pn)) es (tItems i a C cls d ms)
  | [], ms, h => by
    cases h
    exact ⟨rfl, fun m hm => (nomatch hm), fun a oe cls d pn hz hf => pi_nil⟩
  | e :: es, ms, h => by
    obtain ⟨m, h1, h⟩ := bind_some (show ((trX g of n e).bind fun x => (trXs g of n es).bind fun xs => some (x :: xs)) = some ms from h)
    obtain ⟨ms', h2, h3⟩ := bind_some h
    cases h3
    obtain ⟨a1, a2, a3⟩ := x_ok G T hx hN hv hd hcd h1
    obtain ⟨b1, b2, b3⟩ := xs_ok G T hx hN hv hd hcd h2
    refine ⟨by simp [b1], fun m' hm => ?_, fun a oe cls d pn hz hf => pi_cons (a3 a oe cls d pn hz hf) (b3 a oe cls d pn hz hf) (star_cons a1)⟩
    rcases List.mem_cons.mp hm with z | z
    · rw [z]; exact a2
    · exact b2 m' z
theorem not_pin (G : GoodS X W k c g) {x : Str} {i : Nat} (h : g.tslot x = some i) : i < X.N.length ∧ ¬ g.pinned i := by
  have := (pgs_names G.toGood (ts := [.Name x ⟨0, 0, 0, 0⟩]) (is := [i]) (by show ((g.tslot x).bind fun i => (slotsOf g []).bind fun is => some (i :: is)) = _; rw [h]; rfl)).2.2.2.2 i (by simp)
  exact this
theorem hd_ok (G : GoodS X W k c g) {n : Str} {i : Nat} (hN : X.N[i]? = some n) (hv : Vis X.env.scope n) (hd : (n == ("__debug__" : Str)) = false) (hcd : (n == ("__classdict__" : Str)) = false) :
    ∀ {hds : List ExceptHandler} {hs : List (Str × Nat × List XE)}, trH g n hds = some hs → ∃ l, HdA X n hds l ∧ HL X.mg g.cls X.N.length g.pinned i hs l
  | [], hs, h => by
    cases h
    exact ⟨[], .nil, .nil⟩
  | hd0 :: hds, hs, h => by
    unfold trH at h
    split at h
    · rename_i x p1 n' t pt es pl pa p2
      split at h
      · rename_i hc
        obtain ⟨rfl, hgx, hle⟩ := hc
        obtain ⟨of, h1, h⟩ := bind_some h
        obtain ⟨j, h2, h⟩ := bind_some h
        obtain ⟨ms, h3, h⟩ := bind_some h
        obtain ⟨hs', h4, h5⟩ := bind_some h
        cases h5
        obtain ⟨C, T⟩ := G.cl.one x of h1
        obtain ⟨b1, b2, b3⟩ := xs_ok G T h1 hN hv hd hcd h3
        obtain ⟨l, c1, c2⟩ := hd_ok G hN hv hd hcd h4
        obtain ⟨t1, t2, t3⟩ := G.toGood.tslot h2
        obtain ⟨q1, q2⟩ := not_pin G h2
        have hnd : X.N.Nodup := by rw [G.N]; exact G.nd
        refine ⟨(.ref C, suiteT i j C ms) :: l, .cons ⟨(G.toGood.gl hgx).1, (G.toGood.gl hgx).2, .inl T.glo⟩ (fun a oe cls d pn hz hf => ?_) c1, .cons T.glo h1 q1 q2 b2 (by rw [b1]; exact hle) c2⟩
        exact pss_cons (ps_asg (pe_lst (b3 a oe cls d pn hz hf)) (pg_name hnd t1 t2 t3) rfl rfl rfl) pss_nil
      · cases h
    · cases h
theorem GoodS.inTry (G : GoodS X W k c g) {W' : WX} {pn : List (Addr × Obj)} {xe : Value → Shared → Prop} (tk : Takes (X.tr pn xe) W') (po : PassesOwn (model X.prog X.w) X.A X.env xe) : GoodS (X.tr pn xe) W' k c g where
  N := G.N
  nd := G.nd
  calm := G.calm
  sc := G.sc
  fr := G.fr
  fn := G.fn
  rm := G.rm
  un := G.un
  tk := takesF_of (X := X.tr pn xe) G.st G.fm tk
  fns := G.fns
  con := G.con
  bi := G.bi
  cl := G.cl
  eq := G.eq
  kd := G.kd
  po := po
  st := G.st
  fm := G.fm
  two := G.two
/-- try -/
theorem snd_try (G : GoodS X W k c g) {nm : Str} {i : Nat} {body : List Stmt} {mb : List St} {hd0 : ExceptHandler} {hds : List ExceptHandler} {hs : List (Str × Nat × List XE)} {pos : Pos} (h1 : g.tslot nm = some i) (h2 : (g.sc.names.lookup nm == some .local && !(nm == ("__debug__" : Str)) && !(nm == ("__classdict__" : Str))) = true)
    (hb : ∀ {X : Cx} {W : WX}, GoodS X W k c g → PSs X body (tEvS X.K X.mg W g.pinned (evSs c mb))) (h3 : trH g nm (hd0 :: hds) = some hs) :
    PS X (.Try body (hd0 :: hds) [] [] pos) (tEvS X.K X.mg W g.pinned (evS c (.try_ mb i (g.cls.map (·.1)) hs))) := by
  rw [Bool.and_eq_true, Bool.and_eq_true] at h2
  obtain ⟨⟨hl, hd⟩, hcd⟩ := h2
  have hl : X.env.scope.names.lookup nm = some .local := G.sc _ _ (by simpa using hl) (by decide)
  obtain ⟨t1, t2, t3⟩ := G.toGood.tslot h1
  obtain ⟨q1, q2⟩ := not_pin G h1
  obtain ⟨l, c1, c2⟩ := hd_ok G t1 (.inl hl) (by simpa using hd) (by simpa using hcd) h3
  exact psv_try G.st G.fm (by rw [G.N]; exact G.nd) t1 hl (takesF_takes G.tk G.fm) G.cl q2 (fun W' pn xe tk po => hb (G.inTry tk po)) c1 c2
/-- raise x(..) -/
theorem snd_raise (G : GoodS X W k c g) {n : Nat} {x : Str} {es : List Expr} {of : Option Str} {m : St} {p pos pos' : Pos} (hg : g.glob x = true) (h : (match of, es with
        | none, [] => some (.raise x [] [])
        | some f, [e] => (trEs n g [e]).map (St.raise x [f])
        | _, _ => none) = some m) (hx : g.cls.lookup x = some of) : PS X (.Raise (some (.Call (.Name x p) es [] pos)) none pos') (tEvS X.K X.mg W g.pinned (evS c m)) := by
  obtain ⟨C, T⟩ := G.cl.one x of hx
  obtain ⟨hgl, hdb⟩ := G.toGood.gl hg
  split at h
  · cases h
    exact psv_raise0 ⟨T.made, T.glo, T.keep, T.sub, T.typ⟩ G.calm (takesF_takes G.tk G.fm) hgl hdb
  · rename_i f e
    obtain ⟨ms, h1, rfl⟩ := map_some h
    obtain ⟨a1, a2, a3⟩ := (snd n).es G.toGood h1
    match ms, a3 with
    | [m], _ =>
      obtain ⟨o1, o2, fI, fd, ps, i1, i2, i3, i4⟩ := T.made
      exact psv_raise1 ⟨o1, o2, T.glo, fI, fd, ps, i1, i2, i3 X.base, i4⟩ G.calm (takesF_takes G.tk G.fm) G.two hgl hdb a1 (star_cons (by simpa using a2))
  · cases h
end
end Ev

-- part Ev8b
set_option maxHeartbeats 2000000
/-! Ev8b: statements are sound. -/
namespace Ev
open PySem PySem.Spec PyProof.Rows L2
structure SndS (n : Nat) : Prop where
  s : ∀ {X : Cx} {W : WX} {k : Nat} {c : CallT} {g : SC} {s : Stmt} {m : St}, GoodS X W k c g → trS n g s = some m → PS X s (tEvS X.K X.mg W g.pinned (evS c m))
  ss : ∀ {X : Cx} {W : WX} {k : Nat} {c : CallT} {g : SC} {s : List Stmt} {m : List St}, GoodS X W k c g → trSs n g s = some m → PSs X s (tEvS X.K X.mg W g.pinned (evSs c m))
section
variable {X : Cx} {W : WX} {k : Nat} {c : CallT} {g : SC}
theorem not_pinned (G : GoodS X W k c g) {x : Str} {i : Nat} (h : g.tslot x = some i) : i < X.N.length ∧ ¬ g.pinned i := by
  have := (pgs_names G.toGood (ts := [.Name x ⟨0, 0, 0, 0⟩]) (is := [i]) (by show ((g.tslot x).bind fun i => (slotsOf g []).bind fun is => some (i :: is)) = _; rw [h]; rfl)).2.2.2.2 i (by simp)
  exact this
theorem tg_pinned (G : GoodS X W k c g) : ∀ n : Nat, (∀ {e : Expr} {t : Tg}, trTg g n e = some t → ∀ i ∈ tslots t, ¬ g.pinned i) ∧ (∀ {es : List Expr} {ts : List Tg}, trTgs g n es = some ts → ∀ i ∈ tslotss ts, ¬ g.pinned i)
  | 0 => by
    refine ⟨fun {e t} h => ?_, fun {es ts} h => ?_⟩
    · cases e <;> cases h
    · cases es with
      | nil => cases h; exact fun i hi => nomatch hi
      | cons e es => cases h
  | n + 1 => by
    obtain ⟨ih1, ih2⟩ := tg_pinned G n
    refine ⟨fun {e t} h => ?_, fun {es ts} h => ?_⟩
    · cases e with
      | Name x p =>
        obtain ⟨i, h1, rfl⟩ := map_some (show (g.tslot x).map Tg.name = some t from h)
        intro j hj
        rw [show j = i from List.mem_singleton.mp hj]
        exact (not_pinned G h1).2
      | Tuple ts k p =>
        obtain ⟨us, h1, rfl⟩ := map_some (show (trTgs g n ts).map Tg.tup = some t from h)
        exact ih2 h1
      | _ => cases h
    · cases es with
      | nil => cases h; exact fun i hi => nomatch hi
      | cons e es =>
        obtain ⟨a, h1, h⟩ := bind_some (show ((trTg g n e).bind fun a => (trTgs g n es).bind fun b => some (a :: b)) = some ts from h)
        obtain ⟨b, h2, h3⟩ := bind_some h
        cases h3
        intro i hi
        rcases List.mem_append.mp (show i ∈ tslots a ++ tslotss b from hi) with z | z
        · exact ih1 h1 i z
        · exact ih2 h2 i z
/-- name = value -/
theorem snd_set (G : GoodS X W k c g) {n : Nat} {x : Str} {px pos : Pos} {e : Expr} {i : Nat} {m : E} (hx : g.tslot x = some i) (he : trE n g e = some m) : PS X (.Assign [.Name x px] e pos) (tEvS X.K X.mg W g.pinned (evS c (.asg (.name i) m))) := by
  obtain ⟨b1, b2, b3⟩ := G.toGood.tslot hx
  obtain ⟨p1, p2⟩ := not_pinned G hx
  have hN : X.N.Nodup := by rw [G.N]; exact G.nd
  have plain : swapsWith e (some (.Name x px)) pos.line X.env = pure false → PS X (.Assign [.Name x px] e pos) (tEvS X.K X.mg W g.pinned (evS c (.asg (.name i) m))) := fun hs =>
    ps_impL (ps_set hN b1 b2 ((snd n).e G.toGood he) hs b3) fun D σ H hl h => psv_set_imp p2 (by rw [hl]; exact p1) h
  cases e with
  | ListComp elt gs scope p =>
    have hsw : ∃ b, swapsWith (.ListComp elt gs scope p) (some (.Name x px)) pos.line X.env = pure b ∧ (b = true → X.env.scope.names.lookup x = some .local) := by
      refine ⟨_, rfl, fun hb => ?_⟩
      rw [Bool.and_eq_true, Bool.and_eq_true, Bool.and_eq_true] at hb
      have := hb.1.1.2
      show X.env.kindOf x = some .local
      simpa using this
    obtain ⟨b, hsw, hloc⟩ := hsw
    cases b with
    | false => exact plain hsw
    | true =>
      cases n with
      | zero => cases he
      | succ n =>
        have S := snd n
        unfold trE at he
        split at he <;> first | (rename_i hq; cases hq; done) | skip
        all_goals first
          | (cases he; done)
          | skip
        rename_i hq
        cases hq
        split at he
        · rename_i hb
          obtain ⟨a, h1, h⟩ := bind_some he
          obtain ⟨t, h2, h⟩ := bind_some h
          obtain ⟨b, h3, h⟩ := bind_some h
          obtain ⟨y, h4, h⟩ := bind_some h
          split at h
          · rename_i ht
            cases h
            refine ps_impL (ps_setLcX (g := gT X.K X.mg t) (tt := fun σ => tEvT X.K X.mg (WA W σ) (evIfs c b)) (te := fun σ => tEv X.K X.mg (WA W σ) (evE c y)) G.calm hN b1 (hloc rfl) hsw (S.it G.toGood h1) (blk_ok S G.toGood hb) G.tk (fun σ s H C cl fp xe tk => (tg_ok n).1 (G.toGood.blk s H _ C cl fp tk) h2) (fun σ s H C cl fp xe tk => S.ifs (G.toGood.blk s H _ C cl fp tk) h3) (fun σ s H C cl fp xe tk => S.e (G.toGood.blk s H _ C cl fp tk) h4) (fold_set h1)) fun D σ H hl h => ?_
            refine comp_imp (fun j hj => ?_) (psv_set_imp p2 (by rw [hl]; exact p1) h)
            have := List.all_eq_true.mp ht j hj
            simpa using this
          · cases h
        · cases he
  | SetComp _ _ _ _ => cases n <;> cases he
  | DictComp _ _ _ _ _ => cases n <;> cases he
  | _ => exact plain rfl
theorem snd_s {n : Nat} (S : SndS n) (G : GoodS X W k c g) {s : Stmt} {m : St} (h : trS (n + 1) g s = some m) : PS X s (tEvS X.K X.mg W g.pinned (evS c m)) := by
  unfold trS at h
  split at h
  · rename_i e p
    split at h
    · cases h
    · rename_i hc
      obtain ⟨x, h1, rfl⟩ := map_some h
      refine psv_expr ((snd n).e G.toGood h1) ?_
      cases e <;> first | rfl | exact absurd rfl hc
  · rename_i ts kt pt vs k2 pt2 p
    obtain ⟨is, h1, h⟩ := bind_some h
    obtain ⟨es, h2, h⟩ := bind_some h
    split at h
    · rename_i hc
      cases h
      obtain ⟨a1, a2, a3⟩ := (snd n).es G.toGood h2
      exact snd_par G h1 a1 a2 a3 hc.1 hc.2.1 hc.2.2
    · cases h
  · rename_i x px ix p e p'
    obtain ⟨i, h1, h⟩ := bind_some h
    obtain ⟨kk, h2, h⟩ := bind_some h
    obtain ⟨v, h3, h⟩ := bind_some h
    cases h
    obtain ⟨c1, c2, c3, c4⟩ := G.toGood.slot h1
    refine psv_asgI c1 c2 c3 c4 ((snd n).e G.toGood h3) ((snd n).e G.toGood h2) ?_ ?_ ?_
    · cases e <;> rfl
    · cases e <;> rfl
    · intro v
      cases n with
      | zero => cases h2
      | succ n => cases ix <;> first | rfl | (cases h2; done)
  · rename_i tg e p hne1 hne2
    obtain ⟨t, h1, h⟩ := bind_some h
    obtain ⟨v, h2, h⟩ := bind_some h
    cases h
    cases n with
    | zero => cases h2
    | succ n =>
      cases tg with
      | Name x px =>
        obtain ⟨i, h3, rfl⟩ := map_some (show (g.tslot x).map Tg.name = some t from h1)
        exact snd_set G h3 h2
      | Tuple ts kt pt =>
        obtain ⟨us, h3, rfl⟩ := map_some (show (trTgs g n ts).map Tg.tup = some t from h1)
        refine psv_asgT ((snd (n + 1)).e G.toGood h2) ((tg_ok (n + 1)).1 G.toGood h1) ?_ ?_ ((tg_pinned G (n + 1)).1 h1)
        · cases e <;> rfl
        · cases e <;> first | rfl | exact absurd rfl (hne1 _ _ _ _ _ _ rfl)
      | _ => cases h1
  · obtain ⟨x, h1, rfl⟩ := map_some h
    exact psv_ret ((snd n).e G.toGood h1)
  · cases h; exact psv_ret0
  · obtain ⟨x, h1, h⟩ := bind_some h
    obtain ⟨y, h2, h⟩ := bind_some h
    obtain ⟨z, h3, h⟩ := bind_some h
    cases h
    exact psv_if ((snd n).t G.toGood h1) (S.ss G h2) (S.ss G h3)
  · obtain ⟨x, h1, h⟩ := bind_some h
    obtain ⟨y, h2, h⟩ := bind_some h
    obtain ⟨z, h3, h⟩ := bind_some h
    cases h
    exact psv_for G.po G.calm ((snd n).it G.toGood h2) ((tg_ok n).1 G.toGood h1) (S.ss G h3) (fold_set h2) ((tg_pinned G n).1 h1)
  · obtain ⟨x, h1, h⟩ := bind_some h
    obtain ⟨y, h2, h⟩ := bind_some h
    cases h
    exact psv_while G.po ((snd n).t G.toGood h1) (S.ss G h2)
  · cases h; exact psv_pass
  · cases h; exact psv_cont
  · cases h; exact psv_brk
  · split at h
    · rename_i hg
      obtain ⟨of, h1, h⟩ := bind_some h
      exact snd_raise (n := n) G hg h h1
    · cases h
  · obtain ⟨nm, h1, h⟩ := bind_some h
    obtain ⟨i, h2, h⟩ := bind_some h
    split at h
    · rename_i hc
      obtain ⟨b, h3, h⟩ := bind_some h
      obtain ⟨l, h4, h⟩ := bind_some h
      cases h
      exact snd_try G h2 hc (fun G => S.ss G h3) h4
    · cases h
  · cases h
end
theorem sndS : ∀ n, SndS n
  | 0 => ⟨fun _ h => by (cases h), fun _ h => by (cases h)⟩
  | n + 1 => by
    have S := sndS n
    refine ⟨fun G h => snd_s S G h, fun {X W k c g ss ms} G h => ?_⟩
    cases ss with
    | nil => cases h; exact psv_nil
    | cons s ss =>
      obtain ⟨x, h1, h⟩ := bind_some (show ((trS n g s).bind fun a => (trSs n g ss).bind fun b => some (a :: b)) = some ms from h)
      obtain ⟨y, h2, h⟩ := bind_some h
      cases h
      exact psv_cons (S.s G h1) (S.ss G h2)
end Ev

-- part Ev9
set_option maxHeartbeats 2000000
/-! Ev9: defs keep their promise. -/
namespace Ev
open PySem PySem.Spec PyProof.Rows L2
section
variable {K : PySem.W.Frag} {mg : Str → Option Value} {F F' : Addr → Prop} {H H' : Hp} {σ σ' : L2.St} {r r' : Env} {vs : List V} {args : List Slot}
theorem get_app_some {α : Type} {l : List α} {k : Nat} {i : Nat} {x y : α} (h : (l ++ List.replicate k y)[i]? = some x) : l[i]? = some x ∨ x = y := by
  rw [List.getElem?_append] at h
  split at h
  · exact .inl h
  · rw [List.getElem?_replicate] at h
    split at h
    · cases h; exact .inr rfl
    · cases h
theorem get_app_left {α : Type} {l m : List α} {i : Nat} {x : α} (h : l[i]? = some x) : (l ++ m)[i]? = some x := by
  rw [List.getElem?_append_left (List.getElem?_eq_some_iff.mp h).1]; exact h
theorem FR.start (h : FR K mg F H (vs.map some) args) (k : Nat) : FR K mg F H (vs.map some ++ List.replicate k none) (args ++ List.replicate k .no) where
  len := by
    have := h.len
    simp at this ⊢
    omega
  ftr := h.ftr
  val := fun i d e => by
    rcases get_app_some e with e | e
    · obtain ⟨v, q1, q2⟩ := h.val i d e
      exact ⟨v, get_app_left q1, q2⟩
    · cases e
  box := fun i xs e => by
    rcases get_app_some e with e | e
    · obtain ⟨a, us, q1, q2⟩ := h.box i xs e
      exact ⟨a, us, get_app_left q1, q2⟩
    · cases e
  inj := fun i j xs ys a e1 e2 e3 e4 => by
    rcases get_app_some e1 with e1 | e1
    · rcases get_app_some e2 with e2 | e2
      · obtain ⟨b, us, q1, _⟩ := h.box i xs e1
        obtain ⟨b', us', q1', _⟩ := h.box j ys e2
        have z1 := get_app_left (m := List.replicate k (none : Option V)) q1
        have z2 := get_app_left (m := List.replicate k (none : Option V)) q1'
        rw [e3] at z1
        rw [e4] at z2
        cases z1
        cases z2
        exact h.inj i j xs ys a e1 e2 q1 q1'
      · cases e2
    · cases e1
theorem Own.start {k : Nat} {a : Addr} (hl : args.length = vs.length) : Own (vs.map some ++ List.replicate k none) (args ++ List.replicate k .no) a ↔ Own (vs.map some) args a := by
  constructor
  · rintro ⟨i, xs, e1, e2⟩
    rcases get_app_some e1 with e1 | e1
    · refine ⟨i, xs, e1, ?_⟩
      have hi := (List.getElem?_eq_some_iff.mp e1).1
      rw [List.getElem?_append_left (by simp; omega)] at e2
      exact e2
    · cases e1
  · rintro ⟨i, xs, e1, e2⟩
    exact ⟨i, xs, get_app_left e1, get_app_left e2⟩
theorem maskS_get : ∀ {fl : List Bool} {os : List Slot} {i : Nat} {s : Slot}, (maskS fl os)[i]? = some s → s = .no ∨ (fl[i]? = some true ∧ os[i]? = some s)
  | [], _, _, _, h => by cases h
  | true :: _, [], _, _, h => by cases h
  | false :: _, [], _, _, h => by cases h
  | true :: fl, o :: os, 0, s, h => by cases h; exact .inr ⟨rfl, rfl⟩
  | false :: fl, o :: os, 0, s, h => by cases h; exact .inl rfl
  | true :: fl, o :: os, i + 1, s, h => by
    have := maskS_get (fl := fl) (os := os) (i := i) (s := s) h
    simpa using this
  | false :: fl, o :: os, i + 1, s, h => by
    have := maskS_get (fl := fl) (os := os) (i := i) (s := s) h
    simpa using this
theorem maskS_len : ∀ {fl : List Bool} {os : List Slot}, fl.length = os.length → (maskS fl os).length = os.length
  | [], [], _ => rfl
  | [], _ :: _, h => by simp at h
  | _ :: _, [], h => by simp at h
  | true :: fl, o :: os, h => by
    show (maskS fl os).length + 1 = _
    rw [maskS_len (by simpa using h)]; rfl
  | false :: fl, o :: os, h => by
    show (maskS fl os).length + 1 = _
    rw [maskS_len (by simpa using h)]; rfl
/-- the parameters alone, at the end -/
theorem FR.mask {fl : List Bool} {np : Nat} (h : FR K mg F' H' σ' r') (hfl : fl.length = np) (hnp : np ≤ r'.length) (hvs : vs.length = np) (hpin : ∀ (i : Nat), fl[i]? = some true → σ'[i]? = (vs.map some)[i]?) :
    FR K mg F' H' (vs.map some) (maskS fl (r'.take np)) ∧ ∀ a, Own (vs.map some) (maskS fl (r'.take np)) a → Own σ' r' a := by
  have tk : ∀ {i : Nat} {s : Slot}, (maskS fl (r'.take np))[i]? = some s → s ≠ .no → r'[i]? = some s ∧ σ'[i]? = (vs.map some)[i]? := fun {i s} e hs => by
    rcases maskS_get e with z | ⟨z1, z2⟩
    · exact absurd z hs
    · rw [List.getElem?_take] at z2
      split at z2
      · exact ⟨z2, hpin i z1⟩
      · cases z2
  refine ⟨⟨?_, h.ftr, fun i d e => ?_, fun i xs e => ?_, fun i j xs ys a e1 e2 e3 e4 => ?_⟩, fun a o => ?_⟩
  · rw [maskS_len (by simp; omega)]
    simp
    omega
  · obtain ⟨z1, z2⟩ := tk e (fun z => nomatch z)
    obtain ⟨v, q1, q2⟩ := h.val i d z1
    exact ⟨v, by rw [← z2]; exact q1, q2⟩
  · obtain ⟨z1, z2⟩ := tk e (fun z => nomatch z)
    obtain ⟨a, us, q1, q2⟩ := h.box i xs z1
    exact ⟨a, us, by rw [← z2]; exact q1, q2⟩
  · obtain ⟨z1, z2⟩ := tk e1 (fun z => nomatch z)
    obtain ⟨y1, y2⟩ := tk e2 (fun z => nomatch z)
    exact h.inj i j xs ys a z1 y1 (by rw [z2]; exact e3) (by rw [y2]; exact e4)
  · obtain ⟨i, xs, e1, e2⟩ := o
    obtain ⟨z1, z2⟩ := tk e1 (fun z => nomatch z)
    exact ⟨i, xs, z1, by rw [z2]; exact e2⟩
theorem outs_get : ∀ {fl : List Bool} {os : List Slot} {i : Nat}, outsOk fl os = true → fl[i]? = some true → ∃ s, os[i]? = some s ∧ outOk s = true
  | [], _, _, _, h => by simp at h
  | _ :: fl, [], _, h, _ => by cases h
  | b :: fl, o :: os, i, h, e => by
    have h : ((!b || outOk o) && outsOk fl os) = true := h
    rw [Bool.and_eq_true] at h
    cases i with
    | zero =>
      simp at e
      subst e
      exact ⟨o, rfl, by simpa using h.1⟩
    | succ i =>
      obtain ⟨s, h1, h2⟩ := outs_get (i := i) h.2 (by simpa using e)
      exact ⟨s, by simpa using h1, h2⟩
/-- from the body's run to the promise -/
theorem fn_goes {fl : List Bool} {np nl : Nat} {c : CallT} {body : List St} {Q : VK} {E : XK} {P : Nat → Prop} (fr : FR K mg F H (vs.map some) args) (hfl : fl.length = np) (hvs : vs.length = np) (hflag : flagOk fl args = true) (hP : ∀ (i : Nat), fl[i]? = some true → P i)
    (h : match runFn c ⟨np, nl, fl, body⟩ args with
      | .ret rv outs => outs.length = args.length ∧ ∀ F' H' v, Ext F H (Own (vs.map some) args) F' H' (Own (vs.map some) (maskS fl outs)) → FR K mg F' H' (vs.map some) (maskS fl outs) → RVR K mg H F' H' (vs.map some) (maskS fl outs) rv v → (∀ i, rv ≠ .bor i) → Q v H'
      | .exc x => ∀ F' H' cls d, Ext F H (Own (vs.map some) args) F' H' (fun _ => False) → (∀ a, F' a → H' a ≠ none) → ExcR K mg F' H' x cls d → E cls d H'
      | .stuck => False) :
    GoesS K mg (fun cls d _ H' => E cls d H') P F H (vs.map some ++ List.replicate (nl - np) none) (args ++ List.replicate (nl - np) .no) (evSs c body (args ++ List.replicate (nl - np) .no)) { nx := fun _ H' => Q .non H', rt := Q } := by
  have hal : args.length = vs.length := by have := fr.len; simpa using this
  have r0l : (args ++ List.replicate (nl - np) Slot.no).length = np + (nl - np) := by simp [hal, hvs]
  unfold runFn at h
  dsimp only at h
  cases hb : evSs c body (args ++ List.replicate (nl - np) .no) with
  | stuck => rw [hb] at h; exact h.elim
  | exc x r1 =>
    rw [hb] at h
    intro F' H' σ' cls d x1 fr1 _ _ er
    refine h F' H' cls d ⟨fun a o e no => x1.keep a o e fun z => no ((Own.start hal).mp z), x1.fz, fun a f => ?_, fun a z => z.elim, x1.there⟩ fr1.ftr er
    rcases x1.fnew a f with z | z | z
    · exact .inl z
    · exact .inr (.inl ((Own.start hal).mp z))
    · exact .inr (.inr z)
  | ok f r1 =>
    rw [hb] at h
    intro F' H' σ' x1 fr1 hp hl
    have r1l : r1.length = np + (nl - np) := by
      rw [fr1.len, hl]; simp [hvs]
    have hnp : np ≤ r1.length := by omega
    have pin : ∀ (i : Nat), fl[i]? = some true → σ'[i]? = (vs.map some)[i]? := fun i hi => by
      rw [hp i (hP i hi)]
      have : i < (vs.map (some : V → Option V)).length := by
        have := (List.getElem?_eq_some_iff.mp hi).1
        simp
        omega
      rw [List.getElem?_append_left this]
    obtain ⟨mfr, mown⟩ := FR.mask (fl := fl) (np := np) (vs := vs) fr1 hfl hnp hvs pin
    have ext : ∀ {F2 : Addr → Prop} {r2 : Env}, (∀ a, F' a → F2 a) → (∀ a, F2 a → F' a ∨ Own σ' r1 a) → (∀ a, Own (vs.map some) (maskS fl (r2.take np)) a → Own σ' r1 a) → Ext F H (Own (vs.map some) args) F2 H' (Own (vs.map some) (maskS fl (r2.take np))) := fun h1 h2 h3 => by
      refine ⟨fun a o e no => x1.keep a o e fun z => no ((Own.start hal).mp z), fun a f => h1 a (x1.fz a f), fun a f => ?_, fun a z => ?_, x1.there⟩
      · rcases h2 a f with z | z
        · rcases x1.fnew a z with z | z | z
          · exact .inl z
          · exact .inr (.inl ((Own.start hal).mp z))
          · exact .inr (.inr z)
        · rcases x1.onew a z with z | z
          · exact .inr (.inl ((Own.start hal).mp z))
          · exact .inr (.inr z)
      · rcases x1.onew a (h3 a z) with z | z
        · exact .inl ((Own.start hal).mp z)
        · exact .inr z
    have tl : ∀ {r2 : Env}, r2.length = r1.length → (r2.take np).length = args.length := fun e => by
      rw [List.length_take, e, hal, hvs]; omega
    cases f with
    | brk => exact h.elim
    | cont => exact h.elim
    | next =>
      obtain ⟨_, h⟩ := h
      exact h F' H' .non (ext (fun _ f => f) (fun _ f => .inl f) mown) mfr (.val .non) (fun i z => nomatch z)
    | ret rv =>
      dsimp only at h
      by_cases ho : outsOk fl r1 = true
      case neg => rw [if_neg ho] at h; exact h.elim
      rw [if_pos ho] at h
      intro v rvr
      cases rv with
      | val d =>
        obtain ⟨_, h⟩ := h
        cases rvr with
        | val q => exact h F' H' v (ext (fun _ f => f) (fun _ f => .inl f) mown) mfr (.val q) (fun i z => nomatch z)
      | own xs =>
        obtain ⟨_, h⟩ := h
        cases rvr with
        | own e q nf no fz => exact h F' H' _ (ext (fun _ f => f) (fun _ f => .inl f) mown) mfr (.own e q nf (fun z => no (mown _ z)) fz) (fun i z => nomatch z)
      | bor i =>
        dsimp only at h
        cases rvr with
        | bor e =>
          cases hs : r1[i]? with
          | none => rw [hs] at h; exact h.elim
          | some s =>
            rw [hs] at h
            cases s with
            | no => exact h.elim
            | val d =>
              obtain ⟨_, h⟩ := h
              obtain ⟨v', q1, q2⟩ := fr1.val i d hs
              rw [e] at q1
              cases q1
              exact h F' H' v (ext (fun _ f => f) (fun _ f => .inl f) mown) mfr (.val q2) (fun i z => nomatch z)
            | box xs =>
              obtain ⟨a, us, q1, q2, q3, q4⟩ := fr1.box i xs hs
              rw [e] at q1
              cases q1
              dsimp only at h
              by_cases hi : i < np
              · rw [if_pos hi] at h
                obtain ⟨_, h⟩ := h
                have fr2 := fr1.share hs e
                obtain ⟨mfr2, mown2⟩ := FR.mask (fl := fl) (np := np) (vs := vs) fr2 hfl (by rw [List.length_set]; exact hnp) hvs pin
                refine h (Fp F' a) H' _ (ext (r2 := r1.set i (.val (.lst xs))) (fun _ f => .inl f) (fun b f => ?_) fun b z => Own.share (by intro ys; simp) (mown2 b z)) mfr2 (.val (.lst (.inr rfl) q2 (q3.mono (fun _ f => .inl f) fun _ _ _ e => e))) (fun i z => nomatch z)
                rcases f with f | f
                · exact .inl f
                · subst f; exact .inr ⟨i, xs, hs, e⟩
              · rw [if_neg hi] at h
                obtain ⟨_, h⟩ := h
                refine h F' H' _ (ext (fun _ f => f) (fun _ f => .inl f) mown) mfr (.own q2 q3 q4 (fun z => ?_) ?_) (fun i z => nomatch z)
                · -- a lent list is another one
                  obtain ⟨j, ys, e1, e2⟩ := z
                  rcases maskS_get e1 with z | ⟨z1, z2⟩
                  · cases z
                  · rw [List.getElem?_take] at z2
                    split at z2
                    · rename_i hj
                      have : i = j := fr1.inj i j xs ys a hs z2 e (by rw [pin j z1]; exact e2)
                      omega
                    · cases z2
                · -- it is new
                  rcases x1.onew a ⟨i, xs, hs, e⟩ with z | z
                  · exfalso
                    obtain ⟨j, ys, e1, e2⟩ := (Own.start hal).mp z
                    have hf : fl[j]? = some true := by
                      have : ∀ {fl : List Bool} {as : List Slot} {j : Nat} {ys : List D}, flagOk fl as = true → as[j]? = some (.box ys) → fl[j]? = some true := by
                        intro fl
                        induction fl with
                        | nil => intro as j ys h1 h2; cases as with
                          | nil => simp at h2
                          | cons _ _ => cases h1
                        | cons b fl ih =>
                          intro as j ys h1 h2
                          cases as with
                          | nil => simp at h2
                          | cons s as =>
                            cases j with
                            | zero =>
                              simp at h2
                              subst h2
                              cases b with
                              | true => rfl
                              | false => cases h1
                            | succ j =>
                              have h3 : flagOk fl as = true := by
                                cases b <;> cases s <;> first | exact h1 | cases h1
                              have := ih (j := j) (ys := ys) h3 (by simpa using h2)
                              simpa using this
                      exact this hflag e1
                    have hj := pin j hf
                    rw [e2] at hj
                    obtain ⟨s, o1, o2⟩ := outs_get ho hf
                    cases s with
                    | no => cases o2
                    | val d =>
                      cases d with
                      | lst ds =>
                        obtain ⟨v', q5, q6⟩ := fr1.val j _ o1
                        rw [hj] at q5
                        cases q5
                        cases q6 with
                        | lst z _ _ => exact q4 z
                      | _ => cases o2
                    | box zs =>
                      have : i = j := fr1.inj i j xs zs a hs o1 e hj
                      subst this
                      have := (List.getElem?_eq_some_iff.mp hf).1
                      omega
                  · exact z
end
end Ev

-- part Ev9b
set_option maxHeartbeats 2000000
/-! Ev9b: all defs, by their depth. -/
namespace Ev
open PySem PySem.Spec PyProof.Rows L2
/-- one def, as the module's head lays it -/
structure DefOk (K : PySem.W.Frag) (mg : Str → Option Value) (T : List (Str × Fn)) (ds : List DefI) (con : List (Str × D)) (kws : CI) (d : DefI) : Prop where
  ex : ∃ (fa : Addr) (fd : FuncData) (qual : Str) (params : Arguments) (body : List Stmt) (scope : Scope) (mb : List St) (m : Nat), FunD K d.name qual params body scope [] [] fa fd ∧ mg d.name = some (.ref fa) ∧ FnScope d.N d.ps scope ∧ (∀ (s : Shared) (us : List Value), us.length = d.ps.length → BindsTo s fd ⟨us, []⟩ (d.ps.zip us)) ∧ (∀ ks, (d.name, ks) ∈ kws.kws → KwOk fd d.ps ks) ∧
    T.lookup d.name = some ⟨d.ps.length, d.N.length, d.fl, mb⟩ ∧ trSs m ⟨d.N, scope, fnsOf ds, con, pinOf d, kws.kws, kws.cls, kws.bas⟩ body = some mb ∧ d.fl.length = d.ps.length
structure ModOk (P : Program) (w : World) (K : PySem.W.Frag) (mg : Str → Option Value) (T : List (Str × Fn)) (ds : List DefI) (con : List (Str × D)) (kws : CI) : Prop where
  defs : ∀ d ∈ ds, DefOk K mg T ds con kws d
  con : ∀ x d, con.lookup x = some d → ∃ v u, mg x = some u ∧ RelV v u ∧ ∀ F H, DR K mg F H d v
  bi : ∀ x ∈ bNames, mg x = none
  cl : ClsAll P w K mg kws.cls kws.bas
theorem binds_of {K : PySem.W.Frag} {fd : FuncData} {ps : List Str} (h : ∀ (s : Shared) (us : List Value), us.length = ps.length → BindsTo s fd ⟨us, []⟩ (ps.zip us)) : Binds K fd ps [] := fun s us _ hl => by
  rw [List.append_nil] at hl ⊢
  exact h s us hl
theorem fns_mem : ∀ {ds : List DefI} {f : Str} {ps : List Str} {fl : List Bool}, (fnsOf ds).lookup f = some (ps, fl) → ∃ d ∈ ds, d.name = f ∧ d.ps = ps ∧ d.fl = fl
  | [], _, _, _, h => by cases h
  | d :: ds, f, ps, fl, h => by
    have h : ((d.name, d.ps, d.fl) :: fnsOf ds).lookup f = some (ps, fl) := h
    rw [List.lookup_cons] at h
    split at h
    · rename_i e
      cases h
      exact ⟨d, List.mem_cons_self, (beq_iff_eq.mp e).symm, rfl, rfl⟩
    · obtain ⟨d', h1, h2⟩ := fns_mem h
      exact ⟨d', List.mem_cons_of_mem _ h1, h2⟩
theorem pin_of {d : DefI} {scope : Scope} {fns : List (Str × List Str × List Bool)} {con : List (Str × D)} {kws : CI} (hpre : d.N.take d.ps.length = d.ps) {i : Nat} (h : d.fl[i]? = some true) (hl : d.fl.length = d.ps.length) : (⟨d.N, scope, fns, con, pinOf d, kws.kws, kws.cls, kws.bas⟩ : SC).pinned i := by
  have hi : i < d.ps.length := by rw [← hl]; exact (List.getElem?_eq_some_iff.mp h).1
  have hx : d.ps[i]? = some d.ps[i] := List.getElem?_eq_getElem hi
  refine ⟨d.ps[i], ?_, ?_⟩
  · show d.N[i]? = _
    have e : (d.N.take d.ps.length)[i]? = d.N[i]? := by rw [List.getElem?_take, if_pos hi]
    rw [← e, hpre]
    exact hx
  · show d.ps[i] ∈ pinOf d
    unfold pinOf
    rw [List.mem_filterMap]
    refine ⟨(d.ps[i], true), ?_, rfl⟩
    have : (d.ps.zip d.fl)[i]? = some (d.ps[i], true) := by
      rw [List.getElem?_zip_eq_some]
      exact ⟨hx, h⟩
    exact List.mem_of_getElem? this
theorem def_step {P : Program} {w : World} {K : PySem.W.Frag} {mg : Str → Option Value} {base : Heap} {T : List (Str × Fn)} {ds : List DefI} {con : List (Str × D)} {kws : CI} (M : ModOk P w K mg T ds con kws) {n : Nat} {d : DefI}
    (ih : ∀ d ∈ ds, ∃ fa fd, mg d.name = some (.ref fa) ∧ PySem.W.keepIn K (.ref fa) = true ∧ Binds K fd d.ps [] ∧ (∀ ks, (d.name, ks) ∈ kws.kws → KwOk fd d.ps ks) ∧ FnOk P w K mg base (L2.CX P w) (n + 2) fa fd d.ps (spEv K mg (callF T n) d.name d.fl))
    {fa : Addr} {fd : FuncData} {qual : Str} {params : Arguments} {body : List Stmt} {scope : Scope} {mb : List St} {m : Nat} (h1 : FunD K d.name qual params body scope [] [] fa fd) (h3 : FnScope d.N d.ps scope)
    (h6 : T.lookup d.name = some ⟨d.ps.length, d.N.length, d.fl, mb⟩) (h7 : trSs m ⟨d.N, scope, fnsOf ds, con, pinOf d, kws.kws, kws.cls, kws.bas⟩ body = some mb) (h8 : d.fl.length = d.ps.length) :
    FnOk P w K mg base (L2.CX P w) (n + 3) fa fd d.ps (spEv K mg (callF T (n + 1)) d.name d.fl) := by
  have call : ∀ args, callF T (n + 1) d.name args = if args.length = d.ps.length then runFn (callF T n) ⟨d.ps.length, d.N.length, d.fl, mb⟩ args else .stuck := fun args => by
    show (match T.lookup d.name with
      | some fn => if args.length = fn.np then runFn (callF T n) fn args else .stuck
      | none => .stuck) = _
    rw [h6]
  have len : ∀ {vs H Q E}, spEv K mg (callF T (n + 1)) d.name d.fl vs H Q E → vs.length = d.ps.length := fun {vs H Q E} ⟨F, args, fr, _, z⟩ => by
    have e := fr.len
    rw [List.length_map] at e
    rw [call] at z
    by_cases hc : args.length = d.ps.length
    · rw [← e]; exact hc
    · rw [if_neg hc] at z; exact z.elim
  refine h1.ok h3 (fun vs H Q E z => len z) fun cdv A outer s H vs Q E hr hsp => ?_
  have hl := len hsp
  obtain ⟨F, args, fr, hfl, z⟩ := hsp
  rw [call] at z
  have hc : args.length = d.ps.length := by
    have e := fr.len
    rw [List.length_map] at e
    rw [e]; exact hl
  rw [if_pos hc] at z
  have G : GoodS (cxOf (L2.CX P w) P w K mg base d.N qual scope fa cdv A outer s H E) (fun cls dd _ H' => E cls dd H') (n + 2) (callF T n) ⟨d.N, scope, fnsOf ds, con, pinOf d, kws.kws, kws.cls, kws.bas⟩ := by
    refine { N := rfl, nd := h3.nd, calm := rfl, sc := fun x y hx _ => hx, fr := fun x hx => .inr hx, fn := fun x _ => .inl rfl, rm := hr, un := ?_, tk := ?_, fns := fun f ps fl hf => ?_, con := M.con, bi := M.bi, cl := M.cl, eq := rfl, kd := h3.kind, po := passes_of rfl, st := rfl, fm := rfl, two := hr.mono (by omega) }
    · have := hr.un
      show (A.deeper (envOfC qual scope s.heap.objs.size fa cdv)).units + 65 < cLine
      omega
    · exact takesF_of (X := cxOf (L2.CX P w) P w K mg base d.N qual scope fa cdv A outer s H E) rfl rfl (takes_of (X := cxOf (L2.CX P w) P w K mg base d.N qual scope fa cdv A outer s H E) (E := E) rfl rfl rfl rfl)
    · obtain ⟨d', hd', rfl, rfl, rfl⟩ := fns_mem hf
      exact ih d' hd'
  refine ⟨_, (sndS m).ss G h7, F, args ++ List.replicate (d.N.length - d.ps.length) .no, ?_, ?_⟩
  · show FR K mg F H (vs.map some ++ List.replicate (d.N.length - vs.length) none) _
    rw [hl]
    exact fr.start _
  · show GoesS K mg _ _ F H (vs.map some ++ List.replicate (d.N.length - vs.length) none) _ _ _
    rw [hl]
    exact fn_goes (fl := d.fl) (np := d.ps.length) (nl := d.N.length) (c := callF T n) (body := mb) fr h8 hl hfl (fun i hi => pin_of h3.pre hi h8) z
theorem fns_ok {P : Program} {w : World} {K : PySem.W.Frag} {mg : Str → Option Value} {base : Heap} {T : List (Str × Fn)} {ds : List DefI} {con : List (Str × D)} {kws : CI} (M : ModOk P w K mg T ds con kws) :
    ∀ (n : Nat) (d : DefI), d ∈ ds → ∃ fa fd, mg d.name = some (.ref fa) ∧ PySem.W.keepIn K (.ref fa) = true ∧ Binds K fd d.ps [] ∧ (∀ ks, (d.name, ks) ∈ kws.kws → KwOk fd d.ps ks) ∧ FnOk P w K mg base (L2.CX P w) (n + 2) fa fd d.ps (spEv K mg (callF T n) d.name d.fl)
  | 0, d, hd => by
    obtain ⟨fa, fd, qual, params, body, scope, mb, m, h1, h2, h3, h4, h5, h6, h7, h8⟩ := (M.defs d hd).ex
    have no : ∀ {vs H Q E}, spEv K mg (callF T 0) d.name d.fl vs H Q E → False := fun ⟨F, args, _, _, z⟩ => z
    exact ⟨fa, fd, h2, h1.kp, binds_of h4, h5, fun vs H Q E z => (no z).elim, fun A outer s H args us vs Q E _ _ _ _ z => (no z).elim⟩
  | n + 1, d, hd => by
    have ih := fns_ok (base := base) M n
    obtain ⟨fa, fd, qual, params, body, scope, mb, m, h1, h2, h3, h4, h5, h6, h7, h8⟩ := (M.defs d hd).ex
    exact ⟨fa, fd, h2, h1.kp, binds_of h4, h5, def_step M ih h1 h3 h6 h7 h8⟩
theorem fns_all {P : Program} {w : World} {K : PySem.W.Frag} {mg : Str → Option Value} {T : List (Str × Fn)} {ds : List DefI} {con : List (Str × D)} {kws : CI} (M : ModOk P w K mg T ds con kws) {d : DefI} (hd : d ∈ ds) (n : Nat) :
    ∃ fa fd, mg d.name = some (.ref fa) ∧ (∀ (s : Shared) (us : List Value), us.length = d.ps.length → BindsTo s fd ⟨us, []⟩ (d.ps.zip us)) ∧ ∀ base, FnOk P w K mg base (L2.CX P w) (n + 3) fa fd d.ps (spEv K mg (callF T (n + 1)) d.name d.fl) := by
  obtain ⟨fa, fd, qual, params, body, scope, mb, m, h1, h2, h3, h4, h5, h6, h7, h8⟩ := (M.defs d hd).ex
  exact ⟨fa, fd, h2, h4, fun base => def_step M (fns_ok M n) h1 h3 h6 h7 h8⟩
end Ev

-- part Ev10
set_option maxHeartbeats 2000000
/-! Ev10: the head. -/
namespace Ev
open PySem PySem.Spec PyProof.Rows L2
theorem law_promise {K : PySem.W.Frag} {mg : Str → Option Value} {T : List (Str × Fn)} {n : Nat} {f : Str} {a : Addr} {ns : List Int} {H : Hp} {E : XK} (hS : SqL K H a (ns.map V.int)) (hc : ∃ outs, callF T n f [.val (.scr (ns.map D.int))] = .ret (.val (.bl true)) outs ∧ outs.length = 1) :
    spEv K mg (callF T n) f [false] [.ref a] H (fun v _ => v = .bl true) E := by
  obtain ⟨outs, h1, h2⟩ := hc
  refine ⟨fun b => b = a ∧ H a ≠ none, [.val (.scr (ns.map D.int))], ⟨rfl, fun b hb => by rw [hb.1]; exact hb.2, fun i d e => ?_, fun i xs e => ?_, fun i j xs ys b e1 => ?_⟩, rfl, ?_⟩
  · match i, e with
    | 0, e =>
      cases e
      refine ⟨.ref a, rfl, ?_⟩
      rcases hS with hS | hS
      · refine .scr ⟨rfl, ?_⟩ hS (drs_mapInt ns)
        rcases hS with z | ⟨o, z⟩ <;> (rw [z]; exact fun z => nomatch z)
      · exact .scrK hS (drs_mapInt ns)
    | i + 1, e => simp at e
  · match i, e with
    | 0, e => cases e
    | i + 1, e => simp at e
  · match i, e1 with
    | 0, e1 => cases e1
    | i + 1, e1 => simp at e1
  · rw [h1]
    refine ⟨by rw [h2]; rfl, fun F' H' v _ fr rv _ => ?_⟩
    cases rv with
    | val q => exact rw_bl (.of q)
/-! ### the module's facts -/
def dOf (P : Program) (d : DefI) : He.DefD := match topDef P d.name with
  | some st => ⟨(d.name, none), d.name, d.name, defArgs st, defBody st, defScope st, [], []⟩
  | none => ⟨(d.name, none), d.name, d.name, defArgs (.Pass ⟨0, 0, 0, 0⟩), [], defScope (.Pass ⟨0, 0, 0, 0⟩), [], []⟩
def conFa : Str × D → List He.Fa
  | (x, .int i) => [.int x i]
  | (x, .str z) => [.str x z]
  | _ => []
def faOf (ds : List DefI) (con : List (Str × D)) : List He.Fa := (ds.map fun d => He.Fa.glo d.name) ++ (bNames.map He.Fa.free) ++ (con.map conFa).flatten
def scopeB (N ps : List Str) (sc : Scope) : Bool := (match sc.kind with | .function => true | _ => false) && !sc.isCoroutine && !sc.isGenerator && decide N.Nodup && decide (N.take ps.length = ps) && (ps.all fun x => match sc.names.lookup x with | some .local => true | some .cell => true | _ => false) && (sc.names.all fun y => match y.2 with | .free => false | _ => true)
theorem scope_of {N ps : List Str} {sc : Scope} (h : scopeB N ps sc = true) : FnScope N ps sc := by
  unfold scopeB at h
  simp only [Bool.and_eq_true, decide_eq_true_eq, Bool.not_eq_true', List.all_eq_true] at h
  obtain ⟨⟨⟨⟨⟨⟨h1, h2⟩, h3⟩, h4⟩, h5⟩, h6⟩, h7⟩ := h
  refine ⟨?_, h2, h3, h4, h5, fun x hx => ?_, fun y hy e => ?_⟩
  · cases q : sc.kind <;> rw [q] at h1 <;> first | rfl | cases h1
  · have := h6 x hx
    cases q : sc.names.lookup x with
    | none => rw [q] at this; cases this
    | some k => rw [q] at this; cases k <;> first | (exact .inl rfl) | (exact .inr rfl) | cases this
  · have := h7 y hy
    rw [e] at this
    cases this
/-! ### binding -/
theorem look_zip : ∀ {ps : List Str} {us : List Value}, ps.Nodup → us.length = ps.length → (ps.filterMap fun n => ((ps.zip us).lookup n).map (n, ·)) = ps.zip us ∧ (ps.filter fun n => ((ps.zip us).lookup n).isNone) = []
  | [], [], _, _ => ⟨rfl, rfl⟩
  | [], _ :: _, _, h => by simp at h
  | _ :: _, [], _, h => by simp at h
  | p :: ps, u :: us, hn, hl => by
    obtain ⟨n1, n2⟩ := List.nodup_cons.mp hn
    obtain ⟨i1, i2⟩ := look_zip n2 (us := us) (by simpa using hl)
    have e : ∀ n ∈ ps, ((p, u) :: ps.zip us).lookup n = (ps.zip us).lookup n := fun n hm => by
      rw [List.lookup_cons]
      have : (n == p) = false := by
        rw [beq_eq_false_iff_ne]
        exact fun z => n1 (z ▸ hm)
      rw [this]
    have s : ((p, u) :: ps.zip us).lookup p = some u := by rw [List.lookup_cons, beq_self_eq_true]
    refine ⟨?_, ?_⟩
    · show ((p :: ps).filterMap fun n => (((p, u) :: ps.zip us).lookup n).map (n, ·)) = (p, u) :: ps.zip us
      rw [List.filterMap_cons, s]
      show (p, u) :: (ps.filterMap fun n => (((p, u) :: ps.zip us).lookup n).map (n, ·)) = _
      rw [fm_congr (g := fun n => ((ps.zip us).lookup n).map (n, ·)) fun n hm => by rw [e n hm], i1]
    · show ((p :: ps).filter fun n => (((p, u) :: ps.zip us).lookup n).isNone) = []
      rw [List.filter_cons, s]
      show (ps.filter fun n => (((p, u) :: ps.zip us).lookup n).isNone) = []
      rw [List.filter_congr (q := fun n => ((ps.zip us).lookup n).isNone) fun n hm => by rw [e n hm], i2]
theorem bind_plain {x qual : Str} {params : Arguments} {body : List Stmt} {scope : Scope} {ps : List Str} (h1 : params.posonlyargs = []) (h2 : params.args.map (·.arg) = ps) (h3 : params.vararg = none) (h4 : params.kwonlyargs = []) (h5 : params.kwarg = none) (hn : ps.Nodup)
  (kV doc pm : Value) (an : Option Addr) (cdv ct : Value) (us : List Value) (hl : us.length = ps.length) : bindArgs (PySem.W.fnOf x qual params body scope .none kV doc pm an cdv ct) ⟨us, []⟩ = pure (ps.zip us) := by
  have e0 : seqItems? Value.none = pure none := rfl
  obtain ⟨l1, l2⟩ := look_zip hn hl
  unfold bindArgs PySem.W.fnOf
  simp only [h1, h2, h3, h4, h5, List.map_nil, List.nil_append, List.forIn_nil, pure_bind, e0, List.append_nil, hl, Nat.lt_irrefl, gt_iff_lt, decide_false, Bool.false_and, Bool.false_eq_true, if_false, Option.getD_none, List.drop_nil, List.length_nil, Nat.sub_zero, List.take_length, List.drop_length, List.zip_nil_left, l1, l2]
  rfl
theorem kw_loop {l : List (Str × Value)} {β : Type} {f : Str × Value → (List (Str × Value) × List (Str × Value)) → Sem (ForInStep (List (Str × Value) × List (Str × Value)))} (hf : ∀ (x : Str × Value) acc, x ∈ l → acc.lookup x.1 = none → f x (acc, []) = pure (ForInStep.yield (acc ++ [x], []))) (hn : (l.map (·.1)).Nodup) :
    ∀ acc, (∀ x ∈ l, acc.lookup x.1 = none) → forIn l (acc, ([] : List (Str × Value))) f = pure (acc ++ l, []) := by
  induction l with
  | nil => intro acc _; rw [List.forIn_nil, List.append_nil]
  | cons x l ih =>
    intro acc ha
    rw [List.map_cons, List.nodup_cons] at hn
    rw [List.forIn_cons, hf x acc List.mem_cons_self (ha x List.mem_cons_self), pure_bind]
    show forIn l (acc ++ [x], []) f = _
    rw [ih (fun y acc' hy => hf y acc' (List.mem_cons_of_mem _ hy)) hn.2]
    · rw [List.append_assoc]; rfl
    · intro y hy
      rw [List.lookup_append, ha y (List.mem_cons_of_mem _ hy)]
      show List.lookup y.1 [x] = none
      rw [List.lookup_cons]
      have : (y.1 == x.1) = false := by
        rw [beq_eq_false_iff_ne]
        exact fun z => hn.1 (z ▸ List.mem_map_of_mem hy)
      rw [this]
      rfl
theorem bind_kw {x qual : Str} {params : Arguments} {body : List Stmt} {scope : Scope} {ps ks : List Str} (h1 : params.posonlyargs = []) (h2 : params.args.map (·.arg) = ps) (h3 : params.vararg = none) (h4 : params.kwonlyargs = []) (h5 : params.kwarg = none) (hk : ks.Nodup) (hsub : ∀ k ∈ ks, k ∈ ps)
  (kV doc pm : Value) (an : Option Addr) (cdv ct : Value) (ws zs : List Value) (hl : ws.length = ks.length) (hm : (ps.filterMap fun n => ((ks.zip ws).lookup n).map (n, ·)) = ps.zip zs) (hnone : (ps.filter fun n => ((ks.zip ws).lookup n).isNone) = []) : bindArgs (PySem.W.fnOf x qual params body scope .none kV doc pm an cdv ct) ⟨[], ks.zip ws⟩ = pure (ps.zip zs) := by
  have e0 : seqItems? Value.none = pure none := rfl
  unfold bindArgs PySem.W.fnOf
  simp only [h1, h2, h3, h4, h5, List.map_nil, List.nil_append, List.zip_nil_right]
  rw [kw_loop (β := Unit) (l := ks.zip ws) ?hf ?hn [] ?ha]
  case hf =>
    intro y acc hy ha
    have hyp : y.1 ∈ ps := hsub _ (List.of_mem_zip hy).1
    have c1 : (ps.contains y.1 || ([] : List Str).contains y.1) = true := by simp [hyp]
    rw [if_pos c1]
    dsimp only
    rw [ha]
    rfl
  case hn =>
    have : (ks.zip ws).map (·.1) = ks := List.map_fst_zip (by omega)
    rw [this]; exact hk
  case ha => intro y _; rfl
  simp only [List.nil_append, pure_bind, e0, List.append_nil, Nat.not_lt_zero, gt_iff_lt, decide_false, Bool.false_and, Bool.false_eq_true, if_false, Option.getD_none, List.drop_nil, List.length_nil, Nat.sub_zero, List.take_length, List.drop_length, List.zip_nil_left, List.forIn_nil, hm, hnone]
  rfl
theorem lookup_zip : ∀ {ks : List Str} {ws : List Value} {p : Str} {i : Nat} {z : Value}, ks.idxOf? p = some i → ws[i]? = some z → (ks.zip ws).lookup p = some z
  | [], _, _, _, _, h, _ => by simp at h
  | k :: ks, [], _, i, _, _, h => by simp at h
  | k :: ks, w :: ws, p, i, z, h, hz => by
    rw [List.idxOf?_cons] at h
    show ((k, w) :: ks.zip ws).lookup p = some z
    rw [List.lookup_cons]
    by_cases e : k == p
    · rw [if_pos e] at h
      cases h
      simp at hz
      have : (p == k) = true := by rw [beq_iff_eq] at e ⊢; exact e.symm
      rw [this, hz]
    · rw [if_neg e] at h
      obtain ⟨i', h1, rfl⟩ := map_some h
      have : (p == k) = false := by
        rw [beq_eq_false_iff_ne]
        intro z'
        exact e (by rw [z']; exact beq_self_eq_true _)
      rw [this]
      exact lookup_zip h1 (by simpa using hz)
theorem kw_look {ks : List Str} {ws : List Value} : ∀ {ps : List Str} {perm : List Nat} {zs : List Value}, kwOrder ps ks = some perm → permL ws perm = some zs →
    (ps.filterMap fun n => ((ks.zip ws).lookup n).map (n, ·)) = ps.zip zs ∧ (ps.filter fun n => ((ks.zip ws).lookup n).isNone) = []
  | [], _, _, _, _ => ⟨rfl, rfl⟩
  | p :: ps, perm, zs, h, hp => by
    unfold kwOrder at h
    rw [List.mapM_cons] at h
    obtain ⟨i, h1, h⟩ := bind_some h
    obtain ⟨is, h2, h⟩ := bind_some h
    cases h
    unfold permL at hp
    cases q : ws[i]? with
    | none => rw [q] at hp; cases hp
    | some z =>
      rw [q] at hp
      cases q2 : permL ws is with
      | none => rw [q2] at hp; cases hp
      | some zs' =>
        rw [q2] at hp
        cases hp
        obtain ⟨i1, i2⟩ := kw_look (ps := ps) (perm := is) h2 q2
        have e := lookup_zip h1 q
        refine ⟨?_, ?_⟩
        · rw [List.filterMap_cons, e]
          show (p, z) :: _ = (p, z) :: ps.zip zs'
          rw [i1]
        · rw [List.filter_cons, e]
          exact i2
theorem kwOk_of {K : PySem.W.Frag} {x qual : Str} {params : Arguments} {body : List Stmt} {scope : Scope} {fa : Addr} {fd : FuncData} {ps ks : List Str} (F : FunD K x qual params body scope [] [] fa fd) (h1 : params.posonlyargs = []) (h2 : params.args.map (·.arg) = ps) (h3 : params.vararg = none) (h4 : params.kwonlyargs = []) (h5 : params.kwarg = none) (hk : ks.Nodup) (hsub : ∀ k ∈ ks, k ∈ ps) : KwOk fd ps ks := by
  intro perm ws zs ho hl hp
  obtain ⟨oc, od, dV, kV, doc, pm, an, cdv, ct, osl, rfl, lk, hcd, hD, hK⟩ := F.ex
  obtain ⟨l1, l2⟩ := kw_look ho hp
  rcases hD with ⟨_, rfl⟩ | ⟨e, _⟩
  · exact bind_kw h1 h2 h3 h4 h5 hk hsub kV doc pm an cdv ct ws zs hl l1 l2
  · exact absurd rfl e
/-! ### the module's facts from the head -/
def parB (a : Arguments) (ps : List Str) : Bool := a.posonlyargs.isEmpty && decide (a.args.map (·.arg) = ps) && a.vararg.isNone && a.kwonlyargs.isEmpty && a.kwarg.isNone
def defB (P : Program) (T : List (Str × Fn)) (ds : List DefI) (con : List (Str × D)) (kws : CI) (d : DefI) : Bool := match topDef P d.name with
  | some st => scopeB d.N d.ps (defScope st) && parB (defArgs st) d.ps && decide d.ps.Nodup && decide (d.fl.length = d.ps.length) && (kws.kws.all fun q => !(q.1 == d.name) || (decide q.2.Nodup && q.2.all fun k => d.ps.contains k))
  | none => false
end Ev

-- part EvC2
set_option maxHeartbeats 2000000
/-! EvC2: the classes' facts, asked as a Bool. -/
namespace Ev
open PySem PySem.Spec PyProof.Rows L2
def excCB (K : PySem.W.Frag) (D : Addr) : Bool := decide (PySem.W.findIn K (.ref D) "__getattribute__" = some (some (.builtin "BaseException.__getattribute__"))) && (decide (PySem.W.findIn K (.ref D) "__getattr__" = some none) && (decide (PySem.W.subIn K (.ref D) (.type "BaseException") = some true) && (PySem.W.hasDictIn K D && (decide (PySem.W.findIn K (.ref D) "__class__" = some (some (.builtin "object.__class__"))) && (decide (PySem.W.specialIn K (.builtin "object.__class__") "__get__" = some (some (.builtin "getset_descriptor.__get__"))) && (decide (PySem.W.takesIn K (.builtin "object.__class__") = some true) && decide (PySem.W.mroIn K D (.type "object") = some true)))))))
theorem excCB_ok {K : PySem.W.Frag} {D : Addr} (h : excCB K D = true) : ExcC K D := by
  unfold excCB at h
  simp only [Bool.and_eq_true, decide_eq_true_eq] at h
  obtain ⟨h1, h2, h3, h4, h5, h6, h7, h8⟩ := h
  exact ⟨h1, h2, h3, h4, h5, h6, h7, h8⟩
def oexLook (K : PySem.W.Frag) (C : Addr) : Bool := match K.lookup C with
  | some ⟨.type t, _, .cls cd, sl⟩ => (match cd.mro, sl.toList with
    | .ref C' :: bm, [_, _, _, _, some (.builtin n), _] => decide (t = "type") && (decide (C' = C) && (decide (n = "ValueError.__new__") && (!cd.hasDel && (cd.hasDict && PySem.HandSPX.refsVE bm))))
    | _, _ => false)
  | _ => false
theorem oexLook_ok {K : PySem.W.Frag} {C : Addr} (h : oexLook K C = true) : ∃ nm q N bs bm sn sub ab col dd k0 k1 k2 k3 k5, K.lookup C = some (excClassObj nm q C N bs bm true sn sub ab col dd k0 k1 k2 k3 k5 "ValueError.__new__") ∧ PySem.HandSPX.refsVE bm = true := by
  unfold oexLook at h
  split at h
  · rename_i t dd cd sl ho
    split at h
    · rename_i C' bm k0 k1 k2 k3 n k5 hm hs
      simp only [Bool.and_eq_true, decide_eq_true_eq, Bool.not_eq_true'] at h
      obtain ⟨rfl, rfl, rfl, hdel, hhd, hv⟩ := h
      obtain ⟨nm, bs, mro, ns, qn, hd, sn, sub, ab, col, del⟩ := cd
      dsimp only at hm hdel hhd
      subst hm hdel hhd
      have hsl : sl = #[k0, k1, k2, k3, some (.builtin "ValueError.__new__"), k5] := by
        obtain ⟨l⟩ := sl
        simp only at hs
        rw [hs]
      subst hsl
      exact ⟨_, _, _, _, _, _, _, _, _, _, _, _, _, _, _, ho, hv⟩
    · cases h
  · cases h
def oexB (K : PySem.W.Frag) (C : Addr) : Bool := oexLook K C && (decide (PySem.W.findIn K (.ref C) "__setattr__" = some (some (.builtin "object.__setattr__"))) && (decide (PySem.W.subIn K (.ref C) (.type "BaseException") = some true) && (decide (PySem.W.typeIn K (.ref C) = some (.type "type")) && PySem.W.keepIn K (.ref C))))
theorem oexB_ok {K : PySem.W.Frag} {C : Addr} (h : oexB K C = true) : OexC K C := by
  unfold oexB at h
  simp only [Bool.and_eq_true, decide_eq_true_eq] at h
  obtain ⟨h1, h2, h3, h4, h5⟩ := h
  exact ⟨oexLook_ok h1, h2, h3, h4, h5⟩
def makesB (K : PySem.W.Frag) (C : Addr) : Option Str → Bool
  | none => PySem.W.excIn K C He.veBase "ValueError.__new__"
  | some f => oexB K C && (decide (PySem.W.findIn K (.ref C) f = some none) && (decide (PySem.W.findIn K (.ref C) "__init__" = some (some (.ref (He.ma K C "__init__")))) && decide (PySem.W.typeIn K (.ref (He.ma K C "__init__")) = some (.type "function"))))
def clsB (K : PySem.W.Frag) (x : Str) (of : Option Str) : Bool := PySem.W.keepIn K (.ref (He.ga K x)) && (decide (PySem.W.subIn K (.ref (He.ga K x)) (.type "BaseException") = some true) && (decide (PySem.W.typeIn K (.ref (He.ga K x)) = some (.type "type")) && (xfB K (He.ga K x) && (excCB K (He.ga K x) && makesB K (He.ga K x) of))))
def clsesB (cls : List (Str × Option Str)) (bas : List Str) (K : PySem.W.Frag) : Bool := (cls.all fun p => clsB K p.1 p.2) && ((cls.all fun p => cls.all fun q => decide (PySem.W.exmOne K (.ref (He.ga K p.1)) (.ref (He.ga K q.1)) = some (p.1 == q.1))) && (cls.all fun p => bas.all fun b => decide (PySem.W.kitOne K (.ref (He.ga K p.1)) (.ref (He.ga K b)) = some true)))
/-! ### the text of an __init__ -/
def topCls (P : Program) (x : Str) : Option (List Stmt) := P.main.body.findSome? fun
  | .ClassDef n _ _ b .. => if n = x then some b else none
  | _ => none
def iniOf (P : Program) (x : Str) : Option Stmt := (topCls P x).bind fun b => b.find? fun
  | .FunctionDef n .. => n == ("__init__" : Str)
  | _ => false
def dIni (P : Program) (x : Str) : He.DefD := match iniOf P x with
  | some st => ⟨(x, some "__init__"), "__init__", x ++ ".__init__", defArgs st, defBody st, defScope st, [], []⟩
  | none => ⟨(x, some "__init__"), "__init__", x ++ ".__init__", defArgs (.Pass ⟨0, 0, 0, 0⟩), [], defScope (.Pass ⟨0, 0, 0, 0⟩), [], []⟩
def isLoc (sc : Scope) (x : Str) : Bool := (match sc.names.lookup x with | some .local => true | _ => false) && !(x == ("__debug__" : Str)) && !(x == ("__classdict__" : Str))
def iniB (P : Program) (x f : Str) : Bool := match iniOf P x with
  | some st => (match defBody st with
    | [.Assign [.Attribute (.Name s _) f' _] (.Name y _) _] => decide (f' = f) && (scopeB [s, y] [s, y] (defScope st) && (parB (defArgs st) [s, y] && (isLoc (defScope st) s && (isLoc (defScope st) y && decide (s ≠ y)))))
    | _ => false)
  | none => false
theorem isLoc_ok {sc : Scope} {x : Str} (h : isLoc sc x = true) : sc.names.lookup x = some .local ∧ (x == ("__debug__" : Str)) = false ∧ (x == ("__classdict__" : Str)) = false := by
  unfold isLoc at h
  simp only [Bool.and_eq_true, Bool.not_eq_true'] at h
  obtain ⟨⟨h1, h2⟩, h3⟩ := h
  refine ⟨?_, h2, h3⟩
  cases q : sc.names.lookup x with
  | none => rw [q] at h1; cases h1
  | some k => rw [q] at h1; cases k <;> first | rfl | cases h1
theorem ini_ok {P : Program} {w : World} {K : PySem.W.Frag} {mg : Str → Option Value} {x f : Str} {fd : FuncData} {C fI : Addr} (hb : iniB P x f = true) (F : FunD K (dIni P x).name (dIni P x).qual (dIni P x).params (dIni P x).body (dIni P x).scope [] [] fI fd) :
    ∃ ps, (∀ base, FnOk P w K mg base (L2.CX P w) 1 fI fd ps (spIni K C f)) ∧ Binds K fd ps [] := by
  unfold iniB at hb
  unfold dIni at F
  split at hb
  · rename_i st q
    rw [q] at F
    dsimp only at F
    split at hb
    · rename_i s p1 f' p2 y p3 p4 hbody
      simp only [Bool.and_eq_true, decide_eq_true_eq] at hb
      obtain ⟨rfl, h2, h3, h4, h5, h6⟩ := hb
      rw [hbody] at F
      unfold parB at h3
      simp only [Bool.and_eq_true, decide_eq_true_eq, List.isEmpty_iff, Option.isNone_iff_eq_none] at h3
      obtain ⟨⟨⟨⟨e1, e2⟩, e3⟩, e4⟩, e5⟩ := h3
      obtain ⟨l1, l2, l3⟩ := isLoc_ok h4
      obtain ⟨l4, l5, l6⟩ := isLoc_ok h5
      have nd : [s, y].Nodup := by simp [h6]
      refine ⟨[s, y], fun base => init_ok F (scope_of h2) l1 l4 l2 l3 l5 l6, binds_of fun s us hl => FunD.bindsA F (fun kV doc pm an cdv ct us hl => bind_plain e1 e2 e3 e4 e5 nd kV doc pm an cdv ct us hl) s us hl⟩
    · cases hb
  · cases hb
def iniDs (P : Program) (cls : List (Str × Option Str)) : List He.DefD := cls.filterMap fun p => p.2.map fun _ => dIni P p.1
def inisB (P : Program) (cls : List (Str × Option Str)) : Bool := cls.all fun p => match p.2 with
  | some f => iniB P p.1 f
  | none => true
theorem lookup_mem {α : Type} : ∀ {l : List (Str × α)} {x : Str} {d : α}, l.lookup x = some d → (x, d) ∈ l
  | [], _, _, h => by cases h
  | (y, e) :: l, x, d, h => by
    rw [List.lookup_cons] at h
    split at h
    · rename_i e1
      cases h
      rw [beq_iff_eq.mp e1]
      exact List.mem_cons_self
    · exact List.mem_cons_of_mem _ (lookup_mem h)
theorem dIni_at {P : Program} {x : Str} : (dIni P x).at_ = (x, some ("__init__" : Str)) ∧ (dIni P x).dfl = [] ∧ (dIni P x).kwd = [] := by
  unfold dIni
  split <;> exact ⟨rfl, rfl, rfl⟩
theorem clsAll_ok {P : Program} {w : World} {K : PySem.W.Frag} {h : Heap} {mg : Str → Option Value} {cls : List (Str × Option Str)} {bas : List Str} {fa : List He.Fa} {fn : List He.DefD} (X : K.In h) (G : h.Ns mainGlobals mg) (c : He.SaysD fa fn K) (hf : ∀ p ∈ cls, He.Fa.glo p.1 ∈ fa) (hb : ∀ b ∈ bas, He.Fa.glo b ∈ fa) (hn : ∀ d ∈ iniDs P cls, d ∈ fn) (hi : inisB P cls = true) (hc : clsesB cls bas K = true) : ClsAll P w K mg cls bas := by
  unfold clsesB at hc
  simp only [Bool.and_eq_true, List.all_eq_true, decide_eq_true_eq] at hc
  obtain ⟨c1, c2, c3⟩ := hc
  have glo : ∀ x of, cls.lookup x = some of → mg x = some (.ref (He.ga K x)) := fun x of hx => He.glo_ok X G (He.SaysD.facts c (hf _ (lookup_mem hx)))
  have inj : ∀ x of C, cls.lookup x = some of → mg x = some (.ref C) → C = He.ga K x := fun x of C hx hm => by
    have := glo x of hx
    rw [hm] at this
    cases this
    rfl
  refine ⟨fun x of hx => ⟨He.ga K x, ?_⟩, fun x ox y oy C C' hx hy hm hm' => ?_, fun x ox b C hx hbm hm => ?_⟩
  · have hm := lookup_mem hx
    have d1 := c1 _ hm
    unfold clsB at d1
    simp only [Bool.and_eq_true, decide_eq_true_eq] at d1
    obtain ⟨d1, d2, d3, d4, d5, d6⟩ := d1
    refine ⟨glo x of hx, d1, d2, d3, xfB_ok d4, excCB_ok d5, ?_⟩
    cases of with
    | none => exact d6
    | some f =>
      unfold makesB at d6
      simp only [Bool.and_eq_true, decide_eq_true_eq] at d6
      obtain ⟨e1, e2, e3, e4⟩ := d6
      have hd : dIni P x ∈ fn := hn _ (List.mem_filterMap.mpr ⟨_, hm, rfl⟩)
      obtain ⟨fd, F⟩ := He.SaysD.defs c hd
      obtain ⟨q1, q2, q3⟩ := dIni_at (P := P) (x := x)
      have F' : FunD K (dIni P x).name (dIni P x).qual (dIni P x).params (dIni P x).body (dIni P x).scope [] [] (He.ma K (He.ga K x) "__init__") fd := by
        have z1 : (dIni P x).dvs K = [] := by unfold He.DefD.dvs; rw [q2]; rfl
        have z2 : (dIni P x).kws K = [] := by unfold He.DefD.kws; rw [q3]; rfl
        have z3 : He.fAd K (dIni P x).at_ = He.ma K (He.ga K x) "__init__" := by rw [q1]; rfl
        rw [z1, z2, z3] at F
        exact F
      have hib : iniB P x f = true := by
        have := List.all_eq_true.mp hi _ hm
        exact this
      obtain ⟨ps, r1, r2⟩ := ini_ok (w := w) (mg := mg) (C := He.ga K x) hib F'
      exact ⟨oexB_ok e1, e2, _, fd, ps, e3, e4, r1, r2⟩
  · rw [inj x ox C hx hm, inj y oy C' hy hm']
    exact c2 _ (lookup_mem hx) _ (lookup_mem hy)
  · rw [inj x ox C hx hm]
    exact ⟨He.ga K b, He.glo_ok X G (He.SaysD.facts c (hb b hbm)), c3 _ (lookup_mem hx) b hbm⟩
end Ev

-- part Ev11
set_option maxHeartbeats 2000000
/-! Ev11: the module's facts from the head. -/
namespace Ev
open PySem PySem.Spec PyProof.Rows L2
def tabOf (P : Program) (ds : List DefI) (con : List (Str × D)) (kws : CI) : List (Str × Fn) := ds.filterMap fun d => ((topDef P d.name).bind (trFn ds con kws d)).map fun f => (d.name, f)
theorem tab_look {P : Program} {ds0 : List DefI} {con : List (Str × D)} {kws : CI} {d : DefI} {f : Fn} (h : (topDef P d.name).bind (trFn ds0 con kws d) = some f) : ∀ {ds : List DefI}, (ds.map (·.name)).Nodup → d ∈ ds → (ds.filterMap fun d => ((topDef P d.name).bind (trFn ds0 con kws d)).map fun f => (d.name, f)).lookup d.name = some f
  | [], _, hm => nomatch hm
  | e :: ds, hn, hm => by
    rw [List.map_cons, List.nodup_cons] at hn
    rw [List.filterMap_cons]
    rcases List.mem_cons.mp hm with z | hm
    · subst z
      rw [h]
      show ((d.name, f) :: _).lookup d.name = some f
      rw [List.lookup_cons, beq_self_eq_true]
    · have ne : (d.name == e.name) = false := by
        rw [beq_eq_false_iff_ne]
        exact fun z => hn.1 (z ▸ List.mem_map_of_mem hm)
      have ih := tab_look h hn.2 hm
      cases q : (topDef P e.name).bind (trFn ds0 con kws e) with
      | none => exact ih
      | some f' =>
        show ((e.name, f') :: _).lookup d.name = some f
        rw [List.lookup_cons, ne]
        exact ih
/-- what is asked of the module's names -/
def faX (ds : List DefI) (con : List (Str × D)) (kws : CI) : List He.Fa := faOf ds con ++ (kws.cls.map fun p => He.Fa.glo p.1) ++ (kws.bas.map He.Fa.glo)
def fnX (P : Program) (ds : List DefI) (kws : CI) : List He.DefD := ds.map (dOf P) ++ iniDs P kws.cls
def modB (P : Program) (ds : List DefI) (con : List (Str × D)) (kws : CI) : Bool :=
  (ds.all fun d => defB P [] ds con kws d && ((topDef P d.name).bind (trFn ds con kws d)).isSome) && decide (ds.map (·.name)).Nodup && (con.all fun q => match q.2 with | .int _ => true | .str _ => true | _ => false) && inisB P kws.cls
theorem mod_ok {P : Program} {w : World} {K : PySem.W.Frag} {h : Heap} {mg : Str → Option Value} {ds : List DefI} {con : List (Str × D)} {kws : CI} (X : K.In h) (G : h.Ns mainGlobals mg) (c : He.SaysD (faX ds con kws) (fnX P ds kws) K) (hk : clsesB kws.cls kws.bas K = true) (hb : modB P ds con kws = true) : ModOk P w K mg (tabOf P ds con kws) ds con kws := by
  unfold modB at hb
  simp only [Bool.and_eq_true, List.all_eq_true, decide_eq_true_eq] at hb
  obtain ⟨⟨⟨b1, b2⟩, b3⟩, b4⟩ := hb
  have inX : ∀ f ∈ faOf ds con, f ∈ faX ds con kws := fun f hf => by
    unfold faX
    exact List.mem_append_left _ (List.mem_append_left _ hf)
  refine ⟨fun d hd => ?_, fun x d hx => ?_, fun x hx => ?_, ?cl⟩
  case cl =>
    refine clsAll_ok X G c (fun p hp => ?_) (fun b hb => ?_) (fun d hd => ?_) b4 hk
    · unfold faX
      exact List.mem_append_left _ (List.mem_append_right _ (List.mem_map_of_mem (f := fun p : Str × Option Str => He.Fa.glo p.1) hp))
    · unfold faX
      exact List.mem_append_right _ (List.mem_map_of_mem hb)
    · unfold fnX
      exact List.mem_append_right _ hd
  · obtain ⟨c1, c2⟩ := b1 d hd
    unfold defB at c1
    cases q : topDef P d.name with
    | none => rw [q] at c1; cases c1
    | some st =>
      rw [q] at c1
      dsimp only at c1
      simp only [Bool.and_eq_true, decide_eq_true_eq, List.all_eq_true] at c1
      obtain ⟨⟨⟨⟨d1, d2⟩, d3⟩, d4⟩, d5⟩ := c1
      unfold parB at d2
      simp only [Bool.and_eq_true, decide_eq_true_eq, List.isEmpty_iff, Option.isNone_iff_eq_none] at d2
      obtain ⟨⟨⟨⟨e1, e2⟩, e3⟩, e4⟩, e5⟩ := d2
      obtain ⟨fd, F⟩ := He.SaysD.defs c (d := dOf P d) (by unfold fnX; exact List.mem_append_left _ (List.mem_map_of_mem hd))
      have ed : dOf P d = ⟨(d.name, none), d.name, d.name, defArgs st, defBody st, defScope st, [], []⟩ := by
        unfold dOf
        rw [q]
      rw [ed] at F
      have hg := He.glo_ok X G (He.SaysD.facts c (f := .glo d.name) (inX _ <| by
        unfold faOf
        exact List.mem_append_left _ (List.mem_append_left _ (List.mem_map_of_mem hd))))
      rw [q] at c2
      cases hf : (some st : Option Stmt).bind (trFn ds con kws d) with
      | none => rw [hf] at c2; cases c2
      | some f =>
        have hf' : trFn ds con kws d st = some f := hf
        have hs : ∃ mb, trSs 100 ⟨d.N, defScope st, fnsOf ds, con, pinOf d, kws.kws, kws.cls, kws.bas⟩ (defBody st) = some mb ∧ f = ⟨d.ps.length, d.N.length, d.fl, mb⟩ := by
          unfold trFn at hf'
          split at hf'
          · obtain ⟨mb, h1, h2⟩ := map_some hf'
            exact ⟨mb, h1, h2⟩
          · cases hf'
        obtain ⟨mb, h1, rfl⟩ := hs
        have tl := tab_look (P := P) (ds0 := ds) (con := con) (kws := kws) (d := d) (by rw [q]; exact hf) b2 hd
        refine ⟨⟨_, fd, d.name, defArgs st, defBody st, defScope st, mb, 100, F, hg, scope_of d1, fun s us hl => FunD.bindsA F (fun kV doc pm an cdv ct us hl => bind_plain e1 e2 e3 e4 e5 d3 kV doc pm an cdv ct us hl) s us hl, fun ks hks => ?_, tl, h1, d4⟩⟩
        have := d5 (d.name, ks) hks
        simp only [beq_self_eq_true, Bool.not_true, Bool.false_or, Bool.and_eq_true, decide_eq_true_eq, List.all_eq_true] at this
        exact kwOk_of F e1 e2 e3 e4 e5 this.1 fun k hk => by simpa using this.2 k hk
  · have hm := lookup_mem hx
    have hk := b3 _ hm
    have inF : ∀ f ∈ conFa (x, d), f ∈ faOf ds con := fun f hf => by
      unfold faOf
      exact List.mem_append_right _ (List.mem_flatten.mpr ⟨_, List.mem_map_of_mem hm, hf⟩)
    cases d with
    | int i =>
      obtain ⟨t, ht⟩ := He.int_ok X G (He.SaysD.facts c (f := .int x i) (inX _ (inF _ List.mem_cons_self)))
      exact ⟨.int i, _, ht, ⟨t, rfl⟩, fun _ _ => .int i⟩
    | str z =>
      obtain ⟨t, ht⟩ := He.str_ok X G (He.SaysD.facts c (f := .str x z) (inX _ (inF _ List.mem_cons_self)))
      exact ⟨.str z, _, ht, ⟨t, rfl⟩, fun _ _ => .str z⟩
    | _ => cases hk
  · exact He.free_ok X G (He.SaysD.facts c (f := .free x) (inX _ <| by
      unfold faOf
      exact List.mem_append_left _ (List.mem_append_right _ (List.mem_map_of_mem hx))))
end Ev

-- part Ev12
set_option maxHeartbeats 2000000
/-! Ev12: no exception leaves the law. -/
namespace Ev
open PySem PySem.Spec PyProof.Rows L2
theorem fn_cx0 {P : Program} {w : World} {K : PySem.W.Frag} {mg : Str → Option Value} {base : Heap} {k : Nat} {f : Addr} {fd : FuncData} {ps : List Str} {sp : Sp} (F : FnOk P w K mg base (L2.CX P w) k f fd ps sp) : FnOk P w K mg base CX0 k f fd ps (fun vs H Q _ => sp vs H Q fun _ _ _ => False) := by
  refine ⟨fun vs H Q E h => F.len vs H Q _ h, fun A outer s H args us vs Q E hr e0 hb r h => codeAny_mono (F.run A outer s H args us vs Q (fun _ _ _ => False) hr e0 hb r h) fun rr s' q => ?_⟩
  cases rr with
  | error e =>
    obtain ⟨_, _, _, _, _, _, _, _, _, _, _, _, z⟩ := q
    exact z.elim
  | ok fl => cases fl <;> exact q
end Ev

-- part A
set_option maxHeartbeats 0
namespace Law
open PySem PySem.Spec PyProof.Rows L2 Ev
def defs : List DefI := [
  ⟨"is_number", ["value"], ["value"], [false]⟩,
  ⟨"is_count", ["value"], ["value"], [false]⟩,
  ⟨"is_name", ["value", "letter"], ["value"], [false]⟩,
  ⟨"is_rising", ["row", "one", "other"], ["row"], [false]⟩,
  ⟨"tupled", ["value", "part"], ["value"], [false]⟩,
  ⟨"are_rows", ["value", "wide", "fits", "own"], ["value", "wide", "fits"], [false, false, false]⟩,
  ⟨"is_supply", ["own"], ["own"], [false]⟩,
  ⟨"is_line", ["own", "ends", "part"], ["own"], [false]⟩,
  ⟨"is_at", ["own"], ["own"], [false]⟩,
  ⟨"is_net", ["thing", "names", "own"], ["thing"], [false]⟩,
  ⟨"yard_names", ["net", "own"], ["net"], [false]⟩,
  ⟨"line_names", ["net", "own"], ["net"], [false]⟩,
  ⟨"customer_names", ["net", "own"], ["net"], [false]⟩,
  ⟨"supply_of", ["net", "yard", "own"], ["net", "yard"], [false, false]⟩,
  ⟨"line_of", ["net", "line", "own"], ["net", "line"], [false, false]⟩,
  ⟨"yard_of", ["net", "customer", "own"], ["net", "customer"], [false, false]⟩,
  ⟨"fit", ["yards", "lines", "customers", "net"], ["yards", "lines", "customers"], [false, false, false]⟩,
  ⟨"with_supply", ["net", "yard", "number", "own"], ["net", "yard", "number"], [false, false, false]⟩,
  ⟨"with_most", ["net", "line", "number", "rest", "name", "start", "goal", "most", "key", "own"], ["net", "line", "number"], [false, false, false]⟩,
  ⟨"with_key", ["net", "line", "key", "rest", "name", "start", "goal", "most", "hung", "own"], ["net", "line", "key"], [false, false, false]⟩,
  ⟨"with_yard", ["net", "yard", "number"], ["net", "yard", "number"], [false, false, false]⟩,
  ⟨"with_line", ["net", "line", "start", "goal", "number", "key"], ["net", "line", "start", "goal", "number", "key"], [false, false, false, false, false, false]⟩,
  ⟨"with_customer", ["net", "customer", "yard"], ["net", "customer", "yard"], [false, false, false]⟩,
  ⟨"without_yard", ["net", "yard", "own"], ["net", "yard"], [false, false]⟩,
  ⟨"without_line", ["net", "line", "own"], ["net", "line"], [false, false]⟩,
  ⟨"without_customer", ["net", "customer", "own"], ["net", "customer"], [false, false]⟩,
  ⟨"part_for", ["net", "keys", "own"], ["net", "keys"], [false, false]⟩,
  ⟨"joined", ["net", "other", "names", "both", "name"], ["net", "other"], [false, false]⟩,
  ⟨"_law_box", ["_law_script", "_law_k", "_law_cell"], ["_law_script", "_law_k"], [false, false]⟩,
  ⟨"_law_take", ["_law_box_here", "_law_size_so", "_law_once", "_law_far", "_law_again", "_law_some"], ["_law_box_here", "_law_size_so"], [true, false]⟩,
  ⟨"_law_cells", ["_law_script", "_law_top_so", "_law_cells_so", "_law_k", "_law_cell", "_law_at_so"], ["_law_script", "_law_top_so"], [false, false]⟩,
  ⟨"_law_of", ["_law_box_here", "_law_goods_so"], ["_law_box_here", "_law_goods_so"], [true, false]⟩,
  ⟨"_law_pick", ["_law_box_here", "_law_goods_so", "_law_count_so", "_law_turn", "_law_pool_so", "_law_found"], ["_law_box_here", "_law_goods_so", "_law_count_so"], [true, false, false]⟩,
  ⟨"_law_same", ["_law_got", "_law_due", "_law_mine", "_law_its"], ["_law_got", "_law_due"], [false, false]⟩,
  ⟨"_law_lists", ["_law_matter", "_law_bit"], ["_law_matter"], [false]⟩,
  ⟨"_law_net", ["_law_box_here", "_law_sites_so", "_law_lines_so", "_law_keys_so", "_law_folk_so", "_law_spots_so", "_law_many_so", "_law_rings_so", "_law_rest_so", "_law_tag", "_law_folk", "_law_stock_so", "_law_goals_so", "_law_home_so", "_law_ways_so", "_law_ends_so", "_law_much_so", "_law_ring_so"], ["_law_box_here", "_law_sites_so", "_law_lines_so", "_law_keys_so", "_law_folk_so"], [true, false, false, false, false]⟩,
  ⟨"_law_heard", ["_law_door", "_law_web", "_law_some", "error_so", "_law_found", "_law_wrong_so"], ["_law_door", "_law_web", "_law_some"], [false, false, false]⟩,
  ⟨"_law_by_hand_right", ["_law_web", "_law_got", "_law_due", "_law_soft", "_law_late", "_law_spots", "_law_ways_so", "_law_folk", "_law_bare", "_law_far", "_law_own"], [], []⟩,
  ⟨"_law_right", ["_law_box_here", "_law_web", "_law_wide", "_law_more", "_law_got", "_law_due", "_law_spots", "_law_ways_so", "_law_folk", "_law_tag", "_law_start_so", "_law_goal_so", "_law_high_so", "_law_ring_so", "_law_k", "_law_last_so", "_law_ways_in", "_law_own"], ["_law_box_here"], [true]⟩,
  ⟨"law", ["_law_script", "_law_cells_here", "_law_k"], ["_law_script"], [false]⟩]
def cons : List (Str × D) := [
  ("LETTERS", .str "abcdefghijklmnopqrstuvwxyz"),
  ("MOST_LETTERS", .int (8)),
  ("PAIR", .int (2)),
  ("PARTS", .int (3)),
  ("WIDE", .int (5))]
def kws : CI := ⟨[("with_supply", ["number", "yard", "net"]), ("with_most", ["number", "line", "net"]), ("with_key", ["key", "line", "net"]), ("with_yard", ["number", "yard", "net"]), ("with_customer", ["yard", "customer", "net"]), ("with_line", ["key", "number", "goal", "start", "line", "net"]), ("without_line", ["line", "net"]), ("without_customer", ["customer", "net"]), ("part_for", ["keys", "net"]), ("joined", ["other", "net"]), ("without_yard", ["yard", "net"])], [("NoYard", some "name"), ("NoLine", some "name"), ("NoCustomer", some "name"), ("Unfit", none), ("Known", some "name")], ["NetError"]⟩
abbrev prog : Program := PySem.Challenge.pw_keyedlines_k05_whole_nets_changed_there
def tab : List (Str × Fn) := tabOf prog defs cons kws
abbrev R : PySem.W.OpenRow := PySem.W.OpenLaw.row PySem.Challenge.rw_keyedlines_k05_whole_nets_changed_there
abbrev fa : List He.Fa := faX defs cons kws
abbrev fn : List He.DefD := fnX prog defs kws
abbrev ex : PySem.W.Frag → Bool := clsesB kws.cls kws.bas
abbrev hk : PySem.W.Hook := He.hookX 6 fa fn [] [] ex
def ob (s : PySem.W.SharedT) : He.AlX := He.obsX 6 fa fn [] [] ex (HandSHeadRun.getT s)
theorem ob_eq (s : PySem.W.SharedT) : ob s = hk.obs s.abs := He.obsX_eq (HandSHeadRun.getT_eq s)
theorem chk : modB prog defs cons kws = true := by decide +kernel
abbrev loose : List Str := (["NetError", "NoYard", "NoLine", "NoCustomer", "Unfit", "Known", "LETTERS", "MOST_LETTERS", "is_number", "is_count", "is_name", "is_rising", "tupled", "PAIR", "PARTS", "WIDE"] : List PySem.Str) ++ (["are_rows", "is_supply", "is_line", "is_at", "is_net", "yard_names", "line_names", "customer_names", "supply_of", "line_of", "yard_of", "fit", "with_supply", "with_most", "with_key", "with_yard"] : List PySem.Str) ++ (["with_line", "with_customer", "without_yard", "without_line", "without_customer", "part_for", "joined", "_law_box", "_law_take", "_law_cells", "_law_of", "_law_pick", "_law_same", "_law_lists", "_law_net", "_law_heard"] : List PySem.Str) ++ (["_law_by_hand_right", "_law_right"] : List PySem.Str)
theorem run (w : World) : HandSHeadRun.RunEq R (PySem.W.view R.prog [54]) hk ob 6000 loose w := by
  intro os
  kernel_rfl
end Law

-- part EvH
set_option maxHeartbeats 200000
namespace Ev
open PySem
def Wp0 {α : Type} (x : Res α) (Q : α → Env → Prop) (X : Exc → Env → Prop) : Prop := match x with
  | .ok a r => Q a r
  | .exc e r => X e r
  | .stuck => False
def CWp0 (x : CRes) (Q : RV → List Slot → Prop) (X : Exc → Prop) : Prop := match x with
  | .ret v o => Q v o
  | .exc e => X e
  | .stuck => False
def Op0 {α : Type} (o : Option α) (K : α → Prop) : Prop := match o with
  | some a => K a
  | none => False
def Lk0 (r : Env) (v : RV) (K : D → Prop) : Prop := Op0 (look r v) K
theorem z_op_some {α : Type} {a : α} {K : α → Prop} : Op0 (some a) K = K a := rfl
theorem z_op_none {α : Type} {K : α → Prop} : Op0 (none : Option α) K = False := rfl
theorem z_op_ite {α : Type} {c : Prop} [Decidable c] {a : Option α} {K : α → Prop} : Op0 (if c then a else none) K = (c ∧ Op0 a K) := by
  by_cases h : c <;> simp [h, Op0]
theorem z_op_map {α β : Type} {f : α → β} {a : Option α} {K : β → Prop} : Op0 (a.map f) K = Op0 a (fun x => K (f x)) := by
  cases a <;> rfl
theorem z_op_bind {α β : Type} {f : α → Option β} {a : Option α} {K : β → Prop} : Op0 (a.bind f) K = Op0 a (fun x => Op0 (f x) K) := by
  cases a <;> rfl
theorem z_wp_ok {α : Type} {a : α} {r Q X} : Wp0 (.ok a r) Q X = Q a r := rfl
theorem z_wp_exc {α : Type} {e r} {Q : α → Env → Prop} {X} : Wp0 (.exc e r) Q X = X e r := rfl
theorem z_wp_stuck {α : Type} {Q : α → Env → Prop} {X} : Wp0 .stuck Q X = False := rfl
theorem z_wp_bind {α β : Type} {m : M α} {f : α → M β} {r Q X} : Wp0 ((m >>= f) r) Q X = Wp0 (m r) (fun a r' => Wp0 (f a r') Q X) X := by
  show Wp0 (M.bind m f r) Q X = _
  unfold M.bind
  cases m r <;> rfl
theorem z_wp_bind' {α β : Type} {m : M α} {f : α → M β} {r Q X} : Wp0 (M.bind m f r) Q X = Wp0 (m r) (fun a r' => Wp0 (f a r') Q X) X := z_wp_bind
theorem z_wp_pure {α : Type} {a : α} {r Q X} : Wp0 ((M.pure a : M α) r) Q X = Q a r := rfl
theorem z_wp_pure' {α : Type} {a : α} {r Q X} : Wp0 ((pure a : M α) r) Q X = Q a r := rfl
theorem z_wp_liftO {α : Type} {o : Option α} {r Q X} : Wp0 (liftO o r) Q X = Op0 o fun a => Q a r := by
  cases o <;> rfl
theorem z_wp_look {α : Type} {v : RV} {k : D → M α} {r Q X} : Wp0 (withLook v k r) Q X = Lk0 r v fun d => Wp0 (k d r) Q X := by
  unfold withLook Lk0 Op0
  cases look r v <;> rfl
theorem z_wp_looks {α : Type} {v : List RV} {k : List D → M α} {r Q X} : Wp0 (withLooks v k r) Q X = Op0 (looks r v) fun d => Wp0 (k d r) Q X := by
  unfold withLooks Op0
  cases looks r v <;> rfl
theorem z_wp_mono {α : Type} {x : Res α} {Q Q' : α → Env → Prop} {X X'} (h : Wp0 x Q X) (hq : ∀ a r, Q a r → Q' a r) (hx : ∀ e r, X e r → X' e r) : Wp0 x Q' X' := by
  cases x with
  | ok a r => exact hq _ _ h
  | exc e r => exact hx _ _ h
  | stuck => exact h
theorem z_cwp_mono {x : CRes} {Q Q' : RV → List Slot → Prop} {X X' : Exc → Prop} (h : CWp0 x Q X) (hq : ∀ a r, Q a r → Q' a r) (hx : ∀ e, X e → X' e) : CWp0 x Q' X' := by
  cases x with
  | ret a r => exact hq _ _ h
  | exc e => exact hx _ h
  | stuck => exact h
theorem z_cwp_ret {v o Q X} : CWp0 (.ret v o) Q X = Q v o := rfl
theorem z_cwp_exc {e Q X} : CWp0 (.exc e) Q X = X e := rfl
theorem z_lk_val {r d K} : Lk0 r (.val d) K = K d := rfl
theorem z_lk_own {r d K} : Lk0 r (.own d) K = K (.lst d) := rfl
theorem z_lk_bor {r i K} : Lk0 r (.bor i) K = Op0 (match r[i]? with | some (.box xs) => some (.lst xs) | some (.val d) => some d | _ => none) K := rfl
/-- truth of data, then the one or the other -/
def Tr0 (d : D) (a b : Prop) : Prop := Op0 (truD d) fun t => if t then a else b
theorem z_tr_bl {b : Bool} {p q : Prop} : Tr0 (.bl b) p q = (if b = true then p else q) := by cases b <;> rfl
section
variable {call : CallT}
theorem z_wp_var {i r Q X} : Wp0 (evE call (.var i) r) Q X = Op0 (r[i]?) fun s => (match s with | .val d => Q (.val d) r | .box _ => Q (.bor i) r | _ => False) := by
  unfold evE
  cases r[i]? with
  | none => rfl
  | some s => cases s <;> rfl
theorem z_wp_cst {d r Q X} : Wp0 (evE call (.cst d) r) Q X = Q (.val d) r := by unfold evE; rfl
theorem z_wp_glo {x d r Q X} : Wp0 (evE call (.glo x d) r) Q X = Q (.val d) r := by unfold evE; rfl
theorem z_wp_tup {es r Q X} : Wp0 (evE call (.tup es) r) Q X = Wp0 (evEs call es r) (fun vs r1 => Wp0 (toDs vs r1) (fun ds r2 => Q (.val (.tup ds)) r2) X) X := by
  unfold evE; simp only [z_wp_bind, z_wp_pure]
theorem z_wp_lst {es r Q X} : Wp0 (evE call (.lst es) r) Q X = Wp0 (evEs call es r) (fun vs r1 => Wp0 (toDs vs r1) (fun ds r2 => Q (.own ds) r2) X) X := by
  unfold evE; simp only [z_wp_bind, z_wp_pure]
theorem z_wp_ds0 {fl r Q X} : Wp0 (evDs call fl [] r) Q X = Q [] r := by rw [evDs]; rfl
theorem z_wp_ds1 {fl e es r Q X} : Wp0 (evDs call fl (e :: es) r) Q X = Wp0 (evE call e r) (fun v r1 => Wp0 (toD v r1) (fun d r2 => Op0 (starD (fl.headD false) d) fun xs => Wp0 (evDs call fl.tail es r2) (fun ds r3 => Q (xs ++ ds) r3) X) X) X := by
  rw [evDs]; simp only [z_wp_bind]
  congr 1; funext v r1; congr 1; funext d r2
  cases starD (fl.headD false) d with
  | none => rfl
  | some xs => simp only [z_op_some, z_wp_bind, z_wp_pure]
theorem z_wp_tupS {fl es r Q X} : Wp0 (evE call (.tupS fl es) r) Q X = Wp0 (evDs call fl es r) (fun ds r1 => ds.length ≤ sizeLine ∧ Q (.val (.tup ds)) r1) X := by
  rw [evE]; simp only [z_wp_bind]
  congr 1; funext ds r1
  by_cases h : ds.length ≤ sizeLine
  · rw [if_pos h, eq_iff_iff]; simp [h, z_wp_pure]
  · rw [if_neg h, eq_iff_iff]; simp [h, stuckM, Wp0]
theorem z_wp_lstS {fl es r Q X} : Wp0 (evE call (.lstS fl es) r) Q X = Wp0 (evDs call fl es r) (fun ds r1 => ds.length ≤ sizeLine ∧ Q (.own ds) r1) X := by
  rw [evE]; simp only [z_wp_bind]
  congr 1; funext ds r1
  by_cases h : ds.length ≤ sizeLine
  · rw [if_pos h, eq_iff_iff]; simp [h, z_wp_pure]
  · rw [if_neg h, eq_iff_iff]; simp [h, stuckM, Wp0]
theorem z_wp_bin {op a b r Q X} : Wp0 (evE call (.bin op a b) r) Q X = Wp0 (evE call a r) (fun x r1 => Wp0 (evE call b r1) (fun y r2 => Lk0 r2 x fun d => Lk0 r2 y fun e => Op0 (binOp op d e) fun v => Q v r2) X) X := by
  rw [evE]; simp only [z_wp_bind, z_wp_look, z_wp_liftO]
theorem z_wp_neg {a r Q X} : Wp0 (evE call (.neg a) r) Q X = Wp0 (evE call a r) (fun x r1 => Lk0 r1 x fun d => Op0 (negOp d) fun v => Q (.val v) r1) X := by
  rw [evE]; simp only [z_wp_bind, z_wp_look, z_wp_liftO, z_op_map]
theorem z_wp_not {a r Q X} : Wp0 (evE call (.not a) r) Q X = Wp0 (evE call a r) (fun x r1 => Lk0 r1 x fun d => Op0 (truD d) fun v => Q (.val (.bl (!v))) r1) X := by
  rw [evE]; simp only [z_wp_bind, z_wp_look, z_wp_liftO, z_op_map]
theorem z_wp_cmp {op a b r Q X} : Wp0 (evE call (.cmp op a b) r) Q X = Wp0 (evE call a r) (fun x r1 => Wp0 (evE call b r1) (fun y r2 => Lk0 r2 x fun d => Lk0 r2 y fun e => Op0 (cmpOp op d e) fun v => Q (.val (.bl v)) r2) X) X := by
  rw [evE]; simp only [z_wp_bind, z_wp_look, z_wp_liftO, z_op_map]
theorem z_wp_cmp2 {op op' a b c r Q X} : Wp0 (evE call (.cmp2 op op' a b c) r) Q X = Wp0 (evE call a r) (fun x r1 => Wp0 (evE call b r1) (fun y r2 => Lk0 r2 x fun d => Lk0 r2 y fun e => Op0 (cmpOp op d e) fun t => if t = true then Wp0 (evE call c r2) (fun z r3 => Lk0 r3 y fun e => Lk0 r3 z fun f => Op0 (cmpOp op' e f) fun v => Q (.val (.bl v)) r3) X else Q (.val (.bl false)) r2) X) X := by
  rw [evE]; simp only [z_wp_bind, z_wp_look]
  congr 1; funext x r1; congr 1; funext y r2; congr 1; funext d; congr 1; funext e
  cases cmpOp op d e with
  | none => rfl
  | some t => cases t <;> simp only [z_op_some, z_wp_bind, z_wp_look, z_wp_liftO, z_op_map, z_wp_pure, if_true, Bool.false_eq_true, if_false]
theorem z_wp_and {a b r Q X} : Wp0 (evE call (.and a b) r) Q X = Wp0 (evE call a r) (fun x r1 => Lk0 r1 x fun d => Op0 (truD d) fun t => if t = true then Wp0 (evE call b r1) Q X else Q x r1) X := by
  rw [evE]; simp only [z_wp_bind, z_wp_look]
  congr 1; funext x r1; congr 1; funext d
  cases truD d with
  | none => rfl
  | some t => cases t <;> rfl
theorem z_wp_or {a b r Q X} : Wp0 (evE call (.or a b) r) Q X = Wp0 (evE call a r) (fun x r1 => Lk0 r1 x fun d => Op0 (truD d) fun t => if t = true then Q x r1 else Wp0 (evE call b r1) Q X) X := by
  rw [evE]; simp only [z_wp_bind, z_wp_look]
  congr 1; funext x r1; congr 1; funext d
  cases truD d with
  | none => rfl
  | some t => cases t <;> rfl
theorem z_wp_ite {c a b r Q X} : Wp0 (evE call (.ite c a b) r) Q X = Wp0 (evE call c r) (fun x r1 => Lk0 r1 x fun d => Op0 (truD d) fun t => if t = true then Wp0 (evE call a r1) Q X else Wp0 (evE call b r1) Q X) X := by
  rw [evE]; simp only [z_wp_bind, z_wp_look]
  congr 1; funext x r1; congr 1; funext d
  cases truD d with
  | none => rfl
  | some t => cases t <;> rfl
theorem z_wp_idx {a i r Q X} : Wp0 (evE call (.idx a i) r) Q X = Wp0 (evE call a r) (fun x r1 => Wp0 (evE call i r1) (fun y r2 => Lk0 r2 x fun d => Lk0 r2 y fun e => Op0 (idxOp d e) fun v => Q (.val v) r2) X) X := by
  rw [evE]; simp only [z_wp_bind, z_wp_look, z_wp_liftO, z_op_map]
theorem z_wp_sli {a lo hi r Q X} : Wp0 (evE call (.sli a lo hi) r) Q X = Wp0 (evE call a r) (fun x r1 => Wp0 (evO call lo r1) (fun l r2 => Wp0 (evO call hi r2) (fun h r3 => Lk0 r3 x fun d => Op0 (sliI d l h) fun v => Q v r3) X) X) X := by
  rw [evE]; simp only [z_wp_bind, z_wp_look, z_wp_liftO, z_op_map]
theorem z_wp_rev {a r Q X} : Wp0 (evE call (.rev a) r) Q X = Wp0 (evE call a r) (fun x r1 => Lk0 r1 x fun d => Op0 (revOp d) fun v => Q v r1) X := by
  rw [evE]; simp only [z_wp_bind, z_wp_look, z_wp_liftO]
theorem z_wp_onone {r Q X} : Wp0 (evO call none r) Q X = Q none r := by rw [evO]; rfl
theorem z_wp_osome {e r Q X} : Wp0 (evO call (some e) r) Q X = Wp0 (evE call e r) (fun x r1 => Lk0 r1 x fun d => Op0 (partI d) fun i => Q (some i) r1) X := by
  rw [evO]; simp only [z_wp_bind, z_wp_look, z_wp_liftO, z_op_map]
theorem z_wp_nil {r Q X} : Wp0 (evEs call [] r) Q X = Q [] r := by rw [evEs]; rfl
theorem z_wp_cons {e es r Q X} : Wp0 (evEs call (e :: es) r) Q X = Wp0 (evE call e r) (fun v r1 => Wp0 (evEs call es r1) (fun vs r2 => Q (v :: vs) r2) X) X := by
  rw [evEs]; simp only [z_wp_bind, z_wp_pure]
theorem z_wp_bi {b es r Q X} : Wp0 (evE call (.bi b es) r) Q X = Wp0 (evEs call es r) (fun vs r1 => Op0 (looks r1 vs) fun ds => Op0 (biOp b ds) fun v => Q v r1) X := by
  rw [evE]; simp only [z_wp_bind, z_wp_looks, z_wp_liftO]
theorem z_wp_call {f fl es r Q X} : Wp0 (evE call (.call f fl es) r) Q X = Wp0 (evEs call es r) (fun vs r1 => Wp0 (doCall call f fl vs r1) Q X) X := by
  rw [evE]; simp only [z_wp_bind]
theorem z_wp_callk {f fl es p r Q X} : Wp0 (evE call (.callk f fl es p) r) Q X = Wp0 (evEs call es r) (fun vs r1 => nodupB p = true ∧ Op0 (permL vs p) fun zs => Wp0 (doCall call f fl zs r1) Q X) X := by
  rw [evE]; simp only [z_wp_bind, z_wp_liftO, z_op_ite]
theorem z_wp_callv {i fls es r Q X} : Wp0 (evE call (.callv i fls es) r) Q X = Op0 (r[i]?) fun s => (match s with | .val (.fn f) => Op0 (fls.lookup f) fun fl => Wp0 (evEs call es r) (fun vs r1 => Wp0 (doCall call f fl vs r1) Q X) X | _ => False) := by
  rw [evE]
  dsimp only
  cases r[i]? with
  | none => rfl
  | some s =>
    cases s with
    | val d =>
      cases d with
      | fn f =>
        dsimp only [Op0]
        cases fls.lookup f with
        | none => rfl
        | some fl => simp only [z_wp_bind]
      | _ => rfl
    | _ => rfl
def noBor : RV → Prop
  | .bor _ => False
  | _ => True
theorem z_wp_doCall {f fl vs r Q X} : Wp0 (doCall call f fl vs r) Q X = Wp0 (passArgs fl vs r) (fun ss r1 => (nodupB (lent fl vs) && (lent fl vs).all (isMut r1)) = true ∧ CWp0 (call f ss) (fun rv outs => outs.length = ss.length ∧ noBor rv ∧ Q rv (giveBack fl vs outs r1)) (fun e => (lent fl vs).isEmpty = true ∧ X e r1)) X := by
  unfold doCall
  cases passArgs fl vs r with
  | stuck => rfl
  | exc e r1 => rfl
  | ok ss r1 =>
    dsimp only [z_wp_ok]
    by_cases h : (nodupB (lent fl vs) && (lent fl vs).all (isMut r1)) = true
    · rw [if_pos h, eq_iff_iff]
      simp only [h, true_and]
      cases call f ss with
      | stuck => rfl
      | exc e =>
        dsimp only
        by_cases h2 : (lent fl vs).isEmpty = true
        · simp [h2, Wp0, CWp0]
        · simp [h2, Wp0, CWp0]
      | ret rv outs =>
        dsimp only
        by_cases h2 : outs.length = ss.length
        · rw [if_pos h2]
          cases rv <;> simp [Wp0, CWp0, noBor, h2]
        · rw [if_neg h2]
          simp [Wp0, CWp0, h2]
    · rw [if_neg h, eq_iff_iff]
      simp [h, Wp0]
theorem z_wp_app {i e r Q X} : Wp0 (evE call (.app i e) r) Q X = (isMut r i = true ∧ Wp0 (evE call e r) (fun v r1 => Wp0 (toD v r1) (fun d r2 => Op0 (r2[i]?) fun s => match s with | .box xs => xs.length < sizeLine ∧ Q (.val .non) (r2.set i (.box (xs ++ [d]))) | _ => False) X) X) := by
  rw [evE, eq_iff_iff]
  dsimp only
  by_cases h : isMut r i = true
  · rw [if_pos h]
    simp only [h, true_and, z_wp_bind]
    rw [← eq_iff_iff]
    congr 1; funext v r1; congr 1; funext d r2
    cases r2[i]? with
    | none => rfl
    | some s =>
      cases s with
      | box xs =>
        dsimp only [z_op_some]
        by_cases h2 : xs.length < sizeLine
        · rw [if_pos h2, eq_iff_iff]; simp [h2, Wp0]
        · rw [if_neg h2, eq_iff_iff]; simp [h2, Wp0]
      | _ => rfl
  · rw [if_neg h]; simp [h, Wp0]
theorem z_wp_popAt {i e r Q X} : Wp0 (evE call (.popAt i e) r) Q X = (isMut r i = true ∧ Wp0 (evE call e r) (fun v r1 => Lk0 r1 v fun d => Op0 (r1[i]?) fun s => match s, d with | .box xs, .int k => small62 k = true ∧ Op0 (atIx xs.length k) fun k => Op0 (xs[k]?) fun x => Q (.val x) (r1.set i (.box (xs.eraseIdx k))) | _, _ => False) X) := by
  rw [evE, eq_iff_iff]
  dsimp only
  by_cases h : isMut r i = true
  · rw [if_pos h]
    simp only [h, true_and, z_wp_bind, z_wp_look]
    rw [← eq_iff_iff]
    congr 1; funext v r1; congr 1; funext d
    cases r1[i]? with
    | none => cases d <;> rfl
    | some s =>
      cases s with
      | box xs =>
        cases d with
        | int k =>
          dsimp only [z_op_some]
          by_cases h2 : small62 k = true
          · rw [if_pos h2, eq_iff_iff]
            simp only [h2, true_and]
            cases atIx xs.length k with
            | none => rfl
            | some k =>
              dsimp only [z_op_some]
              cases xs[k]? <;> rfl
          · rw [if_neg h2, eq_iff_iff]; simp [h2, Wp0]
        | _ => rfl
      | _ => cases d <;> rfl
  · rw [if_neg h]; simp [h, Wp0]
/-- one turn of a comprehension -/
def turnC (call : CallT) (elt : E) (ifs : List E) : M (Option D) := do
  let b ← evIfs call ifs
  if b then (do
    let v ← evE call elt
    let d ← toD v
    M.pure (some d)) else M.pure none
theorem z_wp_comp {elt tg it ifs own r Q X} : Wp0 (evE call (.comp elt tg it ifs own) r) Q X = Wp0 (evIt call it r) (fun p r0 => (p.2.all fun p => !own.contains p.1) = true ∧ Wp0 (compL tg own p.2 (turnC call elt ifs) p.1 (wipeE own r0)) (fun xs r1 => Q (.own xs) (restE own r0 r1)) (fun x r1 => X x (restE own r0 (wipeE own r1)))) X := by
  rw [evE]
  dsimp only
  cases evIt call it r with
  | stuck => rfl
  | exc e r1 => rfl
  | ok p r0 =>
    obtain ⟨ds, lk⟩ := p
    dsimp only [z_wp_ok]
    by_cases h : (lk.all fun p => !own.contains p.1) = true
    · rw [if_pos h, eq_iff_iff]
      simp only [h, true_and]
      show Wp0 (match compL tg own lk (turnC call elt ifs) ds (wipeE own r0) with | .ok xs r1 => _ | .exc x r1 => _ | .stuck => _) Q X ↔ _
      cases compL tg own lk (turnC call elt ifs) ds (wipeE own r0) <;> rfl
    · rw [if_neg h, eq_iff_iff]
      exact ⟨fun z => z.elim, fun z => absurd z.1 h⟩
theorem z_wp_turn {elt ifs r Q X} : Wp0 (turnC call elt ifs r) Q X = Wp0 (evIfs call ifs r) (fun b r1 => if b = true then Wp0 (evE call elt r1) (fun v r2 => Wp0 (toD v r2) (fun d r3 => Q (some d) r3) X) X else Q none r1) X := by
  unfold turnC
  simp only [z_wp_bind]
  congr 1; funext b r1
  cases b <;> simp only [if_true, Bool.false_eq_true, if_false, z_wp_bind, z_wp_pure]
theorem z_wp_ifs0 {r Q X} : Wp0 (evIfs call [] r) Q X = Q true r := by rw [evIfs]; rfl
theorem z_wp_ifs1 {e es r Q X} : Wp0 (evIfs call (e :: es) r) Q X = Wp0 (evE call e r) (fun x r1 => Lk0 r1 x fun d => Op0 (truD d) fun t => if t = true then Wp0 (evIfs call es r1) Q X else Q false r1) X := by
  rw [evIfs]; simp only [z_wp_bind, z_wp_look]
  congr 1; funext x r1; congr 1; funext d
  cases truD d with
  | none => rfl
  | some t => cases t <;> rfl
theorem z_wp_seq {e r Q X} : Wp0 (evIt call (.seq e) r) Q X = Wp0 (evE call e r) (fun v r1 => Lk0 r1 v fun d => Op0 (itemsD d) fun ds => Q (ds, lockOf r1 v) r1) X := by
  rw [evIt]; simp only [z_wp_bind, z_wp_look]
  congr 1; funext x r1; congr 1; funext d
  cases itemsD d <;> rfl
def rngOf : List D → Option (List D)
  | [.int j] => if small62 j && decide (j.toNat ≤ sizeLine) then some (rangeD 0 j) else none
  | [.int i, .int j] => if small62 i && small62 j && decide ((j - i).toNat ≤ sizeLine) then some (rangeD i j) else none
  | _ => none
theorem z_wp_rng {es r Q X} : Wp0 (evIt call (.rng es) r) Q X = Wp0 (evEs call es r) (fun vs r1 => Op0 (looks r1 vs) fun ds => Op0 (rngOf ds) fun xs => Q (xs, []) r1) X := by
  rw [evIt]; simp only [z_wp_bind, z_wp_looks]
  congr 1; funext x r1; congr 1; funext ds
  rcases ds with _ | ⟨d, _ | ⟨e, _ | ⟨f, t⟩⟩⟩
  · rfl
  · cases d with
    | int j =>
      simp only [rngOf]
      split <;> rfl
    | _ => rfl
  · cases d with
    | int i =>
      cases e with
      | int j =>
        simp only [rngOf]
        split <;> rfl
      | _ => rfl
    | _ => rfl
  · cases d with
    | int i => cases e <;> rfl
    | _ => rfl
theorem z_wp_zip {es r Q X} : Wp0 (evIt call (.zip es) r) Q X = Wp0 (evEs call es r) (fun vs r1 => Op0 (looks r1 vs) fun ds => Op0 (match ds with | [d, e] => zipD d e | _ => none) fun xs => Q (xs, locksOf r1 vs) r1) X := by
  rw [evIt]; simp only [z_wp_bind, z_wp_looks]
  congr 1; funext x r1; congr 1; funext ds
  rcases ds with _ | ⟨d, _ | ⟨e, _ | ⟨f, t⟩⟩⟩
  · rfl
  · rfl
  · dsimp only
    cases zipD d e <;> rfl
  · rfl
theorem z_wp_enum {es r Q X} : Wp0 (evIt call (.enum es) r) Q X = Wp0 (evEs call es r) (fun vs r1 => Op0 (looks r1 vs) fun ds => Op0 (match ds with | [.lst xs] => some xs | [.scr xs] => some xs | _ => none) fun xs => Q (enumD xs, locksOf r1 vs) r1) X := by
  rw [evIt]; simp only [z_wp_bind, z_wp_looks]
  congr 1; funext x r1; congr 1; funext ds
  rcases ds with _ | ⟨d, _ | ⟨e, t⟩⟩
  · rfl
  · cases d <;> rfl
  · cases d <;> rfl
theorem z_wp_evT {e r Q X} : Wp0 (evT call e r) Q X = Wp0 (evE call e r) (fun v r1 => Lk0 r1 v fun d => Op0 (truD d) fun b => Q b r1) X := by
  unfold evT; simp only [z_wp_bind, z_wp_look, z_wp_liftO]
theorem z_wp_expr {e r Q X} : Wp0 (evS call (.expr e) r) Q X = Wp0 (evE call e r) (fun _ r1 => Q .next r1) X := by
  rw [evS]; simp only [z_wp_bind, z_wp_pure]
theorem z_wp_asg {i e r Q X} : Wp0 (evS call (.asg (.name i) e) r) Q X = Wp0 (evE call e r) (fun v r1 => Op0 (asgRV i v r1) fun r2 => Q .next r2) X := by
  rw [evS]; simp only [z_wp_bind]
  congr 1; funext v r1
  cases asgRV i v r1 <;> rfl
theorem z_wp_asgt {ts e r Q X} : Wp0 (evS call (.asg (.tup ts) e) r) Q X = Wp0 (evE call e r) (fun v r1 => Wp0 (toD v r1) (fun d r2 => Op0 (asgT (.tup ts) d r2) fun r3 => Q .next r3) X) X := by
  rw [evS]; simp only [z_wp_bind]
  congr 1; funext v r1; congr 1; funext d r2
  cases asgT (.tup ts) d r2 <;> rfl
theorem z_wp_par {is es r Q X} : Wp0 (evS call (.par is es) r) Q X = Wp0 (evEs call es r) (fun vs r1 => Wp0 (solid vs r1) (fun ws r2 => Op0 (parAsg is ws r2) fun r3 => Q .next r3) X) X := by
  rw [evS]; simp only [z_wp_bind]
  congr 1; funext v r1; congr 1; funext d r2
  cases parAsg is d r2 <;> rfl
theorem z_wp_asgI {i ix e r Q X} : Wp0 (evS call (.asgI i ix e) r) Q X = Wp0 (evE call e r) (fun v r1 => Wp0 (toD v r1) (fun d r2 => isMut r2 i = true ∧ Wp0 (evE call ix r2) (fun k r3 => Lk0 r3 k fun kd => Op0 (r3[i]?) fun s => match s, kd with | .box xs, .int k => Op0 (atIx xs.length k) fun k => Q .next (r3.set i (.box (xs.set k d))) | _, _ => False) X) X) X := by
  rw [evS]; simp only [z_wp_bind]
  congr 1; funext v r1; congr 1; funext d r2
  rw [eq_iff_iff]
  by_cases h : isMut r2 i = true
  · rw [if_pos h]
    simp only [h, true_and, z_wp_bind, z_wp_look]
    rw [← eq_iff_iff]
    congr 1; funext v r1; congr 1; funext kd
    cases r1[i]? with
    | none => cases kd <;> rfl
    | some s =>
      cases s with
      | box xs =>
        cases kd with
        | int k =>
          dsimp only [z_op_some]
          cases atIx xs.length k <;> rfl
        | _ => rfl
      | _ => cases kd <;> rfl
  · rw [if_neg h]; simp [h, Wp0]
theorem z_wp_ret {e r Q X} : Wp0 (evS call (.ret e) r) Q X = Wp0 (evE call e r) (fun v r1 => Q (.ret v) r1) X := by
  rw [evS]; simp only [z_wp_bind, z_wp_pure]
theorem z_wp_ret0 {r Q X} : Wp0 (evS call .ret0 r) Q X = Q (.ret (.val .non)) r := by
  rw [evS]; simp only [z_wp_pure]
theorem z_wp_pass {r Q X} : Wp0 (evS call .pass r) Q X = Q .next r := by
  rw [evS]; simp only [z_wp_pure]
theorem z_wp_cont {r Q X} : Wp0 (evS call .cont r) Q X = Q .cont r := by
  rw [evS]; simp only [z_wp_pure]
theorem z_wp_brk {r Q X} : Wp0 (evS call .brk r) Q X = Q .brk r := by
  rw [evS]; simp only [z_wp_pure]
theorem z_wp_ifs {c a b r Q X} : Wp0 (evS call (.ifs c a b) r) Q X = Wp0 (evE call c r) (fun v r1 => Lk0 r1 v fun d => Op0 (truD d) fun t => if t = true then Wp0 (evSs call a r1) Q X else Wp0 (evSs call b r1) Q X) X := by
  rw [evS]; simp only [z_wp_bind, z_wp_evT]
  congr 1; funext v r1; congr 1; funext d; congr 1; funext t
  cases t <;> rfl
theorem z_wp_for {tg it body r Q X} : Wp0 (evS call (.for_ tg it body) r) Q X = Wp0 (evIt call it r) (fun p r0 => Wp0 (forL tg (evSs call body) p.1 (shareL p.2 r0)) Q X) X := by
  rw [evS]
  dsimp only
  cases evIt call it r with
  | ok p r0 => obtain ⟨ds, lk⟩ := p; rfl
  | _ => rfl
theorem z_wp_while {c body r Q X} : Wp0 (evS call (.while_ c body) r) Q X = Wp0 (whileL (evT call c) (evSs call body) loopMost r) Q X := by
  rw [evS]
theorem z_wp_raise {c ns es r Q X} : Wp0 (evS call (.raise c ns es) r) Q X = Wp0 (evEs call es r) (fun vs r1 => Wp0 (toDs vs r1) (fun ds r2 => X ⟨c, ns, ds⟩ r2) X) X := by
  rw [evS]; simp only [z_wp_bind, z_wp_exc]
theorem z_wp_snil {r Q X} : Wp0 (evSs call [] r) Q X = Q .next r := by rw [evSs]; rfl
theorem z_wp_scons {s ss r Q X} : Wp0 (evSs call (s :: ss) r) Q X = Wp0 (evS call s r) (fun fl r1 => match fl with | .next => Wp0 (evSs call ss r1) Q X | o => Q o r1) X := by
  rw [evSs]
  dsimp only
  cases evS call s r with
  | ok fl r1 => cases fl <;> rfl
  | _ => rfl
theorem z_wp_toval {d r Q X} : Wp0 (toD (.val d) r) Q X = Q d r := rfl
theorem z_wp_toown {d r Q X} : Wp0 (toD (.own d) r) Q X = Q (.lst d) r := rfl
theorem z_wp_tobor {i r Q X} : Wp0 (toD (.bor i) r) Q X = Op0 (r[i]?) fun s => match s with | .box xs => Q (.lst xs) (r.set i (.val (.lst xs))) | .val d => Q d r | _ => False := by
  simp only [toD]
  cases r[i]? with
  | none => rfl
  | some s => cases s <;> rfl
theorem z_wp_tonil {r Q X} : Wp0 (toDs [] r) Q X = Q [] r := rfl
theorem z_wp_tocons {v vs r Q X} : Wp0 (toDs (v :: vs) r) Q X = Wp0 (toD v r) (fun d r1 => Wp0 (toDs vs r1) (fun ds r2 => Q (d :: ds) r2) X) X := by
  show Wp0 ((toD v >>= fun d => toDs vs >>= fun ds => M.pure (d :: ds)) r) Q X = _
  simp only [z_wp_bind, z_wp_pure]
theorem z_wp_pa0 {r Q X} : Wp0 (passArgs [] [] r) Q X = Q [] r := rfl
theorem z_wp_paf {bs v vs r Q X} : Wp0 (passArgs (false :: bs) (v :: vs) r) Q X = Wp0 (toD v r) (fun d r1 => Wp0 (passArgs bs vs r1) (fun ss r2 => Q (.val d :: ss) r2) X) X := by
  show Wp0 ((toD v >>= fun d => passArgs bs vs >>= fun ss => M.pure (.val d :: ss)) r) Q X = _
  simp only [z_wp_bind, z_wp_pure]
theorem z_wp_pao {bs xs vs r Q X} : Wp0 (passArgs (true :: bs) (.own xs :: vs) r) Q X = Wp0 (passArgs bs vs r) (fun ss r2 => Q (.box xs :: ss) r2) X := by
  show Wp0 ((passArgs bs vs >>= fun ss => M.pure (.box xs :: ss)) r) Q X = _
  simp only [z_wp_bind, z_wp_pure]
theorem z_wp_pab {bs i vs r Q X} : Wp0 (passArgs (true :: bs) (.bor i :: vs) r) Q X = Op0 (r[i]?) fun s => match s with | .box xs => Wp0 (passArgs bs vs r) (fun ss r2 => Q (.box xs :: ss) r2) X | _ => False := by
  simp only [passArgs]
  cases r[i]? with
  | none => rfl
  | some s =>
    cases s with
    | box xs => dsimp only [z_op_some]; simp only [z_wp_bind, z_wp_pure]
    | _ => rfl
theorem z_wp_so0 {r Q X} : Wp0 (solid [] r) Q X = Q [] r := rfl
theorem z_wp_sob {i vs r Q X} : Wp0 (solid (.bor i :: vs) r) Q X = Wp0 (toD (.bor i) r) (fun d r1 => Wp0 (solid vs r1) (fun ws r2 => Q (.val d :: ws) r2) X) X := by
  show Wp0 ((toD (.bor i) >>= fun d => solid vs >>= fun ws => M.pure (.val d :: ws)) r) Q X = _
  simp only [z_wp_bind, z_wp_pure]
theorem z_wp_sov {d vs r Q X} : Wp0 (solid (.val d :: vs) r) Q X = Wp0 (solid vs r) (fun ws r2 => Q (.val d :: ws) r2) X := by
  show Wp0 ((solid vs >>= fun ws => M.pure (.val d :: ws)) r) Q X = _
  simp only [z_wp_bind, z_wp_pure]
theorem z_wp_soo {d vs r Q X} : Wp0 (solid (.own d :: vs) r) Q X = Wp0 (solid vs r) (fun ws r2 => Q (.own d :: ws) r2) X := by
  show Wp0 ((solid vs >>= fun ws => M.pure (.own d :: ws)) r) Q X = _
  simp only [z_wp_bind, z_wp_pure]
theorem z_looks0 {r} : looks r [] = some [] := rfl
theorem z_op_looks {r v vs K} : Op0 (looks r (v :: vs)) K = Lk0 r v fun d => Op0 (looks r vs) fun ds => K (d :: ds) := by
  show Op0 (match look r v, looks r vs with | some d, some ds => some (d :: ds) | _, _ => none) K = _
  unfold Lk0
  cases look r v with
  | none => rfl
  | some d => cases looks r vs <;> rfl
end
/-- a def is run -/
theorem z_cwp_run {call : CallT} {fn : Fn} {args : List Slot} {Q X} : CWp0 (runFn call fn args) Q X = Wp0 (evSs call fn.body (args ++ List.replicate (fn.nl - fn.np) .no)) (fun fl r => match fl with
    | .ret rv => outsOk fn.fl r = true ∧ (match rv with
      | .bor i => Op0 (r[i]?) fun s => (match s with
        | .box xs => if i < fn.np then Q (.val (.lst xs)) ((r.set i (.val (.lst xs))).take fn.np) else Q (.own xs) (r.take fn.np)
        | .val d => Q (.val d) (r.take fn.np)
        | _ => False)
      | rv => Q rv (r.take fn.np))
    | .next => Q (.val .non) (r.take fn.np)
    | _ => False) (fun e _ => X e) := by
  unfold runFn
  cases evSs call fn.body (args ++ List.replicate (fn.nl - fn.np) .no) with
  | stuck => rfl
  | exc e r => rfl
  | ok fl r =>
    cases fl with
    | ret rv =>
      dsimp only [z_wp_ok]
      by_cases h : outsOk fn.fl r = true
      · rw [if_pos h, eq_iff_iff]
        simp only [h, true_and]
        cases rv with
        | bor i =>
          dsimp only
          cases r[i]? with
          | none => rfl
          | some s =>
            cases s with
            | box xs => dsimp only [z_op_some]; split <;> rfl
            | _ => rfl
        | _ => rfl
      · rw [if_neg h, eq_iff_iff]; simp [h, CWp0]
    | _ => rfl
theorem z_cwp_callF {T : List (Str × Fn)} {n : Nat} {f : Str} {fn : Fn} {args : List Slot} {Q X} (h : T.lookup f = some fn) (hl : args.length = fn.np) : CWp0 (callF T (n + 1) f args) Q X = CWp0 (runFn (callF T n) fn args) Q X := by
  show CWp0 (match T.lookup f with | some fn => if args.length = fn.np then runFn (callF T n) fn args else .stuck | none => .stuck) Q X = _
  rw [h]
  dsimp only
  rw [if_pos hl]
/-! ### loops -/
/-- a comprehension that changes nothing -/
theorem z_wp_compL_map {tg own lk turn ds r Q X} (g : D → Option D) (h : ∀ d ∈ ds, ∃ r1, asgT tg d r = some r1 ∧ Wp0 (turn r1) (fun o r2 => o = g d ∧ lockOk lk r2 = true ∧ wipeE own r2 = r) (fun _ _ => False)) (q : Q (ds.filterMap g) r) : Wp0 (compL tg own lk turn ds r) Q X := by
  have : compL tg own lk turn ds r = .ok (ds.filterMap g) r := by
    clear q
    induction ds with
    | nil => rfl
    | cons d ds ih =>
      obtain ⟨r1, h1, h2⟩ := h d List.mem_cons_self
      have ih := ih fun d hd => h d (List.mem_cons_of_mem _ hd)
      unfold compL
      rw [h1]
      dsimp only
      revert h2
      cases turn r1 with
      | stuck => exact fun z => z.elim
      | exc e r => exact fun z => z.elim
      | ok o r2 =>
        rintro ⟨rfl, h3, h4⟩
        dsimp only
        rw [if_pos h3, h4, ih]
        dsimp only
        congr 1
        rw [List.filterMap_cons]
        cases g d <;> rfl
  rw [this]
  exact q
/-- .. with a state -/
theorem z_wp_compL_inv {tg own lk turn X} (I : List D → List D → Env → Prop) : ∀ {ds acc r} {Q : List D → Env → Prop}, I ds acc r → (∀ d ds acc r, I (d :: ds) acc r → ∃ r1, asgT tg d r = some r1 ∧ Wp0 (turn r1) (fun o r2 => lockOk lk r2 = true ∧ I ds (acc ++ o.toList) (wipeE own r2)) X) → (∀ xs r, I [] (acc ++ xs) r → Q xs r) → Wp0 (compL tg own lk turn ds r) Q X
  | [], acc, r, Q, h, _, q => q [] r (by rw [List.append_nil]; exact h)
  | d :: ds, acc, r, Q, h, st, q => by
    obtain ⟨r1, h1, h2⟩ := st d ds acc r h
    unfold compL
    rw [h1]
    dsimp only
    revert h2
    cases turn r1 with
    | stuck => exact fun z => z.elim
    | exc e r => exact fun z => z
    | ok o r2 =>
      rintro ⟨h3, h4⟩
      dsimp only
      rw [if_pos h3]
      have := z_wp_compL_inv I (Q := fun xs r => Q (o.toList ++ xs) r) h4 st (fun xs r h => q _ _ (by rw [← List.append_assoc]; exact h))
      revert this
      cases compL tg own lk turn ds (wipeE own r2) with
      | stuck => exact id
      | exc e r => exact id
      | ok xs r3 => exact id
theorem z_wp_forL_inv {tg} {body : M Flow} {X} {Q : Flow → Env → Prop} (I : List D → Env → Prop) (st : ∀ d ds r, I (d :: ds) r → ∃ r1, asgT tg d r = some r1 ∧ Wp0 (body r1) (fun fl r2 => match fl with | .next => I ds r2 | .cont => I ds r2 | .brk => Q .next r2 | .ret v => Q (.ret v) r2) X) (q : ∀ r, I [] r → Q .next r) : ∀ {ds r}, I ds r → Wp0 (forL tg body ds r) Q X
  | [], r, h => q r h
  | d :: ds, r, h => by
    obtain ⟨r1, h1, h2⟩ := st d ds r h
    unfold forL
    rw [h1]
    dsimp only
    revert h2
    cases body r1 with
    | stuck => exact fun z => z.elim
    | exc e r => exact fun z => z
    | ok fl r2 =>
      cases fl with
      | next => exact fun z => z_wp_forL_inv I st q z
      | cont => exact fun z => z_wp_forL_inv I st q z
      | brk => exact fun z => z
      | ret v => exact fun z => z
inductive Dep {α : Sort _} (a : α) : Type where
  | mk
def Wp {α : Type} (x : Res α) (Q : α → Env → Prop) (X : Exc → Env → Prop) (_ : Dep (Q, X) := .mk) : Prop := Wp0 x Q X
def CWp (x : CRes) (Q : RV → List Slot → Prop) (X : Exc → Prop) (_ : Dep (Q, X) := .mk) : Prop := CWp0 x Q X
def Op {α : Type} (o : Option α) (K : α → Prop) (_ : Dep K := .mk) : Prop := Op0 o K
def Lk (r : Env) (v : RV) (K : D → Prop) (_ : Dep K := .mk) : Prop := Lk0 r v K
def Br (t : Bool) (a b : Prop) (_ : Dep (a, b) := .mk) : Prop := if t = true then a else b
theorem br_t {a b : Prop} : Br true a b = a := rfl
theorem br_f {a b : Prop} : Br false a b = b := rfl
theorem br_of {t : Bool} {a b : Prop} (h1 : t = true → a) (h2 : t = false → b) : Br t a b := by
  cases t
  · exact h2 rfl
  · exact h1 rfl

theorem op_some {α : Type} {a : α} {K : α → Prop} : Op (some a) K = K a := z_op_some
theorem op_none {α : Type} {K : α → Prop} : Op (none : Option α) K = False := z_op_none
theorem op_ite {α : Type} {c : Prop} [Decidable c] {a : Option α} {K : α → Prop} : Op (if c then a else none) K = (c ∧ Op a K) := z_op_ite
theorem op_map {α β : Type} {f : α → β} {a : Option α} {K : β → Prop} : Op (a.map f) K = Op a (fun x => K (f x)) := z_op_map
theorem op_bind {α β : Type} {f : α → Option β} {a : Option α} {K : β → Prop} : Op (a.bind f) K = Op a (fun x => Op (f x) K) := z_op_bind
theorem wp_ok {α : Type} {a : α} {r Q X} : Wp (.ok a r) Q X = Q a r := z_wp_ok
theorem wp_exc {α : Type} {e r} {Q : α → Env → Prop} {X} : Wp (.exc e r) Q X = X e r := z_wp_exc
theorem wp_stuck {α : Type} {Q : α → Env → Prop} {X} : Wp .stuck Q X = False := z_wp_stuck
theorem wp_bind {α β : Type} {m : M α} {f : α → M β} {r Q X} : Wp ((m >>= f) r) Q X = Wp (m r) (fun a r' => Wp (f a r') Q X) X := z_wp_bind
theorem wp_pure {α : Type} {a : α} {r Q X} : Wp ((M.pure a : M α) r) Q X = Q a r := z_wp_pure
theorem wp_pure' {α : Type} {a : α} {r Q X} : Wp ((pure a : M α) r) Q X = Q a r := z_wp_pure'
theorem wp_liftO {α : Type} {o : Option α} {r Q X} : Wp (liftO o r) Q X = Op o fun a => Q a r := z_wp_liftO
theorem wp_look {α : Type} {v : RV} {k : D → M α} {r Q X} : Wp (withLook v k r) Q X = Lk r v fun d => Wp (k d r) Q X := z_wp_look
theorem wp_looks {α : Type} {v : List RV} {k : List D → M α} {r Q X} : Wp (withLooks v k r) Q X = Op (looks r v) fun d => Wp (k d r) Q X := z_wp_looks
theorem wp_mono {α : Type} {x : Res α} {Q Q' : α → Env → Prop} {X X'} (h : Wp x Q X) (hq : ∀ a r, Q a r → Q' a r) (hx : ∀ e r, X e r → X' e r) : Wp x Q' X' := z_wp_mono h hq hx
theorem cwp_mono {x : CRes} {Q Q' : RV → List Slot → Prop} {X X' : Exc → Prop} (h : CWp x Q X) (hq : ∀ a r, Q a r → Q' a r) (hx : ∀ e, X e → X' e) : CWp x Q' X' := z_cwp_mono h hq hx
theorem cwp_ret {v o Q X} : CWp (.ret v o) Q X = Q v o := z_cwp_ret
theorem cwp_exc {e Q X} : CWp (.exc e) Q X = X e := z_cwp_exc
theorem lk_val {r d K} : Lk r (.val d) K = K d := z_lk_val
theorem lk_own {r d K} : Lk r (.own d) K = K (.lst d) := z_lk_own
theorem lk_bor {r i K} : Lk r (.bor i) K = Op (match r[i]? with | some (.box xs) => some (.lst xs) | some (.val d) => some d | _ => none) K := z_lk_bor
section
variable {call : CallT}
theorem wp_var {i r Q X} : Wp (evE call (.var i) r) Q X = Op (r[i]?) fun s => (match s with | .val d => Q (.val d) r | .box _ => Q (.bor i) r | _ => False) := z_wp_var
theorem wp_cst {d r Q X} : Wp (evE call (.cst d) r) Q X = Q (.val d) r := z_wp_cst
theorem wp_glo {x d r Q X} : Wp (evE call (.glo x d) r) Q X = Q (.val d) r := z_wp_glo
theorem wp_tup {es r Q X} : Wp (evE call (.tup es) r) Q X = Wp (evEs call es r) (fun vs r1 => Wp (toDs vs r1) (fun ds r2 => Q (.val (.tup ds)) r2) X) X := z_wp_tup
theorem wp_lst {es r Q X} : Wp (evE call (.lst es) r) Q X = Wp (evEs call es r) (fun vs r1 => Wp (toDs vs r1) (fun ds r2 => Q (.own ds) r2) X) X := z_wp_lst
theorem wp_ds0 {fl r Q X} : Wp (evDs call fl [] r) Q X = Q [] r := z_wp_ds0
theorem wp_ds1 {fl e es r Q X} : Wp (evDs call fl (e :: es) r) Q X = Wp (evE call e r) (fun v r1 => Wp (toD v r1) (fun d r2 => Op (starD (fl.headD false) d) fun xs => Wp (evDs call fl.tail es r2) (fun ds r3 => Q (xs ++ ds) r3) X) X) X := z_wp_ds1
theorem wp_tupS {fl es r Q X} : Wp (evE call (.tupS fl es) r) Q X = Wp (evDs call fl es r) (fun ds r1 => ds.length ≤ sizeLine ∧ Q (.val (.tup ds)) r1) X := z_wp_tupS
theorem wp_lstS {fl es r Q X} : Wp (evE call (.lstS fl es) r) Q X = Wp (evDs call fl es r) (fun ds r1 => ds.length ≤ sizeLine ∧ Q (.own ds) r1) X := z_wp_lstS
theorem wp_bin {op a b r Q X} : Wp (evE call (.bin op a b) r) Q X = Wp (evE call a r) (fun x r1 => Wp (evE call b r1) (fun y r2 => Lk r2 x fun d => Lk r2 y fun e => Op (binOp op d e) fun v => Q v r2) X) X := z_wp_bin
theorem wp_neg {a r Q X} : Wp (evE call (.neg a) r) Q X = Wp (evE call a r) (fun x r1 => Lk r1 x fun d => Op (negOp d) fun v => Q (.val v) r1) X := z_wp_neg
theorem wp_not {a r Q X} : Wp (evE call (.not a) r) Q X = Wp (evE call a r) (fun x r1 => Lk r1 x fun d => Op (truD d) fun v => Q (.val (.bl (!v))) r1) X := z_wp_not
theorem wp_cmp {op a b r Q X} : Wp (evE call (.cmp op a b) r) Q X = Wp (evE call a r) (fun x r1 => Wp (evE call b r1) (fun y r2 => Lk r2 x fun d => Lk r2 y fun e => Op (cmpOp op d e) fun v => Q (.val (.bl v)) r2) X) X := z_wp_cmp
theorem wp_cmp2 {op op' a b c r Q X} : Wp (evE call (.cmp2 op op' a b c) r) Q X = Wp (evE call a r) (fun x r1 => Wp (evE call b r1) (fun y r2 => Lk r2 x fun d => Lk r2 y fun e => Op (cmpOp op d e) fun t => Br t (Wp (evE call c r2) (fun z r3 => Lk r3 y fun e => Lk r3 z fun f => Op (cmpOp op' e f) fun v => Q (.val (.bl v)) r3) X) (Q (.val (.bl false)) r2)) X) X := z_wp_cmp2
theorem wp_and {a b r Q X} : Wp (evE call (.and a b) r) Q X = Wp (evE call a r) (fun x r1 => Lk r1 x fun d => Op (truD d) fun t => Br t (Wp (evE call b r1) Q X) (Q x r1)) X := z_wp_and
theorem wp_or {a b r Q X} : Wp (evE call (.or a b) r) Q X = Wp (evE call a r) (fun x r1 => Lk r1 x fun d => Op (truD d) fun t => Br t (Q x r1) (Wp (evE call b r1) Q X)) X := z_wp_or
theorem wp_ite {c a b r Q X} : Wp (evE call (.ite c a b) r) Q X = Wp (evE call c r) (fun x r1 => Lk r1 x fun d => Op (truD d) fun t => Br t (Wp (evE call a r1) Q X) (Wp (evE call b r1) Q X)) X := z_wp_ite
theorem wp_idx {a i r Q X} : Wp (evE call (.idx a i) r) Q X = Wp (evE call a r) (fun x r1 => Wp (evE call i r1) (fun y r2 => Lk r2 x fun d => Lk r2 y fun e => Op (idxOp d e) fun v => Q (.val v) r2) X) X := z_wp_idx
theorem wp_sli {a lo hi r Q X} : Wp (evE call (.sli a lo hi) r) Q X = Wp (evE call a r) (fun x r1 => Wp (evO call lo r1) (fun l r2 => Wp (evO call hi r2) (fun h r3 => Lk r3 x fun d => Op (sliI d l h) fun v => Q v r3) X) X) X := z_wp_sli
theorem wp_rev {a r Q X} : Wp (evE call (.rev a) r) Q X = Wp (evE call a r) (fun x r1 => Lk r1 x fun d => Op (revOp d) fun v => Q v r1) X := z_wp_rev
theorem wp_onone {r Q X} : Wp (evO call none r) Q X = Q none r := z_wp_onone
theorem wp_osome {e r Q X} : Wp (evO call (some e) r) Q X = Wp (evE call e r) (fun x r1 => Lk r1 x fun d => Op (partI d) fun i => Q (some i) r1) X := z_wp_osome
theorem wp_nil {r Q X} : Wp (evEs call [] r) Q X = Q [] r := z_wp_nil
theorem wp_cons {e es r Q X} : Wp (evEs call (e :: es) r) Q X = Wp (evE call e r) (fun v r1 => Wp (evEs call es r1) (fun vs r2 => Q (v :: vs) r2) X) X := z_wp_cons
theorem wp_bi {b es r Q X} : Wp (evE call (.bi b es) r) Q X = Wp (evEs call es r) (fun vs r1 => Op (looks r1 vs) fun ds => Op (biOp b ds) fun v => Q v r1) X := z_wp_bi
theorem wp_call {f fl es r Q X} : Wp (evE call (.call f fl es) r) Q X = Wp (evEs call es r) (fun vs r1 => Wp (doCall call f fl vs r1) Q X) X := z_wp_call
theorem wp_callk {f fl es p r Q X} : Wp (evE call (.callk f fl es p) r) Q X = Wp (evEs call es r) (fun vs r1 => nodupB p = true ∧ Op (permL vs p) fun zs => Wp (doCall call f fl zs r1) Q X) X := z_wp_callk
theorem wp_callv {i fls es r Q X} : Wp (evE call (.callv i fls es) r) Q X = Op (r[i]?) fun s => (match s with | .val (.fn f) => Op (fls.lookup f) fun fl => Wp (evEs call es r) (fun vs r1 => Wp (doCall call f fl vs r1) Q X) X | _ => False) := z_wp_callv
theorem wp_doCall {f fl vs r Q X} : Wp (doCall call f fl vs r) Q X = Wp (passArgs fl vs r) (fun ss r1 => (nodupB (lent fl vs) && (lent fl vs).all (isMut r1)) = true ∧ CWp (call f ss) (fun rv outs => outs.length = ss.length ∧ noBor rv ∧ Q rv (giveBack fl vs outs r1)) (fun e => (lent fl vs).isEmpty = true ∧ X e r1)) X := z_wp_doCall
theorem wp_app {i e r Q X} : Wp (evE call (.app i e) r) Q X = (isMut r i = true ∧ Wp (evE call e r) (fun v r1 => Wp (toD v r1) (fun d r2 => Op (r2[i]?) fun s => match s with | .box xs => xs.length < sizeLine ∧ Q (.val .non) (r2.set i (.box (xs ++ [d]))) | _ => False) X) X) := z_wp_app
theorem wp_popAt {i e r Q X} : Wp (evE call (.popAt i e) r) Q X = (isMut r i = true ∧ Wp (evE call e r) (fun v r1 => Lk r1 v fun d => Op (r1[i]?) fun s => match s, d with | .box xs, .int k => small62 k = true ∧ Op (atIx xs.length k) fun k => Op (xs[k]?) fun x => Q (.val x) (r1.set i (.box (xs.eraseIdx k))) | _, _ => False) X) := z_wp_popAt
theorem wp_comp {elt tg it ifs own r Q X} : Wp (evE call (.comp elt tg it ifs own) r) Q X = Wp (evIt call it r) (fun p r0 => (p.2.all fun p => !own.contains p.1) = true ∧ Wp (compL tg own p.2 (turnC call elt ifs) p.1 (wipeE own r0)) (fun xs r1 => Q (.own xs) (restE own r0 r1)) (fun x r1 => X x (restE own r0 (wipeE own r1)))) X := z_wp_comp
theorem wp_turn {elt ifs r Q X} : Wp (turnC call elt ifs r) Q X = Wp (evIfs call ifs r) (fun b r1 => Br b (Wp (evE call elt r1) (fun v r2 => Wp (toD v r2) (fun d r3 => Q (some d) r3) X) X) (Q none r1)) X := z_wp_turn
theorem wp_ifs0 {r Q X} : Wp (evIfs call [] r) Q X = Q true r := z_wp_ifs0
theorem wp_ifs1 {e es r Q X} : Wp (evIfs call (e :: es) r) Q X = Wp (evE call e r) (fun x r1 => Lk r1 x fun d => Op (truD d) fun t => Br t (Wp (evIfs call es r1) Q X) (Q false r1)) X := z_wp_ifs1
theorem wp_seq {e r Q X} : Wp (evIt call (.seq e) r) Q X = Wp (evE call e r) (fun v r1 => Lk r1 v fun d => Op (itemsD d) fun ds => Q (ds, lockOf r1 v) r1) X := z_wp_seq
theorem wp_rng {es r Q X} : Wp (evIt call (.rng es) r) Q X = Wp (evEs call es r) (fun vs r1 => Op (looks r1 vs) fun ds => Op (rngOf ds) fun xs => Q (xs, []) r1) X := z_wp_rng
theorem wp_zip {es r Q X} : Wp (evIt call (.zip es) r) Q X = Wp (evEs call es r) (fun vs r1 => Op (looks r1 vs) fun ds => Op (match ds with | [d, e] => zipD d e | _ => none) fun xs => Q (xs, locksOf r1 vs) r1) X := z_wp_zip
theorem wp_enum {es r Q X} : Wp (evIt call (.enum es) r) Q X = Wp (evEs call es r) (fun vs r1 => Op (looks r1 vs) fun ds => Op (match ds with | [.lst xs] => some xs | [.scr xs] => some xs | _ => none) fun xs => Q (enumD xs, locksOf r1 vs) r1) X := z_wp_enum
theorem wp_evT {e r Q X} : Wp (evT call e r) Q X = Wp (evE call e r) (fun v r1 => Lk r1 v fun d => Op (truD d) fun b => Q b r1) X := z_wp_evT
theorem wp_expr {e r Q X} : Wp (evS call (.expr e) r) Q X = Wp (evE call e r) (fun _ r1 => Q .next r1) X := z_wp_expr
theorem wp_asg {i e r Q X} : Wp (evS call (.asg (.name i) e) r) Q X = Wp (evE call e r) (fun v r1 => Op (asgRV i v r1) fun r2 => Q .next r2) X := z_wp_asg
theorem wp_asgt {ts e r Q X} : Wp (evS call (.asg (.tup ts) e) r) Q X = Wp (evE call e r) (fun v r1 => Wp (toD v r1) (fun d r2 => Op (asgT (.tup ts) d r2) fun r3 => Q .next r3) X) X := z_wp_asgt
theorem wp_par {is es r Q X} : Wp (evS call (.par is es) r) Q X = Wp (evEs call es r) (fun vs r1 => Wp (solid vs r1) (fun ws r2 => Op (parAsg is ws r2) fun r3 => Q .next r3) X) X := z_wp_par
theorem wp_asgI {i ix e r Q X} : Wp (evS call (.asgI i ix e) r) Q X = Wp (evE call e r) (fun v r1 => Wp (toD v r1) (fun d r2 => isMut r2 i = true ∧ Wp (evE call ix r2) (fun k r3 => Lk r3 k fun kd => Op (r3[i]?) fun s => match s, kd with | .box xs, .int k => Op (atIx xs.length k) fun k => Q .next (r3.set i (.box (xs.set k d))) | _, _ => False) X) X) X := z_wp_asgI
theorem wp_ret {e r Q X} : Wp (evS call (.ret e) r) Q X = Wp (evE call e r) (fun v r1 => Q (.ret v) r1) X := z_wp_ret
theorem wp_ret0 {r Q X} : Wp (evS call .ret0 r) Q X = Q (.ret (.val .non)) r := z_wp_ret0
theorem wp_pass {r Q X} : Wp (evS call .pass r) Q X = Q .next r := z_wp_pass
theorem wp_cont {r Q X} : Wp (evS call .cont r) Q X = Q .cont r := z_wp_cont
theorem wp_brk {r Q X} : Wp (evS call .brk r) Q X = Q .brk r := z_wp_brk
theorem wp_ifs {c a b r Q X} : Wp (evS call (.ifs c a b) r) Q X = Wp (evE call c r) (fun v r1 => Lk r1 v fun d => Op (truD d) fun t => Br t (Wp (evSs call a r1) Q X) (Wp (evSs call b r1) Q X)) X := z_wp_ifs
theorem wp_for {tg it body r Q X} : Wp (evS call (.for_ tg it body) r) Q X = Wp (evIt call it r) (fun p r0 => Wp (forL tg (evSs call body) p.1 (shareL p.2 r0)) Q X) X := z_wp_for
theorem wp_while {c body r Q X} : Wp (evS call (.while_ c body) r) Q X = Wp (whileL (evT call c) (evSs call body) loopMost r) Q X := z_wp_while
theorem wp_raise {c ns es r Q X} : Wp (evS call (.raise c ns es) r) Q X = Wp (evEs call es r) (fun vs r1 => Wp (toDs vs r1) (fun ds r2 => X ⟨c, ns, ds⟩ r2) X) X := z_wp_raise
theorem wp_snil {r Q X} : Wp (evSs call [] r) Q X = Q .next r := z_wp_snil
theorem wp_scons {s ss r Q X} : Wp (evSs call (s :: ss) r) Q X = Wp (evS call s r) (fun fl r1 => match fl with | .next => Wp (evSs call ss r1) Q X | o => Q o r1) X := z_wp_scons
theorem wp_toval {d r Q X} : Wp (toD (.val d) r) Q X = Q d r := z_wp_toval
theorem wp_toown {d r Q X} : Wp (toD (.own d) r) Q X = Q (.lst d) r := z_wp_toown
theorem wp_tobor {i r Q X} : Wp (toD (.bor i) r) Q X = Op (r[i]?) fun s => match s with | .box xs => Q (.lst xs) (r.set i (.val (.lst xs))) | .val d => Q d r | _ => False := z_wp_tobor
theorem wp_tonil {r Q X} : Wp (toDs [] r) Q X = Q [] r := z_wp_tonil
theorem wp_tocons {v vs r Q X} : Wp (toDs (v :: vs) r) Q X = Wp (toD v r) (fun d r1 => Wp (toDs vs r1) (fun ds r2 => Q (d :: ds) r2) X) X := z_wp_tocons
theorem wp_pa0 {r Q X} : Wp (passArgs [] [] r) Q X = Q [] r := z_wp_pa0
theorem wp_paf {bs v vs r Q X} : Wp (passArgs (false :: bs) (v :: vs) r) Q X = Wp (toD v r) (fun d r1 => Wp (passArgs bs vs r1) (fun ss r2 => Q (.val d :: ss) r2) X) X := z_wp_paf
theorem wp_pao {bs xs vs r Q X} : Wp (passArgs (true :: bs) (.own xs :: vs) r) Q X = Wp (passArgs bs vs r) (fun ss r2 => Q (.box xs :: ss) r2) X := z_wp_pao
theorem wp_pab {bs i vs r Q X} : Wp (passArgs (true :: bs) (.bor i :: vs) r) Q X = Op (r[i]?) fun s => match s with | .box xs => Wp (passArgs bs vs r) (fun ss r2 => Q (.box xs :: ss) r2) X | _ => False := z_wp_pab
theorem wp_so0 {r Q X} : Wp (solid [] r) Q X = Q [] r := z_wp_so0
theorem wp_sob {i vs r Q X} : Wp (solid (.bor i :: vs) r) Q X = Wp (toD (.bor i) r) (fun d r1 => Wp (solid vs r1) (fun ws r2 => Q (.val d :: ws) r2) X) X := z_wp_sob
theorem wp_sov {d vs r Q X} : Wp (solid (.val d :: vs) r) Q X = Wp (solid vs r) (fun ws r2 => Q (.val d :: ws) r2) X := z_wp_sov
theorem wp_soo {d vs r Q X} : Wp (solid (.own d :: vs) r) Q X = Wp (solid vs r) (fun ws r2 => Q (.own d :: ws) r2) X := z_wp_soo
theorem looks0 {r} : looks r [] = some [] := z_looks0
theorem op_looks {r v vs K} : Op (looks r (v :: vs)) K = Lk r v fun d => Op (looks r vs) fun ds => K (d :: ds) := z_op_looks
end
theorem cwp_run {call : CallT} {fn : Fn} {args : List Slot} {Q X} : CWp (runFn call fn args) Q X = Wp (evSs call fn.body (args ++ List.replicate (fn.nl - fn.np) .no)) (fun fl r => match fl with
    | .ret rv => outsOk fn.fl r = true ∧ (match rv with
      | .bor i => Op (r[i]?) fun s => (match s with
        | .box xs => if i < fn.np then Q (.val (.lst xs)) ((r.set i (.val (.lst xs))).take fn.np) else Q (.own xs) (r.take fn.np)
        | .val d => Q (.val d) (r.take fn.np)
        | _ => False)
      | rv => Q rv (r.take fn.np))
    | .next => Q (.val .non) (r.take fn.np)
    | _ => False) (fun e _ => X e) := z_cwp_run
theorem cwp_callF {T : List (Str × Fn)} {n : Nat} {f : Str} {fn : Fn} {args : List Slot} {Q X} (h : T.lookup f = some fn) (hl : args.length = fn.np) : CWp (callF T (n + 1) f args) Q X = CWp (runFn (callF T n) fn args) Q X := z_cwp_callF h hl
theorem wp_compL_map {tg own lk turn ds r Q X} (g : D → Option D) (h : ∀ d ∈ ds, ∃ r1, asgT tg d r = some r1 ∧ Wp (turn r1) (fun o r2 => o = g d ∧ lockOk lk r2 = true ∧ wipeE own r2 = r) (fun _ _ => False)) (q : Q (ds.filterMap g) r) : Wp (compL tg own lk turn ds r) Q X := z_wp_compL_map g h q
theorem wp_compL_inv {tg own lk turn X} (I : List D → List D → Env → Prop) : ∀ {ds acc r} {Q : List D → Env → Prop}, I ds acc r → (∀ d ds acc r, I (d :: ds) acc r → ∃ r1, asgT tg d r = some r1 ∧ Wp (turn r1) (fun o r2 => lockOk lk r2 = true ∧ I ds (acc ++ o.toList) (wipeE own r2)) X) → (∀ xs r, I [] (acc ++ xs) r → Q xs r) → Wp (compL tg own lk turn ds r) Q X := z_wp_compL_inv I
theorem wp_forL_inv {tg} {body : M Flow} {X} {Q : Flow → Env → Prop} (I : List D → Env → Prop) (st : ∀ d ds r, I (d :: ds) r → ∃ r1, asgT tg d r = some r1 ∧ Wp (body r1) (fun fl r2 => match fl with | .next => I ds r2 | .cont => I ds r2 | .brk => Q .next r2 | .ret v => Q (.ret v) r2) X) (q : ∀ r, I [] r → Q .next r) : ∀ {ds r}, I ds r → Wp (forL tg body ds r) Q X := z_wp_forL_inv I st q
end Ev

-- part EvD
set_option maxHeartbeats 200000
namespace Ev
open PySem
theorem bi_len1 {x} : biOp .len [.str x] = if x.length ≤ sizeLine then some (.val (.int x.length)) else none := rfl
theorem bi_len2 {x} : biOp .len [.tup x] = some (.val (.int x.length)) := rfl
theorem bi_len3 {x} : biOp .len [.lst x] = some (.val (.int x.length)) := rfl
theorem bi_len4 {x} : biOp .len [.scr x] = some (.val (.int x.length)) := rfl
theorem bi_abs {i} : biOp .abs [.int i] = some (.val (.int (if i < 0 then -i else i))) := rfl
theorem bi_int1 {i} : biOp .int [.int i] = some (.val (.int i)) := rfl
theorem bi_int2 {b : Bool} : biOp .int [.bl b] = some (.val (.int (if b = true then 1 else 0))) := rfl
theorem bi_tup1 {x} : biOp .tuple [.tup x] = some (.val (.tup x)) := rfl
theorem bi_tup2 {x} : biOp .tuple [.lst x] = some (.val (.tup x)) := rfl
theorem bi_lst1 {x} : biOp .list [.tup x] = some (.own x) := rfl
theorem bi_lst2 {x} : biOp .list [.lst x] = some (.own x) := rfl
theorem bi_min2 {i j : Int} : biOp .min2 [.int i, .int j] = some (.val (.int (if j < i then j else i))) := rfl
theorem bi_max2 {i j : Int} : biOp .max2 [.int i, .int j] = some (.val (.int (if j > i then j else i))) := rfl
theorem bi_zipT {x y} : biOp .zipT [.lst x, .lst y] = some (.val (.tup (pairsD x y))) := rfl
theorem bi_isi {ts d} : biOp (.isi ts) [d] = (tyD d).map fun t => .val (.bl (ts.any fun u => subTy t u)) := rfl
theorem boolsD_map : ∀ xs : List Bool, boolsD (xs.map D.bl) = some xs
  | [] => rfl
  | x :: xs => by
    show (boolsD (xs.map D.bl)).map (x :: ·) = _
    rw [boolsD_map xs]; rfl
theorem intsD_map : ∀ xs : List Int, intsD (xs.map D.int) = some xs
  | [] => rfl
  | x :: xs => by
    show (intsD (xs.map D.int)).map (x :: ·) = _
    rw [intsD_map xs]; rfl
theorem bi_all {xs : List Bool} : biOp .all [.lst (xs.map D.bl)] = some (.val (.bl (xs.all id))) := by
  simp only [biOp, boolsD_map, Option.map_some]
theorem bi_any {xs : List Bool} : biOp .any [.lst (xs.map D.bl)] = some (.val (.bl (xs.any id))) := by
  simp only [biOp, boolsD_map, Option.map_some]
theorem bi_sum {xs : List Int} : biOp .sum [.lst (xs.map D.int)] = some (.val (.int xs.sum)) := by
  simp only [biOp, intsD_map, Option.map_some]
mutual
theorem eqb_refl : ∀ d : D, D.eqb d d = true
  | .non => rfl
  | .bl b => by simp [D.eqb]
  | .int i => by simp [D.eqb]
  | .str x => by simp [D.eqb]
  | .tup xs => by rw [D.eqb]; exact eqbs_refl xs
  | .lst xs => by rw [D.eqb]; exact eqbs_refl xs
  | .scr xs => by rw [D.eqb]; exact eqbs_refl xs
  | .fn x => by simp [D.eqb]
  | .cls x => by simp [D.eqb]
  | .ty x => by simp [D.eqb]
  | .exc a b c => by rw [D.eqb, eqbs_refl c]; simp
theorem eqbs_refl : ∀ d : List D, D.eqbs d d = true
  | [] => rfl
  | x :: xs => by rw [D.eqbs, eqb_refl x, eqbs_refl xs]; rfl
end
theorem lockNil {r} : lockOk [] r = true := rfl
theorem lockBox {i xs r} : lockOk [(i, xs)] r = (match r[i]? with
  | some (.box ys) => D.eqbs ys xs
  | some (.val (.lst ys)) => D.eqbs ys xs
  | _ => false) := by
  simp only [lockOk, List.all_cons, List.all_nil, Bool.and_true] <;> rfl
theorem eqOp_str {x y : Str} : eqOp (.str x) (.str y) = some (x == y) := by simp [eqOp, flatEq, scalD, eqD]
theorem eqOp_int {x y : Int} : eqOp (.int x) (.int y) = some (x == y) := by simp [eqOp, flatEq, scalD, eqD]
theorem eqOp_bl {x y : Bool} : eqOp (.bl x) (.bl y) = some (x == y) := by simp [eqOp, flatEq, scalD, eqD]
theorem sb_int_int : subTy "int" "int" = true := by decide
theorem sb_int_bool : subTy "int" "bool" = false := by decide
theorem sb_int_str : subTy "int" "str" = false := by decide
theorem sb_int_list : subTy "int" "list" = false := by decide
theorem sb_int_tuple : subTy "int" "tuple" = false := by decide
theorem sb_bool_int : subTy "bool" "int" = true := by decide
theorem sb_bool_bool : subTy "bool" "bool" = true := by decide
theorem sb_bool_str : subTy "bool" "str" = false := by decide
theorem sb_bool_list : subTy "bool" "list" = false := by decide
theorem sb_bool_tuple : subTy "bool" "tuple" = false := by decide
theorem sb_str_int : subTy "str" "int" = false := by decide
theorem sb_str_bool : subTy "str" "bool" = false := by decide
theorem sb_str_str : subTy "str" "str" = true := by decide
theorem sb_str_list : subTy "str" "list" = false := by decide
theorem sb_str_tuple : subTy "str" "tuple" = false := by decide
theorem sb_tuple_int : subTy "tuple" "int" = false := by decide
theorem sb_tuple_bool : subTy "tuple" "bool" = false := by decide
theorem sb_tuple_str : subTy "tuple" "str" = false := by decide
theorem sb_tuple_list : subTy "tuple" "list" = false := by decide
theorem sb_tuple_tuple : subTy "tuple" "tuple" = true := by decide
theorem sb_list_int : subTy "list" "int" = false := by decide
theorem sb_list_bool : subTy "list" "bool" = false := by decide
theorem sb_list_str : subTy "list" "str" = false := by decide
theorem sb_list_list : subTy "list" "list" = true := by decide
theorem sb_list_tuple : subTy "list" "tuple" = false := by decide
theorem sb_NoneType_int : subTy "NoneType" "int" = false := by decide
theorem sb_NoneType_bool : subTy "NoneType" "bool" = false := by decide
theorem sb_NoneType_str : subTy "NoneType" "str" = false := by decide
theorem sb_NoneType_list : subTy "NoneType" "list" = false := by decide
theorem sb_NoneType_tuple : subTy "NoneType" "tuple" = false := by decide
theorem zip_ll {xs ys} : zipD (.lst xs) (.lst ys) = some (pairsD xs ys) := rfl
theorem zip_tt {xs ys} : zipD (.tup xs) (.tup ys) = some (pairsD xs ys) := rfl
theorem cwp_runM {call : CallT} {np nl : Nat} {fl : List Bool} {body : List St} {args : List Slot} {Q X} : CWp (runFn call ⟨np, nl, fl, body⟩ args) Q X = Wp (evSs call body (args ++ List.replicate (nl - np) .no)) (fun f r => match f with
    | .ret rv => outsOk fl r = true ∧ (match rv with
      | .bor i => Op (r[i]?) fun s => (match s with
        | .box xs => if i < np then Q (.val (.lst xs)) ((r.set i (.val (.lst xs))).take np) else Q (.own xs) (r.take np)
        | .val d => Q (.val d) (r.take np)
        | _ => False)
      | rv => Q rv (r.take np))
    | .next => Q (.val .non) (r.take np)
    | _ => False) (fun e _ => X e) := cwp_run
theorem st_f {d} : starD false d = some [d] := rfl
theorem st_tt {xs} : starD true (.tup xs) = some xs := rfl
theorem st_tl {xs} : starD true (.lst xs) = some xs := rfl
local macro_rules | `(tactic| bv_omega) => `(tactic| simp (maxSteps := 1000000) (dsimp := false) only [↓cwp_runM, ↓cwp_ret, ↓br_t, ↓br_f, ↓wp_ok, ↓wp_exc, ↓wp_stuck, ↓wp_bind, ↓wp_pure, ↓wp_var, ↓wp_cst, ↓wp_glo, ↓wp_tup, ↓wp_lst, ↓wp_bin, ↓wp_tupS, ↓wp_lstS, ↓wp_ds0, ↓wp_ds1, st_f, st_tt, st_tl, List.headD_cons, List.headD_nil, List.tail_cons, List.tail_nil, ↓wp_neg, ↓wp_not, ↓wp_cmp, ↓wp_cmp2, ↓wp_and, ↓wp_or, ↓wp_ite, ↓wp_idx, ↓wp_sli, ↓wp_rev, ↓wp_onone, ↓wp_osome, ↓wp_nil, ↓wp_cons, ↓wp_bi, ↓wp_call, ↓wp_callk, ↓wp_callv, ↓wp_doCall, ↓wp_app, ↓wp_popAt, ↓wp_comp, ↓wp_turn, ↓wp_ifs0, ↓wp_ifs1, ↓wp_seq, ↓wp_rng, ↓wp_zip, ↓wp_enum, ↓wp_expr, ↓wp_asg, ↓wp_asgt, ↓wp_par, ↓wp_asgI, ↓wp_ret, ↓wp_ret0, ↓wp_pass, ↓wp_cont, ↓wp_brk, ↓wp_ifs, ↓wp_for, ↓wp_raise, ↓wp_snil, ↓wp_scons, ↓wp_toval, ↓wp_toown, ↓wp_tobor, ↓wp_tonil, ↓wp_tocons, ↓wp_pa0, ↓wp_paf, ↓wp_pao, ↓wp_pab, ↓wp_so0, ↓wp_sob, ↓wp_sov, ↓wp_soo, looks0, ↓op_looks, ↓op_some, ↓op_none, ↓op_ite, ↓op_map, ↓op_bind, ↓lk_val, ↓lk_own, ↓lk_bor, binOp, cmpOp, idxOp, bi_len1, bi_len2, bi_len3, bi_len4, bi_abs, bi_int1, bi_int2, bi_tup1, bi_tup2, bi_lst1, bi_lst2, bi_min2, bi_max2, bi_zipT, bi_isi, bi_all, bi_any, bi_sum, truD, asgRV, parAsg, asgT, asgTs, isMut, lent, nodupB, giveBack, noBor, negOp, revOp, atIx, rngOf, sliI, sb_int_int, sb_int_bool, sb_int_str, sb_int_list, sb_int_tuple, sb_bool_int, sb_bool_bool, sb_bool_str, sb_bool_list, sb_bool_tuple, sb_str_int, sb_str_bool, sb_str_str, sb_str_list, sb_str_tuple, sb_tuple_int, sb_tuple_bool, sb_tuple_str, sb_tuple_list, sb_tuple_tuple, sb_list_int, sb_list_bool, sb_list_str, sb_list_list, sb_list_tuple, sb_NoneType_int, sb_NoneType_bool, sb_NoneType_str, sb_NoneType_list, sb_NoneType_tuple, zip_ll, zip_tt, lockNil, lockBox, eqbs_refl, eqOp_str, eqOp_int, eqOp_bl, wipeE, restE, slotGet, Option.getD_some, Option.getD_none, partI, itemsD, seqD, lockOf, locksOf, shareL, List.foldl, outsOk, outOk, Int.ofNat_eq_natCast, tyD, permL, List.getElem?_cons_zero, List.getElem?_cons_succ, List.set_cons_zero, List.set_cons_succ, List.length_cons, List.length_nil, List.cons_append, List.nil_append, List.append_nil, List.replicate, List.take_succ_cons, List.take_zero, List.take_nil, List.all_cons, List.all_nil, List.any_cons, List.any_nil, List.contains_nil, List.contains_cons, List.isEmpty_nil, List.isEmpty_cons, Bool.true_and, Bool.and_true, Bool.false_and, Bool.and_false, Bool.true_or, Bool.or_true, Bool.false_or, Bool.or_false, Bool.not_true, Bool.not_false, true_and, and_true, false_and, and_false, if_true, if_false, Bool.false_eq_true, Nat.reduceSub, Nat.reduceAdd, Nat.reduceLT, Int.reduceLT, Int.reduceLE, Int.reduceToNat, Int.reducePow, Int.reduceAdd, Int.reduceSub, Int.reduceMul, Int.cast_ofNat_Int, Nat.reduceMul, Int.reduceNeg, Option.bind_some, Option.bind_none, Option.map_some, Option.map_none, decide_true, decide_false, reduceIte, ↓reduceIte, beq_self_eq_true, Nat.reduceBEq, Nat.reduceEqDiff])
def f_take : Fn := ⟨2, 6, [true, false], [
  .ifs (.cmp .Gt (.idx (.var 0) (.cst (.int (0)))) (.cst (.int (0)))) [.asg (.name 5) (.bin .Mod (.bi .int [(.idx (.var 0) (.cst (.int (0))))]) (.var 1)), .asgI 0 (.cst (.int (0))) (.bin .FloorDiv (.idx (.var 0) (.cst (.int (0)))) (.var 1)), .ret (.var 5)] [],
  .asgI 0 (.cst (.int (2))) (.bin .Add (.idx (.var 0) (.cst (.int (2)))) (.cst (.int (1)))),
  .asg (.name 2) (.bin .Mod (.bi .int [(.bin .Mult (.bin .Add (.idx (.var 0) (.cst (.int (1)))) (.bin .Mult (.cst (.int (48271))) (.idx (.var 0) (.cst (.int (2)))))) (.bin .Add (.cst (.int (39373))) (.idx (.var 0) (.cst (.int (2))))))]) (.cst (.int (2147483647)))),
  .asg (.name 3) (.bin .Add (.bin .Mod (.bi .int [(.var 2)]) (.cst (.int (40009)))) (.cst (.int (7)))),
  .asg (.name 4) (.bin .Mod (.bi .int [(.bin .Mult (.bin .Add (.bin .Add (.var 2) (.idx (.var 0) (.cst (.int (2))))) (.bin .FloorDiv (.idx (.var 0) (.cst (.int (1)))) (.cst (.int (1000003))))) (.var 3))]) (.cst (.int (2147483629)))),
  .ret (.bin .Mod (.bi .int [(.bin .FloorDiv (.bin .Mod (.bi .int [(.bin .Add (.bin .Mult (.var 4) (.cst (.int (48271)))) (.var 2))]) (.cst (.int (2147483587)))) (.cst (.int (64))))]) (.var 1))]⟩
def Has (T : List (Str × Fn)) (f : Str) (fn : Fn) : Prop := T.lookup f = some fn
def GB (m : Int) (xs : List D) : Prop := ∃ a b c : Int, xs = [.int a, .int b, .int c] ∧ 0 ≤ c ∧ c ≤ m
theorem take_run {call : CallT} {m n : Int} {xs : List D} (h : GB m xs) (hm : m ≤ 1000000) (h0 : 0 < n) (h1 : n ≤ 1000000000) : CWp (runFn call f_take [.box xs, .val (.int n)]) (fun rv outs => ∃ v ys, rv = .val (.int v) ∧ 0 ≤ v ∧ v < n ∧ outs = [.box ys, .val (.int n)] ∧ GB (m + 1) ys) (fun _ => False) := by
  obtain ⟨a, b, c, rfl, hc, hd⟩ := h
  unfold f_take
  bv_omega
  refine br_of (fun h => ?_) (fun h => ?_)
  · bv_omega
    refine ⟨h0, by simp; exact ⟨h0, by omega⟩, _, _, rfl, Int.emod_nonneg _ (by omega), Int.emod_lt_of_pos _ h0, rfl, _, _, _, rfl, hc, by omega⟩
  · bv_omega
    refine ⟨by simp [fits64], ?_, ?_, by simp [fits64], h0, _, _, rfl, Int.emod_nonneg _ (by omega), Int.emod_lt_of_pos _ h0, rfl, _, _, _, rfl, by omega, by omega⟩
    · simp only [fits64, Bool.or_eq_true, Bool.and_eq_true, decide_eq_true_eq]
      right
      omega
    · simp only [fits64, Bool.or_eq_true, Bool.and_eq_true, decide_eq_true_eq]
      right
      have := Int.emod_nonneg ((b + 48271 * (c + 1)) * (39373 + (c + 1)) % 2147483647) (b := 40009) (by omega)
      have := Int.emod_lt_of_pos ((b + 48271 * (c + 1)) * (39373 + (c + 1)) % 2147483647) (b := 40009) (by omega)
      omega
theorem take_ok {T : List (Str × Fn)} (ht : Has T "_law_take" f_take) {k : Nat} {m n : Int} {xs : List D} (h : GB m xs) (hm : m ≤ 1000000) (h0 : 0 < n) (h1 : n ≤ 1000000000) : CWp (callF T (k + 1) "_law_take" [.box xs, .val (.int n)]) (fun rv outs => ∃ v ys, rv = .val (.int v) ∧ 0 ≤ v ∧ v < n ∧ outs = [.box ys, .val (.int n)] ∧ GB (m + 1) ys) (fun _ => False) := by
  rw [cwp_callF ht rfl]
  exact take_run h hm h0 h1
theorem getK {α : Type} {ys : List α} {v : Int} (h0 : 0 ≤ v) (h1 : v < (ys.length : Int)) : ∃ x, ys[v.toNat]? = some x ∧ x ∈ ys := by
  have : v.toNat < ys.length := by omega
  exact ⟨ys[v.toNat], List.getElem?_eq_getElem this, List.getElem_mem this⟩
def f_of : Fn := ⟨2, 2, [true, false], [
  .ret (.idx (.var 1) (.call "_law_take" [true, false] [(.var 0), (.bi .len [(.var 1)])]))]⟩
theorem of_ok {T : List (Str × Fn)} (ht : Has T "_law_take" f_take) (ho : Has T "_law_of" f_of) {k : Nat} {m : Int} {xs ys : List D} (g : GB m xs) (hm : m ≤ 1000000) (h0 : ys ≠ []) (hl : ys.length ≤ 1000000) : CWp (callF T (k + 2) "_law_of" [.box xs, .val (.lst ys)]) (fun rv outs => ∃ v zs, rv = .val v ∧ v ∈ ys ∧ outs = [.box zs, .val (.lst ys)] ∧ GB (m + 1) zs) (fun _ => False) := by
  rw [cwp_callF ho rfl]
  unfold f_of
  bv_omega
  have : 0 < ys.length := List.length_pos_iff.mpr h0
  refine cwp_mono (take_ok ht g hm (by omega) (by omega)) ?_ (fun _ z => z.elim)
  rintro rv outs ⟨v, zs, rfl, v0, v1, rfl, g2⟩
  obtain ⟨x, e, hx⟩ := getK v0 v1
  bv_omega
  simp only [v0, v1, if_true]
  bv_omega
  rw [e]
  bv_omega
  exact ⟨_, _, rfl, hx, rfl, g2⟩
def f_pick : Fn := ⟨3, 6, [true, false, false], [
  .par [4, 5] [(.bi .list [(.var 1)]), (.lst [])],
  .for_ (.name 3) (.rng [(.bi .min2 [(.bi .int [(.var 2)]), (.bi .len [(.var 4)])])]) [.expr (.app 5 (.popAt 4 (.call "_law_take" [true, false] [(.var 0), (.bi .len [(.var 4)])])))],
  .ret (.var 5)]⟩
theorem perm_erase {α : Type} : ∀ {ys : List α} {k : Nat} {x : α}, ys[k]? = some x → (x :: ys.eraseIdx k).Perm ys
  | [], _, _, h => by simp at h
  | y :: ys, 0, x, h => by simp at h; subst h; exact .refl _
  | y :: ys, k + 1, x, h => by
    have := perm_erase (ys := ys) (k := k) (x := x) (by simpa using h)
    rw [List.eraseIdx_cons_succ]
    exact (List.Perm.swap _ _ _).trans (this.cons y)
/-- zs: so many of ys, each once -/
def Picks (ys zs : List D) (n : Nat) : Prop := zs.length = n ∧ ∃ rest, (zs ++ rest).Perm ys
theorem pick_ok {T : List (Str × Fn)} (ht : Has T "_law_take" f_take) (hp : Has T "_law_pick" f_pick) {k : Nat} {m c : Int} {xs ys : List D} (g : GB m xs) (hm : m ≤ 900000) (hc : 0 ≤ c) (hl : ys.length ≤ 1000) : CWp (callF T (k + 2) "_law_pick" [.box xs, .val (.lst ys), .val (.int c)]) (fun rv outs => ∃ zs bs, rv = .own zs ∧ Picks ys zs (min c.toNat ys.length) ∧ outs = [.box bs, .val (.lst ys), .val (.int c)] ∧ GB (m + min c.toNat ys.length) bs) (fun _ => False) := by
  rw [cwp_callF hp rfl]
  unfold f_pick
  bv_omega
  generalize hN : (if (ys.length : Int) < c then (ys.length : Int) else c) = N
  have hN0 : 0 ≤ N ∧ N.toNat = min c.toNat ys.length ∧ N ≤ 1000 := by split at hN <;> omega
  have hs : 1000 ≤ sizeLine := by decide
  refine ⟨by simp only [small62, Bool.and_eq_true, decide_eq_true_eq]; omega, ?_⟩
  have hr : (rangeD 0 N).length = N.toNat := by simp [rangeD]
  refine wp_forL_inv (fun ds r => ∃ pool found bs s3, r = [.box bs, .val (.lst ys), .val (.int c), s3, .box pool, .box found] ∧ (found ++ pool).Perm ys ∧ found.length + ds.length = N.toNat ∧ GB (m + found.length) bs) ?_ ?_ ?_
  · rintro d ds r ⟨pool, found, bs, s3, rfl, hp, hn, g⟩
    have hpl := hp.length_eq
    simp only [List.length_append, List.length_cons] at hpl hn
    refine ⟨_, rfl, ?_⟩
    bv_omega
    refine cwp_mono (take_ok ht g (by omega) (by omega) (by omega)) ?_ (fun _ z => z.elim)
    rintro rv outs ⟨v, zs, rfl, v0, v1, rfl, g2⟩
    obtain ⟨x, e, hx⟩ := getK v0 v1
    bv_omega
    simp only [v0, v1, if_true]
    bv_omega
    rw [e]
    bv_omega
    refine ⟨by simp only [small62, Bool.and_eq_true, decide_eq_true_eq]; omega, by omega, _, _, _, _, rfl, ?_, by simp only [List.length_append, List.length_cons, List.length_nil]; omega, by simp only [List.length_append, List.length_cons, List.length_nil]; rw [show (m + ((found.length + (0 + 1) : Nat) : Int)) = m + found.length + 1 by omega]; exact g2⟩
    rw [List.append_assoc]
    exact ((perm_erase e).append_left found).trans hp
  · rintro r ⟨pool, found, bs, s3, rfl, hp, hn, g⟩
    bv_omega
    simp only [List.length_nil, Nat.add_zero] at hn
    exact ⟨_, _, rfl, ⟨by omega, _, hp⟩, rfl, by rw [← hN0.2.1, ← hn]; exact g⟩
  · exact ⟨ys, [], xs, .no, rfl, by simp, by simp [hr], by simpa using g⟩
end Ev

-- part EvD2
set_option maxHeartbeats 200000
namespace Ev
open PySem
local macro_rules | `(tactic| bv_omega) => `(tactic| simp (maxSteps := 1000000) (dsimp := false) only [↓cwp_runM, ↓cwp_ret, ↓br_t, ↓br_f, ↓wp_ok, ↓wp_exc, ↓wp_stuck, ↓wp_bind, ↓wp_pure, ↓wp_var, ↓wp_cst, ↓wp_glo, ↓wp_tup, ↓wp_lst, ↓wp_bin, ↓wp_tupS, ↓wp_lstS, ↓wp_ds0, ↓wp_ds1, st_f, st_tt, st_tl, List.headD_cons, List.headD_nil, List.tail_cons, List.tail_nil, ↓wp_neg, ↓wp_not, ↓wp_cmp, ↓wp_cmp2, ↓wp_and, ↓wp_or, ↓wp_ite, ↓wp_idx, ↓wp_sli, ↓wp_rev, ↓wp_onone, ↓wp_osome, ↓wp_nil, ↓wp_cons, ↓wp_bi, ↓wp_call, ↓wp_callk, ↓wp_callv, ↓wp_doCall, ↓wp_app, ↓wp_popAt, ↓wp_comp, ↓wp_turn, ↓wp_ifs0, ↓wp_ifs1, ↓wp_seq, ↓wp_rng, ↓wp_zip, ↓wp_enum, ↓wp_expr, ↓wp_asg, ↓wp_asgt, ↓wp_par, ↓wp_asgI, ↓wp_ret, ↓wp_ret0, ↓wp_pass, ↓wp_cont, ↓wp_brk, ↓wp_ifs, ↓wp_for, ↓wp_raise, ↓wp_snil, ↓wp_scons, ↓wp_toval, ↓wp_toown, ↓wp_tobor, ↓wp_tonil, ↓wp_tocons, ↓wp_pa0, ↓wp_paf, ↓wp_pao, ↓wp_pab, ↓wp_so0, ↓wp_sob, ↓wp_sov, ↓wp_soo, looks0, ↓op_looks, ↓op_some, ↓op_none, ↓op_ite, ↓op_map, ↓op_bind, ↓lk_val, ↓lk_own, ↓lk_bor, binOp, cmpOp, idxOp, bi_len1, bi_len2, bi_len3, bi_len4, bi_abs, bi_int1, bi_int2, bi_tup1, bi_tup2, bi_lst1, bi_lst2, bi_min2, bi_max2, bi_zipT, bi_isi, bi_all, bi_any, bi_sum, truD, asgRV, parAsg, asgT, asgTs, isMut, lent, nodupB, giveBack, noBor, negOp, revOp, atIx, rngOf, sliI, sb_int_int, sb_int_bool, sb_int_str, sb_int_list, sb_int_tuple, sb_bool_int, sb_bool_bool, sb_bool_str, sb_bool_list, sb_bool_tuple, sb_str_int, sb_str_bool, sb_str_str, sb_str_list, sb_str_tuple, sb_tuple_int, sb_tuple_bool, sb_tuple_str, sb_tuple_list, sb_tuple_tuple, sb_list_int, sb_list_bool, sb_list_str, sb_list_list, sb_list_tuple, sb_NoneType_int, sb_NoneType_bool, sb_NoneType_str, sb_NoneType_list, sb_NoneType_tuple, zip_ll, zip_tt, lockNil, lockBox, eqbs_refl, eqOp_str, eqOp_int, eqOp_bl, wipeE, restE, slotGet, Option.getD_some, Option.getD_none, partI, itemsD, seqD, lockOf, locksOf, shareL, List.foldl, outsOk, outOk, Int.ofNat_eq_natCast, tyD, permL, List.getElem?_cons_zero, List.getElem?_cons_succ, List.set_cons_zero, List.set_cons_succ, List.length_cons, List.length_nil, List.cons_append, List.nil_append, List.append_nil, List.replicate, List.take_succ_cons, List.take_zero, List.take_nil, List.all_cons, List.all_nil, List.any_cons, List.any_nil, List.contains_nil, List.contains_cons, List.isEmpty_nil, List.isEmpty_cons, Bool.true_and, Bool.and_true, Bool.false_and, Bool.and_false, Bool.true_or, Bool.or_true, Bool.false_or, Bool.or_false, Bool.not_true, Bool.not_false, true_and, and_true, false_and, and_false, if_true, if_false, Bool.false_eq_true, Nat.reduceSub, Nat.reduceAdd, Nat.reduceLT, Int.reduceLT, Int.reduceLE, Int.reduceToNat, Int.reducePow, Int.reduceAdd, Int.reduceSub, Int.reduceMul, Int.cast_ofNat_Int, Nat.reduceMul, Int.reduceNeg, Option.bind_some, Option.bind_none, Option.map_some, Option.map_none, decide_true, decide_false, reduceIte, ↓reduceIte, beq_self_eq_true, Nat.reduceBEq, Nat.reduceEqDiff])
def f_box (q : Int) : Fn := ⟨2, 3, [false, false], [
  .asg (.name 2) (.ite (.cmp .Lt (.var 1) (.bi .len [(.var 0)])) (.idx (.var 0) (.var 1)) (.cst (.int (0)))),
  .ret (.lst [(.bin .Mult (.bi .abs [(.var 2)]) (.bi .int [(.cmp .GtE (.bi .abs [(.var 2)]) (.bin .Pow (.cst (.int (10))) (.cst (.int (18)))))])), (.bin .Add (.bin .Add (.bin .Mod (.bi .int [(.var 2)]) (.cst (.int (2305843009213693951)))) (.bin .Mult (.cst (.int (39373))) (.var 1))) (.cst (.int (q)))), (.cst (.int (0)))])]⟩
theorem getI {cs : List Int} {v : Int} (h0 : 0 ≤ v) (h1 : v < (cs.length : Int)) : ∃ x : Int, (cs.map D.int)[v.toNat]? = some (.int x) := by
  have : v.toNat < cs.length := by omega
  exact ⟨cs[v.toNat], by rw [List.getElem?_map, List.getElem?_eq_getElem this]; rfl⟩
theorem box_ok {T : List (Str × Fn)} {q : Int} (hb : Has T "_law_box" (f_box q)) {k : Nat} {cs : List Int} {j : Int} (h0 : 0 ≤ j) (h1 : j < (cs.length : Int)) : CWp (callF T (k + 1) "_law_box" [.val (.lst (cs.map D.int)), .val (.int j)]) (fun rv outs => ∃ xs, rv = .own xs ∧ outs = [.val (.lst (cs.map D.int)), .val (.int j)] ∧ GB 0 xs) (fun _ => False) := by
  rw [cwp_callF hb rfl]
  unfold f_box
  obtain ⟨x, e⟩ := getI h0 h1
  bv_omega
  simp only [List.length_map, h1, decide_true, if_true, h0]
  bv_omega
  simp only [List.length_map, h1, decide_true, if_true, h0]
  bv_omega
  rw [e]
  bv_omega
  refine ⟨by decide, ?_, by simp [fits64], _, rfl, _, _, _, rfl, by omega, by omega⟩
  split <;> split <;> simp [fits64]
def f_cells : Fn := ⟨2, 6, [false, false], [
  .asg (.name 2) (.or (.bi .list [(.sli (.var 0) none (some (.var 1)))]) (.lst [(.cst (.int (0)))])),
  .for_ (.tup [(.name 3), (.name 4)]) (.enum [(.sli (.var 0) (some (.var 1)) (some (.cst (.int (63)))))]) [.asg (.name 5) (.bin .Mod (.bi .int [(.var 3)]) (.var 1)), .asgI 2 (.var 5) (.bin .Add (.idx (.var 2) (.var 5)) (.bin .Mult (.var 4) (.bin .Add (.var 3) (.cst (.int (2))))))],
  .ret (.var 2)]⟩
theorem enum_mem : ∀ {xs : List D} {d : D}, d ∈ enumD xs → ∃ k x, d = .tup [.int (k : Nat), x] ∧ k < xs.length ∧ x ∈ xs := by
  intro xs d h
  unfold enumD at h
  simp only [List.mem_map] at h
  obtain ⟨p, hp, rfl⟩ := h
  have := List.of_mem_zip hp
  exact ⟨p.1, p.2, rfl, by simpa using this.1, this.2⟩
theorem cells_ok {T : List (Str × Fn)} (hb : Has T "_law_cells" f_cells) {k : Nat} {ns : List Int} {t : Int} (h0 : 1 ≤ t) (h1 : t ≤ 60) (hn : ns.length ≤ 63) : CWp (callF T (k + 1) "_law_cells" [.val (.scr (ns.map D.int)), .val (.int t)]) (fun rv outs => ∃ cs : List Int, rv = .own (cs.map D.int) ∧ 1 ≤ cs.length ∧ (cs.length : Int) ≤ t ∧ outs = [.val (.scr (ns.map D.int)), .val (.int t)]) (fun _ => False) := by
  rw [cwp_callF hb rfl]
  unfold f_cells
  bv_omega
  have hf : fits64 t = true := by simp only [fits64, Bool.and_eq_true, decide_eq_true_eq]; omega
  have hf2 : fits64 63 = true := by decide
  have e1 : cutL (ns.map D.int) none (some t) = (ns.take t.toNat).map D.int := by
    unfold cutL cutLo cutHi clampI
    simp only [List.drop_zero, List.length_map, ← List.map_take]
    rw [if_pos (by omega)]
    congr 1
    rw [List.take_eq_take_iff]
    omega
  have e2 : cutL (ns.map D.int) (some t) (some 63) = (ns.drop t.toNat).map D.int := by
    unfold cutL cutLo cutHi clampI
    simp only [List.length_map]
    rw [if_pos (by omega), if_pos (by omega), List.take_of_length_le (by simp; omega), ← List.map_drop]
    by_cases h : t.toNat ≤ ns.length
    · rw [Nat.min_eq_left h]
    · rw [Nat.min_eq_right (by omega), List.drop_of_length_le (by omega), List.drop_of_length_le (by omega)]
  simp only [hf, hf2, e1, e2, true_and]
  have main : ∀ cs : List Int, 1 ≤ cs.length → (cs.length : Int) ≤ t → ((ns.drop t.toNat) ≠ [] → (cs.length : Int) = t) → ∀ s3 s4 s5, Wp (forL (.tup [(.name 3), (.name 4)]) (evSs (callF T k) [.asg (.name 5) (.bin .Mod (.bi .int [(.var 3)]) (.var 1)), .asgI 2 (.var 5) (.bin .Add (.idx (.var 2) (.var 5)) (.bin .Mult (.var 4) (.bin .Add (.var 3) (.cst (.int (2))))))]) (enumD ((ns.drop t.toNat).map D.int)) [.val (.scr (ns.map D.int)), .val (.int t), .box (cs.map D.int), s3, s4, s5]) (fun fl r => fl = .next ∧ ∃ cs : List Int, 1 ≤ cs.length ∧ (cs.length : Int) ≤ t ∧ ∃ s3 s4 s5, r = [.val (.scr (ns.map D.int)), .val (.int t), .box (cs.map D.int), s3, s4, s5]) (fun _ _ => False) := by
    intro cs c1 c2 c3 s3 s4 s5
    refine wp_forL_inv (fun ds r => (∀ d ∈ ds, ∃ k x, d = .tup [.int (k : Nat), .int x] ∧ k ≤ 63) ∧ ∃ cs : List Int, 1 ≤ cs.length ∧ (cs.length : Int) ≤ t ∧ (ds ≠ [] → (cs.length : Int) = t) ∧ ∃ s3 s4 s5, r = [.val (.scr (ns.map D.int)), .val (.int t), .box (cs.map D.int), s3, s4, s5]) ?_ ?_ ?_
    · rintro d ds r ⟨hd, cs, c1, c2, c3, s3, s4, s5, rfl⟩
      obtain ⟨j, x, rfl, hj⟩ := hd d List.mem_cons_self
      have c4 := c3 (by simp)
      refine ⟨_, rfl, ?_⟩
      bv_omega
      have p0 := Int.emod_nonneg (j : Int) (b := t) (by omega)
      have p1 := Int.emod_lt_of_pos (j : Int) (b := t) (by omega)
      obtain ⟨y, e⟩ := getI (cs := cs) p0 (by omega)
      simp only [List.length_map, p0, if_true, show (j : Int) % t < (cs.length : Int) by omega]
      bv_omega
      rw [e]
      bv_omega
      simp only [List.length_map, p0, if_true, show (j : Int) % t < (cs.length : Int) by omega]
      bv_omega
      refine ⟨by omega, by simp only [fits64, Bool.or_eq_true, Bool.and_eq_true, decide_eq_true_eq]; omega, fun d hdd => hd d (List.mem_cons_of_mem _ hdd), cs.set (j % t).toNat (y + x * (j + 2)), by simpa using c1, by simpa using c2, fun _ => by simpa using c4, .val (.int j), .val (.int x), .val (.int (j % t)), ?_⟩
      rw [List.map_set]
    · rintro r ⟨_, cs, c1, c2, _, s3, s4, s5, rfl⟩
      exact ⟨rfl, cs, c1, c2, s3, s4, s5, rfl⟩
    · refine ⟨fun d hd => ?_, cs, c1, c2, fun h => c3 fun h2 => h (by rw [h2]; rfl), s3, s4, s5, rfl⟩
      obtain ⟨j, x, rfl, hj, hx⟩ := enum_mem hd
      obtain ⟨y, _, rfl⟩ := List.mem_map.mp hx
      simp at hj
      exact ⟨j, y, rfl, by omega⟩
  by_cases hz : ns = []
  · subst hz
    simp only [List.take_nil, List.map_nil, List.isEmpty_nil, Bool.not_true, Bool.false_eq_true, if_false]
    bv_omega
    simp only [hf, hf2, e1, e2, true_and]
    refine wp_mono (main [0] (by simp) (by simpa using h0) (fun h => absurd (by simp) h) _ _ _) ?_ (fun _ _ z => z)
    rintro fl r ⟨rfl, cs, c1, c2, s3, s4, s5, rfl⟩
    bv_omega
    first | exact ⟨cs, rfl, c1, c2, rfl⟩ | exact ⟨cs, rfl, c1, c2⟩
  · have hl : 0 < ns.length := List.length_pos_iff.mpr hz
    have : ((ns.take t.toNat).map D.int).isEmpty = false := by
      rw [List.isEmpty_eq_false_iff, ← List.length_pos_iff]
      simp
      omega
    simp only [this, Bool.not_false, if_true]
    bv_omega
    simp only [hf, hf2, e1, e2, true_and]
    refine wp_mono (main (ns.take t.toNat) (by simp; omega) (by simp; omega) (fun h => ?_) _ _ _) ?_ (fun _ _ z => z)
    · have := List.length_pos_iff.mpr h
      simp at this ⊢
      omega
    rintro fl r ⟨rfl, cs, c1, c2, s3, s4, s5, rfl⟩
    bv_omega
    first | exact ⟨cs, rfl, c1, c2, rfl⟩ | exact ⟨cs, rfl, c1, c2⟩
end Ev

-- part EvN
set_option maxHeartbeats 4000000
/-! EvN: a drawn net. -/
namespace Ev
open PySem
local macro_rules | `(tactic| bv_omega) => `(tactic| simp (maxSteps := 1000000) (dsimp := false) only [↓cwp_runM, ↓cwp_ret, ↓br_t, ↓br_f, ↓wp_ok, ↓wp_exc, ↓wp_stuck, ↓wp_bind, ↓wp_pure, ↓wp_var, ↓wp_cst, ↓wp_glo, ↓wp_tup, ↓wp_lst, ↓wp_bin, ↓wp_tupS, ↓wp_lstS, ↓wp_ds0, ↓wp_ds1, st_f, st_tt, st_tl, List.headD_cons, List.headD_nil, List.tail_cons, List.tail_nil, ↓wp_neg, ↓wp_not, ↓wp_cmp, ↓wp_cmp2, ↓wp_and, ↓wp_or, ↓wp_ite, ↓wp_idx, ↓wp_sli, ↓wp_rev, ↓wp_onone, ↓wp_osome, ↓wp_nil, ↓wp_cons, ↓wp_bi, ↓wp_call, ↓wp_callk, ↓wp_callv, ↓wp_doCall, ↓wp_app, ↓wp_popAt, ↓wp_comp, ↓wp_turn, ↓wp_ifs0, ↓wp_ifs1, ↓wp_seq, ↓wp_rng, ↓wp_zip, ↓wp_enum, ↓wp_expr, ↓wp_asg, ↓wp_asgt, ↓wp_par, ↓wp_asgI, ↓wp_ret, ↓wp_ret0, ↓wp_pass, ↓wp_cont, ↓wp_brk, ↓wp_ifs, ↓wp_for, ↓wp_raise, ↓wp_snil, ↓wp_scons, ↓wp_toval, ↓wp_toown, ↓wp_tobor, ↓wp_tonil, ↓wp_tocons, ↓wp_pa0, ↓wp_paf, ↓wp_pao, ↓wp_pab, ↓wp_so0, ↓wp_sob, ↓wp_sov, ↓wp_soo, looks0, ↓op_looks, ↓op_some, ↓op_none, ↓op_ite, ↓op_map, ↓op_bind, ↓lk_val, ↓lk_own, ↓lk_bor, binOp, cmpOp, idxOp, bi_len1, bi_len2, bi_len3, bi_len4, bi_abs, bi_int1, bi_int2, bi_tup1, bi_tup2, bi_lst1, bi_lst2, bi_min2, bi_max2, bi_zipT, bi_isi, bi_all, bi_any, bi_sum, truD, asgRV, parAsg, asgT, asgTs, isMut, lent, nodupB, giveBack, noBor, negOp, revOp, atIx, rngOf, sliI, sb_int_int, sb_int_bool, sb_int_str, sb_int_list, sb_int_tuple, sb_bool_int, sb_bool_bool, sb_bool_str, sb_bool_list, sb_bool_tuple, sb_str_int, sb_str_bool, sb_str_str, sb_str_list, sb_str_tuple, sb_tuple_int, sb_tuple_bool, sb_tuple_str, sb_tuple_list, sb_tuple_tuple, sb_list_int, sb_list_bool, sb_list_str, sb_list_list, sb_list_tuple, sb_NoneType_int, sb_NoneType_bool, sb_NoneType_str, sb_NoneType_list, sb_NoneType_tuple, zip_ll, zip_tt, lockNil, lockBox, eqbs_refl, eqOp_str, eqOp_int, eqOp_bl, wipeE, restE, slotGet, Option.getD_some, Option.getD_none, partI, itemsD, seqD, lockOf, locksOf, shareL, List.foldl, outsOk, outOk, Int.ofNat_eq_natCast, tyD, permL, List.getElem?_cons_zero, List.getElem?_cons_succ, List.set_cons_zero, List.set_cons_succ, List.length_cons, List.length_nil, List.cons_append, List.nil_append, List.append_nil, List.replicate, List.take_succ_cons, List.take_zero, List.take_nil, List.all_cons, List.all_nil, List.any_cons, List.any_nil, List.contains_nil, List.contains_cons, List.isEmpty_nil, List.isEmpty_cons, Bool.true_and, Bool.and_true, Bool.false_and, Bool.and_false, Bool.true_or, Bool.or_true, Bool.false_or, Bool.or_false, Bool.not_true, Bool.not_false, true_and, and_true, false_and, and_false, if_true, if_false, Bool.false_eq_true, Nat.reduceSub, Nat.reduceAdd, Nat.reduceLT, Int.reduceLT, Int.reduceLE, Int.reduceToNat, Int.reducePow, Int.reduceAdd, Int.reduceSub, Int.reduceMul, Int.cast_ofNat_Int, Nat.reduceMul, Int.reduceNeg, Option.bind_some, Option.bind_none, Option.map_some, Option.map_none, decide_true, decide_false, reduceIte, ↓reduceIte, beq_self_eq_true, Nat.reduceBEq, Nat.reduceEqDiff])
def ltS (a b : Str) : Prop := a.cps.toList < b.cps.toList
instance : DecidableRel ltS := fun a b => inferInstanceAs (Decidable (a.cps.toList < b.cps.toList))
theorem str_ext {a b : Str} (h : a.cps.toList = b.cps.toList) : a = b := by
  cases a; cases b; simp_all
theorem ltS_of {a b : Str} (h : leS a b = true) (hn : a ≠ b) : ltS a b := by
  unfold leS at h
  simp only [Bool.not_eq_true', decide_eq_false_iff_not] at h
  rcases List.le_iff_lt_or_eq.mp (List.not_lt.mp h) with h | h
  · exact h
  · exact absurd (str_ext h) hn
theorem ltS_irrefl (a : Str) : ¬ ltS a a := List.lt_irrefl _
theorem ltS_trans {a b c : Str} (h : ltS a b) (h2 : ltS b c) : ltS a c := List.lt_trans h h2
theorem sort_rising {ss : List Str} (h : ss.Nodup) : (sortS ss).Pairwise ltS := by
  have h1 := sortS_sorted ss
  have h2 : (sortS ss).Nodup := (sortS_perm ss).nodup_iff.mpr h
  exact (h1.and h2).imp fun ⟨a, b⟩ => ltS_of a b
theorem intsD_str : ∀ {x : Str} {ss : List Str}, intsD ((x :: ss).map D.str) = none := rfl
theorem strsD_map : ∀ ss : List Str, strsD (ss.map D.str) = some ss
  | [] => rfl
  | x :: ss => by
    show (strsD (ss.map D.str)).map (x :: ·) = _
    rw [strsD_map ss]; rfl
theorem sorted_map {ss : List Str} (h : ss.length < 64) : biOp .sorted [.lst (ss.map D.str)] = some (.own ((sortS ss).map D.str)) := by
  cases ss with
  | nil => rfl
  | cons x ss =>
    simp only [biOp]
    rw [intsD_str]
    dsimp only
    rw [strsD_map]
    dsimp only [Option.bind]
    rw [if_pos h]
def unS : D → Str
  | .str x => x
  | _ => ⟨#[]⟩
theorem picks_str {pool : List Str} {zs : List D} {n : Nat} (h : Picks (pool.map D.str) zs n) : ∃ ss rest : List Str, zs = ss.map D.str ∧ ss.length = n ∧ (ss ++ rest).Perm pool := by
  obtain ⟨hl, rest, hp⟩ := h
  have hp2 := hp.map unS
  simp only [List.map_append, List.map_map] at hp2
  have e : pool.map (unS ∘ D.str) = pool := by
    rw [show (unS ∘ D.str) = id from rfl]; simp
  rw [e] at hp2
  refine ⟨zs.map unS, rest.map unS, ?_, by simpa using hl, hp2⟩
  rw [List.map_map]
  conv => lhs; rw [← List.map_id zs]
  refine List.map_congr_left fun d hd => ?_
  have : d ∈ pool.map D.str := hp.subset (List.mem_append_left _ hd)
  obtain ⟨x, _, rfl⟩ := List.mem_map.mp this
  rfl
/-- names that rise, out of a pool -/
structure Ris (pool ss : List Str) : Prop where
  up : ss.Pairwise ltS
  sub : ∀ x ∈ ss, x ∈ pool
theorem ris_of {pool ss rest : List Str} (hn : pool.Nodup) (h : (ss ++ rest).Perm pool) : Ris pool (sortS ss) := by
  have : (ss ++ rest).Nodup := h.nodup_iff.mpr hn
  exact ⟨sort_rising (List.nodup_append.mp this).1, fun x hx => h.subset (List.mem_append_left _ ((sortS_perm ss).subset hx))⟩
abbrev Yd := Str × Int
structure Wy where
  nm : Str
  fr : Str
  to : Str
  cp : Int
  ky : Str
abbrev Fk := Str × Str
def encY (y : Yd) : D := .tup [.str y.1, .int y.2]
def encW (w : Wy) : D := .tup [.str w.nm, .str w.fr, .str w.to, .int w.cp, .str w.ky]
def encF (f : Fk) : D := .tup [.str f.1, .str f.2]
def encN (y : List Yd) (w : List Wy) (f : List Fk) : D := .tup [.tup (y.map encY), .tup (w.map encW), .tup (f.map encF)]
def yPool : List Str := ["a", "b", "c", "yard"]
def kPool : List Str := ["blue", "k", "red", "zz"]
def wPool : List Str := ["a", "l", "line", "m", "n"]
def fPool : List Str := ["a", "p", "q", "zoe"]
structure NetP (y : List Yd) (w : List Wy) (f : List Fk) : Prop where
  yr : Ris yPool (y.map (·.1))
  y2 : 2 ≤ y.length
  y4 : y.length ≤ 4
  ys : ∀ p ∈ y, 0 ≤ p.2
  wr : Ris wPool (w.map (·.nm))
  w5 : w.length ≤ 5
  wf : ∀ p ∈ w, p.fr ∈ y.map (·.1)
  wt : ∀ p ∈ w, p.to ∈ y.map (·.1)
  wn : ∀ p ∈ w, p.fr ≠ p.to
  wc : ∀ p ∈ w, 0 ≤ p.cp
  wk : ∀ p ∈ w, p.ky ∈ kPool
  fr : Ris fPool (f.map (·.1))
  f4 : f.length ≤ 4
  fg : ∀ p ∈ f, p.2 ∈ y.map (·.1)
def f_net5 : Fn := ⟨5, 18, [true, false, false, false, false], [
  .asg (.name 5) (.bi .sorted [(.call "_law_pick" [true, false, false] [(.var 0), (.lst [(.cst (.str "a")), (.cst (.str "b")), (.cst (.str "c")), (.cst (.str "yard"))]), (.bin .Add (.cst (.int (2))) (.call "_law_take" [true, false] [(.var 0), (.bin .Sub (.var 1) (.cst (.int (1))))]))])]),
  .asg (.name 6) (.bi .min2 [(.var 3), (.bin .Add (.bin .Add (.cst (.int (1))) (.bi .int [(.cmp .Gt (.call "_law_take" [true, false] [(.var 0), (.cst (.int (6)))]) (.cst (.int (0))))])) (.call "_law_take" [true, false] [(.var 0), (.var 3)]))]),
  .asg (.name 7) (.call "_law_pick" [true, false, false] [(.var 0), (.lst [(.cst (.str "blue")), (.cst (.str "k")), (.cst (.str "red")), (.cst (.str "zz"))]), (.var 6)]),
  .par [13, 14] [(.call "_law_of" [true, false] [(.var 0), (.var 5)]), (.lst [])],
  .asg (.name 8) (.comp (.var 9) (.name 9) (.seq (.var 5)) [(.cmp .NotEq (.var 9) (.var 13))] [9]),
  .asg (.name 6) (.bi .min2 [(.var 2), (.bin .Mult (.bi .int [(.cmp .Gt (.call "_law_take" [true, false] [(.var 0), (.cst (.int (9)))]) (.cst (.int (0))))]) (.bin .Add (.cst (.int (1))) (.call "_law_take" [true, false] [(.var 0), (.bin .Add (.var 2) (.cst (.int (2))))])))]),
  .for_ (.name 9) (.seq (.bi .sorted [(.call "_law_pick" [true, false, false] [(.var 0), (.lst [(.cst (.str "a")), (.cst (.str "l")), (.cst (.str "line")), (.cst (.str "m")), (.cst (.str "n"))]), (.var 6)])])) [.asg (.name 15) (.ite (.cmp .Gt (.call "_law_take" [true, false] [(.var 0), (.cst (.int (3)))]) (.cst (.int (0)))) (.lst [(.var 13), (.call "_law_of" [true, false] [(.var 0), (.var 8)])]) (.call "_law_pick" [true, false, false] [(.var 0), (.var 5), (.cst (.int (2)))])), .par [16, 17] [(.call "_law_of" [true, false] [(.var 0), (.lst [(.cst (.int (0))), (.cst (.int (1))), (.cst (.int (2))), (.cst (.int (2))), (.cst (.int (3)))])]), (.call "_law_of" [true, false] [(.var 0), (.var 7)])], .expr (.app 14 (.tup [(.var 9), (.idx (.var 15) (.cst (.int (0)))), (.idx (.var 15) (.cst (.int (1)))), (.var 16), (.var 17)]))],
  .asg (.name 6) (.bi .min2 [(.var 4), (.bin .Mult (.bi .int [(.cmp .Gt (.call "_law_take" [true, false] [(.var 0), (.cst (.int (9)))]) (.cst (.int (0))))]) (.bin .Add (.cst (.int (1))) (.call "_law_take" [true, false] [(.var 0), (.var 4)])))]),
  .asg (.name 10) (.bi .sorted [(.call "_law_pick" [true, false, false] [(.var 0), (.lst [(.cst (.str "a")), (.cst (.str "p")), (.cst (.str "q")), (.cst (.str "zoe"))]), (.var 6)])]),
  .asg (.name 11) (.comp (.ite (.cmp .Eq (.var 9) (.var 13)) (.bin .Add (.cst (.int (2))) (.call "_law_take" [true, false] [(.var 0), (.cst (.int (4)))])) (.bin .FloorDiv (.call "_law_take" [true, false] [(.var 0), (.cst (.int (4)))]) (.cst (.int (3))))) (.name 9) (.seq (.var 5)) [] [9]),
  .asg (.name 12) (.comp (.call "_law_of" [true, false] [(.var 0), (.ite (.cmp .Eq (.call "_law_take" [true, false] [(.var 0), (.cst (.int (6)))]) (.cst (.int (0)))) (.var 5) (.var 8))]) (.name 9) (.seq (.var 10)) [] [9]),
  .ret (.tup [(.bi .zipT [(.var 5), (.var 11)]), (.bi .tuple [(.var 14)]), (.bi .zipT [(.var 10), (.var 12)])])]⟩
theorem GB.mono {m n : Int} {xs : List D} (h : GB m xs) (hn : m ≤ n) : GB n xs := by
  obtain ⟨a, b, c, rfl, h1, h2⟩ := h
  exact ⟨a, b, c, rfl, h1, by omega⟩
theorem ris_nodup {pool ss : List Str} (h : Ris pool ss) : ss.Nodup := h.up.imp fun h e => by subst e; exact ltS_irrefl _ h
theorem pairs_y (a : List Str) (b : List Int) : pairsD (a.map D.str) (b.map D.int) = (a.zip b).map encY := by
  unfold pairsD
  rw [List.zip_map, List.map_map]
  rfl
theorem pairs_f (a b : List Str) : pairsD (a.map D.str) (b.map D.str) = (a.zip b).map encF := by
  unfold pairsD
  rw [List.zip_map, List.map_map]
  rfl
structure Draws (T : List (Str × Fn)) : Prop where
  take : Has T "_law_take" f_take
  of : Has T "_law_of" f_of
  pick : Has T "_law_pick" f_pick
structure WOk (yn : List Str) (w : Wy) : Prop where
  f : w.fr ∈ yn
  t : w.to ∈ yn
  n : w.fr ≠ w.to
  c : 0 ≤ w.cp
  c3 : w.cp ≤ 3
  k : w.ky ∈ kPool
theorem caps {d : D} (h : d ∈ [D.int 0, .int 1, .int 2, .int 2, .int 3]) : ∃ c : Int, d = .int c ∧ 0 ≤ c ∧ c ≤ 3 := by
  simp only [List.mem_cons, List.not_mem_nil, or_false] at h
  rcases h with rfl | rfl | rfl | rfl | rfl
  · exact ⟨0, rfl, by omega, by omega⟩
  · exact ⟨1, rfl, by omega, by omega⟩
  · exact ⟨2, rfl, by omega, by omega⟩
  · exact ⟨2, rfl, by omega, by omega⟩
  · exact ⟨3, rfl, by omega, by omega⟩
def Sh (s : Slot) (xs : List D) : Prop := s = .box xs ∨ s = .val (.lst xs)
theorem two_of {yn : List Str} {zs : List D} (hn : yn.Nodup) (h2 : 2 ≤ yn.length) (h : Picks (yn.map D.str) zs (min 2 (yn.map D.str).length)) : ∃ p q, zs = [.str p, .str q] ∧ p ∈ yn ∧ q ∈ yn ∧ p ≠ q := by
  obtain ⟨ss, rest, rfl, hl, hp⟩ := picks_str h
  rw [List.length_map] at hl
  rcases ss with _ | ⟨p, _ | ⟨q, _ | ⟨t, u⟩⟩⟩
  · simp at hl; omega
  · simp at hl; omega
  · refine ⟨p, q, rfl, hp.subset (by simp), hp.subset (by simp), ?_⟩
    have : (([p, q] : List Str) ++ rest).Nodup := hp.nodup_iff.mpr hn
    simp at this
    exact fun h => this.1.1 h
  · simp at hl; omega
theorem net5_loop {T : List (Str × Fn)} (dr : Draws T) {k : Nat} {yn kn yr wn : List Str} {hm : Str} {M : Int} {b8 : List D} {A B C D4 E6 : Slot} (g : GB M b8) (hM : M ≤ 850000) (hy : 2 ≤ yn.length ∧ yn.length ≤ 4) (hn : yn.Nodup) (hhm : hm ∈ yn) (hr : ∀ x ∈ yr, x ∈ yn ∧ x ≠ hm) (rne : yr.map D.str ≠ []) (rl : yr.length ≤ 4) (kne : kn.map D.str ≠ []) (kl : kn.length ≤ 4) (ks : ∀ x ∈ kn, x ∈ kPool) (wl : wn.length ≤ 5) :
    Wp (forL (.name 9) (evSs (callF T (k + 2)) [.asg (.name 15) (.ite (.cmp .Gt (.call "_law_take" [true, false] [(.var 0), (.cst (.int (3)))]) (.cst (.int (0)))) (.lst [(.var 13), (.call "_law_of" [true, false] [(.var 0), (.var 8)])]) (.call "_law_pick" [true, false, false] [(.var 0), (.var 5), (.cst (.int (2)))])), .par [16, 17] [(.call "_law_of" [true, false] [(.var 0), (.lst [(.cst (.int (0))), (.cst (.int (1))), (.cst (.int (2))), (.cst (.int (2))), (.cst (.int (3)))])]), (.call "_law_of" [true, false] [(.var 0), (.var 7)])], .expr (.app 14 (.tup [(.var 9), (.idx (.var 15) (.cst (.int (0)))), (.idx (.var 15) (.cst (.int (1)))), (.var 16), (.var 17)]))]) (wn.map D.str) [.box b8, A, B, C, D4, .val (.lst (yn.map D.str)), E6, .box (kn.map D.str), .box (yr.map D.str), .no, .no, .no, .no, .val (.str hm), .box [], .no, .no, .no]) (fun fl r => fl = .next ∧ ∃ (ws : List Wy) (bx : List D) (s7 s8 s9 s15 s16 s17 : Slot), r = [.box bx, A, B, C, D4, .val (.lst (yn.map D.str)), E6, s7, s8, s9, .no, .no, .no, .val (.str hm), .box (ws.map encW), s15, s16, s17] ∧ ws.map (·.nm) = wn ∧ (∀ w ∈ ws, WOk yn w) ∧ GB (M + 30) bx ∧ Sh s8 (yr.map D.str)) (fun _ _ => False) := by
  refine wp_forL_inv (fun ds r => ∃ (rem : List Str) (ws : List Wy) (bx : List D) (s7 s8 s9 s15 s16 s17 : Slot), ds = rem.map D.str ∧ r = [.box bx, A, B, C, D4, .val (.lst (yn.map D.str)), E6, s7, s8, s9, .no, .no, .no, .val (.str hm), .box (ws.map encW), s15, s16, s17] ∧ ws.map (·.nm) ++ rem = wn ∧ (∀ w ∈ ws, WOk yn w) ∧ GB (M + 6 * ws.length) bx ∧ Sh s7 (kn.map D.str) ∧ Sh s8 (yr.map D.str)) ?_ ?_ ?_
  · rintro d ds r ⟨rem, ws, bx, s7, s8, s9, s15, s16, s17, hd, rfl, hw, hok, g, h7, h8⟩
    rcases rem with _ | ⟨w, rem⟩
    · simp at hd
    simp only [List.map_cons, List.cons.injEq] at hd
    obtain ⟨rfl, rfl⟩ := hd
    have wsl : ws.length + 1 ≤ 5 := by
      have := congrArg List.length hw
      simp at this
      omega
    have wsz : 1000 ≤ sizeLine := by decide
    refine ⟨_, rfl, ?_⟩
    rcases h7 with rfl | rfl <;> rcases h8 with rfl | rfl
    · bv_omega
      refine cwp_mono (take_ok dr.take g (by omega) (by omega) (by omega)) ?_ (fun _ z => z.elim)
      rintro rv outs ⟨v1, b1, rfl, v10, v11, rfl, g1⟩
      bv_omega
      refine br_of (fun h => ?_) (fun h => ?_)
      · bv_omega
        refine cwp_mono (of_ok (ys := yr.map D.str) dr.take dr.of g1 (by omega) rne (by simp; omega)) ?_ (fun _ z => z.elim)
        rintro rv outs ⟨tv, b2, rfl, tm, rfl, g2⟩
        obtain ⟨to, tom, rfl⟩ := List.mem_map.mp tm
        obtain ⟨t1, t2⟩ := hr _ tom
        bv_omega
        refine cwp_mono (of_ok (ys := [.int 0, .int 1, .int 2, .int 2, .int 3]) dr.take dr.of g2 (by omega) (by simp) (by decide)) ?_ (fun _ z => z.elim)
        rintro rv outs ⟨cv, c1, rfl, cm, rfl, gc⟩
        obtain ⟨cap, rfl, cap0, cap3⟩ := caps cm
        bv_omega
        refine cwp_mono (of_ok (ys := kn.map D.str) dr.take dr.of gc (by omega) kne (by simp; omega)) ?_ (fun _ z => z.elim)
        rintro rv outs ⟨kv, c2, rfl, km, rfl, gk⟩
        obtain ⟨ky, kym, rfl⟩ := List.mem_map.mp km
        bv_omega
        refine ⟨by simp; omega, rem, ws ++ [⟨w, hm, to, cap, ky⟩], _, _, _, _, _, _, _, rfl, by rw [List.map_append]; rfl, by simp [← hw], ?_, gk.mono (by simp; omega), by first | exact Or.inr rfl | exact Or.inl rfl, by first | exact Or.inr rfl | exact Or.inl rfl⟩
        intro z hz2
        rcases List.mem_append.mp hz2 with hz2 | hz2
        · exact hok z hz2
        · rw [List.mem_singleton] at hz2
          subst hz2
          exact ⟨hhm, t1, (fun h => t2 h.symm), cap0, cap3, ks _ kym⟩
      · bv_omega
        refine cwp_mono (pick_ok (ys := yn.map D.str) dr.take dr.pick g1 (by omega) (by omega) (by simp; omega)) ?_ (fun _ z => z.elim)
        rintro rv outs ⟨zs, b2, rfl, hz, rfl, g2⟩
        obtain ⟨p, q, rfl, hp, hq, hpq⟩ := two_of hn hy.1 hz
        have g2 := g2.mono (n := M + 6 * ws.length + 3) (by simp; omega)
        bv_omega
        refine cwp_mono (of_ok (ys := [.int 0, .int 1, .int 2, .int 2, .int 3]) dr.take dr.of g2 (by omega) (by simp) (by decide)) ?_ (fun _ z => z.elim)
        rintro rv outs ⟨cv, c1, rfl, cm, rfl, gc⟩
        obtain ⟨cap, rfl, cap0, cap3⟩ := caps cm
        bv_omega
        refine cwp_mono (of_ok (ys := kn.map D.str) dr.take dr.of gc (by omega) kne (by simp; omega)) ?_ (fun _ z => z.elim)
        rintro rv outs ⟨kv, c2, rfl, km, rfl, gk⟩
        obtain ⟨ky, kym, rfl⟩ := List.mem_map.mp km
        bv_omega
        refine ⟨by simp; omega, rem, ws ++ [⟨w, p, q, cap, ky⟩], _, _, _, _, _, _, _, rfl, by rw [List.map_append]; rfl, by simp [← hw], ?_, gk.mono (by simp; omega), by first | exact Or.inr rfl | exact Or.inl rfl, by first | exact Or.inr rfl | exact Or.inl rfl⟩
        intro z hz2
        rcases List.mem_append.mp hz2 with hz2 | hz2
        · exact hok z hz2
        · rw [List.mem_singleton] at hz2
          subst hz2
          exact ⟨hp, hq, hpq, cap0, cap3, ks _ kym⟩
    · bv_omega
      refine cwp_mono (take_ok dr.take g (by omega) (by omega) (by omega)) ?_ (fun _ z => z.elim)
      rintro rv outs ⟨v1, b1, rfl, v10, v11, rfl, g1⟩
      bv_omega
      refine br_of (fun h => ?_) (fun h => ?_)
      · bv_omega
        refine cwp_mono (of_ok (ys := yr.map D.str) dr.take dr.of g1 (by omega) rne (by simp; omega)) ?_ (fun _ z => z.elim)
        rintro rv outs ⟨tv, b2, rfl, tm, rfl, g2⟩
        obtain ⟨to, tom, rfl⟩ := List.mem_map.mp tm
        obtain ⟨t1, t2⟩ := hr _ tom
        bv_omega
        refine cwp_mono (of_ok (ys := [.int 0, .int 1, .int 2, .int 2, .int 3]) dr.take dr.of g2 (by omega) (by simp) (by decide)) ?_ (fun _ z => z.elim)
        rintro rv outs ⟨cv, c1, rfl, cm, rfl, gc⟩
        obtain ⟨cap, rfl, cap0, cap3⟩ := caps cm
        bv_omega
        refine cwp_mono (of_ok (ys := kn.map D.str) dr.take dr.of gc (by omega) kne (by simp; omega)) ?_ (fun _ z => z.elim)
        rintro rv outs ⟨kv, c2, rfl, km, rfl, gk⟩
        obtain ⟨ky, kym, rfl⟩ := List.mem_map.mp km
        bv_omega
        refine ⟨by simp; omega, rem, ws ++ [⟨w, hm, to, cap, ky⟩], _, _, _, _, _, _, _, rfl, by rw [List.map_append]; rfl, by simp [← hw], ?_, gk.mono (by simp; omega), by first | exact Or.inr rfl | exact Or.inl rfl, by first | exact Or.inr rfl | exact Or.inl rfl⟩
        intro z hz2
        rcases List.mem_append.mp hz2 with hz2 | hz2
        · exact hok z hz2
        · rw [List.mem_singleton] at hz2
          subst hz2
          exact ⟨hhm, t1, (fun h => t2 h.symm), cap0, cap3, ks _ kym⟩
      · bv_omega
        refine cwp_mono (pick_ok (ys := yn.map D.str) dr.take dr.pick g1 (by omega) (by omega) (by simp; omega)) ?_ (fun _ z => z.elim)
        rintro rv outs ⟨zs, b2, rfl, hz, rfl, g2⟩
        obtain ⟨p, q, rfl, hp, hq, hpq⟩ := two_of hn hy.1 hz
        have g2 := g2.mono (n := M + 6 * ws.length + 3) (by simp; omega)
        bv_omega
        refine cwp_mono (of_ok (ys := [.int 0, .int 1, .int 2, .int 2, .int 3]) dr.take dr.of g2 (by omega) (by simp) (by decide)) ?_ (fun _ z => z.elim)
        rintro rv outs ⟨cv, c1, rfl, cm, rfl, gc⟩
        obtain ⟨cap, rfl, cap0, cap3⟩ := caps cm
        bv_omega
        refine cwp_mono (of_ok (ys := kn.map D.str) dr.take dr.of gc (by omega) kne (by simp; omega)) ?_ (fun _ z => z.elim)
        rintro rv outs ⟨kv, c2, rfl, km, rfl, gk⟩
        obtain ⟨ky, kym, rfl⟩ := List.mem_map.mp km
        bv_omega
        refine ⟨by simp; omega, rem, ws ++ [⟨w, p, q, cap, ky⟩], _, _, _, _, _, _, _, rfl, by rw [List.map_append]; rfl, by simp [← hw], ?_, gk.mono (by simp; omega), by first | exact Or.inr rfl | exact Or.inl rfl, by first | exact Or.inr rfl | exact Or.inl rfl⟩
        intro z hz2
        rcases List.mem_append.mp hz2 with hz2 | hz2
        · exact hok z hz2
        · rw [List.mem_singleton] at hz2
          subst hz2
          exact ⟨hp, hq, hpq, cap0, cap3, ks _ kym⟩
    · bv_omega
      refine cwp_mono (take_ok dr.take g (by omega) (by omega) (by omega)) ?_ (fun _ z => z.elim)
      rintro rv outs ⟨v1, b1, rfl, v10, v11, rfl, g1⟩
      bv_omega
      refine br_of (fun h => ?_) (fun h => ?_)
      · bv_omega
        refine cwp_mono (of_ok (ys := yr.map D.str) dr.take dr.of g1 (by omega) rne (by simp; omega)) ?_ (fun _ z => z.elim)
        rintro rv outs ⟨tv, b2, rfl, tm, rfl, g2⟩
        obtain ⟨to, tom, rfl⟩ := List.mem_map.mp tm
        obtain ⟨t1, t2⟩ := hr _ tom
        bv_omega
        refine cwp_mono (of_ok (ys := [.int 0, .int 1, .int 2, .int 2, .int 3]) dr.take dr.of g2 (by omega) (by simp) (by decide)) ?_ (fun _ z => z.elim)
        rintro rv outs ⟨cv, c1, rfl, cm, rfl, gc⟩
        obtain ⟨cap, rfl, cap0, cap3⟩ := caps cm
        bv_omega
        refine cwp_mono (of_ok (ys := kn.map D.str) dr.take dr.of gc (by omega) kne (by simp; omega)) ?_ (fun _ z => z.elim)
        rintro rv outs ⟨kv, c2, rfl, km, rfl, gk⟩
        obtain ⟨ky, kym, rfl⟩ := List.mem_map.mp km
        bv_omega
        refine ⟨by simp; omega, rem, ws ++ [⟨w, hm, to, cap, ky⟩], _, _, _, _, _, _, _, rfl, by rw [List.map_append]; rfl, by simp [← hw], ?_, gk.mono (by simp; omega), by first | exact Or.inr rfl | exact Or.inl rfl, by first | exact Or.inr rfl | exact Or.inl rfl⟩
        intro z hz2
        rcases List.mem_append.mp hz2 with hz2 | hz2
        · exact hok z hz2
        · rw [List.mem_singleton] at hz2
          subst hz2
          exact ⟨hhm, t1, (fun h => t2 h.symm), cap0, cap3, ks _ kym⟩
      · bv_omega
        refine cwp_mono (pick_ok (ys := yn.map D.str) dr.take dr.pick g1 (by omega) (by omega) (by simp; omega)) ?_ (fun _ z => z.elim)
        rintro rv outs ⟨zs, b2, rfl, hz, rfl, g2⟩
        obtain ⟨p, q, rfl, hp, hq, hpq⟩ := two_of hn hy.1 hz
        have g2 := g2.mono (n := M + 6 * ws.length + 3) (by simp; omega)
        bv_omega
        refine cwp_mono (of_ok (ys := [.int 0, .int 1, .int 2, .int 2, .int 3]) dr.take dr.of g2 (by omega) (by simp) (by decide)) ?_ (fun _ z => z.elim)
        rintro rv outs ⟨cv, c1, rfl, cm, rfl, gc⟩
        obtain ⟨cap, rfl, cap0, cap3⟩ := caps cm
        bv_omega
        refine cwp_mono (of_ok (ys := kn.map D.str) dr.take dr.of gc (by omega) kne (by simp; omega)) ?_ (fun _ z => z.elim)
        rintro rv outs ⟨kv, c2, rfl, km, rfl, gk⟩
        obtain ⟨ky, kym, rfl⟩ := List.mem_map.mp km
        bv_omega
        refine ⟨by simp; omega, rem, ws ++ [⟨w, p, q, cap, ky⟩], _, _, _, _, _, _, _, rfl, by rw [List.map_append]; rfl, by simp [← hw], ?_, gk.mono (by simp; omega), by first | exact Or.inr rfl | exact Or.inl rfl, by first | exact Or.inr rfl | exact Or.inl rfl⟩
        intro z hz2
        rcases List.mem_append.mp hz2 with hz2 | hz2
        · exact hok z hz2
        · rw [List.mem_singleton] at hz2
          subst hz2
          exact ⟨hp, hq, hpq, cap0, cap3, ks _ kym⟩
    · bv_omega
      refine cwp_mono (take_ok dr.take g (by omega) (by omega) (by omega)) ?_ (fun _ z => z.elim)
      rintro rv outs ⟨v1, b1, rfl, v10, v11, rfl, g1⟩
      bv_omega
      refine br_of (fun h => ?_) (fun h => ?_)
      · bv_omega
        refine cwp_mono (of_ok (ys := yr.map D.str) dr.take dr.of g1 (by omega) rne (by simp; omega)) ?_ (fun _ z => z.elim)
        rintro rv outs ⟨tv, b2, rfl, tm, rfl, g2⟩
        obtain ⟨to, tom, rfl⟩ := List.mem_map.mp tm
        obtain ⟨t1, t2⟩ := hr _ tom
        bv_omega
        refine cwp_mono (of_ok (ys := [.int 0, .int 1, .int 2, .int 2, .int 3]) dr.take dr.of g2 (by omega) (by simp) (by decide)) ?_ (fun _ z => z.elim)
        rintro rv outs ⟨cv, c1, rfl, cm, rfl, gc⟩
        obtain ⟨cap, rfl, cap0, cap3⟩ := caps cm
        bv_omega
        refine cwp_mono (of_ok (ys := kn.map D.str) dr.take dr.of gc (by omega) kne (by simp; omega)) ?_ (fun _ z => z.elim)
        rintro rv outs ⟨kv, c2, rfl, km, rfl, gk⟩
        obtain ⟨ky, kym, rfl⟩ := List.mem_map.mp km
        bv_omega
        refine ⟨by simp; omega, rem, ws ++ [⟨w, hm, to, cap, ky⟩], _, _, _, _, _, _, _, rfl, by rw [List.map_append]; rfl, by simp [← hw], ?_, gk.mono (by simp; omega), by first | exact Or.inr rfl | exact Or.inl rfl, by first | exact Or.inr rfl | exact Or.inl rfl⟩
        intro z hz2
        rcases List.mem_append.mp hz2 with hz2 | hz2
        · exact hok z hz2
        · rw [List.mem_singleton] at hz2
          subst hz2
          exact ⟨hhm, t1, (fun h => t2 h.symm), cap0, cap3, ks _ kym⟩
      · bv_omega
        refine cwp_mono (pick_ok (ys := yn.map D.str) dr.take dr.pick g1 (by omega) (by omega) (by simp; omega)) ?_ (fun _ z => z.elim)
        rintro rv outs ⟨zs, b2, rfl, hz, rfl, g2⟩
        obtain ⟨p, q, rfl, hp, hq, hpq⟩ := two_of hn hy.1 hz
        have g2 := g2.mono (n := M + 6 * ws.length + 3) (by simp; omega)
        bv_omega
        refine cwp_mono (of_ok (ys := [.int 0, .int 1, .int 2, .int 2, .int 3]) dr.take dr.of g2 (by omega) (by simp) (by decide)) ?_ (fun _ z => z.elim)
        rintro rv outs ⟨cv, c1, rfl, cm, rfl, gc⟩
        obtain ⟨cap, rfl, cap0, cap3⟩ := caps cm
        bv_omega
        refine cwp_mono (of_ok (ys := kn.map D.str) dr.take dr.of gc (by omega) kne (by simp; omega)) ?_ (fun _ z => z.elim)
        rintro rv outs ⟨kv, c2, rfl, km, rfl, gk⟩
        obtain ⟨ky, kym, rfl⟩ := List.mem_map.mp km
        bv_omega
        refine ⟨by simp; omega, rem, ws ++ [⟨w, p, q, cap, ky⟩], _, _, _, _, _, _, _, rfl, by rw [List.map_append]; rfl, by simp [← hw], ?_, gk.mono (by simp; omega), by first | exact Or.inr rfl | exact Or.inl rfl, by first | exact Or.inr rfl | exact Or.inl rfl⟩
        intro z hz2
        rcases List.mem_append.mp hz2 with hz2 | hz2
        · exact hok z hz2
        · rw [List.mem_singleton] at hz2
          subst hz2
          exact ⟨hp, hq, hpq, cap0, cap3, ks _ kym⟩
  · rintro r ⟨rem, ws, bx, s7, s8, s9, s15, s16, s17, hd, rfl, hw, hok, g, h7, h8⟩
    rcases rem with _ | ⟨w, rem⟩
    · rw [List.append_nil] at hw
      refine ⟨rfl, ws, bx, s7, s8, s9, s15, s16, s17, rfl, hw, hok, g.mono ?_, h8⟩
      have := congrArg List.length hw
      simp at this
      omega
    · simp at hd
  · exact ⟨wn, [], b8, _, _, _, _, _, _, rfl, rfl, rfl, fun _ h => by simp at h, by simpa using g, Or.inl rfl, Or.inl rfl⟩
theorem net5_ok {T : List (Str × Fn)} (dr : Draws T) (hN : Has T "_law_net" f_net5) {k : Nat} {m a b c d : Int} {xs : List D} (g : GB m xs) (hm : m ≤ 800000) (ha : 2 ≤ a ∧ a ≤ 4) (hb : 1 ≤ b ∧ b ≤ 5) (hc : 1 ≤ c ∧ c ≤ 4) (hd : 1 ≤ d ∧ d ≤ 4) :
    CWp (callF T (k + 3) "_law_net" [.box xs, .val (.int a), .val (.int b), .val (.int c), .val (.int d)]) (fun rv outs => ∃ y w f zs, rv = .val (encN y w f) ∧ NetP y w f ∧ outs = [.box zs, .val (.int a), .val (.int b), .val (.int c), .val (.int d)] ∧ GB (m + 100) zs) (fun _ => False) := by
  rw [cwp_callF hN rfl]
  unfold f_net5
  bv_omega
  refine cwp_mono (take_ok dr.take g (by omega) (by omega) (by omega)) ?_ (fun _ z => z.elim)
  rintro rv outs ⟨v1, zs1, rfl, v10, v11, rfl, g1⟩
  bv_omega
  refine cwp_mono (pick_ok (ys := yPool.map D.str) dr.take dr.pick g1 (by omega) (by omega) (by decide)) ?_ (fun _ z => z.elim)
  rintro rv outs ⟨ys, bs1, rfl, hy, rfl, g2⟩
  obtain ⟨ss, rest, rfl, hsl, hsp⟩ := picks_str hy
  have l1 : ss.length < 64 := by
    have : (List.map D.str yPool).length = 4 := rfl
    omega
  bv_omega
  rw [sorted_map l1]
  have l2 : (List.map D.str yPool).length = 4 := rfl
  rw [l2] at hsl g2
  have sl : (sortS ss).length = ss.length := (sortS_perm ss).length_eq
  have sr := ris_of (by decide) hsp
  generalize sortS ss = yn at sl sr ⊢
  have g2 := g2.mono (n := m + 5) (by omega)
  bv_omega
  refine cwp_mono (take_ok dr.take g2 (by omega) (by omega) (by omega)) ?_ (fun _ z => z.elim)
  rintro rv outs ⟨v2, b2, rfl, v20, v21, rfl, g3⟩
  bv_omega
  refine cwp_mono (take_ok dr.take g3 (by omega) (by omega) (by omega)) ?_ (fun _ z => z.elim)
  rintro rv outs ⟨v3, b3, rfl, v30, v31, rfl, g4⟩
  bv_omega
  generalize hn6 : (if (1 + if decide (0 < v2) = true then 1 else 0) + v3 < c then (1 + if decide (0 < v2) = true then 1 else 0) + v3 else c) = n6
  have hn6 : 1 ≤ n6 := by
    rw [← hn6]
    split <;> split <;> omega
  refine cwp_mono (pick_ok (ys := kPool.map D.str) dr.take dr.pick g4 (by omega) (by omega) (by decide)) ?_ (fun _ z => z.elim)
  rintro rv outs ⟨ks, b4, rfl, hk, rfl, g5⟩
  obtain ⟨kn, krest, rfl, kl, kp⟩ := picks_str hk
  have l3 : (List.map D.str kPool).length = 4 := rfl
  rw [l3] at kl g5
  have g5 := g5.mono (n := m + 12) (by omega)
  have kne : kn.map D.str ≠ [] := List.ne_nil_of_length_pos (by rw [List.length_map]; omega)
  have ksub : ∀ x ∈ kn, x ∈ kPool := fun x hx => kp.subset (List.mem_append_left _ hx)
  have kl4 : kn.length ≤ 4 := by omega
  have yl2 : 2 ≤ yn.length := by omega
  have yl4 : yn.length ≤ 4 := by omega
  have yne : yn.map D.str ≠ [] := List.ne_nil_of_length_pos (by rw [List.length_map]; omega)
  clear hk kp krest kl hn6 hy hsl hsp sl l1 l2 l3
  bv_omega
  refine cwp_mono (of_ok (ys := yn.map D.str) dr.take dr.of g5 (by omega) yne (by simp; omega)) ?_ (fun _ z => z.elim)
  rintro rv outs ⟨hv, b5, rfl, hvm, rfl, g6⟩
  obtain ⟨hm, hmy, rfl⟩ := List.mem_map.mp hvm
  bv_omega
  refine wp_compL_map (fun d => match d with | .str x => if x = hm then none else some (.str x) | _ => none) ?_ ?_
  · rintro d hd
    obtain ⟨x, hx, rfl⟩ := List.mem_map.mp hd
    refine ⟨_, rfl, ?_⟩
    bv_omega
    refine br_of (fun h => ?_) (fun h => ?_)
    · bv_omega
      simp at h
      simp [h]
    · bv_omega
      simp at h
      simp [h]
  have ef : (yn.map D.str).filterMap (fun d => match d with | .str x => if x = hm then none else some (.str x) | _ => none) = (yn.filter (fun x => x ≠ hm)).map D.str := by
    clear yl2 yl4 yne hmy hvm sr
    induction yn with
    | nil => rfl
    | cons x xs ih =>
      rw [List.map_cons, List.filterMap_cons, ih]
      by_cases h : x = hm <;> simp [h]
  rw [ef]
  have ry : ∀ x ∈ yn.filter (fun x => x ≠ hm), x ∈ yn ∧ x ≠ hm := fun x hx => by simpa using hx
  have ynd : yn.Nodup := ris_nodup sr
  have rne : (yn.filter (fun x => x ≠ hm)).map D.str ≠ [] := by
    have : ∃ x ∈ yn, x ≠ hm := by
      rcases yn with _ | ⟨p, _ | ⟨q, t⟩⟩
      · simp at yl2
      · simp at yl2
      · by_cases h : p = hm
        · subst h
          refine ⟨q, by simp, fun h => ?_⟩
          subst h
          simp at ynd
        · exact ⟨p, by simp, h⟩
    obtain ⟨x, h1, h2⟩ := this
    exact List.ne_nil_of_mem (List.mem_map_of_mem (a := x) (by simp [h1, h2]))
  have rl : (yn.filter (fun x => x ≠ hm)).length ≤ 4 := Nat.le_trans (List.length_filter_le _ _) yl4
  generalize yn.filter (fun x => x ≠ hm) = yr at ry rne rl ⊢
  clear ef
  have g6 := g6.mono (n := m + 13) (by omega)
  bv_omega
  refine cwp_mono (take_ok dr.take g6 (by omega) (by omega) (by omega)) ?_ (fun _ z => z.elim)
  rintro rv outs ⟨v4, b6, rfl, v40, v41, rfl, g7⟩
  bv_omega
  refine cwp_mono (take_ok dr.take g7 (by omega) (by omega) (by omega)) ?_ (fun _ z => z.elim)
  rintro rv outs ⟨v5, b7, rfl, v50, v51, rfl, g8⟩
  bv_omega
  generalize hn7 : (if (if decide (0 < v4) = true then 1 else 0) * (1 + v5) < b then (if decide (0 < v4) = true then 1 else 0) * (1 + v5) else b) = n7
  have hn7 : 0 ≤ n7 := by
    rw [← hn7]
    split <;> split <;> omega
  refine ⟨by split <;> simp [fits64], ?_⟩
  refine cwp_mono (pick_ok (ys := wPool.map D.str) dr.take dr.pick g8 (by omega) (by omega) (by decide)) ?_ (fun _ z => z.elim)
  rintro rv outs ⟨ws0, b8, rfl, hw, rfl, g9⟩
  obtain ⟨wn, wrest, rfl, wl, wp⟩ := picks_str hw
  have l3 : (List.map D.str wPool).length = 5 := rfl
  rw [l3] at wl g9
  have g9 := g9.mono (n := m + 20) (by omega)
  have l4 : wn.length < 64 := by omega
  bv_omega
  rw [sorted_map l4]
  have sl : (sortS wn).length = wn.length := (sortS_perm wn).length_eq
  have wr := ris_of (by decide) wp
  have wl5 : (sortS wn).length ≤ 5 := by omega
  generalize sortS wn = wn at wr wl5 ⊢
  clear hw wp wrest wl l3 l4 sl
  bv_omega
  refine wp_mono (net5_loop dr g9 (by omega) ⟨yl2, yl4⟩ ynd hmy ry rne rl kne kl4 ksub wl5) ?_ (fun _ _ z => z.elim)
  rintro fl r ⟨rfl, ws, b9, s7, s8, s9, s15, s16, s17, rfl, hwn, wok, gA, h8⟩
  bv_omega
  refine cwp_mono (take_ok dr.take gA (by omega) (by omega) (by omega)) ?_ (fun _ z => z.elim)
  rintro rv outs ⟨v6, bA, rfl, v60, v61, rfl, gB⟩
  bv_omega
  refine cwp_mono (take_ok dr.take gB (by omega) (by omega) (by omega)) ?_ (fun _ z => z.elim)
  rintro rv outs ⟨v7, bB, rfl, v70, v71, rfl, gC⟩
  bv_omega
  generalize hn8 : (if (if decide (0 < v6) = true then 1 else 0) * (1 + v7) < d then (if decide (0 < v6) = true then 1 else 0) * (1 + v7) else d) = n8
  have hn8 : 0 ≤ n8 := by
    rw [← hn8]
    split <;> split <;> omega
  refine ⟨by split <;> simp [fits64], ?_⟩
  refine cwp_mono (pick_ok (ys := fPool.map D.str) dr.take dr.pick gC (by omega) (by omega) (by decide)) ?_ (fun _ z => z.elim)
  rintro rv outs ⟨fs0, bC, rfl, hf, rfl, gD⟩
  obtain ⟨fn0, frest, rfl, fl, fp⟩ := picks_str hf
  have l3 : (List.map D.str fPool).length = 4 := rfl
  rw [l3] at fl gD
  have gD := gD.mono (n := m + 60) (by omega)
  have l4 : fn0.length < 64 := by omega
  bv_omega
  rw [sorted_map l4]
  have sl : (sortS fn0).length = fn0.length := (sortS_perm fn0).length_eq
  have fr := ris_of (by decide) fp
  have fl4 : (sortS fn0).length ≤ 4 := by omega
  generalize sortS fn0 = fn at fr fl4 ⊢
  clear hf fp frest fl l3 l4 sl
  bv_omega
  refine wp_compL_inv (acc := []) (fun ds acc r => ∃ (rem : List Str) (st : List Int) (bx : List D), ds = rem.map D.str ∧ acc = st.map D.int ∧ st.length + rem.length = yn.length ∧ (∀ i ∈ st, 0 ≤ i) ∧ GB (m + 60 + st.length) bx ∧ r = [.box bx, .val (.int a), .val (.int b), .val (.int c), .val (.int d), .val (.lst (yn.map D.str)), .val (.int n8), s7, s8, .no, .box (fn.map D.str), .no, .no, .val (.str hm), .box (ws.map encW), s15, s16, s17]) ⟨yn, [], bC, rfl, rfl, by simp, fun _ h => by simp at h, by simpa using gD, rfl⟩ ?_ ?_
  · rintro e ds acc r ⟨rem, st, bx, hd, rfl, hl, h0, g, rfl⟩
    rcases rem with _ | ⟨x, rem⟩
    · simp at hd
    simp only [List.map_cons, List.cons.injEq] at hd
    obtain ⟨rfl, rfl⟩ := hd
    simp only [List.length_cons] at hl
    refine ⟨_, rfl, ?_⟩
    bv_omega
    refine br_of (fun h => ?_) (fun h => ?_)
    · bv_omega
      refine cwp_mono (take_ok dr.take g (by omega) (by omega) (by omega)) ?_ (fun _ z => z.elim)
      rintro rv outs ⟨v, bz, rfl, v0, v1, rfl, gz⟩
      bv_omega
      refine ⟨rem, st ++ [2 + v], bz, rfl, by simp, by simp; omega, ?_, gz.mono (by simp; omega), rfl⟩
      intro i hi
      rcases List.mem_append.mp hi with hi | hi
      · exact h0 i hi
      · rw [List.mem_singleton] at hi; omega
    · bv_omega
      refine cwp_mono (take_ok dr.take g (by omega) (by omega) (by omega)) ?_ (fun _ z => z.elim)
      rintro rv outs ⟨v, bz, rfl, v0, v1, rfl, gz⟩
      bv_omega
      refine ⟨rem, st ++ [v / 3], bz, rfl, by simp, by simp; omega, ?_, gz.mono (by simp; omega), rfl⟩
      intro i hi
      rcases List.mem_append.mp hi with hi | hi
      · exact h0 i hi
      · rw [List.mem_singleton] at hi; omega
  rintro xs0 r ⟨rem, st, bx, hd, hxs, hl, h0, g, rfl⟩
  rcases rem with _ | ⟨x, rem⟩
  case cons => simp at hd
  rw [List.nil_append] at hxs
  subst hxs
  have stl : st.length = yn.length := by simpa using hl
  have gE := g.mono (n := m + 66) (by omega)
  bv_omega
  refine wp_compL_inv (acc := []) (fun ds acc r => ∃ (rem : List Str) (gl : List Str) (bx : List D) (s8 : Slot), ds = rem.map D.str ∧ acc = gl.map D.str ∧ gl.length + rem.length = fn.length ∧ (∀ i ∈ gl, i ∈ yn) ∧ GB (m + 66 + 2 * gl.length) bx ∧ Sh s8 (yr.map D.str) ∧ r = [.box bx, .val (.int a), .val (.int b), .val (.int c), .val (.int d), .val (.lst (yn.map D.str)), .val (.int n8), s7, s8, .no, .box (fn.map D.str), .box (st.map D.int), .no, .val (.str hm), .box (ws.map encW), s15, s16, s17]) ⟨fn, [], bx, s8, rfl, rfl, by simp, fun _ h => by simp at h, by simpa using gE, h8, rfl⟩ ?_ ?_
  · rintro e ds acc r ⟨rem, gl, bx, s8, hd, rfl, hl, h0, g, h8, rfl⟩
    rcases rem with _ | ⟨x, rem⟩
    · simp at hd
    simp only [List.map_cons, List.cons.injEq] at hd
    obtain ⟨rfl, rfl⟩ := hd
    simp only [List.length_cons] at hl
    refine ⟨_, rfl, ?_⟩
    bv_omega
    refine cwp_mono (take_ok dr.take g (by omega) (by omega) (by omega)) ?_ (fun _ z => z.elim)
    rintro rv outs ⟨v, bz, rfl, v0, v1, rfl, gz⟩
    bv_omega
    refine br_of (fun h => ?_) (fun h => ?_)
    · bv_omega
      refine cwp_mono (of_ok (ys := yn.map D.str) dr.take dr.of gz (by omega) yne (by simp; omega)) ?_ (fun _ z => z.elim)
      rintro rv outs ⟨tv, b2, rfl, tm, rfl, g2⟩
      obtain ⟨to, tom, rfl⟩ := List.mem_map.mp tm
      bv_omega
      refine ⟨rem, gl ++ [to], b2, _, rfl, by simp, by simp; omega, ?_, g2.mono (by simp; omega), h8, rfl⟩
      intro i hi
      rcases List.mem_append.mp hi with hi | hi
      · exact h0 i hi
      · rw [List.mem_singleton] at hi; subst hi; exact tom
    · rcases h8 with rfl | rfl
      · bv_omega
        refine cwp_mono (of_ok (ys := yr.map D.str) dr.take dr.of gz (by omega) rne (by simp; omega)) ?_ (fun _ z => z.elim)
        rintro rv outs ⟨tv, b2, rfl, tm, rfl, g2⟩
        obtain ⟨to, tom, rfl⟩ := List.mem_map.mp tm
        bv_omega
        refine ⟨rem, gl ++ [to], b2, _, rfl, by simp, by simp; omega, ?_, g2.mono (by simp; omega), Or.inr rfl, rfl⟩
        intro i hi
        rcases List.mem_append.mp hi with hi | hi
        · exact h0 i hi
        · rw [List.mem_singleton] at hi; subst hi; exact (ry _ tom).1
      · bv_omega
        refine cwp_mono (of_ok (ys := yr.map D.str) dr.take dr.of gz (by omega) rne (by simp; omega)) ?_ (fun _ z => z.elim)
        rintro rv outs ⟨tv, b2, rfl, tm, rfl, g2⟩
        obtain ⟨to, tom, rfl⟩ := List.mem_map.mp tm
        bv_omega
        refine ⟨rem, gl ++ [to], b2, _, rfl, by simp, by simp; omega, ?_, g2.mono (by simp; omega), Or.inr rfl, rfl⟩
        intro i hi
        rcases List.mem_append.mp hi with hi | hi
        · exact h0 i hi
        · rw [List.mem_singleton] at hi; subst hi; exact (ry _ tom).1
  rintro xs1 r ⟨rem, gl, bx, s8, hd, hxs, hl, hg0, g, h8, rfl⟩
  rcases rem with _ | ⟨x, rem⟩
  case cons => simp at hd
  rw [List.nil_append] at hxs
  subst hxs
  have gll : gl.length = fn.length := by simpa using hl
  bv_omega
  rw [pairs_y, pairs_f]
  have e1 : (yn.zip st).map (·.1) = yn := by rw [List.map_fst_zip (by omega)]
  have e2 : (fn.zip gl).map (·.1) = fn := by rw [List.map_fst_zip (by omega)]
  refine ⟨yn.zip st, ws, fn.zip gl, bx, rfl, ?_, ⟨rfl, g.mono (by omega)⟩⟩
  refine ⟨by rw [e1]; exact sr, by simp; omega, by simp; omega, ?_, by rw [hwn]; exact wr, ?_, ?_, ?_, fun p hp => (wok p hp).n, fun p hp => (wok p hp).c, fun p hp => (wok p hp).k, by rw [e2]; exact fr, by simp; omega, ?_⟩
  · intro p hp
    exact h0 _ (List.of_mem_zip hp).2
  · have := congrArg List.length hwn
    simp at this
    omega
  · rw [e1]; exact fun p hp => (wok p hp).f
  · rw [e1]; exact fun p hp => (wok p hp).t
  · rw [e1]
    intro p hp
    exact hg0 _ (List.of_mem_zip hp).2
end Ev

-- part EvP1
set_option maxHeartbeats 4000000
/-! EvP1: names, counts, rows, nets. -/
namespace Ev
open PySem
local macro_rules | `(tactic| bv_omega) => `(tactic| simp (maxSteps := 1000000) (dsimp := false) only [↓cwp_runM, ↓cwp_ret, ↓br_t, ↓br_f, ↓wp_ok, ↓wp_exc, ↓wp_stuck, ↓wp_bind, ↓wp_pure, ↓wp_var, ↓wp_cst, ↓wp_glo, ↓wp_tup, ↓wp_lst, ↓wp_bin, ↓wp_tupS, ↓wp_lstS, ↓wp_ds0, ↓wp_ds1, st_f, st_tt, st_tl, List.headD_cons, List.headD_nil, List.tail_cons, List.tail_nil, ↓wp_neg, ↓wp_not, ↓wp_cmp, ↓wp_cmp2, ↓wp_and, ↓wp_or, ↓wp_ite, ↓wp_idx, ↓wp_sli, ↓wp_rev, ↓wp_onone, ↓wp_osome, ↓wp_nil, ↓wp_cons, ↓wp_bi, ↓wp_call, ↓wp_callk, ↓wp_callv, ↓wp_doCall, ↓wp_app, ↓wp_popAt, ↓wp_comp, ↓wp_turn, ↓wp_ifs0, ↓wp_ifs1, ↓wp_seq, ↓wp_rng, ↓wp_zip, ↓wp_enum, ↓wp_expr, ↓wp_asg, ↓wp_asgt, ↓wp_par, ↓wp_asgI, ↓wp_ret, ↓wp_ret0, ↓wp_pass, ↓wp_cont, ↓wp_brk, ↓wp_ifs, ↓wp_for, ↓wp_raise, ↓wp_snil, ↓wp_scons, ↓wp_toval, ↓wp_toown, ↓wp_tobor, ↓wp_tonil, ↓wp_tocons, ↓wp_pa0, ↓wp_paf, ↓wp_pao, ↓wp_pab, ↓wp_so0, ↓wp_sob, ↓wp_sov, ↓wp_soo, looks0, ↓op_looks, ↓op_some, ↓op_none, ↓op_ite, ↓op_map, ↓op_bind, ↓lk_val, ↓lk_own, ↓lk_bor, binOp, cmpOp, idxOp, bi_len1, bi_len2, bi_len3, bi_len4, bi_abs, bi_int1, bi_int2, bi_tup1, bi_tup2, bi_lst1, bi_lst2, bi_min2, bi_max2, bi_zipT, bi_isi, bi_all, bi_any, bi_sum, truD, asgRV, parAsg, asgT, asgTs, isMut, lent, nodupB, giveBack, noBor, negOp, revOp, atIx, rngOf, sliI, sb_int_int, sb_int_bool, sb_int_str, sb_int_list, sb_int_tuple, sb_bool_int, sb_bool_bool, sb_bool_str, sb_bool_list, sb_bool_tuple, sb_str_int, sb_str_bool, sb_str_str, sb_str_list, sb_str_tuple, sb_tuple_int, sb_tuple_bool, sb_tuple_str, sb_tuple_list, sb_tuple_tuple, sb_list_int, sb_list_bool, sb_list_str, sb_list_list, sb_list_tuple, sb_NoneType_int, sb_NoneType_bool, sb_NoneType_str, sb_NoneType_list, sb_NoneType_tuple, zip_ll, zip_tt, lockNil, lockBox, eqbs_refl, eqOp_str, eqOp_int, eqOp_bl, wipeE, restE, slotGet, Option.getD_some, Option.getD_none, partI, itemsD, seqD, lockOf, locksOf, shareL, List.foldl, outsOk, outOk, Int.ofNat_eq_natCast, tyD, permL, List.getElem?_cons_zero, List.getElem?_cons_succ, List.set_cons_zero, List.set_cons_succ, List.length_cons, List.length_nil, List.cons_append, List.nil_append, List.append_nil, List.replicate, List.take_succ_cons, List.take_zero, List.take_nil, List.all_cons, List.all_nil, List.any_cons, List.any_nil, List.contains_nil, List.contains_cons, List.isEmpty_nil, List.isEmpty_cons, Bool.true_and, Bool.and_true, Bool.false_and, Bool.and_false, Bool.true_or, Bool.or_true, Bool.false_or, Bool.or_false, Bool.not_true, Bool.not_false, true_and, and_true, false_and, and_false, if_true, if_false, Bool.false_eq_true, Nat.reduceSub, Nat.reduceAdd, Nat.reduceLT, Int.reduceLT, Int.reduceLE, Int.reduceToNat, Int.reducePow, Int.reduceAdd, Int.reduceSub, Int.reduceMul, Int.cast_ofNat_Int, Nat.reduceMul, Int.reduceNeg, Option.bind_some, Option.bind_none, Option.map_some, Option.map_none, decide_true, decide_false, reduceIte, ↓reduceIte, beq_self_eq_true, Nat.reduceBEq, Nat.reduceEqDiff])
theorem cwp_eq {x : CRes} {v : RV} {os : List Slot} (h : CWp x (fun rv o => rv = v ∧ o = os) (fun _ => False)) : x = .ret v os := by
  cases x with
  | ret a b => obtain ⟨rfl, rfl⟩ := (h : a = v ∧ b = os); rfl
  | exc e => exact (h : False).elim
  | stuck => exact (h : False).elim
def f_is_number : Fn := ⟨1, 1, [false], [
  .ret (.and (.bi (.isi ["int"]) [(.var 0)]) (.not (.bi (.isi ["bool"]) [(.var 0)])))]⟩
def f_is_count : Fn := ⟨1, 1, [false], [
  .ret (.and (.call "is_number" [false] [(.var 0)]) (.cmp .GtE (.var 0) (.cst (.int (0)))))]⟩
def letters : Str := "abcdefghijklmnopqrstuvwxyz"
def f_is_name : Fn := ⟨1, 2, [false], [
  .ifs (.or (.not (.bi (.isi ["str"]) [(.var 0)])) (.not (.cmp2 .LtE .LtE (.cst (.int (1))) (.bi .len [(.var 0)]) (.glo "MOST_LETTERS" (.int (8)))))) [.ret (.cst (.bl false))] [],
  .ret (.bi .all [(.comp (.cmp .In (.var 1) (.glo "LETTERS" (.str "abcdefghijklmnopqrstuvwxyz"))) (.name 1) (.seq (.var 0)) [] [1])])]⟩
def f_is_rising : Fn := ⟨1, 3, [false], [
  .ret (.bi .all [(.comp (.cmp .Lt (.var 1) (.var 2)) (.tup [(.name 1), (.name 2)]) (.zip [(.var 0), (.sli (.var 0) (some (.cst (.int (1)))) none)]) [] [1, 2])])]⟩
def f_set_of : Fn := ⟨1, 1, [false], [
  .ret (.bi .tuple [(.bi .sortedSet [(.var 0)])])]⟩
def nameB (x : Str) : Bool := decide (1 ≤ x.length) && decide (x.length ≤ 8) && x.cps.toList.all fun c => decide (c ∈ letters.cps.toList)
def risB (ss : List Str) : Bool := (ss.zip (ss.drop 1)).all fun p => decide (ltS p.1 p.2)
theorem ty_int {i ts} : biOp (.isi ts) [.int i] = some (.val (.bl (ts.any fun u => subTy "int" u))) := rfl
theorem ty_str {i ts} : biOp (.isi ts) [.str i] = some (.val (.bl (ts.any fun u => subTy "str" u))) := rfl
theorem ty_tup {i ts} : biOp (.isi ts) [.tup i] = some (.val (.bl (ts.any fun u => subTy "tuple" u))) := rfl
theorem ty_lst {i ts} : biOp (.isi ts) [.lst i] = some (.val (.bl (ts.any fun u => subTy "list" u))) := rfl
def chB : D → Bool
  | .str z => (match z.cps.toList with
    | [c] => decide (c ∈ letters.cps.toList)
    | _ => false)
  | _ => false
theorem inOp_ch {c : Nat} : inOp (.str ⟨#[c]⟩) (.str "abcdefghijklmnopqrstuvwxyz") = some (chB (.str ⟨#[c]⟩)) := rfl
theorem all_bools {xs : List D} {f : D → Bool} : xs.filterMap (fun d => some (D.bl (f d))) = (xs.map f).map D.bl := by
  rw [List.map_map]
  induction xs with
  | nil => rfl
  | cons x xs ih => simp
theorem cut1 {α : Type} (xs : List α) : cutL xs (some 1) none = xs.drop 1 := by
  cases xs with
  | nil => rfl
  | cons a b =>
    have : min 1 (b.length + 1) = 1 := by omega
    simp [cutL, cutLo, cutHi, clampI, this]
def ltB : D → Bool
  | .tup [.str a, .str b] => decide (a.cps.toList < b.cps.toList)
  | _ => false
theorem number_eq {T : List (Str × Fn)} (h : Has T "is_number" f_is_number) {k : Nat} {i : Int} : callF T (k + 1) "is_number" [.val (.int i)] = .ret (.val (.bl true)) [.val (.int i)] := by
  apply cwp_eq
  rw [cwp_callF h rfl]
  unfold f_is_number
  bv_omega
theorem count_eq {T : List (Str × Fn)} (h : Has T "is_number" f_is_number) (h2 : Has T "is_count" f_is_count) {k : Nat} {i : Int} : callF T (k + 2) "is_count" [.val (.int i)] = .ret (.val (.bl (decide (0 ≤ i)))) [.val (.int i)] := by
  apply cwp_eq
  rw [cwp_callF h2 rfl]
  unfold f_is_count
  bv_omega
  rw [number_eq h]
  bv_omega
theorem name_eq {T : List (Str × Fn)} (h : Has T "is_name" f_is_name) {k : Nat} {x : Str} (hx : x.length ≤ 1000) : callF T (k + 1) "is_name" [.val (.str x)] = .ret (.val (.bl (nameB x))) [.val (.str x)] := by
  apply cwp_eq
  rw [cwp_callF h rfl]
  unfold f_is_name
  have hs : 1000 ≤ sizeLine := by decide
  have hs : x.length ≤ sizeLine := by omega
  bv_omega
  refine ⟨hs, ?_⟩
  have bad : ¬ (1 ≤ x.length ∧ x.length ≤ 8) → RV.val (D.bl false) = RV.val (D.bl (nameB x)) := fun h => by
    congr 2
    unfold nameB
    rw [eq_comm]
    by_cases h1 : 1 ≤ x.length
    · simp [show ¬ x.length ≤ 8 from fun h2 => h ⟨h1, h2⟩]
    · simp [h1]
  refine br_of (fun h1 => ?_) (fun h1 => ?_)
  · bv_omega
    refine br_of (fun h2 => ?_) (fun h2 => ?_)
    · bv_omega
      simp at h2
      exact bad fun h => by omega
    · bv_omega
      refine ⟨hs, wp_compL_map (fun d => some (.bl (chB d))) ?_ ?_⟩
      · intro d hd
        obtain ⟨c, hc, rfl⟩ := List.mem_map.mp hd
        refine ⟨_, rfl, ?_⟩
        bv_omega
        rw [inOp_ch]
        bv_omega
      · rw [all_bools]
        bv_omega
        congr 2
        unfold nameB
        simp at h1 h2
        rw [show decide (1 ≤ x.length) = true by simp; omega, show decide (x.length ≤ 8) = true by simp; omega]
        simp only [Bool.true_and, List.all_map]
        rfl
  · bv_omega
    simp at h1
    exact bad fun h => by omega
theorem rising_eq {T : List (Str × Fn)} (h : Has T "is_rising" f_is_rising) {k : Nat} {ss : List Str} : callF T (k + 1) "is_rising" [.val (.lst (ss.map D.str))] = .ret (.val (.bl (risB ss))) [.val (.lst (ss.map D.str))] := by
  apply cwp_eq
  rw [cwp_callF h rfl]
  unfold f_is_rising
  bv_omega
  have ec : cutL (ss.map D.str) (some 1) none = (ss.drop 1).map D.str := by
    rw [cut1, List.map_drop]
  have ep : pairsD (ss.map D.str) ((ss.drop 1).map D.str) = (ss.zip (ss.drop 1)).map fun p => .tup [.str p.1, .str p.2] := by
    unfold pairsD
    rw [List.zip_map, List.map_map]
    rfl
  refine ⟨by decide, ?_⟩
  rw [ec, ep]
  refine wp_compL_map (fun d => some (.bl (ltB d))) ?_ ?_
  · intro d hd
    obtain ⟨p, hp, rfl⟩ := List.mem_map.mp hd
    refine ⟨_, rfl, ?_⟩
    bv_omega
    rfl
  · rw [all_bools]
    bv_omega
    congr 2
    unfold risB
    simp only [List.all_map]
    rfl
/-! rows -/
def fitsR (T : List (Str × Fn)) (k : Nat) (f : Str) (fit : D → Bool) (rows : List D) : Prop := ∀ r ∈ rows, callF T k f [.val r] = .ret (.val (.bl (fit r))) [.val r]
def f_are_rows (fls : List (Str × List Bool)) : Fn := ⟨3, 4, [false, false, false], [
  .ifs (.or (.not (.bi (.isi ["tuple"]) [(.var 0)])) (.not (.bi .all [(.comp (.and (.bi (.isi ["tuple"]) [(.var 3)]) (.cmp .Eq (.bi .len [(.var 3)]) (.var 1))) (.name 3) (.seq (.var 0)) [] [3])]))) [.ret (.cst (.bl false))] [],
  .ifs (.or (.not (.bi .all [(.comp (.call "is_name" [false] [(.idx (.var 3) (.cst (.int (0))))]) (.name 3) (.seq (.var 0)) [] [3])])) (.not (.call "is_rising" [false] [(.comp (.idx (.var 3) (.cst (.int (0)))) (.name 3) (.seq (.var 0)) [] [3])]))) [.ret (.cst (.bl false))] [],
  .ret (.bi .all [(.comp (.callv 2 fls [(.var 3)]) (.name 3) (.seq (.var 0)) [] [3])])]⟩
/-- a row: a name, then so many others -/
def rowOf (w : Nat) (d : D) (x : Str) : Prop := ∃ rest, d = .tup (.str x :: rest) ∧ rest.length + 1 = w
theorem rows_eq {T : List (Str × Fn)} (hn : Has T "is_name" f_is_name) (hr : Has T "is_rising" f_is_rising) {fls : List (Str × List Bool)} (ha : Has T "are_rows" (f_are_rows fls)) {f : Str} (hf : fls.lookup f = some [false]) {k : Nat} {rows : List D} {w : Nat} {nm : D → Str} {fit : D → Bool} (h1 : ∀ r ∈ rows, rowOf w r (nm r) ∧ (nm r).length ≤ 1000) (h2 : fitsR T (k + 1) f fit rows) :
    callF T (k + 2) "are_rows" [.val (.tup rows), .val (.int w), .val (.fn f)] = .ret (.val (.bl ((rows.map nm).all nameB && risB (rows.map nm) && rows.all fit))) [.val (.tup rows), .val (.int w), .val (.fn f)] := by
  apply cwp_eq
  rw [cwp_callF ha rfl]
  unfold f_are_rows
  bv_omega
  refine wp_compL_map (fun d => some (.bl ((fun _ => true) d))) ?_ ?_
  · intro d hd
    obtain ⟨⟨rest, he, hl⟩, _⟩ := h1 d hd
    generalize nm d = x at he
    subst he
    refine ⟨_, rfl, ?_⟩
    bv_omega
    have : ((rest.length + 1 : Nat) : Int) = (w : Int) := by omega
    rw [this]
    simp
  rw [all_bools]
  bv_omega
  rw [show (List.map (fun x => true) rows).all id = true by simp]
  bv_omega
  refine wp_compL_map (fun d => some (.bl ((fun d => nameB (nm d)) d))) ?_ ?_
  · intro d hd
    obtain ⟨⟨rest, he, hl⟩, h0⟩ := h1 d hd
    obtain ⟨x, hx⟩ : ∃ x, nm d = x := ⟨_, rfl⟩
    rw [hx] at he h0
    subst he
    refine ⟨_, rfl, ?_⟩
    bv_omega
    refine ⟨by omega, ?_⟩
    rw [name_eq hn h0]
    bv_omega
    simp only [hx]
  rw [all_bools]
  bv_omega
  have en : (rows.map fun d => nameB (nm d)).all id = (rows.map nm).all nameB := by
    simp only [List.all_map]
    rfl
  rw [en]
  cases q1 : (rows.map nm).all nameB
  · bv_omega
  bv_omega
  refine wp_compL_map (fun d => some (.str (nm d))) ?_ ?_
  · intro d hd
    obtain ⟨⟨rest, he, hl⟩, h0⟩ := h1 d hd
    obtain ⟨x, hx⟩ : ∃ x, nm d = x := ⟨_, rfl⟩
    rw [hx] at he h0
    subst he
    refine ⟨_, rfl, ?_⟩
    bv_omega
    refine ⟨by omega, ?_⟩
    simp only [hx]
  have es : rows.filterMap (fun d => some (D.str (nm d))) = (rows.map nm).map D.str := by
    rw [List.map_map]
    clear h1 h2 q1 en
    induction rows with
    | nil => rfl
    | cons x xs ih => simp
  rw [es]
  bv_omega
  rw [rising_eq hr]
  cases q2 : risB (rows.map nm)
  · bv_omega
  bv_omega
  refine wp_compL_map (fun d => some (.bl (fit d))) ?_ ?_
  · intro d hd
    refine ⟨_, rfl, ?_⟩
    bv_omega
    rw [hf]
    bv_omega
    rw [h2 d hd]
    bv_omega
  rw [all_bools]
  bv_omega
  simp [List.all_map]
end Ev

-- part EvP2
set_option maxHeartbeats 4000000
/-! EvP2: is_net, is_lot, is_hours. -/
namespace Ev
open PySem
local macro_rules | `(tactic| bv_omega) => `(tactic| simp (maxSteps := 1000000) (dsimp := false) only [↓cwp_runM, ↓cwp_ret, ↓br_t, ↓br_f, ↓wp_ok, ↓wp_exc, ↓wp_stuck, ↓wp_bind, ↓wp_pure, ↓wp_var, ↓wp_cst, ↓wp_glo, ↓wp_tup, ↓wp_lst, ↓wp_bin, ↓wp_tupS, ↓wp_lstS, ↓wp_ds0, ↓wp_ds1, st_f, st_tt, st_tl, List.headD_cons, List.headD_nil, List.tail_cons, List.tail_nil, ↓wp_neg, ↓wp_not, ↓wp_cmp, ↓wp_cmp2, ↓wp_and, ↓wp_or, ↓wp_ite, ↓wp_idx, ↓wp_sli, ↓wp_rev, ↓wp_onone, ↓wp_osome, ↓wp_nil, ↓wp_cons, ↓wp_bi, ↓wp_call, ↓wp_callk, ↓wp_callv, ↓wp_doCall, ↓wp_app, ↓wp_popAt, ↓wp_comp, ↓wp_turn, ↓wp_ifs0, ↓wp_ifs1, ↓wp_seq, ↓wp_rng, ↓wp_zip, ↓wp_enum, ↓wp_expr, ↓wp_asg, ↓wp_asgt, ↓wp_par, ↓wp_asgI, ↓wp_ret, ↓wp_ret0, ↓wp_pass, ↓wp_cont, ↓wp_brk, ↓wp_ifs, ↓wp_for, ↓wp_raise, ↓wp_snil, ↓wp_scons, ↓wp_toval, ↓wp_toown, ↓wp_tobor, ↓wp_tonil, ↓wp_tocons, ↓wp_pa0, ↓wp_paf, ↓wp_pao, ↓wp_pab, ↓wp_so0, ↓wp_sob, ↓wp_sov, ↓wp_soo, looks0, ↓op_looks, ↓op_some, ↓op_none, ↓op_ite, ↓op_map, ↓op_bind, ↓lk_val, ↓lk_own, ↓lk_bor, binOp, cmpOp, idxOp, bi_len1, bi_len2, bi_len3, bi_len4, bi_abs, bi_int1, bi_int2, bi_tup1, bi_tup2, bi_lst1, bi_lst2, bi_min2, bi_max2, bi_zipT, bi_isi, bi_all, bi_any, bi_sum, truD, asgRV, parAsg, asgT, asgTs, isMut, lent, nodupB, giveBack, noBor, negOp, revOp, atIx, rngOf, sliI, sb_int_int, sb_int_bool, sb_int_str, sb_int_list, sb_int_tuple, sb_bool_int, sb_bool_bool, sb_bool_str, sb_bool_list, sb_bool_tuple, sb_str_int, sb_str_bool, sb_str_str, sb_str_list, sb_str_tuple, sb_tuple_int, sb_tuple_bool, sb_tuple_str, sb_tuple_list, sb_tuple_tuple, sb_list_int, sb_list_bool, sb_list_str, sb_list_list, sb_list_tuple, sb_NoneType_int, sb_NoneType_bool, sb_NoneType_str, sb_NoneType_list, sb_NoneType_tuple, zip_ll, zip_tt, lockNil, lockBox, eqbs_refl, eqOp_str, eqOp_int, eqOp_bl, wipeE, restE, slotGet, Option.getD_some, Option.getD_none, partI, itemsD, seqD, lockOf, locksOf, shareL, List.foldl, outsOk, outOk, Int.ofNat_eq_natCast, tyD, permL, List.getElem?_cons_zero, List.getElem?_cons_succ, List.set_cons_zero, List.set_cons_succ, List.length_cons, List.length_nil, List.cons_append, List.nil_append, List.append_nil, List.replicate, List.take_succ_cons, List.take_zero, List.take_nil, List.all_cons, List.all_nil, List.any_cons, List.any_nil, List.contains_nil, List.contains_cons, List.isEmpty_nil, List.isEmpty_cons, Bool.true_and, Bool.and_true, Bool.false_and, Bool.and_false, Bool.true_or, Bool.or_true, Bool.false_or, Bool.or_false, Bool.not_true, Bool.not_false, true_and, and_true, false_and, and_false, if_true, if_false, Bool.false_eq_true, Nat.reduceSub, Nat.reduceAdd, Nat.reduceLT, Int.reduceLT, Int.reduceLE, Int.reduceToNat, Int.reducePow, Int.reduceAdd, Int.reduceSub, Int.reduceMul, Int.cast_ofNat_Int, Nat.reduceMul, Int.reduceNeg, Option.bind_some, Option.bind_none, Option.map_some, Option.map_none, decide_true, decide_false, reduceIte, ↓reduceIte, beq_self_eq_true, Nat.reduceBEq, Nat.reduceEqDiff])
def f_is_supply : Fn := ⟨1, 1, [false], [
  .ret (.call "is_count" [false] [(.idx (.var 0) (.cst (.int (1))))])]⟩
def f_is_line : Fn := ⟨1, 3, [false], [
  .asg (.name 1) (.bi .all [(.comp (.call "is_name" [false] [(.var 2)]) (.name 2) (.seq (.tup [(.idx (.var 0) (.cst (.int (1)))), (.idx (.var 0) (.glo "PAIR" (.int (2)))), (.idx (.var 0) (.bin .Sub (.glo "WIDE" (.int (5))) (.cst (.int (1)))))])) [] [2])]),
  .ret (.and (.var 1) (.and (.cmp .NotEq (.idx (.var 0) (.cst (.int (1)))) (.idx (.var 0) (.glo "PAIR" (.int (2))))) (.call "is_count" [false] [(.idx (.var 0) (.glo "PARTS" (.int (3))))])))]⟩
def f_is_at : Fn := ⟨1, 1, [false], [
  .ret (.call "is_name" [false] [(.idx (.var 0) (.cst (.int (1))))])]⟩
def f_is_net : Fn := ⟨1, 3, [false], [
  .ifs (.or (.not (.bi (.isi ["tuple"]) [(.var 0)])) (.or (.cmp .NotEq (.bi .len [(.var 0)]) (.glo "PARTS" (.int (3)))) (.not (.call "are_rows" [false, false, false] [(.idx (.var 0) (.cst (.int (0)))), (.glo "PAIR" (.int (2))), (.glo "is_supply" (.fn "is_supply"))])))) [.ret (.cst (.bl false))] [],
  .ifs (.or (.not (.call "are_rows" [false, false, false] [(.idx (.var 0) (.cst (.int (1)))), (.glo "WIDE" (.int (5))), (.glo "is_line" (.fn "is_line"))])) (.or (.not (.call "are_rows" [false, false, false] [(.idx (.var 0) (.glo "PAIR" (.int (2)))), (.glo "PAIR" (.int (2))), (.glo "is_at" (.fn "is_at"))])) (.cmp .Eq (.bi .len [(.idx (.var 0) (.cst (.int (0))))]) (.cst (.int (0)))))) [.ret (.cst (.bl false))] [],
  .asg (.name 1) (.comp (.idx (.var 2) (.cst (.int (0)))) (.name 2) (.seq (.idx (.var 0) (.cst (.int (0))))) [] [2]),
  .ifs (.not (.bi .all [(.comp (.and (.cmp .In (.idx (.var 2) (.cst (.int (1)))) (.var 1)) (.cmp .In (.idx (.var 2) (.glo "PAIR" (.int (2)))) (.var 1))) (.name 2) (.seq (.idx (.var 0) (.cst (.int (1))))) [] [2])])) [.ret (.cst (.bl false))] [],
  .ret (.bi .all [(.comp (.cmp .In (.idx (.var 2) (.cst (.int (1)))) (.var 1)) (.name 2) (.seq (.idx (.var 0) (.glo "PAIR" (.int (2))))) [] [2])])]⟩
def f_are_counts : Fn := ⟨2, 3, [false, false], [
  .ret (.and (.bi (.isi ["tuple"]) [(.var 0)]) (.and (.cmp .Eq (.bi .len [(.var 0)]) (.var 1)) (.bi .all [(.comp (.call "is_count" [false] [(.var 2)]) (.name 2) (.seq (.var 0)) [] [2])])))]⟩
def f_is_lot : Fn := ⟨2, 2, [false, false], [
  .ret (.call "are_counts" [false, false] [(.var 1), (.bi .len [(.idx (.var 0) (.glo "PAIR" (.int (2))))])])]⟩
def f_is_hours : Fn := ⟨2, 2, [false, false], [
  .ret (.call "are_counts" [false, false] [(.var 1), (.bi .len [(.call "keys_of" [false] [(.var 0)])])])]⟩
def f_keys_of : Fn := ⟨1, 2, [false], [
  .ret (.call "set_of" [false] [(.comp (.idx (.var 1) (.bin .Sub (.glo "WIDE" (.int (5))) (.cst (.int (1))))) (.name 1) (.seq (.idx (.var 0) (.cst (.int (1))))) [] [1])])]⟩
structure HasP (T : List (Str × Fn)) : Prop where
  number : Has T "is_number" f_is_number
  count : Has T "is_count" f_is_count
  name : Has T "is_name" f_is_name
  rising : Has T "is_rising" f_is_rising
  rows : ∃ fls : List (Str × List Bool), Has T "are_rows" (f_are_rows fls) ∧ fls.lookup ("is_supply" : Str) = some [false] ∧ fls.lookup ("is_line" : Str) = some [false] ∧ fls.lookup ("is_at" : Str) = some [false]
  supply : Has T "is_supply" f_is_supply
  line : Has T "is_line" f_is_line
  at_ : Has T "is_at" f_is_at
  net : Has T "is_net" f_is_net
structure HasQ (T : List (Str × Fn)) : Prop where
  setof : Has T "set_of" f_set_of
  counts : Has T "are_counts" f_are_counts
  lot : Has T "is_lot" f_is_lot
  hours : Has T "is_hours" f_is_hours
  keys : Has T "keys_of" f_keys_of
variable {T : List (Str × Fn)} (P : HasP T) {k : Nat}
include P
theorem supply_eq {y : Yd} : callF T (k + 3) "is_supply" [.val (encY y)] = .ret (.val (.bl (decide (0 ≤ y.2)))) [.val (encY y)] := by
  apply cwp_eq
  rw [cwp_callF P.supply rfl]
  unfold f_is_supply encY
  bv_omega
  rw [count_eq P.number P.count]
  bv_omega
theorem at_eq {f : Fk} (h : f.2.length ≤ 1000) : callF T (k + 2) "is_at" [.val (encF f)] = .ret (.val (.bl (nameB f.2))) [.val (encF f)] := by
  apply cwp_eq
  rw [cwp_callF P.at_ rfl]
  unfold f_is_at encF
  bv_omega
  rw [name_eq P.name h]
  bv_omega
def lineB (w : Wy) : Bool := nameB w.fr && nameB w.to && nameB w.ky && !(w.fr == w.to) && decide (0 ≤ w.cp)
def nmB : D → Bool
  | .str x => nameB x
  | _ => false
theorem line_eq {w : Wy} (h1 : w.fr.length ≤ 1000) (h2 : w.to.length ≤ 1000) (h3 : w.ky.length ≤ 1000) : callF T (k + 3) "is_line" [.val (encW w)] = .ret (.val (.bl (lineB w))) [.val (encW w)] := by
  apply cwp_eq
  rw [cwp_callF P.line rfl]
  unfold f_is_line encW
  bv_omega
  refine wp_compL_map (fun d => some (.bl (nmB d))) ?_ ?_
  · intro d hd
    simp only [List.mem_cons, List.not_mem_nil, or_false] at hd
    rcases hd with rfl | rfl | rfl
    · refine ⟨_, rfl, ?_⟩
      bv_omega
      rw [name_eq P.name h1]
      bv_omega
      rfl
    · refine ⟨_, rfl, ?_⟩
      bv_omega
      rw [name_eq P.name h2]
      bv_omega
      rfl
    · refine ⟨_, rfl, ?_⟩
      bv_omega
      rw [name_eq P.name h3]
      bv_omega
      rfl
  rw [all_bools]
  bv_omega
  unfold lineB
  have e : ([D.str w.fr, D.str w.to, D.str w.ky].map nmB).all id = (nameB w.fr && nameB w.to && nameB w.ky) := by
    simp [nmB, Bool.and_assoc]
  rw [e]
  cases (nameB w.fr && nameB w.to && nameB w.ky)
  · bv_omega
  bv_omega
  cases (w.fr == w.to)
  · bv_omega
    rw [count_eq P.number P.count]
    bv_omega
  · bv_omega
theorem setS_len_le : ∀ ss : List Str, (setS ss).length ≤ ss.length
  | [] => Nat.le_refl _
  | x :: xs => by
    have p : ∀ l, (putS x l).length ≤ l.length + 1 := by
      intro l
      induction l with
      | nil => simp [putS]
      | cons y l ih =>
        rw [putS]
        split
        · simp
        · split
          · simp
          · simp; exact ih
    rw [setS]
    exact Nat.le_trans (p _) (by simpa using setS_len_le xs)
omit P in
theorem bi_sset {ss : List Str} (h : ss.length < 64) : biOp .sortedSet [.lst (ss.map D.str)] = some (.own ((setS ss).map D.str)) := by
  simp only [biOp, strsD_map, Option.bind_some, h, if_true]
omit P in
theorem bi_lset {ss : List Str} (h : ss.length < 64) : biOp .lenSet [.lst (ss.map D.str)] = some (.val (.int (setS ss).length)) := by
  simp only [biOp, strsD_map, Option.bind_some, h, if_true]
theorem setof_eq (Qh : HasQ T) {ss : List Str} (h : ss.length < 64) : callF T (k + 1) "set_of" [.val (.lst (ss.map D.str))] = .ret (.val (.tup ((setS ss).map D.str))) [.val (.lst (ss.map D.str))] := by
  apply cwp_eq
  rw [cwp_callF Qh.setof rfl]
  unfold f_set_of
  bv_omega
  rw [bi_sset h]
  bv_omega
def kyD : D → Str
  | .tup [_, _, _, _, .str x] => x
  | _ => ⟨#[]⟩
omit P in
theorem fm_some {α β : Type} (f : α → β) (xs : List α) : xs.filterMap (fun x => some (f x)) = xs.map f := by
  induction xs with
  | nil => rfl
  | cons x xs ih => simp
theorem keys_eq (Qh : HasQ T) {y : List Yd} {w : List Wy} {f : List Fk} (h : w.length < 64) : callF T (k + 2) "keys_of" [.val (encN y w f)] = .ret (.val (.tup ((setS (w.map (·.ky))).map D.str))) [.val (encN y w f)] := by
  apply cwp_eq
  rw [cwp_callF Qh.keys rfl]
  unfold f_keys_of encN
  bv_omega
  refine wp_compL_map (fun d => some ((fun d => .str (kyD d)) d)) ?_ ?_
  · intro d hd
    obtain ⟨q, hq, rfl⟩ := List.mem_map.mp hd
    refine ⟨_, rfl, ?_⟩
    unfold encW
    bv_omega
    rfl
  rw [fm_some, show (List.map encW w).map (fun d => D.str (kyD d)) = (w.map (·.ky)).map D.str by rw [List.map_map, List.map_map]; rfl]
  bv_omega
  rw [setof_eq P Qh (by simpa using h)]
  bv_omega
theorem counts_eq (Qh : HasQ T) {ns : List Int} {n : Int} : callF T (k + 3) "are_counts" [.val (.tup (ns.map D.int)), .val (.int n)] = .ret (.val (.bl (((ns.length : Int) == n) && ns.all fun i => decide (0 ≤ i)))) [.val (.tup (ns.map D.int)), .val (.int n)] := by
  apply cwp_eq
  rw [cwp_callF Qh.counts rfl]
  unfold f_are_counts
  bv_omega
  rw [List.length_map]
  cases ((ns.length : Int) == n)
  · bv_omega
  bv_omega
  refine wp_compL_map (fun d => some (.bl ((fun d => match d with | .int i => decide (0 ≤ i) | _ => false) d))) ?_ ?_
  · intro d hd
    obtain ⟨q, hq, rfl⟩ := List.mem_map.mp hd
    refine ⟨_, rfl, ?_⟩
    bv_omega
    rw [count_eq P.number P.count]
    bv_omega
  rw [all_bools]
  bv_omega
  rw [List.map_map, List.all_map]
  rfl
theorem lot_eq (Qh : HasQ T) {y : List Yd} {w : List Wy} {f : List Fk} {ns : List Int} : callF T (k + 4) "is_lot" [.val (encN y w f), .val (.tup (ns.map D.int))] = .ret (.val (.bl (((ns.length : Int) == (f.length : Int)) && ns.all fun i => decide (0 ≤ i)))) [.val (encN y w f), .val (.tup (ns.map D.int))] := by
  apply cwp_eq
  rw [cwp_callF Qh.lot rfl]
  unfold f_is_lot encN
  bv_omega
  rw [List.length_map, counts_eq P Qh]
  bv_omega
theorem hours_eq (Qh : HasQ T) {y : List Yd} {w : List Wy} {f : List Fk} {ns : List Int} (h : w.length < 64) : callF T (k + 4) "is_hours" [.val (encN y w f), .val (.tup (ns.map D.int))] = .ret (.val (.bl (((ns.length : Int) == ((setS (w.map (·.ky))).length : Int)) && ns.all fun i => decide (0 ≤ i)))) [.val (encN y w f), .val (.tup (ns.map D.int))] := by
  apply cwp_eq
  rw [cwp_callF Qh.hours rfl]
  unfold f_is_hours
  bv_omega
  rw [keys_eq P Qh h]
  bv_omega
  rw [List.length_map, counts_eq P Qh]
  bv_omega
def rowNm : D → Str
  | .tup (.str x :: _) => x
  | _ => ⟨#[]⟩
def supB : D → Bool
  | .tup [_, .int i] => decide (0 ≤ i)
  | _ => false
def linB : D → Bool
  | .tup [.str a, .str b, .str c, .int d, .str e] => lineB ⟨a, b, c, d, e⟩
  | _ => false
def atB : D → Bool
  | .tup [_, .str x] => nameB x
  | _ => false
structure Sml (y : List Yd) (w : List Wy) (f : List Fk) : Prop where
  y1 : ∀ p ∈ y, p.1.length ≤ 1000
  w1 : ∀ p ∈ w, p.nm.length ≤ 1000 ∧ p.fr.length ≤ 1000 ∧ p.to.length ≤ 1000 ∧ p.ky.length ≤ 1000
  f1 : ∀ p ∈ f, p.1.length ≤ 1000 ∧ p.2.length ≤ 1000
def yB (y : List Yd) : Bool := (y.map (·.1)).all nameB && risB (y.map (·.1)) && y.all fun p => decide (0 ≤ p.2)
def wB (w : List Wy) : Bool := (w.map (·.nm)).all nameB && risB (w.map (·.nm)) && w.all lineB
def fB (f : List Fk) : Bool := (f.map (·.1)).all nameB && risB (f.map (·.1)) && f.all fun p => nameB p.2
def netB (y : List Yd) (w : List Wy) (f : List Fk) : Bool := yB y && (wB w && (fB f && (!((y.length : Int) == 0) && (w.all (fun p => decide (p.fr ∈ y.map (·.1)) && decide (p.to ∈ y.map (·.1))) && f.all fun p => decide (p.2 ∈ y.map (·.1))))))
theorem yrows_eq {y : List Yd} (h : ∀ p ∈ y, p.1.length ≤ 1000) : callF T (k + 4) "are_rows" [.val (.tup (y.map encY)), .val (.int 2), .val (.fn "is_supply")] = .ret (.val (.bl (yB y))) [.val (.tup (y.map encY)), .val (.int 2), .val (.fn "is_supply")] := by
  obtain ⟨fls, hR, h1, h2, h3⟩ := P.rows
  have := rows_eq (k := k + 2) (w := 2) (nm := rowNm) (fit := supB) (rows := y.map encY) P.name P.rising hR h1 (by
    intro r hr
    obtain ⟨p, hp, rfl⟩ := List.mem_map.mp hr
    exact ⟨⟨_, rfl, rfl⟩, h p hp⟩) (by
    intro r hr
    obtain ⟨p, hp, rfl⟩ := List.mem_map.mp hr
    exact supply_eq P)
  rw [show ((2 : Nat) : Int) = 2 from rfl] at this
  rw [this]
  unfold yB
  simp only [List.map_map, List.all_map]
  rfl
theorem wrows_eq {w : List Wy} (h : ∀ p ∈ w, p.nm.length ≤ 1000 ∧ p.fr.length ≤ 1000 ∧ p.to.length ≤ 1000 ∧ p.ky.length ≤ 1000) : callF T (k + 4) "are_rows" [.val (.tup (w.map encW)), .val (.int 5), .val (.fn "is_line")] = .ret (.val (.bl (wB w))) [.val (.tup (w.map encW)), .val (.int 5), .val (.fn "is_line")] := by
  obtain ⟨fls, hR, h1, h2, h3⟩ := P.rows
  have := rows_eq (k := k + 2) (w := 5) (nm := rowNm) (fit := linB) (rows := w.map encW) P.name P.rising hR h2 (by
    intro r hr
    obtain ⟨p, hp, rfl⟩ := List.mem_map.mp hr
    exact ⟨⟨_, rfl, rfl⟩, (h p hp).1⟩) (by
    intro r hr
    obtain ⟨p, hp, rfl⟩ := List.mem_map.mp hr
    exact line_eq P (h p hp).2.1 (h p hp).2.2.1 (h p hp).2.2.2)
  rw [show ((5 : Nat) : Int) = 5 from rfl] at this
  rw [this]
  unfold wB
  simp only [List.map_map, List.all_map]
  rfl
theorem frows_eq {f : List Fk} (h : ∀ p ∈ f, p.1.length ≤ 1000 ∧ p.2.length ≤ 1000) : callF T (k + 4) "are_rows" [.val (.tup (f.map encF)), .val (.int 2), .val (.fn "is_at")] = .ret (.val (.bl (fB f))) [.val (.tup (f.map encF)), .val (.int 2), .val (.fn "is_at")] := by
  obtain ⟨fls, hR, h1, h2, h3⟩ := P.rows
  have := rows_eq (k := k + 2) (w := 2) (nm := rowNm) (fit := atB) (rows := f.map encF) P.name P.rising hR h3 (by
    intro r hr
    obtain ⟨p, hp, rfl⟩ := List.mem_map.mp hr
    exact ⟨⟨_, rfl, rfl⟩, (h p hp).1⟩) (by
    intro r hr
    obtain ⟨p, hp, rfl⟩ := List.mem_map.mp hr
    exact at_eq P (h p hp).2)
  rw [show ((2 : Nat) : Int) = 2 from rfl] at this
  rw [this]
  unfold fB
  simp only [List.map_map, List.all_map]
  rfl
omit P in
theorem inOp_strs {x : Str} {ss : List Str} : inOp (.str x) (.lst (ss.map D.str)) = some (decide (x ∈ ss)) := by
  simp only [inOp]
  rw [if_pos]
  · congr 1
    induction ss with
    | nil => rfl
    | cons y ss ih =>
      rw [List.map_cons, List.any_cons, ih]
      by_cases h : y = x
      · subst h; simp [eqD]
      · have : ¬ x = y := fun e => h e.symm
        simp [eqD, h, this]
  · simp [scalD]
def inY (ys : List Str) : D → Bool
  | .tup [_, .str a, .str b, _, _] => decide (a ∈ ys) && decide (b ∈ ys)
  | _ => false
def inF (ys : List Str) : D → Bool
  | .tup [_, .str a] => decide (a ∈ ys)
  | _ => false
theorem net_eq {y : List Yd} {w : List Wy} {f : List Fk} (h : Sml y w f) : callF T (k + 5) "is_net" [.val (encN y w f)] = .ret (.val (.bl (netB y w f))) [.val (encN y w f)] := by
  apply cwp_eq
  rw [cwp_callF P.net rfl]
  unfold f_is_net encN netB
  bv_omega
  rw [yrows_eq P h.y1]
  cases yB y
  · bv_omega
  bv_omega
  rw [wrows_eq P h.w1]
  cases wB w
  · bv_omega
  bv_omega
  rw [frows_eq P h.f1]
  cases fB f
  · bv_omega
  bv_omega
  rw [List.length_map]
  cases ((y.length : Int) == 0)
  rotate_left
  · bv_omega
  bv_omega
  refine wp_compL_map (fun d => some ((fun d => .str (rowNm d)) d)) ?_ ?_
  · intro d hd
    obtain ⟨q, hq, rfl⟩ := List.mem_map.mp hd
    refine ⟨_, rfl, ?_⟩
    unfold encY
    bv_omega
    rfl
  rw [fm_some, show (List.map encY y).map (fun d => D.str (rowNm d)) = (y.map (·.1)).map D.str by rw [List.map_map, List.map_map]; rfl]
  bv_omega
  refine wp_compL_map (fun d => some (.bl (inY (y.map (·.1)) d))) ?_ ?_
  · intro d hd
    obtain ⟨q, hq, rfl⟩ := List.mem_map.mp hd
    refine ⟨_, rfl, ?_⟩
    unfold encW
    bv_omega
    rw [inOp_strs]
    bv_omega
    cases hc : decide (q.fr ∈ y.map (·.1))
    · bv_omega
      simp only [inY, hc, Bool.false_and]
    bv_omega
    rw [inOp_strs]
    bv_omega
    simp only [inY, hc, Bool.true_and]
  rw [all_bools]
  bv_omega
  rw [List.map_map, List.all_map, show (List.all w (id ∘ inY (y.map (·.1)) ∘ encW)) = w.all (fun p => decide (p.fr ∈ y.map (·.1)) && decide (p.to ∈ y.map (·.1))) from rfl]
  cases w.all (fun p => decide (p.fr ∈ y.map (·.1)) && decide (p.to ∈ y.map (·.1)))
  · bv_omega
  bv_omega
  refine wp_compL_map (fun d => some (.bl (inF (y.map (·.1)) d))) ?_ ?_
  · intro d hd
    obtain ⟨q, hq, rfl⟩ := List.mem_map.mp hd
    refine ⟨_, rfl, ?_⟩
    unfold encF
    bv_omega
    rw [inOp_strs]
    bv_omega
    rfl
  rw [all_bools]
  bv_omega
  rw [List.map_map, List.all_map]
  rfl
end Ev

-- part EvR
set_option maxHeartbeats 200000
namespace Ev
open PySem
theorem z_wp_try {call : CallT} {body i ks hs r Q X} : Wp0 (evS call (.try_ body i ks hs) r) Q X = Wp0 (evSs call body r) Q (fun x r1 => ks.contains x.cls = true ∧ (match hs.lookup x.cls with | some p => Op0 (xeVs x p.2) fun ds => p.1 ≠ i ∧ Q .next ((r1.set i .no).set p.1 (.box ds)) | none => X x r1)) := by
  rw [evS]
  dsimp only
  cases evSs call body r with
  | ok f r1 => rfl
  | stuck => rfl
  | exc x r1 =>
    dsimp only [z_wp_exc]
    rw [eq_iff_iff]
    cases hk : ks.contains x.cls with
    | false => simp [Wp0]
    | true =>
      simp only [Bool.not_true, Bool.false_eq_true, if_false, true_and]
      cases hs.lookup x.cls with
      | none => exact Iff.rfl
      | some p =>
        dsimp only
        cases xeVs x p.2 with
        | none => exact Iff.rfl
        | some ds =>
          dsimp only [Op0]
          by_cases h : p.1 = i
          · rw [if_pos h]; simp [h, Wp0]
          · rw [if_neg h]; simp [h, Wp0]
theorem wp_try {call : CallT} {body i ks hs r Q X} : Wp (evS call (.try_ body i ks hs) r) Q X = Wp (evSs call body r) Q (fun x r1 => ks.contains x.cls = true ∧ (match hs.lookup x.cls with | some p => Op (xeVs x p.2) fun ds => p.1 ≠ i ∧ Q .next ((r1.set i .no).set p.1 (.box ds)) | none => X x r1)) := z_wp_try
theorem wp_comp_map {α : Type} {tg own lk turn r Q X} (enc f : α → D) {xs : List α} (h : ∀ a ∈ xs, ∃ r1, asgT tg (enc a) r = some r1 ∧ Wp (turn r1) (fun o r2 => o = some (f a) ∧ lockOk lk r2 = true ∧ wipeE own r2 = r) (fun _ _ => False)) (q : Q (xs.map f) r) : Wp (compL tg own lk turn (xs.map enc) r) Q X := by
  have key : ∀ xs : List α, (∀ a ∈ xs, ∃ r1, asgT tg (enc a) r = some r1 ∧ Wp (turn r1) (fun o r2 => o = some (f a) ∧ lockOk lk r2 = true ∧ wipeE own r2 = r) (fun _ _ => False)) → compL tg own lk turn (xs.map enc) r = .ok (xs.map f) r := by
    intro xs
    induction xs with
    | nil => intro _; rfl
    | cons a xs ih =>
      intro h
      obtain ⟨r1, h1, h2⟩ := h a List.mem_cons_self
      have ih := ih fun b hb => h b (List.mem_cons_of_mem _ hb)
      rw [List.map_cons]
      unfold compL
      rw [h1]
      dsimp only
      revert h2
      cases turn r1 with
      | stuck => exact fun z => z.elim
      | exc e r => exact fun z => z.elim
      | ok o r2 =>
        rintro ⟨rfl, h3, h4⟩
        dsimp only
        rw [if_pos h3, h4, ih]
        rfl
  rw [key xs h]
  exact q
theorem wp_comp_fil {α : Type} {tg own lk turn r Q X} (enc : α → D) (p : α → Bool) (f : α → D) {xs : List α} (h : ∀ a ∈ xs, ∃ r1, asgT tg (enc a) r = some r1 ∧ Wp (turn r1) (fun o r2 => o = (if p a = true then some (f a) else none) ∧ lockOk lk r2 = true ∧ wipeE own r2 = r) (fun _ _ => False)) (q : Q ((xs.filter p).map f) r) : Wp (compL tg own lk turn (xs.map enc) r) Q X := by
  have key : ∀ xs : List α, (∀ a ∈ xs, ∃ r1, asgT tg (enc a) r = some r1 ∧ Wp (turn r1) (fun o r2 => o = (if p a = true then some (f a) else none) ∧ lockOk lk r2 = true ∧ wipeE own r2 = r) (fun _ _ => False)) → compL tg own lk turn (xs.map enc) r = .ok ((xs.filter p).map f) r := by
    intro xs
    induction xs with
    | nil => intro _; rfl
    | cons a xs ih =>
      intro h
      obtain ⟨r1, h1, h2⟩ := h a List.mem_cons_self
      have ih := ih fun b hb => h b (List.mem_cons_of_mem _ hb)
      rw [List.map_cons]
      unfold compL
      rw [h1]
      dsimp only
      revert h2
      cases turn r1 with
      | stuck => exact fun z => z.elim
      | exc e r => exact fun z => z.elim
      | ok o r2 =>
        rintro ⟨rfl, h3, h4⟩
        dsimp only
        rw [if_pos h3, h4, ih]
        dsimp only
        rw [List.filter_cons]
        cases p a <;> rfl
  rw [key xs h]
  exact q
theorem pairs_enc {α β : Type} (e1 : α → D) (e2 : β → D) (xs : List α) (ys : List β) : pairsD (xs.map e1) (ys.map e2) = (xs.zip ys).map fun p => .tup [e1 p.1, e2 p.2] := by
  unfold pairsD
  rw [List.zip_map, List.map_map]
  rfl
/-- so many draws, one for each -/
theorem wp_comp_draw_with {α : Type} {tg own lk turn X} (enc : α → D) {xs : List α} {bx : List D} {rest : Env} {m : Int} {Q : List D → Env → Prop} (out : α → Int → D) (ok : α → Int → Prop) (g : GB m bx) (h : ∀ a ∈ xs, ∀ bx m', GB m' bx → m' ≤ m + xs.length → ∃ r1, asgT tg (enc a) (.box bx :: rest) = some r1 ∧ Wp (turn r1) (fun o r2 => ∃ v bz, o = some (out a v) ∧ ok a v ∧ lockOk lk r2 = true ∧ wipeE own r2 = .box bz :: rest ∧ GB (m' + 1) bz) X) (q : ∀ vs bz, vs.length = xs.length → (∀ p ∈ xs.zip vs, ok p.1 p.2) → GB (m + xs.length) bz → Q ((xs.zip vs).map fun p => out p.1 p.2) (.box bz :: rest)) : Wp (compL tg own lk turn (xs.map enc) (.box bx :: rest)) Q X := by
  refine wp_compL_inv (acc := []) (fun ds acc r => ∃ (don rem : List α) (vs : List Int) (b : List D), don ++ rem = xs ∧ ds = rem.map enc ∧ acc = ((don.zip vs).map fun p => out p.1 p.2) ∧ vs.length = don.length ∧ (∀ p ∈ don.zip vs, ok p.1 p.2) ∧ GB (m + don.length) b ∧ r = .box b :: rest) ⟨[], xs, [], bx, rfl, rfl, rfl, rfl, by simp, by simpa using g, rfl⟩ ?_ ?_
  · rintro d ds acc r ⟨don, rem, vs, b, hx, hd, rfl, hl, ho, g, rfl⟩
    rcases rem with _ | ⟨a, rem⟩
    · simp at hd
    simp only [List.map_cons, List.cons.injEq] at hd
    obtain ⟨rfl, rfl⟩ := hd
    have hlen := congrArg List.length hx
    simp only [List.length_append, List.length_cons] at hlen
    obtain ⟨r1, h1, h2⟩ := h a (by rw [← hx]; simp) b _ g (by omega)
    refine ⟨r1, h1, wp_mono h2 ?_ (fun _ _ z => z)⟩
    rintro o r2 ⟨v, bz, rfl, hok, hlk, hw, g2⟩
    refine ⟨hlk, don ++ [a], rem, vs ++ [v], bz, by simp [hx], rfl, by rw [List.zip_append hl.symm]; simp, by simp [hl], ?_, ?_, hw⟩
    · rw [List.zip_append hl.symm]
      intro p hp
      rcases List.mem_append.mp hp with hp | hp
      · exact ho p hp
      · simp at hp
        subst hp
        exact hok
    · have : m + ((don ++ [a]).length : Int) = m + don.length + 1 := by simp; omega
      rw [this]
      exact g2
  · rintro xs' r ⟨don, rem, vs, b, hx, hd, ha, hl, ho, g, rfl⟩
    rcases rem with _ | ⟨a, rem⟩
    · rw [List.append_nil] at hx
      subst hx
      rw [List.nil_append] at ha
      subst ha
      exact q vs b hl ho g
    · simp at hd
theorem zip_snd {α : Type} {xs : List α} {vs : List Int} (h : vs.length = xs.length) : ((xs.zip vs).map fun p => D.int p.2) = vs.map D.int := by
  rw [show (fun p : α × Int => D.int p.2) = D.int ∘ Prod.snd from rfl, ← List.map_map, List.map_snd_zip (by omega)]
theorem wp_comp_draw {α : Type} {tg own lk turn X} (enc : α → D) {xs : List α} {bx : List D} {rest : Env} {m : Int} {Q : List D → Env → Prop} (ok : α → Int → Prop) (g : GB m bx) (h : ∀ a ∈ xs, ∀ bx m', GB m' bx → m' ≤ m + xs.length → ∃ r1, asgT tg (enc a) (.box bx :: rest) = some r1 ∧ Wp (turn r1) (fun o r2 => ∃ v bz, o = some (.int v) ∧ ok a v ∧ lockOk lk r2 = true ∧ wipeE own r2 = .box bz :: rest ∧ GB (m' + 1) bz) X) (q : ∀ vs bz, vs.length = xs.length → (∀ p ∈ xs.zip vs, ok p.1 p.2) → GB (m + xs.length) bz → Q (vs.map D.int) (.box bz :: rest)) : Wp (compL tg own lk turn (xs.map enc) (.box bx :: rest)) Q X :=
  wp_comp_draw_with enc (fun _ v => .int v) ok g h fun vs bz hl ho g => by rw [zip_snd hl]; exact q vs bz hl ho g
/-- those that draws keep -/
theorem wp_comp_pick {α : Type} {tg own lk turn X} (enc out : α → D) {xs : List α} {bx : List D} {rest : Env} {m : Int} {Q : List D → Env → Prop} (g : GB m bx) (h : ∀ a ∈ xs, ∀ bx m', GB m' bx → m' ≤ m + xs.length → ∃ r1, asgT tg (enc a) (.box bx :: rest) = some r1 ∧ Wp (turn r1) (fun o r2 => ∃ bz, (o = some (out a) ∨ o = none) ∧ lockOk lk r2 = true ∧ wipeE own r2 = .box bz :: rest ∧ GB (m' + 1) bz) X) (q : ∀ sub bz, List.Sublist sub xs → GB (m + xs.length) bz → Q (sub.map out) (.box bz :: rest)) : Wp (compL tg own lk turn (xs.map enc) (.box bx :: rest)) Q X := by
  refine wp_compL_inv (acc := []) (fun ds acc r => ∃ (don rem sub : List α) (b : List D), don ++ rem = xs ∧ ds = rem.map enc ∧ acc = sub.map out ∧ List.Sublist sub don ∧ GB (m + don.length) b ∧ r = .box b :: rest) ⟨[], xs, [], bx, rfl, rfl, rfl, .slnil, by simpa using g, rfl⟩ ?_ ?_
  · rintro d ds acc r ⟨don, rem, sub, b, hx, hd, rfl, hl, g, rfl⟩
    rcases rem with _ | ⟨a, rem⟩
    · simp at hd
    simp only [List.map_cons, List.cons.injEq] at hd
    obtain ⟨rfl, rfl⟩ := hd
    have hlen := congrArg List.length hx
    simp only [List.length_append, List.length_cons] at hlen
    obtain ⟨r1, h1, h2⟩ := h a (by rw [← hx]; simp) b _ g (by omega)
    refine ⟨r1, h1, wp_mono h2 ?_ (fun _ _ z => z)⟩
    rintro o r2 ⟨bz, ho, hlk, hw, g2⟩
    have gg : GB (m + (don ++ [a]).length) bz := by
      have : m + ((don ++ [a]).length : Int) = m + don.length + 1 := by simp; omega
      rw [this]
      exact g2
    rcases ho with rfl | rfl
    · exact ⟨hlk, don ++ [a], rem, sub ++ [a], bz, by simp [hx], rfl, by simp, List.Sublist.append hl (List.Sublist.refl _), gg, hw⟩
    · exact ⟨hlk, don ++ [a], rem, sub, bz, by simp [hx], rfl, by simp, List.Sublist.trans hl (List.sublist_append_left _ _), gg, hw⟩
  · rintro xs' r ⟨don, rem, sub, b, hx, hd, ha, hl, g, rfl⟩
    rcases rem with _ | ⟨a, rem⟩
    · rw [List.append_nil] at hx
      subst hx
      rw [List.nil_append] at ha
      subst ha
      exact q sub b hl g
    · simp at hd
end Ev

-- part EvB
set_option maxHeartbeats 800000
/-! EvB: small things of nets. -/
namespace Ev
open PySem
local macro_rules | `(tactic| bv_omega) => `(tactic| simp (maxSteps := 1000000) (dsimp := false) only [↓cwp_runM, ↓cwp_ret, ↓br_t, ↓br_f, ↓wp_ok, ↓wp_exc, ↓wp_stuck, ↓wp_bind, ↓wp_pure, ↓wp_var, ↓wp_cst, ↓wp_glo, ↓wp_tup, ↓wp_lst, ↓wp_bin, ↓wp_tupS, ↓wp_lstS, ↓wp_ds0, ↓wp_ds1, st_f, st_tt, st_tl, List.headD_cons, List.headD_nil, List.tail_cons, List.tail_nil, ↓wp_neg, ↓wp_not, ↓wp_cmp, ↓wp_cmp2, ↓wp_and, ↓wp_or, ↓wp_ite, ↓wp_idx, ↓wp_sli, ↓wp_rev, ↓wp_onone, ↓wp_osome, ↓wp_nil, ↓wp_cons, ↓wp_bi, ↓wp_call, ↓wp_callk, ↓wp_callv, ↓wp_doCall, ↓wp_app, ↓wp_popAt, ↓wp_comp, ↓wp_turn, ↓wp_ifs0, ↓wp_ifs1, ↓wp_seq, ↓wp_rng, ↓wp_zip, ↓wp_enum, ↓wp_expr, ↓wp_asg, ↓wp_asgt, ↓wp_par, ↓wp_asgI, ↓wp_ret, ↓wp_ret0, ↓wp_pass, ↓wp_cont, ↓wp_brk, ↓wp_ifs, ↓wp_for, ↓wp_raise, ↓wp_snil, ↓wp_scons, ↓wp_toval, ↓wp_toown, ↓wp_tobor, ↓wp_tonil, ↓wp_tocons, ↓wp_pa0, ↓wp_paf, ↓wp_pao, ↓wp_pab, ↓wp_so0, ↓wp_sob, ↓wp_sov, ↓wp_soo, looks0, ↓op_looks, ↓op_some, ↓op_none, ↓op_ite, ↓op_map, ↓op_bind, ↓lk_val, ↓lk_own, ↓lk_bor, binOp, cmpOp, idxOp, bi_len1, bi_len2, bi_len3, bi_len4, bi_abs, bi_int1, bi_int2, bi_tup1, bi_tup2, bi_lst1, bi_lst2, bi_min2, bi_max2, bi_zipT, bi_isi, bi_all, bi_any, bi_sum, truD, asgRV, parAsg, asgT, asgTs, isMut, lent, nodupB, giveBack, noBor, negOp, revOp, atIx, rngOf, sliI, sb_int_int, sb_int_bool, sb_int_str, sb_int_list, sb_int_tuple, sb_bool_int, sb_bool_bool, sb_bool_str, sb_bool_list, sb_bool_tuple, sb_str_int, sb_str_bool, sb_str_str, sb_str_list, sb_str_tuple, sb_tuple_int, sb_tuple_bool, sb_tuple_str, sb_tuple_list, sb_tuple_tuple, sb_list_int, sb_list_bool, sb_list_str, sb_list_list, sb_list_tuple, sb_NoneType_int, sb_NoneType_bool, sb_NoneType_str, sb_NoneType_list, sb_NoneType_tuple, zip_ll, zip_tt, lockNil, lockBox, eqbs_refl, eqOp_str, eqOp_int, eqOp_bl, wipeE, restE, slotGet, Option.getD_some, Option.getD_none, partI, itemsD, seqD, lockOf, locksOf, shareL, List.foldl, outsOk, outOk, Int.ofNat_eq_natCast, tyD, permL, List.getElem?_cons_zero, List.getElem?_cons_succ, List.set_cons_zero, List.set_cons_succ, List.length_cons, List.length_nil, List.cons_append, List.nil_append, List.append_nil, List.replicate, List.take_succ_cons, List.take_zero, List.take_nil, List.all_cons, List.all_nil, List.any_cons, List.any_nil, List.contains_nil, List.contains_cons, List.isEmpty_nil, List.isEmpty_cons, Bool.true_and, Bool.and_true, Bool.false_and, Bool.and_false, Bool.true_or, Bool.or_true, Bool.false_or, Bool.or_false, Bool.not_true, Bool.not_false, true_and, and_true, false_and, and_false, if_true, if_false, Bool.false_eq_true, Nat.reduceSub, Nat.reduceAdd, Nat.reduceLT, Int.reduceLT, Int.reduceLE, Int.reduceToNat, Int.reducePow, Int.reduceAdd, Int.reduceSub, Int.reduceMul, Int.cast_ofNat_Int, Nat.reduceMul, Int.reduceNeg, Option.bind_some, Option.bind_none, Option.map_some, Option.map_none, decide_true, decide_false, reduceIte, ↓reduceIte, beq_self_eq_true, Nat.reduceBEq, Nat.reduceEqDiff])
def f_yard_names : Fn := ⟨1, 2, [false], [
  .ret (.bi .tuple [(.comp (.idx (.var 1) (.cst (.int (0)))) (.name 1) (.seq (.idx (.var 0) (.cst (.int (0))))) [] [1])])]⟩
def f_customer_names : Fn := ⟨1, 2, [false], [
  .ret (.bi .tuple [(.comp (.idx (.var 1) (.cst (.int (0)))) (.name 1) (.seq (.idx (.var 0) (.glo "PAIR" (.int (2))))) [] [1])])]⟩
abbrev tupS (ss : List Str) : D := .tup (ss.map D.str)
theorem inOp_tup {x : Str} {ss : List Str} : inOp (.str x) (.tup (ss.map D.str)) = some (decide (x ∈ ss)) := by
  simp only [inOp]
  rw [if_pos]
  · congr 1
    induction ss with
    | nil => rfl
    | cons y ss ih =>
      rw [List.map_cons, List.any_cons, ih]
      by_cases h : y = x
      · subst h; simp [eqD]
      · have : ¬ x = y := fun e => h e.symm
        simp [eqD, h, this]
  · simp [scalD]
theorem map_int {α : Type} (g : α → Int) (xs : List α) : xs.map (fun a => D.int (g a)) = (xs.map g).map D.int := by rw [List.map_map]; rfl
theorem map_snd {α : Type} (xs : List (α × Int)) : xs.map (fun a => D.int a.2) = (xs.map (·.2)).map D.int := by rw [List.map_map]; rfl
theorem bi_sortT {xs : List D} : biOp .sorted [.tup xs] = (sortG xs).map RV.own := rfl
theorem map_str {α : Type} (g : α → Str) (xs : List α) : xs.map (fun a => D.str (g a)) = (xs.map g).map D.str := by rw [List.map_map]; rfl
theorem setof_eq' {T : List (Str × Fn)} {k : Nat} (h : Has T "set_of" f_set_of) {ss : List Str} (hl : ss.length < 64) : callF T (k + 1) "set_of" [.val (.lst (ss.map D.str))] = .ret (.val (.tup ((setS ss).map D.str))) [.val (.lst (ss.map D.str))] := by
  apply cwp_eq
  rw [cwp_callF h rfl]
  unfold f_set_of
  bv_omega
  rw [bi_sset hl]
  bv_omega
section
variable {α : Type} (nm : α → Str)
def LtN (a b : α) : Prop := ltS (nm a) (nm b)
theorem nodup_of {xs : List α} (h : xs.Pairwise (LtN nm)) : (xs.map nm).Nodup := by
  have h2 : (xs.map nm).Pairwise ltS := List.pairwise_map.mpr h
  exact h2.imp fun h e => by subst e; exact ltS_irrefl _ h
end
def f_line_names : Fn := ⟨1, 2, [false], [
  .ret (.bi .tuple [(.comp (.idx (.var 1) (.cst (.int (0)))) (.name 1) (.seq (.idx (.var 0) (.cst (.int (1))))) [] [1])])]⟩
def f_supply_of : Fn := ⟨2, 3, [false, false], [
  .for_ (.name 2) (.seq (.idx (.var 0) (.cst (.int (0))))) [.ifs (.cmp .Eq (.idx (.var 2) (.cst (.int (0)))) (.var 1)) [.ret (.idx (.var 2) (.cst (.int (1))))] []],
  .raise "NoYard" ["name"] [(.var 1)]]⟩
def f_line_of : Fn := ⟨2, 3, [false, false], [
  .for_ (.name 2) (.seq (.idx (.var 0) (.cst (.int (1))))) [.ifs (.cmp .Eq (.idx (.var 2) (.cst (.int (0)))) (.var 1)) [.ret (.bi .tuple [(.var 2)])] []],
  .raise "NoLine" ["name"] [(.var 1)]]⟩
def f_yard_of : Fn := ⟨2, 3, [false, false], [
  .for_ (.name 2) (.seq (.idx (.var 0) (.glo "PAIR" (.int (2))))) [.ifs (.cmp .Eq (.idx (.var 2) (.cst (.int (0)))) (.var 1)) [.ret (.idx (.var 2) (.cst (.int (1))))] []],
  .raise "NoCustomer" ["name"] [(.var 1)]]⟩
theorem nodup_snoc {ss : List Str} {x : Str} (h : ss.Nodup) (hx : x ∉ ss) : (ss ++ [x]).Nodup := by
  rw [List.nodup_append]
  exact ⟨h, by simp, fun a ha b hb e => by simp at hb; subst hb; subst e; exact hx ha⟩
theorem nodup_inj {α : Type} (nm : α → Str) : ∀ {l : List α} {p q : α}, (l.map nm).Nodup → p ∈ l → q ∈ l → nm p = nm q → p = q
  | [], p, q, _, hp, _, _ => by simp at hp
  | a :: l, p, q, h, hp, hq, e => by
    rw [List.map_cons, List.nodup_cons] at h
    rcases List.mem_cons.mp hp with e1 | hp' <;> rcases List.mem_cons.mp hq with e2 | hq'
    · rw [e1, e2]
    · subst e1; exact absurd (by rw [e]; exact List.mem_map_of_mem hq') h.1
    · subst e2; exact absurd (by rw [← e]; exact List.mem_map_of_mem hp') h.1
    · exact nodup_inj nm h.2 hp' hq' e
section
variable {T : List (Str × Fn)} {k : Nat} {y : List Yd} {w : List Wy} {f : List Fk}
theorem ynames_eq (h : Has T "yard_names" f_yard_names) : callF T (k + 1) "yard_names" [.val (encN y w f)] = .ret (.val (.tup ((y.map (·.1)).map D.str))) [.val (encN y w f)] := by
  apply cwp_eq
  rw [cwp_callF h rfl]
  unfold f_yard_names encN
  bv_omega
  refine wp_comp_map encY (fun p => .str p.1) ?_ ?_
  · intro p hp
    refine ⟨_, rfl, ?_⟩
    unfold encY
    bv_omega
  bv_omega
  rw [map_str]
end
end Ev

-- part EvSame
set_option maxHeartbeats 4000000
/-! EvSame: data that is the same. -/
namespace Ev
open PySem
local macro_rules | `(tactic| bv_omega) => `(tactic| simp (maxSteps := 1000000) (dsimp := false) only [↓cwp_runM, ↓cwp_ret, ↓br_t, ↓br_f, ↓wp_ok, ↓wp_exc, ↓wp_stuck, ↓wp_bind, ↓wp_pure, ↓wp_var, ↓wp_cst, ↓wp_glo, ↓wp_tup, ↓wp_lst, ↓wp_bin, ↓wp_tupS, ↓wp_lstS, ↓wp_ds0, ↓wp_ds1, st_f, st_tt, st_tl, List.headD_cons, List.headD_nil, List.tail_cons, List.tail_nil, ↓wp_neg, ↓wp_not, ↓wp_cmp, ↓wp_cmp2, ↓wp_and, ↓wp_or, ↓wp_ite, ↓wp_idx, ↓wp_sli, ↓wp_rev, ↓wp_onone, ↓wp_osome, ↓wp_nil, ↓wp_cons, ↓wp_bi, ↓wp_call, ↓wp_callk, ↓wp_callv, ↓wp_doCall, ↓wp_app, ↓wp_popAt, ↓wp_comp, ↓wp_turn, ↓wp_ifs0, ↓wp_ifs1, ↓wp_seq, ↓wp_rng, ↓wp_zip, ↓wp_enum, ↓wp_expr, ↓wp_asg, ↓wp_asgt, ↓wp_par, ↓wp_asgI, ↓wp_ret, ↓wp_ret0, ↓wp_pass, ↓wp_cont, ↓wp_brk, ↓wp_ifs, ↓wp_for, ↓wp_raise, ↓wp_snil, ↓wp_scons, ↓wp_toval, ↓wp_toown, ↓wp_tobor, ↓wp_tonil, ↓wp_tocons, ↓wp_pa0, ↓wp_paf, ↓wp_pao, ↓wp_pab, ↓wp_so0, ↓wp_sob, ↓wp_sov, ↓wp_soo, looks0, ↓op_looks, ↓op_some, ↓op_none, ↓op_ite, ↓op_map, ↓op_bind, ↓lk_val, ↓lk_own, ↓lk_bor, binOp, cmpOp, idxOp, bi_len1, bi_len2, bi_len3, bi_len4, bi_abs, bi_int1, bi_int2, bi_tup1, bi_tup2, bi_lst1, bi_lst2, bi_min2, bi_max2, bi_zipT, bi_isi, bi_all, bi_any, bi_sum, truD, asgRV, parAsg, asgT, asgTs, isMut, lent, nodupB, giveBack, noBor, negOp, revOp, atIx, rngOf, sliI, sb_int_int, sb_int_bool, sb_int_str, sb_int_list, sb_int_tuple, sb_bool_int, sb_bool_bool, sb_bool_str, sb_bool_list, sb_bool_tuple, sb_str_int, sb_str_bool, sb_str_str, sb_str_list, sb_str_tuple, sb_tuple_int, sb_tuple_bool, sb_tuple_str, sb_tuple_list, sb_tuple_tuple, sb_list_int, sb_list_bool, sb_list_str, sb_list_list, sb_list_tuple, sb_NoneType_int, sb_NoneType_bool, sb_NoneType_str, sb_NoneType_list, sb_NoneType_tuple, zip_ll, zip_tt, lockNil, lockBox, eqbs_refl, eqOp_str, eqOp_int, eqOp_bl, wipeE, restE, slotGet, Option.getD_some, Option.getD_none, partI, itemsD, seqD, lockOf, locksOf, shareL, List.foldl, outsOk, outOk, Int.ofNat_eq_natCast, tyD, permL, List.getElem?_cons_zero, List.getElem?_cons_succ, List.set_cons_zero, List.set_cons_succ, List.length_cons, List.length_nil, List.cons_append, List.nil_append, List.append_nil, List.replicate, List.take_succ_cons, List.take_zero, List.take_nil, List.all_cons, List.all_nil, List.any_cons, List.any_nil, List.contains_nil, List.contains_cons, List.isEmpty_nil, List.isEmpty_cons, Bool.true_and, Bool.and_true, Bool.false_and, Bool.and_false, Bool.true_or, Bool.or_true, Bool.false_or, Bool.or_false, Bool.not_true, Bool.not_false, true_and, and_true, false_and, and_false, if_true, if_false, Bool.false_eq_true, Nat.reduceSub, Nat.reduceAdd, Nat.reduceLT, Int.reduceLT, Int.reduceLE, Int.reduceToNat, Int.reducePow, Int.reduceAdd, Int.reduceSub, Int.reduceMul, Int.cast_ofNat_Int, Nat.reduceMul, Int.reduceNeg, Option.bind_some, Option.bind_none, Option.map_some, Option.map_none, decide_true, decide_false, reduceIte, ↓reduceIte, beq_self_eq_true, Nat.reduceBEq, Nat.reduceEqDiff])
def f_same : Fn := ⟨2, 4, [false, false], [
  .ifs (.bi (.isi ["list", "tuple"]) [(.var 1)]) [.ifs (.cmp .NotEq (.bi (.isi ["list"]) [(.var 0)]) (.bi (.isi ["list"]) [(.var 1)])) [.ret (.cst (.bl false))] [], .ifs (.cmp .NotEq (.bi (.isi ["tuple"]) [(.var 0)]) (.bi (.isi ["tuple"]) [(.var 1)])) [.ret (.cst (.bl false))] [], .ret (.and (.cmp .Eq (.bi .len [(.var 0)]) (.bi .len [(.var 1)])) (.bi .all [(.comp (.call "_law_same" [false, false] [(.var 2), (.var 3)]) (.tup [(.name 2), (.name 3)]) (.zip [(.var 0), (.var 1)]) [] [2, 3])]))] [],
  .ifs (.or (.cmp .Is (.var 1) (.cst .non)) (.bi (.isi ["bool", "str"]) [(.var 1)])) [.ret (.and (.cmp .Eq (.var 0) (.var 1)) (.and (.cmp .Eq (.bi (.isi ["bool"]) [(.var 0)]) (.bi (.isi ["bool"]) [(.var 1)])) (.cmp .Eq (.cmp .Is (.var 0) (.cst .non)) (.cmp .Is (.var 1) (.cst .non)))))] [],
  .ret (.and (.bi (.isi ["int"]) [(.var 0)]) (.and (.not (.bi (.isi ["bool"]) [(.var 0)])) (.cmp .Eq (.var 0) (.var 1))))]⟩
/-! data without strangers, of a depth -/
mutual
def pure1 : Nat → D → Bool
  | _, .non => true
  | _, .bl _ => true
  | _, .int _ => true
  | _, .str _ => true
  | n + 1, .tup xs => pures n xs
  | n + 1, .lst xs => pures n xs
  | _, _ => false
def pures : Nat → List D → Bool
  | _, [] => true
  | n, x :: xs => pure1 n x && pures n xs
end
theorem pures_mem : ∀ {n : Nat} {xs : List D}, pures n xs = true → ∀ d ∈ xs, pure1 n d = true
  | n, [], _, d, h => by simp at h
  | n, x :: xs, hp, d, h => by
    rw [pures, Bool.and_eq_true] at hp
    rcases List.mem_cons.mp h with rfl | h
    · exact hp.1
    · exact pures_mem hp.2 d h
theorem eqOp_non : eqOp .non .non = some true := rfl
theorem pairs_self {xs : List D} : pairsD xs xs = xs.map fun d => .tup [d, d] := by
  unfold pairsD
  induction xs with
  | nil => rfl
  | cons x xs ih => simpa using ih
theorem all_true {xs : List D} : xs.filterMap (fun _ => some (D.bl true)) = (xs.map fun _ => true).map D.bl := all_bools (f := fun _ => true)
theorem all_id {xs : List D} : (xs.map fun _ => true).all id = true := by simp
theorem same_refl {T : List (Str × Fn)} (h : Has T "_law_same" f_same) : ∀ {n k : Nat} {d : D}, pure1 n d = true → callF T (k + n + 1) "_law_same" [.val d, .val d] = .ret (.val (.bl true)) [.val d, .val d]
  | n, k, .non, _ => by
    apply cwp_eq
    rw [cwp_callF h rfl]
    unfold f_same
    bv_omega
    simp only [isNonD]
    bv_omega
    rw [eqOp_non]
    bv_omega
  | n, k, .bl b, _ => by
    apply cwp_eq
    rw [cwp_callF h rfl]
    unfold f_same
    bv_omega
    simp only [isNonD]
    bv_omega
  | n, k, .int i, _ => by
    apply cwp_eq
    rw [cwp_callF h rfl]
    unfold f_same
    bv_omega
    simp only [isNonD]
    bv_omega
  | n, k, .str x, _ => by
    apply cwp_eq
    rw [cwp_callF h rfl]
    unfold f_same
    bv_omega
    simp only [isNonD]
    bv_omega
  | n + 1, k, .tup xs, hp => by
    apply cwp_eq
    rw [cwp_callF h rfl]
    unfold f_same
    bv_omega
    rw [pairs_self]
    refine wp_compL_map (fun _ => some (.bl true)) ?_ ?_
    · intro d hd
      obtain ⟨e, he, rfl⟩ := List.mem_map.mp hd
      refine ⟨_, rfl, ?_⟩
      bv_omega
      rw [show k + (n + 1) = k + n + 1 by omega, same_refl h (pures_mem (by rw [pure1] at hp; exact hp) e he)]
      bv_omega
    rw [all_true]
    bv_omega
    rw [all_id]
  | n + 1, k, .lst xs, hp => by
    apply cwp_eq
    rw [cwp_callF h rfl]
    unfold f_same
    bv_omega
    rw [pairs_self]
    refine wp_compL_map (fun _ => some (.bl true)) ?_ ?_
    · intro d hd
      obtain ⟨e, he, rfl⟩ := List.mem_map.mp hd
      refine ⟨_, rfl, ?_⟩
      bv_omega
      rw [show k + (n + 1) = k + n + 1 by omega, same_refl h (pures_mem (by rw [pure1] at hp; exact hp) e he)]
      bv_omega
    rw [all_true]
    bv_omega
    rw [all_id]
end Ev

-- part EvL
set_option maxHeartbeats 400000
/-! EvL: a law that goes by hand, then box by box. -/
namespace Ev
open PySem
local macro_rules | `(tactic| bv_omega) => `(tactic| simp (maxSteps := 1000000) (dsimp := false) only [↓cwp_runM, ↓cwp_ret, ↓br_t, ↓br_f, ↓wp_ok, ↓wp_exc, ↓wp_stuck, ↓wp_bind, ↓wp_pure, ↓wp_var, ↓wp_cst, ↓wp_glo, ↓wp_tup, ↓wp_lst, ↓wp_bin, ↓wp_tupS, ↓wp_lstS, ↓wp_ds0, ↓wp_ds1, st_f, st_tt, st_tl, List.headD_cons, List.headD_nil, List.tail_cons, List.tail_nil, ↓wp_neg, ↓wp_not, ↓wp_cmp, ↓wp_cmp2, ↓wp_and, ↓wp_or, ↓wp_ite, ↓wp_idx, ↓wp_sli, ↓wp_rev, ↓wp_onone, ↓wp_osome, ↓wp_nil, ↓wp_cons, ↓wp_bi, ↓wp_call, ↓wp_callk, ↓wp_callv, ↓wp_doCall, ↓wp_app, ↓wp_popAt, ↓wp_comp, ↓wp_turn, ↓wp_ifs0, ↓wp_ifs1, ↓wp_seq, ↓wp_rng, ↓wp_zip, ↓wp_enum, ↓wp_expr, ↓wp_asg, ↓wp_asgt, ↓wp_par, ↓wp_asgI, ↓wp_ret, ↓wp_ret0, ↓wp_pass, ↓wp_cont, ↓wp_brk, ↓wp_ifs, ↓wp_for, ↓wp_raise, ↓wp_snil, ↓wp_scons, ↓wp_toval, ↓wp_toown, ↓wp_tobor, ↓wp_tonil, ↓wp_tocons, ↓wp_pa0, ↓wp_paf, ↓wp_pao, ↓wp_pab, ↓wp_so0, ↓wp_sob, ↓wp_sov, ↓wp_soo, looks0, ↓op_looks, ↓op_some, ↓op_none, ↓op_ite, ↓op_map, ↓op_bind, ↓lk_val, ↓lk_own, ↓lk_bor, binOp, cmpOp, idxOp, bi_len1, bi_len2, bi_len3, bi_len4, bi_abs, bi_int1, bi_int2, bi_tup1, bi_tup2, bi_lst1, bi_lst2, bi_min2, bi_max2, bi_zipT, bi_isi, bi_all, bi_any, bi_sum, truD, asgRV, parAsg, asgT, asgTs, isMut, lent, nodupB, giveBack, noBor, negOp, revOp, atIx, rngOf, sliI, sb_int_int, sb_int_bool, sb_int_str, sb_int_list, sb_int_tuple, sb_bool_int, sb_bool_bool, sb_bool_str, sb_bool_list, sb_bool_tuple, sb_str_int, sb_str_bool, sb_str_str, sb_str_list, sb_str_tuple, sb_tuple_int, sb_tuple_bool, sb_tuple_str, sb_tuple_list, sb_tuple_tuple, sb_list_int, sb_list_bool, sb_list_str, sb_list_list, sb_list_tuple, sb_NoneType_int, sb_NoneType_bool, sb_NoneType_str, sb_NoneType_list, sb_NoneType_tuple, zip_ll, zip_tt, lockNil, lockBox, eqbs_refl, eqOp_str, eqOp_int, eqOp_bl, wipeE, restE, slotGet, Option.getD_some, Option.getD_none, partI, itemsD, seqD, lockOf, locksOf, shareL, List.foldl, outsOk, outOk, Int.ofNat_eq_natCast, tyD, permL, List.getElem?_cons_zero, List.getElem?_cons_succ, List.set_cons_zero, List.set_cons_succ, List.length_cons, List.length_nil, List.cons_append, List.nil_append, List.append_nil, List.replicate, List.take_succ_cons, List.take_zero, List.take_nil, List.all_cons, List.all_nil, List.any_cons, List.any_nil, List.contains_nil, List.contains_cons, List.isEmpty_nil, List.isEmpty_cons, Bool.true_and, Bool.and_true, Bool.false_and, Bool.and_false, Bool.true_or, Bool.or_true, Bool.false_or, Bool.or_false, Bool.not_true, Bool.not_false, true_and, and_true, false_and, and_false, if_true, if_false, Bool.false_eq_true, Nat.reduceSub, Nat.reduceAdd, Nat.reduceLT, Int.reduceLT, Int.reduceLE, Int.reduceToNat, Int.reducePow, Int.reduceAdd, Int.reduceSub, Int.reduceMul, Int.cast_ofNat_Int, Nat.reduceMul, Int.reduceNeg, Option.bind_some, Option.bind_none, Option.map_some, Option.map_none, decide_true, decide_false, reduceIte, ↓reduceIte, beq_self_eq_true, Nat.reduceBEq, Nat.reduceEqDiff])
theorem pures_int (n : Nat) (ns : List Int) : pures n (ns.map D.int) = true := by
  induction ns with
  | nil => rfl
  | cons x xs ih => rw [List.map_cons, pures, ih]; rfl
theorem pures_str (n : Nat) (ns : List Str) : pures n (ns.map D.str) = true := by
  induction ns with
  | nil => rfl
  | cons x xs ih => rw [List.map_cons, pures, ih]; rfl
theorem zip_tl {xs ys} : zipD (.tup xs) (.lst ys) = some (pairsD xs ys) := rfl
theorem zip_lt {xs ys} : zipD (.lst xs) (.tup ys) = some (pairsD xs ys) := rfl
def f_law7 : Fn := ⟨1, 3, [false], [
  .asg (.name 1) (.call "_law_cells" [false, false] [(.var 0), (.cst (.int (3)))]),
  .ifs (.not (.call "_law_by_hand_right" [] [])) [.ret (.cst (.bl false))] [],
  .ret (.bi .all [(.comp (.call "_law_right" [true] [(.call "_law_box" [false, false] [(.var 1), (.var 2)])]) (.name 2) (.rng [(.bi .len [(.var 1)])]) [] [2])])]⟩
theorem range_mem7 {n : Nat} {d : D} (h : d ∈ rangeD 0 (n : Int)) : ∃ j : Int, d = .int j ∧ 0 ≤ j ∧ j < (n : Int) := by
  unfold rangeD at h
  obtain ⟨i, hi, rfl⟩ := List.mem_map.mp h
  simp at hi
  exact ⟨0 + (i : Int), rfl, by omega, by omega⟩
theorem law7_ok {T : List (Str × Fn)} {k : Nat} {q : Int} (hC : Has T "_law_cells" f_cells) (hB : Has T "_law_box" (f_box q)) (hL : Has T "law" f_law7) (hH : callF T (k + 1) "_law_by_hand_right" [] = .ret (.val (.bl true)) []) (hR : ∀ xs, GB 0 xs → CWp (callF T (k + 1) "_law_right" [.box xs]) (fun rv outs => rv = .val (.bl true) ∧ outs.length = 1) (fun _ => False)) (ns : List Int) (hn : ns.length ≤ 63) : ∃ outs, callF T (k + 2) "law" [.val (.scr (ns.map D.int))] = .ret (.val (.bl true)) outs ∧ outs.length = 1 := by
  refine ⟨_, cwp_eq (os := [.val (.scr (ns.map D.int))]) ?_, rfl⟩
  rw [cwp_callF hL rfl]
  unfold f_law7
  bv_omega
  refine cwp_mono (cells_ok hC (by omega) (by omega) hn) ?_ (fun _ z => z.elim)
  rintro rv outs ⟨cs, rfl, h1, h3, rfl⟩
  bv_omega
  rw [hH]
  bv_omega
  rw [List.length_map]
  refine ⟨by simp [small62, show cs.length ≤ sizeLine from Nat.le_trans (by omega) (show 3 ≤ sizeLine by decide)]; omega, ?_⟩
  refine wp_compL_inv (acc := []) (fun ds acc r => (∀ d ∈ ds, ∃ j : Int, d = .int j ∧ 0 ≤ j ∧ j < (cs.length : Int)) ∧ (∃ m : Nat, acc = (List.replicate m true).map D.bl) ∧ ∃ s1, Sh s1 (cs.map D.int) ∧ r = [.val (.scr (ns.map D.int)), s1, .no]) ⟨fun d hd => range_mem7 hd, ⟨0, rfl⟩, _, Or.inl rfl, rfl⟩ ?_ ?_
  · rintro d ds acc r ⟨hd, ⟨m, rfl⟩, s1, h1, rfl⟩
    obtain ⟨j, rfl, j0, j1⟩ := hd d List.mem_cons_self
    refine ⟨_, rfl, ?_⟩
    rcases h1 with rfl | rfl <;> (
      bv_omega
      refine cwp_mono (box_ok hB j0 j1) ?_ (fun _ z => z.elim)
      rintro rv outs ⟨xs, rfl, rfl, g⟩
      bv_omega
      refine cwp_mono (hR xs g) ?_ (fun _ z => z.elim)
      rintro rv outs ⟨rfl, ho⟩
      obtain ⟨o, rfl⟩ := List.length_eq_one_iff.mp ho
      bv_omega
      refine ⟨fun d hdd => hd d (List.mem_cons_of_mem _ hdd), ⟨m + 1, ?_⟩, _, Or.inr rfl, rfl⟩
      rw [List.replicate_succ', List.map_append]
      rfl)
  rintro xs r ⟨_, ⟨m, hx⟩, s1, h1, rfl⟩
  rw [List.nil_append] at hx
  subst hx
  bv_omega
  simp
def f_law5 : Fn := ⟨1, 3, [false], [
  .asg (.name 1) (.call "_law_cells" [false, false] [(.var 0), (.cst (.int (3)))]),
  .ret (.and (.call "_law_by_hand_right" [] []) (.bi .all [(.comp (.call "_law_right" [true] [(.call "_law_box" [false, false] [(.var 1), (.var 2)])]) (.name 2) (.rng [(.bi .len [(.var 1)])]) [] [2])]))]⟩
theorem law5_ok {T : List (Str × Fn)} {k : Nat} {q : Int} (hC : Has T "_law_cells" f_cells) (hB : Has T "_law_box" (f_box q)) (hL : Has T "law" f_law5) (hH : callF T (k + 1) "_law_by_hand_right" [] = .ret (.val (.bl true)) []) (hR : ∀ xs, GB 0 xs → CWp (callF T (k + 1) "_law_right" [.box xs]) (fun rv outs => rv = .val (.bl true) ∧ outs.length = 1) (fun _ => False)) (ns : List Int) (hn : ns.length ≤ 63) : ∃ outs, callF T (k + 2) "law" [.val (.scr (ns.map D.int))] = .ret (.val (.bl true)) outs ∧ outs.length = 1 := by
  refine ⟨_, cwp_eq (os := [.val (.scr (ns.map D.int))]) ?_, rfl⟩
  rw [cwp_callF hL rfl]
  unfold f_law5
  bv_omega
  refine cwp_mono (cells_ok hC (by omega) (by omega) hn) ?_ (fun _ z => z.elim)
  rintro rv outs ⟨cs, rfl, h1, h3, rfl⟩
  bv_omega
  rw [hH]
  bv_omega
  rw [List.length_map]
  refine ⟨by simp [small62, show cs.length ≤ sizeLine from Nat.le_trans (by omega) (show 3 ≤ sizeLine by decide)]; omega, ?_⟩
  refine wp_compL_inv (acc := []) (fun ds acc r => (∀ d ∈ ds, ∃ j : Int, d = .int j ∧ 0 ≤ j ∧ j < (cs.length : Int)) ∧ (∃ m : Nat, acc = (List.replicate m true).map D.bl) ∧ ∃ s1, Sh s1 (cs.map D.int) ∧ r = [.val (.scr (ns.map D.int)), s1, .no]) ⟨fun d hd => range_mem7 hd, ⟨0, rfl⟩, _, Or.inl rfl, rfl⟩ ?_ ?_
  · rintro d ds acc r ⟨hd, ⟨m, rfl⟩, s1, h1, rfl⟩
    obtain ⟨j, rfl, j0, j1⟩ := hd d List.mem_cons_self
    refine ⟨_, rfl, ?_⟩
    rcases h1 with rfl | rfl <;> (
      bv_omega
      refine cwp_mono (box_ok hB j0 j1) ?_ (fun _ z => z.elim)
      rintro rv outs ⟨xs, rfl, rfl, g⟩
      bv_omega
      refine cwp_mono (hR xs g) ?_ (fun _ z => z.elim)
      rintro rv outs ⟨rfl, ho⟩
      obtain ⟨o, rfl⟩ := List.length_eq_one_iff.mp ho
      bv_omega
      refine ⟨fun d hdd => hd d (List.mem_cons_of_mem _ hdd), ⟨m + 1, ?_⟩, _, Or.inr rfl, rfl⟩
      rw [List.replicate_succ', List.map_append]
      rfl)
  rintro xs r ⟨_, ⟨m, hx⟩, s1, h1, rfl⟩
  rw [List.nil_append] at hx
  subst hx
  bv_omega
  simp
end Ev

-- part EvF
set_option maxHeartbeats 400000
/-! EvF: nets put together anew. -/
namespace Ev
open PySem
local macro_rules | `(tactic| bv_omega) => `(tactic| simp (maxSteps := 1000000) (dsimp := false) only [↓cwp_runM, ↓cwp_ret, ↓br_t, ↓br_f, ↓wp_ok, ↓wp_exc, ↓wp_stuck, ↓wp_bind, ↓wp_pure, ↓wp_var, ↓wp_cst, ↓wp_glo, ↓wp_tup, ↓wp_lst, ↓wp_bin, ↓wp_tupS, ↓wp_lstS, ↓wp_ds0, ↓wp_ds1, st_f, st_tt, st_tl, List.headD_cons, List.headD_nil, List.tail_cons, List.tail_nil, ↓wp_neg, ↓wp_not, ↓wp_cmp, ↓wp_cmp2, ↓wp_and, ↓wp_or, ↓wp_ite, ↓wp_idx, ↓wp_sli, ↓wp_rev, ↓wp_onone, ↓wp_osome, ↓wp_nil, ↓wp_cons, ↓wp_bi, ↓wp_call, ↓wp_callk, ↓wp_callv, ↓wp_doCall, ↓wp_app, ↓wp_popAt, ↓wp_comp, ↓wp_turn, ↓wp_ifs0, ↓wp_ifs1, ↓wp_seq, ↓wp_rng, ↓wp_zip, ↓wp_enum, ↓wp_expr, ↓wp_asg, ↓wp_asgt, ↓wp_par, ↓wp_asgI, ↓wp_ret, ↓wp_ret0, ↓wp_pass, ↓wp_cont, ↓wp_brk, ↓wp_ifs, ↓wp_for, ↓wp_raise, ↓wp_snil, ↓wp_scons, ↓wp_toval, ↓wp_toown, ↓wp_tobor, ↓wp_tonil, ↓wp_tocons, ↓wp_pa0, ↓wp_paf, ↓wp_pao, ↓wp_pab, ↓wp_so0, ↓wp_sob, ↓wp_sov, ↓wp_soo, looks0, ↓op_looks, ↓op_some, ↓op_none, ↓op_ite, ↓op_map, ↓op_bind, ↓lk_val, ↓lk_own, ↓lk_bor, binOp, cmpOp, idxOp, bi_len1, bi_len2, bi_len3, bi_len4, bi_abs, bi_int1, bi_int2, bi_tup1, bi_tup2, bi_lst1, bi_lst2, bi_min2, bi_max2, bi_zipT, bi_isi, bi_all, bi_any, bi_sum, truD, asgRV, parAsg, asgT, asgTs, isMut, lent, nodupB, giveBack, noBor, negOp, revOp, atIx, rngOf, sliI, sb_int_int, sb_int_bool, sb_int_str, sb_int_list, sb_int_tuple, sb_bool_int, sb_bool_bool, sb_bool_str, sb_bool_list, sb_bool_tuple, sb_str_int, sb_str_bool, sb_str_str, sb_str_list, sb_str_tuple, sb_tuple_int, sb_tuple_bool, sb_tuple_str, sb_tuple_list, sb_tuple_tuple, sb_list_int, sb_list_bool, sb_list_str, sb_list_list, sb_list_tuple, sb_NoneType_int, sb_NoneType_bool, sb_NoneType_str, sb_NoneType_list, sb_NoneType_tuple, zip_ll, zip_tt, lockNil, lockBox, eqbs_refl, eqOp_str, eqOp_int, eqOp_bl, wipeE, restE, slotGet, Option.getD_some, Option.getD_none, partI, itemsD, seqD, lockOf, locksOf, shareL, List.foldl, outsOk, outOk, Int.ofNat_eq_natCast, tyD, permL, List.getElem?_cons_zero, List.getElem?_cons_succ, List.set_cons_zero, List.set_cons_succ, List.length_cons, List.length_nil, List.cons_append, List.nil_append, List.append_nil, List.replicate, List.take_succ_cons, List.take_zero, List.take_nil, List.all_cons, List.all_nil, List.any_cons, List.any_nil, List.contains_nil, List.contains_cons, List.isEmpty_nil, List.isEmpty_cons, Bool.true_and, Bool.and_true, Bool.false_and, Bool.and_false, Bool.true_or, Bool.or_true, Bool.false_or, Bool.or_false, Bool.not_true, Bool.not_false, true_and, and_true, false_and, and_false, if_true, if_false, Bool.false_eq_true, Nat.reduceSub, Nat.reduceAdd, Nat.reduceLT, Int.reduceLT, Int.reduceLE, Int.reduceToNat, Int.reducePow, Int.reduceAdd, Int.reduceSub, Int.reduceMul, Int.cast_ofNat_Int, Nat.reduceMul, Int.reduceNeg, Option.bind_some, Option.bind_none, Option.map_some, Option.map_none, decide_true, decide_false, reduceIte, ↓reduceIte, beq_self_eq_true, Nat.reduceBEq, Nat.reduceEqDiff])
def f_tupled : Fn := ⟨1, 2, [false], [
  .ret (.ite (.bi (.isi ["list", "tuple"]) [(.var 0)]) (.bi .tuple [(.comp (.call "tupled" [false] [(.var 1)]) (.name 1) (.seq (.var 0)) [] [1])]) (.var 0))]⟩
def f_fit : Fn := ⟨3, 4, [false, false, false], [
  .asg (.name 3) (.tup [(.bi .tuple [(.bi .sorted [(.call "tupled" [false] [(.var 0)])])]), (.bi .tuple [(.bi .sorted [(.call "tupled" [false] [(.var 1)])])]), (.bi .tuple [(.bi .sorted [(.call "tupled" [false] [(.var 2)])])])]),
  .ifs (.not (.call "is_net" [false] [(.var 3)])) [.raise "Unfit" [] []] [],
  .ret (.var 3)]⟩

/-! tuples for lists, at every depth -/
mutual
def tupD : D → D
  | .tup xs => .tup (tupDs xs)
  | .lst xs => .tup (tupDs xs)
  | d => d
def tupDs : List D → List D
  | [] => []
  | x :: xs => tupD x :: tupDs xs
end
theorem tupDs_map : ∀ xs : List D, tupDs xs = xs.map tupD
  | [] => rfl
  | x :: xs => by rw [tupDs, tupDs_map xs, List.map_cons]
theorem tupled_eq {T : List (Str × Fn)} (h : Has T "tupled" f_tupled) : ∀ {n k : Nat} {d : D}, pure1 n d = true → callF T (k + n + 1) "tupled" [.val d] = .ret (.val (tupD d)) [.val d]
  | n, k, .non, _ => by
    apply cwp_eq
    rw [cwp_callF h rfl]
    unfold f_tupled
    bv_omega
    rfl
  | n, k, .bl b, _ => by
    apply cwp_eq
    rw [cwp_callF h rfl]
    unfold f_tupled
    bv_omega
    rfl
  | n, k, .int i, _ => by
    apply cwp_eq
    rw [cwp_callF h rfl]
    unfold f_tupled
    bv_omega
    rfl
  | n, k, .str x, _ => by
    apply cwp_eq
    rw [cwp_callF h rfl]
    unfold f_tupled
    bv_omega
    rfl
  | n + 1, k, .tup xs, hp => by
    apply cwp_eq
    rw [cwp_callF h rfl]
    unfold f_tupled
    bv_omega
    refine wp_compL_map (fun d => some (tupD d)) ?_ ?_
    · intro d hd
      refine ⟨_, rfl, ?_⟩
      bv_omega
      rw [show k + (n + 1) = k + n + 1 by omega, tupled_eq h (pures_mem (by rw [pure1] at hp; exact hp) d hd)]
      bv_omega
    rw [fm_some]
    bv_omega
    rw [tupD, tupDs_map]
  | n + 1, k, .lst xs, hp => by
    apply cwp_eq
    rw [cwp_callF h rfl]
    unfold f_tupled
    bv_omega
    refine wp_compL_map (fun d => some (tupD d)) ?_ ?_
    · intro d hd
      refine ⟨_, rfl, ?_⟩
      bv_omega
      rw [show k + (n + 1) = k + n + 1 by omega, tupled_eq h (pures_mem (by rw [pure1] at hp; exact hp) d hd)]
      bv_omega
    rw [fm_some]
    bv_omega
    rw [tupD, tupDs_map]
/-! rows by their names -/
section
variable {α : Type} (nm : α → Str)
def insK (x : α) : List α → List α
  | [] => [x]
  | y :: ys => if ltS (nm y) (nm x) then y :: insK x ys else x :: y :: ys
def sortK : List α → List α
  | [] => []
  | x :: xs => insK nm x (sortK xs)
theorem insK_perm (x : α) : ∀ ys : List α, (insK nm x ys).Perm (x :: ys)
  | [] => .refl _
  | y :: ys => by
    rw [insK]
    split
    · exact ((insK_perm x ys).cons y).trans (.swap _ _ _)
    · exact .refl _
theorem sortK_perm : ∀ xs : List α, (sortK nm xs).Perm xs
  | [] => .refl _
  | x :: xs => (insK_perm nm x _).trans ((sortK_perm xs).cons x)
theorem insK_pw (x : α) : ∀ {ys : List α}, ys.Pairwise (LtN nm) → (∀ y ∈ ys, nm y ≠ nm x) → (insK nm x ys).Pairwise (LtN nm)
  | [], _, _ => by simp [insK]
  | y :: ys, h, hn => by
    obtain ⟨h1, h2⟩ := List.pairwise_cons.mp h
    rw [insK]
    split
    · rename_i c
      refine List.pairwise_cons.mpr ⟨fun z hz => ?_, insK_pw x h2 fun y hy => hn y (List.mem_cons_of_mem _ hy)⟩
      rcases List.mem_cons.mp ((insK_perm nm x ys).subset hz) with rfl | hz
      · exact c
      · exact h1 z hz
    · rename_i c
      have c : LtN nm x y := by
        have ne := hn y List.mem_cons_self
        have le : leS (nm x) (nm y) = true := by
          unfold leS
          simp only [Bool.not_eq_true', decide_eq_false_iff_not]
          exact c
        exact ltS_of le fun e => ne e.symm
      refine List.pairwise_cons.mpr ⟨fun z hz => ?_, h⟩
      rcases List.mem_cons.mp hz with rfl | hz
      · exact c
      · exact ltS_trans c (h1 z hz)
theorem sortK_pw : ∀ {xs : List α}, (xs.map nm).Nodup → (sortK nm xs).Pairwise (LtN nm)
  | [], _ => .nil
  | x :: xs, h => by
    rw [List.map_cons, List.nodup_cons] at h
    refine insK_pw nm x (sortK_pw h.2) fun y hy e => h.1 ?_
    rw [← e]
    exact List.mem_map_of_mem ((sortK_perm nm xs).subset hy)
/-- rising rows are what they are -/
theorem ris_unique {xs ys : List α} (h1 : xs.Pairwise (LtN nm)) (h2 : ys.Pairwise (LtN nm)) (hp : xs.Perm ys) : xs = ys :=
  List.Perm.eq_of_pairwise (le := LtN nm) (fun a b _ _ h h' => absurd (ltS_trans h h') (ltS_irrefl _)) h1 h2 hp
theorem sortK_id {xs : List α} (h : xs.Pairwise (LtN nm)) : sortK nm xs = xs := ris_unique nm (sortK_pw nm (nodup_of nm h)) h (sortK_perm nm xs)
/-- data whose first part is the name -/
theorem sortD_rows (enc : α → D) (hlt : ∀ a b, ltS (nm a) (nm b) → ltP (enc b) (enc a) = false) (hanti : ∀ a b : D, a ∈ ([] : List D) → True) {xs : List α} (hn : (xs.map nm).Nodup) (hal : ∀ a ∈ xs, ∀ b ∈ xs, PySem.W.alike (toPy (enc a)) (toPy (enc b)) = true) (hp : ∀ a ∈ xs, plain 59 (enc a) = true) : sortD (xs.map enc) = (sortK nm xs).map enc := by
  refine List.Perm.eq_of_pairwise (le := LeP) (fun a b ha hb h1 h2 => ?_) (sortD_pw _) (List.pairwise_map.mpr ((sortK_pw nm hn).imp fun h => hlt _ _ h)) ((sortD_perm _).trans ((sortK_perm nm xs).symm.map enc))
  obtain ⟨a', ha', rfl⟩ := List.mem_map.mp ((sortD_perm _).subset ha)
  obtain ⟨b', hb', rfl⟩ := List.mem_map.mp hb
  have hb' := (sortK_perm nm xs).subset hb'
  exact ltP_anti (hal a' ha' b' hb') (plain_up 59 _ (hp a' ha')) (plain_up 59 _ (hp b' hb')) h2 h1
end
theorem ltP_head {a b : Str} {xs ys : List D} (h : ltS a b) : ltP (.tup (.str b :: ys)) (.tup (.str a :: xs)) = false := by
  have e : PyData.eqv (.str b) (.str a) = false := by
    cases q : PyData.eqv (.str b) (.str a) with
    | false => rfl
    | true =>
      have : b = a := by simpa [PyData.eqv] using q
      subst this
      exact absurd h (ltS_irrefl _)
  have k := PySem.W.dataLt_all_no (x := .str b) (y := .str a) (xs := toPys ys) (ys := toPys xs) rfl e
  show PySem.W.dataLt (.tuple (.str b :: toPys ys)) (.tuple (.str a :: toPys xs)) = false
  rw [PySem.W.dataLt_tuple, k, PySem.W.dataLt_str]
  rw [decide_eq_false_iff_not]
  exact fun z => ltS_irrefl _ (ltS_trans h z)
def okS (x : Str) : Prop := nameB x = true ∧ x.length ≤ 1000 ∧ PyData.strOk x = true
theorem plain_s {n : Nat} {x : Str} (h : okS x) : plain n (.str x) = true := by cases n <;> simpa [plain] using h.2.2
theorem plain_i {n : Nat} {x : Int} : plain n (.int x) = true := by cases n <;> rfl
/-- a net whose rows stand in any order -/
structure NetU (y : List Yd) (w : List Wy) (f : List Fk) : Prop where
  y1 : ∀ p ∈ y, okS p.1 ∧ 0 ≤ p.2
  yn : (y.map (·.1)).Nodup
  y0 : y ≠ []
  w1 : ∀ p ∈ w, okS p.nm ∧ p.fr ∈ y.map (·.1) ∧ p.to ∈ y.map (·.1) ∧ p.fr ≠ p.to ∧ 0 ≤ p.cp ∧ okS p.ky
  wn : (w.map (·.nm)).Nodup
  f1 : ∀ p ∈ f, okS p.1 ∧ p.2 ∈ y.map (·.1)
  fn : (f.map (·.1)).Nodup
def sY (y : List Yd) : List Yd := sortK (·.1) y
def sW (w : List Wy) : List Wy := sortK (·.nm) w
def sF (f : List Fk) : List Fk := sortK (·.1) f
theorem NetU.y2 {y w f} (h : NetU y w f) {x : Str} (hx : x ∈ y.map (·.1)) : okS x := by
  obtain ⟨p, hp, rfl⟩ := List.mem_map.mp hx
  exact (h.y1 p hp).1
theorem NetU.sorted {y w f} (h : NetU y w f) : NetU (sY y) (sW w) (sF f) := by
  have py := sortK_perm (α := Yd) (·.1) y
  have pw := sortK_perm (α := Wy) (·.nm) w
  have pf := sortK_perm (α := Fk) (·.1) f
  have mem : ∀ x, x ∈ (sY y).map (·.1) ↔ x ∈ y.map (·.1) := fun x => (py.map _).mem_iff
  refine ⟨fun p hp => h.y1 p (py.subset hp), ((py.map (·.1)).nodup_iff).mpr h.yn, fun e => h.y0 ?_, fun p hp => ?_, ((pw.map (·.nm)).nodup_iff).mpr h.wn, fun p hp => ?_, ((pf.map (·.1)).nodup_iff).mpr h.fn⟩
  · have := py.length_eq
    unfold sY at e
    rw [e] at this
    exact List.eq_nil_of_length_eq_zero this.symm
  · obtain ⟨a, b, c, d⟩ := h.w1 p (pw.subset hp)
    exact ⟨a, (mem _).mpr b, (mem _).mpr c, d⟩
  · obtain ⟨a, b⟩ := h.f1 p (pf.subset hp)
    exact ⟨a, (mem _).mpr b⟩
theorem NetU.sml {y w f} (h : NetU y w f) : Sml y w f :=
  ⟨fun p hp => (h.y1 p hp).1.2.1, fun p hp => by obtain ⟨a, b, c, d, e, g⟩ := h.w1 p hp; exact ⟨a.2.1, (h.y2 b).2.1, (h.y2 c).2.1, g.2.1⟩, fun p hp => by obtain ⟨a, b⟩ := h.f1 p hp; exact ⟨a.2.1, (h.y2 b).2.1⟩⟩
theorem pw_ris : ∀ {ss : List Str}, ss.Pairwise ltS → risB ss = true
  | [], _ => rfl
  | [a], _ => rfl
  | a :: b :: ss, h => by
    have h1 := List.pairwise_cons.mp h
    have ih := pw_ris h1.2
    unfold risB at ih ⊢
    simp only [List.drop_succ_cons, List.drop_zero, List.zip_cons_cons, List.all_cons, Bool.and_eq_true, decide_eq_true_eq] at ih ⊢
    exact ⟨h1.1 b List.mem_cons_self, ih⟩
theorem NetU.net {y w f} (h : NetU y w f) (yr : y.Pairwise (LtN (·.1))) (wr : w.Pairwise (LtN (·.nm))) (fr : f.Pairwise (LtN (·.1))) : netB y w f = true := by
  unfold netB yB wB fB
  simp only [Bool.and_eq_true, List.all_eq_true, Bool.not_eq_true', decide_eq_true_eq]
  refine ⟨⟨⟨fun x hx => (h.y2 hx).1, pw_ris (List.pairwise_map.mpr yr)⟩, fun p hp => (h.y1 p hp).2⟩, ⟨⟨fun x hx => ?_, pw_ris (List.pairwise_map.mpr wr)⟩, fun p hp => ?_⟩, ⟨⟨fun x hx => ?_, pw_ris (List.pairwise_map.mpr fr)⟩, fun p hp => (h.y2 (h.f1 p hp).2).1⟩, ?_, fun p hp => ⟨(h.w1 p hp).2.1, (h.w1 p hp).2.2.1⟩, fun p hp => (h.f1 p hp).2⟩
  · obtain ⟨p, hp, rfl⟩ := List.mem_map.mp hx
    exact (h.w1 p hp).1.1
  · obtain ⟨a, b, c, d, e, g⟩ := h.w1 p hp
    unfold lineB
    simp only [Bool.and_eq_true, Bool.not_eq_true', decide_eq_true_eq]
    exact ⟨⟨⟨⟨(h.y2 b).1, (h.y2 c).1⟩, g.1⟩, by simpa using d⟩, e⟩
  · obtain ⟨p, hp, rfl⟩ := List.mem_map.mp hx
    exact (h.f1 p hp).1.1
  · rw [beq_eq_false_iff_ne]
    have := List.length_pos_iff.mpr h.y0
    omega
theorem tup1_map {α : Type} (enc : α → D) (h : ∀ a, ∃ x r, enc a = .tup (x :: r)) {xs : List α} : (xs.map enc).all isTup1 = true := by
  rw [List.all_eq_true]
  intro d hd
  obtain ⟨a, _, rfl⟩ := List.mem_map.mp hd
  obtain ⟨x, r, e⟩ := h a
  rw [e]
  rfl
theorem plains_of {α : Type} {n : Nat} (enc : α → D) : ∀ {xs : List α}, (∀ a ∈ xs, plain n (enc a) = true) → plains n (xs.map enc) = true
  | [], _ => rfl
  | x :: xs, h => by rw [List.map_cons, plains, h x List.mem_cons_self, plains_of enc fun a ha => h a (List.mem_cons_of_mem _ ha)]; rfl
theorem sortG_rows {α : Type} (nm : α → Str) (enc : α → D) (hh : ∀ a, ∃ r, enc a = .tup (.str (nm a) :: r)) {xs : List α} (hn : (xs.map nm).Nodup) (hal : ∀ a ∈ xs, ∀ b ∈ xs, PySem.W.alike (toPy (enc a)) (toPy (enc b)) = true) (hp : ∀ a ∈ xs, plain 59 (enc a) = true) : sortG (xs.map enc) = some ((sortK nm xs).map enc) := by
  unfold sortG
  rw [if_pos, sortD_rows nm enc (fun a b h => ?_) (fun _ _ _ => trivial) hn hal hp]
  · obtain ⟨r, e⟩ := hh a
    obtain ⟨r', e'⟩ := hh b
    rw [e, e']
    exact ltP_head h
  · unfold sortOk
    rw [plains_of enc hp, tup1_map enc (fun a => by obtain ⟨r, e⟩ := hh a; exact ⟨_, r, e⟩)]
    simp only [Bool.true_and, Bool.true_or, Bool.and_true, List.all_eq_true]
    intro d hd e he
    obtain ⟨a, ha, rfl⟩ := List.mem_map.mp hd
    obtain ⟨b, hb, rfl⟩ := List.mem_map.mp he
    exact hal a ha b hb
theorem sgY {y : List Yd} (h : ∀ p ∈ y, okS p.1) (hn : (y.map (·.1)).Nodup) : sortG (y.map encY) = some ((sY y).map encY) := by
  refine sortG_rows (·.1) encY (fun a => ⟨_, rfl⟩) hn (fun a _ b _ => rfl) fun a ha => ?_
  simp [encY, plain, plains, (h a ha).2.2]
theorem sgF {f : List Fk} (h : ∀ p ∈ f, okS p.1 ∧ okS p.2) (hn : (f.map (·.1)).Nodup) : sortG (f.map encF) = some ((sF f).map encF) := by
  refine sortG_rows (·.1) encF (fun a => ⟨_, rfl⟩) hn (fun a _ b _ => rfl) fun a ha => ?_
  simp [encF, plain, plains, (h a ha).1.2.2, (h a ha).2.2.2]
theorem sgW {w : List Wy} (h : ∀ p ∈ w, okS p.nm ∧ okS p.fr ∧ okS p.to ∧ okS p.ky) (hn : (w.map (·.nm)).Nodup) : sortG (w.map encW) = some ((sW w).map encW) := by
  refine sortG_rows (·.nm) encW (fun a => ⟨_, rfl⟩) hn (fun a _ b _ => rfl) fun a ha => ?_
  obtain ⟨h1, h2, h3, h4⟩ := h a ha
  simp [encW, plain, plains, h1.2.2, h2.2.2, h3.2.2, h4.2.2]
/-- a list or a tuple of these -/
def SqD (d : D) (xs : List D) : Prop := d = .lst xs ∨ d = .tup xs
theorem tup_enc {α : Type} {enc : α → D} (h : ∀ a, tupD (enc a) = enc a) {d : D} {xs : List α} (hd : SqD d (xs.map enc)) : tupD d = .tup (xs.map enc) := by
  have : tupDs (xs.map enc) = xs.map enc := by
    rw [tupDs_map, List.map_map]
    exact List.map_congr_left fun a _ => h a
  rcases hd with rfl | rfl <;> rw [tupD, this]
theorem pure_enc {α : Type} {enc : α → D} (h : ∀ a, pure1 1 (enc a) = true) {d : D} {xs : List α} (hd : SqD d (xs.map enc)) : pure1 2 d = true := by
  have : pures 1 (xs.map enc) = true := by
    clear hd
    induction xs with
    | nil => rfl
    | cons x xs ih => rw [List.map_cons, pures, h x, ih]; rfl
  rcases hd with rfl | rfl <;> (rw [pure1]; exact this)
theorem fit_eq {T : List (Str × Fn)} (P : HasP T) (hT : Has T "tupled" f_tupled) (hF : Has T "fit" f_fit) {k : Nat} {y : List Yd} {w : List Wy} {f : List Fk} {a b c : D} (h : NetU y w f) (ha : SqD a (y.map encY)) (hb : SqD b (w.map encW)) (hc : SqD c (f.map encF)) :
    callF T (k + 6) "fit" [.val a, .val b, .val c] = .ret (.val (encN (sY y) (sW w) (sF f))) [.val a, .val b, .val c] := by
  have ta : callF T (k + 5) "tupled" [.val a] = .ret (.val (.tup (y.map encY))) [.val a] := by
    rw [← tup_enc (enc := encY) (fun p => rfl) ha]
    exact tupled_eq hT (k := k + 2) (pure_enc (enc := encY) (fun p => rfl) ha)
  have tb : callF T (k + 5) "tupled" [.val b] = .ret (.val (.tup (w.map encW))) [.val b] := by
    rw [← tup_enc (enc := encW) (fun p => rfl) hb]
    exact tupled_eq hT (k := k + 2) (pure_enc (enc := encW) (fun p => rfl) hb)
  have tc : callF T (k + 5) "tupled" [.val c] = .ret (.val (.tup (f.map encF))) [.val c] := by
    rw [← tup_enc (enc := encF) (fun p => rfl) hc]
    exact tupled_eq hT (k := k + 2) (pure_enc (enc := encF) (fun p => rfl) hc)
  have hs := h.sorted
  have hn := hs.net (sortK_pw _ h.yn) (sortK_pw _ h.wn) (sortK_pw _ h.fn)
  have e := net_eq P (k := k) hs.sml
  rw [hn] at e
  apply cwp_eq
  rw [cwp_callF hF rfl]
  unfold f_fit
  bv_omega
  rw [ta]
  bv_omega
  rw [bi_sortT, sgY (fun p hp => (h.y1 p hp).1) h.yn]
  bv_omega
  rw [tb]
  bv_omega
  rw [bi_sortT, sgW (fun p hp => ⟨(h.w1 p hp).1, h.y2 (h.w1 p hp).2.1, h.y2 (h.w1 p hp).2.2.1, (h.w1 p hp).2.2.2.2.2⟩) h.wn]
  bv_omega
  rw [tc]
  bv_omega
  rw [bi_sortT, sgF (fun p hp => ⟨(h.f1 p hp).1, h.y2 (h.f1 p hp).2⟩) h.fn]
  bv_omega
  unfold encN at e
  rw [e]
  bv_omega
  rfl
end Ev

-- part EvF2
set_option maxHeartbeats 400000
/-! EvF2: nets changed. -/
namespace Ev
open PySem
local macro_rules | `(tactic| bv_omega) => `(tactic| simp (maxSteps := 1000000) (dsimp := false) only [↓cwp_runM, ↓cwp_ret, ↓br_t, ↓br_f, ↓wp_ok, ↓wp_exc, ↓wp_stuck, ↓wp_bind, ↓wp_pure, ↓wp_var, ↓wp_cst, ↓wp_glo, ↓wp_tup, ↓wp_lst, ↓wp_bin, ↓wp_tupS, ↓wp_lstS, ↓wp_ds0, ↓wp_ds1, st_f, st_tt, st_tl, List.headD_cons, List.headD_nil, List.tail_cons, List.tail_nil, ↓wp_neg, ↓wp_not, ↓wp_cmp, ↓wp_cmp2, ↓wp_and, ↓wp_or, ↓wp_ite, ↓wp_idx, ↓wp_sli, ↓wp_rev, ↓wp_onone, ↓wp_osome, ↓wp_nil, ↓wp_cons, ↓wp_bi, ↓wp_call, ↓wp_callk, ↓wp_callv, ↓wp_doCall, ↓wp_app, ↓wp_popAt, ↓wp_comp, ↓wp_turn, ↓wp_ifs0, ↓wp_ifs1, ↓wp_seq, ↓wp_rng, ↓wp_zip, ↓wp_enum, ↓wp_expr, ↓wp_asg, ↓wp_asgt, ↓wp_par, ↓wp_asgI, ↓wp_ret, ↓wp_ret0, ↓wp_pass, ↓wp_cont, ↓wp_brk, ↓wp_ifs, ↓wp_for, ↓wp_raise, ↓wp_snil, ↓wp_scons, ↓wp_toval, ↓wp_toown, ↓wp_tobor, ↓wp_tonil, ↓wp_tocons, ↓wp_pa0, ↓wp_paf, ↓wp_pao, ↓wp_pab, ↓wp_so0, ↓wp_sob, ↓wp_sov, ↓wp_soo, looks0, ↓op_looks, ↓op_some, ↓op_none, ↓op_ite, ↓op_map, ↓op_bind, ↓lk_val, ↓lk_own, ↓lk_bor, binOp, cmpOp, idxOp, bi_len1, bi_len2, bi_len3, bi_len4, bi_abs, bi_int1, bi_int2, bi_tup1, bi_tup2, bi_lst1, bi_lst2, bi_min2, bi_max2, bi_zipT, bi_isi, bi_all, bi_any, bi_sum, truD, asgRV, parAsg, asgT, asgTs, isMut, lent, nodupB, giveBack, noBor, negOp, revOp, atIx, rngOf, sliI, sb_int_int, sb_int_bool, sb_int_str, sb_int_list, sb_int_tuple, sb_bool_int, sb_bool_bool, sb_bool_str, sb_bool_list, sb_bool_tuple, sb_str_int, sb_str_bool, sb_str_str, sb_str_list, sb_str_tuple, sb_tuple_int, sb_tuple_bool, sb_tuple_str, sb_tuple_list, sb_tuple_tuple, sb_list_int, sb_list_bool, sb_list_str, sb_list_list, sb_list_tuple, sb_NoneType_int, sb_NoneType_bool, sb_NoneType_str, sb_NoneType_list, sb_NoneType_tuple, zip_ll, zip_tt, lockNil, lockBox, eqbs_refl, eqOp_str, eqOp_int, eqOp_bl, wipeE, restE, slotGet, Option.getD_some, Option.getD_none, partI, itemsD, seqD, lockOf, locksOf, shareL, List.foldl, outsOk, outOk, Int.ofNat_eq_natCast, tyD, permL, List.getElem?_cons_zero, List.getElem?_cons_succ, List.set_cons_zero, List.set_cons_succ, List.length_cons, List.length_nil, List.cons_append, List.nil_append, List.append_nil, List.replicate, List.take_succ_cons, List.take_zero, List.take_nil, List.all_cons, List.all_nil, List.any_cons, List.any_nil, List.contains_nil, List.contains_cons, List.isEmpty_nil, List.isEmpty_cons, Bool.true_and, Bool.and_true, Bool.false_and, Bool.and_false, Bool.true_or, Bool.or_true, Bool.false_or, Bool.or_false, Bool.not_true, Bool.not_false, true_and, and_true, false_and, and_false, if_true, if_false, Bool.false_eq_true, Nat.reduceSub, Nat.reduceAdd, Nat.reduceLT, Int.reduceLT, Int.reduceLE, Int.reduceToNat, Int.reducePow, Int.reduceAdd, Int.reduceSub, Int.reduceMul, Int.cast_ofNat_Int, Nat.reduceMul, Int.reduceNeg, Option.bind_some, Option.bind_none, Option.map_some, Option.map_none, decide_true, decide_false, reduceIte, ↓reduceIte, beq_self_eq_true, Nat.reduceBEq, Nat.reduceEqDiff])
def f_with_supply : Fn := ⟨3, 4, [false, false, false], [
  .expr (.call "supply_of" [false, false] [(.var 0), (.var 1)]),
  .ret (.call "fit" [false, false, false] [(.comp (.tup [(.idx (.var 3) (.cst (.int (0)))), (.ite (.cmp .Eq (.idx (.var 3) (.cst (.int (0)))) (.var 1)) (.var 2) (.idx (.var 3) (.cst (.int (1)))))]) (.name 3) (.seq (.idx (.var 0) (.cst (.int (0))))) [] [3]), (.idx (.var 0) (.cst (.int (1)))), (.idx (.var 0) (.glo "PAIR" (.int (2))))])]⟩
def f_with_most : Fn := ⟨3, 10, [false, false, false], [
  .asg (.tup [(.name 4), (.name 5), (.name 6), (.name 7), (.name 8)]) (.call "line_of" [false, false] [(.var 0), (.var 1)]),
  .asg (.name 3) (.comp (.var 9) (.name 9) (.seq (.idx (.var 0) (.cst (.int (1))))) [(.cmp .NotEq (.idx (.var 9) (.cst (.int (0)))) (.var 1))] [9]),
  .ret (.call "fit" [false, false, false] [(.idx (.var 0) (.cst (.int (0)))), (.lstS [true, false] [(.var 3), (.tup [(.var 4), (.var 5), (.var 6), (.var 2), (.var 8)])]), (.idx (.var 0) (.glo "PAIR" (.int (2))))])]⟩
def f_with_key : Fn := ⟨3, 10, [false, false, false], [
  .asg (.tup [(.name 4), (.name 5), (.name 6), (.name 7), (.name 8)]) (.call "line_of" [false, false] [(.var 0), (.var 1)]),
  .asg (.name 3) (.comp (.var 9) (.name 9) (.seq (.idx (.var 0) (.cst (.int (1))))) [(.cmp .NotEq (.idx (.var 9) (.cst (.int (0)))) (.var 1))] [9]),
  .ret (.call "fit" [false, false, false] [(.idx (.var 0) (.cst (.int (0)))), (.lstS [true, false] [(.var 3), (.tup [(.var 4), (.var 5), (.var 6), (.var 7), (.var 2)])]), (.idx (.var 0) (.glo "PAIR" (.int (2))))])]⟩
def f_with_yard : Fn := ⟨3, 3, [false, false, false], [
  .ifs (.cmp .In (.var 1) (.call "yard_names" [false] [(.var 0)])) [.raise "Known" ["name"] [(.var 1)]] [],
  .ret (.call "fit" [false, false, false] [(.lstS [true, false] [(.idx (.var 0) (.cst (.int (0)))), (.tup [(.var 1), (.var 2)])]), (.idx (.var 0) (.cst (.int (1)))), (.idx (.var 0) (.glo "PAIR" (.int (2))))])]⟩
def f_with_line : Fn := ⟨6, 6, [false, false, false, false, false, false], [
  .expr (.call "supply_of" [false, false] [(.var 0), (.var 2)]),
  .expr (.call "supply_of" [false, false] [(.var 0), (.var 3)]),
  .ifs (.cmp .In (.var 1) (.call "line_names" [false] [(.var 0)])) [.raise "Known" ["name"] [(.var 1)]] [],
  .ret (.call "fit" [false, false, false] [(.idx (.var 0) (.cst (.int (0)))), (.lstS [true, false] [(.idx (.var 0) (.cst (.int (1)))), (.tup [(.var 1), (.var 2), (.var 3), (.var 4), (.var 5)])]), (.idx (.var 0) (.glo "PAIR" (.int (2))))])]⟩
def f_with_customer : Fn := ⟨3, 3, [false, false, false], [
  .expr (.call "supply_of" [false, false] [(.var 0), (.var 2)]),
  .ifs (.cmp .In (.var 1) (.call "customer_names" [false] [(.var 0)])) [.raise "Known" ["name"] [(.var 1)]] [],
  .ret (.call "fit" [false, false, false] [(.idx (.var 0) (.cst (.int (0)))), (.idx (.var 0) (.cst (.int (1)))), (.lstS [true, false] [(.idx (.var 0) (.glo "PAIR" (.int (2)))), (.tup [(.var 1), (.var 2)])])])]⟩
def f_without_yard : Fn := ⟨2, 3, [false, false], [
  .expr (.call "supply_of" [false, false] [(.var 0), (.var 1)]),
  .ret (.call "fit" [false, false, false] [(.comp (.var 2) (.name 2) (.seq (.idx (.var 0) (.cst (.int (0))))) [(.cmp .NotEq (.idx (.var 2) (.cst (.int (0)))) (.var 1))] [2]), (.idx (.var 0) (.cst (.int (1)))), (.idx (.var 0) (.glo "PAIR" (.int (2))))])]⟩
def f_without_line : Fn := ⟨2, 3, [false, false], [
  .expr (.call "line_of" [false, false] [(.var 0), (.var 1)]),
  .ret (.call "fit" [false, false, false] [(.idx (.var 0) (.cst (.int (0)))), (.comp (.var 2) (.name 2) (.seq (.idx (.var 0) (.cst (.int (1))))) [(.cmp .NotEq (.idx (.var 2) (.cst (.int (0)))) (.var 1))] [2]), (.idx (.var 0) (.glo "PAIR" (.int (2))))])]⟩
def f_without_customer : Fn := ⟨2, 3, [false, false], [
  .expr (.call "yard_of" [false, false] [(.var 0), (.var 1)]),
  .ret (.call "fit" [false, false, false] [(.idx (.var 0) (.cst (.int (0)))), (.idx (.var 0) (.cst (.int (1)))), (.comp (.var 2) (.name 2) (.seq (.idx (.var 0) (.glo "PAIR" (.int (2))))) [(.cmp .NotEq (.idx (.var 2) (.cst (.int (0)))) (.var 1))] [2])])]⟩
def f_part_for : Fn := ⟨2, 3, [false, false], [
  .ret (.call "fit" [false, false, false] [(.idx (.var 0) (.cst (.int (0)))), (.comp (.var 2) (.name 2) (.seq (.idx (.var 0) (.cst (.int (1))))) [(.cmp .In (.idx (.var 2) (.bin .Sub (.glo "WIDE" (.int (5))) (.cst (.int (1))))) (.var 1))] [2]), (.idx (.var 0) (.glo "PAIR" (.int (2))))])]⟩
structure HasF (T : List (Str × Fn)) : Prop where
  tupled : Has T "tupled" f_tupled
  fit : Has T "fit" f_fit
  ynames : Has T "yard_names" f_yard_names
  lnames : Has T "line_names" f_line_names
  cnames : Has T "customer_names" f_customer_names
  supply_of_ : Has T "supply_of" f_supply_of
  line_of_ : Has T "line_of" f_line_of
  yard_of_ : Has T "yard_of" f_yard_of
  with_supply_ : Has T "with_supply" f_with_supply
  with_most_ : Has T "with_most" f_with_most
  with_key_ : Has T "with_key" f_with_key
  with_yard_ : Has T "with_yard" f_with_yard
  with_line_ : Has T "with_line" f_with_line
  with_customer_ : Has T "with_customer" f_with_customer
  without_yard_ : Has T "without_yard" f_without_yard
  without_line_ : Has T "without_line" f_without_line
  without_customer_ : Has T "without_customer" f_without_customer
  part_for_ : Has T "part_for" f_part_for
/-! nets with more, with less -/
theorem NetU.ofPerm {y y' : List Yd} {w w' : List Wy} {f f' : List Fk} (h : NetU y w f) (py : y'.Perm y) (pw : w'.Perm w) (pf : f'.Perm f) : NetU y' w' f' := by
  have mem : ∀ x, x ∈ y'.map (·.1) ↔ x ∈ y.map (·.1) := fun x => (py.map _).mem_iff
  refine ⟨fun p hp => h.y1 p (py.subset hp), ((py.map (·.1)).nodup_iff).mpr h.yn, fun e => h.y0 ?_, fun p hp => ?_, ((pw.map (·.nm)).nodup_iff).mpr h.wn, fun p hp => ?_, ((pf.map (·.1)).nodup_iff).mpr h.fn⟩
  · have := py.length_eq
    rw [e] at this
    exact List.eq_nil_of_length_eq_zero this.symm
  · obtain ⟨a, b, c, d⟩ := h.w1 p (pw.subset hp)
    exact ⟨a, (mem _).mpr b, (mem _).mpr c, d⟩
  · obtain ⟨a, b⟩ := h.f1 p (pf.subset hp)
    exact ⟨a, (mem _).mpr b⟩
theorem NetU.addY {y : List Yd} {w : List Wy} {f : List Fk} (h : NetU y w f) {p : Yd} (h1 : okS p.1) (h2 : 0 ≤ p.2) (h3 : p.1 ∉ y.map (·.1)) : NetU (y ++ [p]) w f := by
  have up : ∀ x, x ∈ y.map (·.1) → x ∈ (y ++ [p]).map (·.1) := fun x hx => by rw [List.map_append]; exact List.mem_append_left _ hx
  refine ⟨fun q hq => ?_, by rw [List.map_append]; exact nodup_snoc h.yn h3, by simp, fun q hq => ?_, h.wn, fun q hq => ⟨(h.f1 q hq).1, up _ (h.f1 q hq).2⟩, h.fn⟩
  · rcases List.mem_append.mp hq with hq | hq
    · exact h.y1 q hq
    · rw [List.mem_singleton] at hq; subst hq; exact ⟨h1, h2⟩
  · obtain ⟨a, b, c, d⟩ := h.w1 q hq
    exact ⟨a, up _ b, up _ c, d⟩
theorem NetU.addW {y : List Yd} {w : List Wy} {f : List Fk} (h : NetU y w f) {p : Wy} (h1 : okS p.nm) (h2 : p.fr ∈ y.map (·.1)) (h3 : p.to ∈ y.map (·.1)) (h4 : p.fr ≠ p.to) (h5 : 0 ≤ p.cp) (h6 : okS p.ky) (h7 : p.nm ∉ w.map (·.nm)) : NetU y (w ++ [p]) f := by
  refine ⟨h.y1, h.yn, h.y0, fun q hq => ?_, by rw [List.map_append]; exact nodup_snoc h.wn h7, h.f1, h.fn⟩
  rcases List.mem_append.mp hq with hq | hq
  · exact h.w1 q hq
  · rw [List.mem_singleton] at hq; subst hq; exact ⟨h1, h2, h3, h4, h5, h6⟩
theorem NetU.addF {y : List Yd} {w : List Wy} {f : List Fk} (h : NetU y w f) {p : Fk} (h1 : okS p.1) (h2 : p.2 ∈ y.map (·.1)) (h3 : p.1 ∉ f.map (·.1)) : NetU y w (f ++ [p]) := by
  refine ⟨h.y1, h.yn, h.y0, h.w1, h.wn, fun q hq => ?_, by rw [List.map_append]; exact nodup_snoc h.fn h3⟩
  rcases List.mem_append.mp hq with hq | hq
  · exact h.f1 q hq
  · rw [List.mem_singleton] at hq; subst hq; exact ⟨h1, h2⟩
theorem NetU.filW {y : List Yd} {w : List Wy} {f : List Fk} (h : NetU y w f) (p : Wy → Bool) : NetU y (w.filter p) f :=
  ⟨h.y1, h.yn, h.y0, fun q hq => h.w1 q (List.mem_filter.mp hq).1, ((List.filter_sublist (p := p) (l := w)).map (fun q : Wy => q.nm)).nodup h.wn, h.f1, h.fn⟩
theorem fil_back {α : Type} (nm : α → Str) {l : List α} {x : α} (hr : l.Pairwise (LtN nm)) (hx : nm x ∉ l.map nm) : (sortK nm (l ++ [x])).filter (fun p => !(nm p == nm x)) = l := by
  have hn : ((l ++ [x]).map nm).Nodup := by rw [List.map_append]; exact nodup_snoc (nodup_of nm hr) hx
  refine ris_unique nm ((sortK_pw nm hn).sublist List.filter_sublist) hr ?_
  have e : (l ++ [x]).filter (fun p => !(nm p == nm x)) = l := by
    rw [List.filter_append, List.filter_cons]
    simp only [beq_self_eq_true, Bool.not_true, Bool.false_eq_true, if_false, List.filter_nil, List.append_nil]
    rw [List.filter_eq_self]
    intro a ha
    have : nm a ≠ nm x := fun e => hx (by rw [← e]; exact List.mem_map_of_mem ha)
    simp [this]
  have := (sortK_perm nm (l ++ [x])).filter (fun p => !(nm p == nm x))
  rw [e] at this
  exact this
theorem rep_back {α : Type} (nm : α → Str) {l : List α} {x x' : α} (r : α → α) (hr : l.Pairwise (LtN nm)) (hx : nm x ∉ l.map nm) (hx' : nm x' = nm x) (h1 : r x = x') (h2 : ∀ p ∈ l, r p = p) : (sortK nm (l ++ [x])).map r = sortK nm (l ++ [x']) := by
  have hn : ((l ++ [x]).map nm).Nodup := by rw [List.map_append]; exact nodup_snoc (nodup_of nm hr) hx
  have hn' : ((l ++ [x']).map nm).Nodup := by rw [List.map_append, List.map_singleton, hx']; exact nodup_snoc (nodup_of nm hr) hx
  have nr : ∀ p ∈ sortK nm (l ++ [x]), nm (r p) = nm p := by
    intro p hp
    rcases List.mem_append.mp ((sortK_perm nm _).subset hp) with hp | hp
    · rw [h2 p hp]
    · rw [List.mem_singleton] at hp; subst hp; rw [h1, hx']
  refine ris_unique nm (List.pairwise_map.mpr ((List.Pairwise.imp_of_mem (fun {a b} ha hb h => ?_) (sortK_pw nm hn)))) (sortK_pw nm hn') ?_
  · show ltS (nm (r a)) (nm (r b))
    rw [nr a ha, nr b hb]
    exact h
  · have e : (l ++ [x]).map r = l ++ [x'] := by
      rw [List.map_append, List.map_singleton, h1]
      congr 1
      rw [List.map_congr_left h2]
      simp
    have := (sortK_perm nm (l ++ [x])).map r
    rw [e] at this
    exact this.trans (sortK_perm nm _).symm
section
variable {T : List (Str × Fn)} (P : HasP T) (G : HasF T) {k : Nat} {y : List Yd} {w : List Wy} {f : List Fk}
include G
theorem lnames_eq : callF T (k + 1) "line_names" [.val (encN y w f)] = .ret (.val (tupS (w.map (·.nm)))) [.val (encN y w f)] := by
  apply cwp_eq
  rw [cwp_callF G.lnames rfl]
  unfold f_line_names encN
  bv_omega
  refine wp_comp_map encW (fun p => .str p.nm) ?_ ?_
  · intro p hp
    refine ⟨_, rfl, ?_⟩
    unfold encW
    bv_omega
  bv_omega
  rw [map_str]
theorem cnames_eq5 : callF T (k + 1) "customer_names" [.val (encN y w f)] = .ret (.val (tupS (f.map (·.1)))) [.val (encN y w f)] := by
  apply cwp_eq
  rw [cwp_callF G.cnames rfl]
  unfold f_customer_names encN
  bv_omega
  refine wp_comp_map encF (fun p => .str p.1) ?_ ?_
  · intro p hp
    refine ⟨_, rfl, ?_⟩
    unfold encF
    bv_omega
  bv_omega
  rw [map_str]
theorem supplyof_ok {x : Str} (hx : x ∈ y.map (·.1)) : CWp (callF T (k + 1) "supply_of" [.val (encN y w f), .val (.str x)]) (fun rv outs => (∃ i, rv = .val (.int i)) ∧ outs = [.val (encN y w f), .val (.str x)]) (fun _ => False) := by
  rw [cwp_callF G.supply_of_ rfl]
  unfold f_supply_of encN
  bv_omega
  refine wp_forL_inv (fun ds r => ∃ (rem : List Yd) (s2 : Slot), ds = rem.map encY ∧ x ∈ rem.map (·.1) ∧ r = [.val (.tup [.tup (y.map encY), .tup (w.map encW), .tup (f.map encF)]), .val (.str x), s2]) ?_ ?_ ⟨y, _, rfl, hx, rfl⟩
  · rintro d ds r ⟨rem, s2, hd, hm, rfl⟩
    rcases rem with _ | ⟨p, rem⟩
    · simp at hd
    simp only [List.map_cons, List.cons.injEq] at hd
    obtain ⟨rfl, rfl⟩ := hd
    refine ⟨_, rfl, ?_⟩
    rw [show encY p = .tup [.str p.1, .int p.2] from rfl]
    bv_omega
    refine br_of (fun h => ?_) (fun h => ?_)
    · bv_omega
      exact ⟨_, rfl⟩
    · bv_omega
      refine ⟨rem, _, rfl, ?_, rfl⟩
      rcases List.mem_cons.mp hm with e | e
      · subst e; simp at h
      · exact e
  · rintro r ⟨rem, s2, hd, hm, rfl⟩
    have : rem = [] := by cases rem with | nil => rfl | cons => simp at hd
    subst this
    simp at hm
theorem yardof_ok {x : Str} (hx : x ∈ f.map (·.1)) : CWp (callF T (k + 1) "yard_of" [.val (encN y w f), .val (.str x)]) (fun rv outs => (∃ i, rv = .val (.str i)) ∧ outs = [.val (encN y w f), .val (.str x)]) (fun _ => False) := by
  rw [cwp_callF G.yard_of_ rfl]
  unfold f_yard_of encN
  bv_omega
  refine wp_forL_inv (fun ds r => ∃ (rem : List Fk) (s2 : Slot), ds = rem.map encF ∧ x ∈ rem.map (·.1) ∧ r = [.val (.tup [.tup (y.map encY), .tup (w.map encW), .tup (f.map encF)]), .val (.str x), s2]) ?_ ?_ ⟨f, _, rfl, hx, rfl⟩
  · rintro d ds r ⟨rem, s2, hd, hm, rfl⟩
    rcases rem with _ | ⟨p, rem⟩
    · simp at hd
    simp only [List.map_cons, List.cons.injEq] at hd
    obtain ⟨rfl, rfl⟩ := hd
    refine ⟨_, rfl, ?_⟩
    rw [show encF p = .tup [.str p.1, .str p.2] from rfl]
    bv_omega
    refine br_of (fun h => ?_) (fun h => ?_)
    · bv_omega
      exact ⟨_, rfl⟩
    · bv_omega
      refine ⟨rem, _, rfl, ?_, rfl⟩
      rcases List.mem_cons.mp hm with e | e
      · subst e; simp at h
      · exact e
  · rintro r ⟨rem, s2, hd, hm, rfl⟩
    have : rem = [] := by cases rem with | nil => rfl | cons => simp at hd
    subst this
    simp at hm
theorem lineof_ok {x : Str} (hx : x ∈ w.map (·.nm)) : CWp (callF T (k + 1) "line_of" [.val (encN y w f), .val (.str x)]) (fun rv outs => (∃ p ∈ w, p.nm = x ∧ rv = .val (encW p)) ∧ outs = [.val (encN y w f), .val (.str x)]) (fun _ => False) := by
  rw [cwp_callF G.line_of_ rfl]
  unfold f_line_of encN
  bv_omega
  refine wp_forL_inv (fun ds r => ∃ (rem : List Wy) (s2 : Slot), ds = rem.map encW ∧ x ∈ rem.map (·.nm) ∧ (∀ p ∈ rem, p ∈ w) ∧ r = [.val (.tup [.tup (y.map encY), .tup (w.map encW), .tup (f.map encF)]), .val (.str x), s2]) ?_ ?_ ⟨w, _, rfl, hx, fun _ h => h, rfl⟩
  · rintro d ds r ⟨rem, s2, hd, hm, hw, rfl⟩
    rcases rem with _ | ⟨p, rem⟩
    · simp at hd
    simp only [List.map_cons, List.cons.injEq] at hd
    obtain ⟨rfl, rfl⟩ := hd
    refine ⟨_, rfl, ?_⟩
    rw [show encW p = .tup [.str p.nm, .str p.fr, .str p.to, .int p.cp, .str p.ky] from rfl]
    bv_omega
    refine br_of (fun h => ?_) (fun h => ?_)
    · bv_omega
      exact ⟨p, hw p List.mem_cons_self, by simpa using h, rfl⟩
    · bv_omega
      refine ⟨rem, _, rfl, ?_, fun q hq => hw q (List.mem_cons_of_mem _ hq), rfl⟩
      rcases List.mem_cons.mp hm with e | e
      · subst e; simp at h
      · exact e
  · rintro r ⟨rem, s2, hd, hm, hw, rfl⟩
    have : rem = [] := by cases rem with | nil => rfl | cons => simp at hd
    subst this
    simp at hm
include P
theorem wcust_eq {x yd : Str} (h : NetU y w (f ++ [(x, yd)])) (hx : x ∉ f.map (·.1)) (hy : yd ∈ y.map (·.1)) (hl : f.length ≤ 900) : callF T (k + 7) "with_customer" [.val (encN y w f), .val (.str x), .val (.str yd)] = .ret (.val (encN (sY y) (sW w) (sF (f ++ [(x, yd)])))) [.val (encN y w f), .val (.str x), .val (.str yd)] := by
  have e := fit_eq P G.tupled G.fit (k := k) h (a := .tup (y.map encY)) (b := .tup (w.map encW)) (c := .lst ((f ++ [(x, yd)]).map encF)) (.inr rfl) (.inr rfl) (.inl rfl)
  have hs : 1000 ≤ sizeLine := by decide
  rw [List.map_append] at e
  apply cwp_eq
  rw [cwp_callF G.with_customer_ rfl]
  unfold f_with_customer
  bv_omega
  refine cwp_mono (supplyof_ok G hy) ?_ (fun _ z => z.elim)
  rintro rv outs ⟨⟨i, rfl⟩, rfl⟩
  bv_omega
  rw [cnames_eq5 G]
  bv_omega
  rw [inOp_tup, decide_eq_false hx]
  unfold encN
  bv_omega
  refine ⟨by simp; omega, ?_⟩
  rw [show [D.tup [.str x, .str yd]] = [(x, yd)].map encF from rfl, e]
  bv_omega
  rfl
theorem wyard_eq {x : Str} {i : Int} (h : NetU (y ++ [(x, i)]) w f) (hx : x ∉ y.map (·.1)) (hl : y.length ≤ 900) : callF T (k + 7) "with_yard" [.val (encN y w f), .val (.str x), .val (.int i)] = .ret (.val (encN (sY (y ++ [(x, i)])) (sW w) (sF f))) [.val (encN y w f), .val (.str x), .val (.int i)] := by
  have e := fit_eq P G.tupled G.fit (k := k) h (a := .lst ((y ++ [(x, i)]).map encY)) (b := .tup (w.map encW)) (c := .tup (f.map encF)) (.inl rfl) (.inr rfl) (.inr rfl)
  have hs : 1000 ≤ sizeLine := by decide
  rw [List.map_append] at e
  apply cwp_eq
  rw [cwp_callF G.with_yard_ rfl]
  unfold f_with_yard
  bv_omega
  rw [ynames_eq G.ynames]
  bv_omega
  rw [inOp_tup, decide_eq_false hx]
  unfold encN
  bv_omega
  refine ⟨by simp; omega, ?_⟩
  rw [show [D.tup [.str x, .int i]] = [(x, i)].map encY from rfl, e]
  bv_omega
  rfl
theorem wline_eq {p : Wy} (h : NetU y (w ++ [p]) f) (hx : p.nm ∉ w.map (·.nm)) (hf : p.fr ∈ y.map (·.1)) (ht : p.to ∈ y.map (·.1)) (hl : w.length ≤ 900) : callF T (k + 7) "with_line" [.val (encN y w f), .val (.str p.nm), .val (.str p.fr), .val (.str p.to), .val (.int p.cp), .val (.str p.ky)] = .ret (.val (encN (sY y) (sW (w ++ [p])) (sF f))) [.val (encN y w f), .val (.str p.nm), .val (.str p.fr), .val (.str p.to), .val (.int p.cp), .val (.str p.ky)] := by
  have e := fit_eq P G.tupled G.fit (k := k) h (a := .tup (y.map encY)) (b := .lst ((w ++ [p]).map encW)) (c := .tup (f.map encF)) (.inr rfl) (.inl rfl) (.inr rfl)
  have hs : 1000 ≤ sizeLine := by decide
  rw [List.map_append] at e
  apply cwp_eq
  rw [cwp_callF G.with_line_ rfl]
  unfold f_with_line
  bv_omega
  refine cwp_mono (supplyof_ok G hf) ?_ (fun _ z => z.elim)
  rintro rv outs ⟨⟨i, rfl⟩, rfl⟩
  bv_omega
  refine cwp_mono (supplyof_ok G ht) ?_ (fun _ z => z.elim)
  rintro rv outs ⟨⟨i, rfl⟩, rfl⟩
  bv_omega
  rw [lnames_eq G]
  bv_omega
  rw [inOp_tup, decide_eq_false hx]
  unfold encN
  bv_omega
  refine ⟨by simp; omega, ?_⟩
  rw [show [D.tup [.str p.nm, .str p.fr, .str p.to, .int p.cp, .str p.ky]] = [p].map encW from rfl, e]
  bv_omega
  rfl
theorem ocust_eq {x : Str} (h : NetU y w (f.filter fun p => !(p.1 == x))) (hx : x ∈ f.map (·.1)) : callF T (k + 7) "without_customer" [.val (encN y w f), .val (.str x)] = .ret (.val (encN (sY y) (sW w) (sF (f.filter fun p => !(p.1 == x))))) [.val (encN y w f), .val (.str x)] := by
  have e := fit_eq P G.tupled G.fit (k := k) h (a := .tup (y.map encY)) (b := .tup (w.map encW)) (c := .lst ((f.filter fun p => !(p.1 == x)).map encF)) (.inr rfl) (.inr rfl) (.inl rfl)
  apply cwp_eq
  rw [cwp_callF G.without_customer_ rfl]
  unfold f_without_customer
  bv_omega
  refine cwp_mono (yardof_ok G hx) ?_ (fun _ z => z.elim)
  rintro rv outs ⟨⟨i, rfl⟩, rfl⟩
  unfold encN
  bv_omega
  refine wp_comp_fil encF (fun p => !(p.1 == x)) encF ?_ ?_
  · intro p hp
    refine ⟨_, rfl, ?_⟩
    rw [show encF p = .tup [.str p.1, .str p.2] from rfl]
    bv_omega
    refine br_of (fun h => ?_) (fun h => ?_)
    · bv_omega
      simp [h]
    · bv_omega
      simp [h]
  bv_omega
  rw [e]
  bv_omega
  rfl
theorem oyard_eq {x : Str} (h : NetU (y.filter fun p => !(p.1 == x)) w f) (hx : x ∈ y.map (·.1)) : callF T (k + 7) "without_yard" [.val (encN y w f), .val (.str x)] = .ret (.val (encN (sY (y.filter fun p => !(p.1 == x))) (sW w) (sF f))) [.val (encN y w f), .val (.str x)] := by
  have e := fit_eq P G.tupled G.fit (k := k) h (a := .lst ((y.filter fun p => !(p.1 == x)).map encY)) (b := .tup (w.map encW)) (c := .tup (f.map encF)) (.inl rfl) (.inr rfl) (.inr rfl)
  apply cwp_eq
  rw [cwp_callF G.without_yard_ rfl]
  unfold f_without_yard
  bv_omega
  refine cwp_mono (supplyof_ok G hx) ?_ (fun _ z => z.elim)
  rintro rv outs ⟨⟨i, rfl⟩, rfl⟩
  unfold encN
  bv_omega
  refine wp_comp_fil encY (fun p => !(p.1 == x)) encY ?_ ?_
  · intro p hp
    refine ⟨_, rfl, ?_⟩
    rw [show encY p = .tup [.str p.1, .int p.2] from rfl]
    bv_omega
    refine br_of (fun h => ?_) (fun h => ?_)
    · bv_omega
      simp [h]
    · bv_omega
      simp [h]
  bv_omega
  rw [e]
  bv_omega
  rfl
theorem oline_eq {x : Str} (h : NetU y (w.filter fun p => !(p.nm == x)) f) (hx : x ∈ w.map (·.nm)) : callF T (k + 7) "without_line" [.val (encN y w f), .val (.str x)] = .ret (.val (encN (sY y) (sW (w.filter fun p => !(p.nm == x))) (sF f))) [.val (encN y w f), .val (.str x)] := by
  have e := fit_eq P G.tupled G.fit (k := k) h (a := .tup (y.map encY)) (b := .lst ((w.filter fun p => !(p.nm == x)).map encW)) (c := .tup (f.map encF)) (.inr rfl) (.inl rfl) (.inr rfl)
  apply cwp_eq
  rw [cwp_callF G.without_line_ rfl]
  unfold f_without_line
  bv_omega
  refine cwp_mono (lineof_ok G hx) ?_ (fun _ z => z.elim)
  rintro rv outs ⟨⟨p, _, _, rfl⟩, rfl⟩
  unfold encN
  bv_omega
  refine wp_comp_fil encW (fun p => !(p.nm == x)) encW ?_ ?_
  · intro p hp
    refine ⟨_, rfl, ?_⟩
    rw [show encW p = .tup [.str p.nm, .str p.fr, .str p.to, .int p.cp, .str p.ky] from rfl]
    bv_omega
    refine br_of (fun h => ?_) (fun h => ?_)
    · bv_omega
      simp [h]
    · bv_omega
      simp [h]
  bv_omega
  rw [e]
  bv_omega
  rfl
theorem partfor_eq {ks : List Str} (h : NetU y w f) : callF T (k + 7) "part_for" [.val (encN y w f), .val (tupS ks)] = .ret (.val (encN (sY y) (sW (w.filter fun p => decide (p.ky ∈ ks))) (sF f))) [.val (encN y w f), .val (tupS ks)] := by
  have e := fit_eq P G.tupled G.fit (k := k) (h.filW fun p => decide (p.ky ∈ ks)) (a := .tup (y.map encY)) (b := .lst ((w.filter fun p => decide (p.ky ∈ ks)).map encW)) (c := .tup (f.map encF)) (.inr rfl) (.inl rfl) (.inr rfl)
  apply cwp_eq
  rw [cwp_callF G.part_for_ rfl]
  unfold f_part_for
  unfold encN
  bv_omega
  refine wp_comp_fil encW (fun p => decide (p.ky ∈ ks)) encW ?_ ?_
  · intro p hp
    refine ⟨_, rfl, ?_⟩
    rw [show encW p = .tup [.str p.nm, .str p.fr, .str p.to, .int p.cp, .str p.ky] from rfl]
    bv_omega
    rw [inOp_tup]
    bv_omega
    refine br_of (fun h => ?_) (fun h => ?_)
    · bv_omega
      simp [h]
    · bv_omega
      simp [h]
  bv_omega
  rw [e]
  bv_omega
  rfl
def setI (x : Str) (i : Int) (p : Yd) : Yd := (p.1, if (p.1 == x) = true then i else p.2)
theorem wsupply_eq {x : Str} {i : Int} (h : NetU (y.map (setI x i)) w f) (hx : x ∈ y.map (·.1)) : callF T (k + 7) "with_supply" [.val (encN y w f), .val (.str x), .val (.int i)] = .ret (.val (encN (sY (y.map (setI x i))) (sW w) (sF f))) [.val (encN y w f), .val (.str x), .val (.int i)] := by
  have e := fit_eq P G.tupled G.fit (k := k) h (a := .lst ((y.map (setI x i)).map encY)) (b := .tup (w.map encW)) (c := .tup (f.map encF)) (.inl rfl) (.inr rfl) (.inr rfl)
  apply cwp_eq
  rw [cwp_callF G.with_supply_ rfl]
  unfold f_with_supply
  bv_omega
  refine cwp_mono (supplyof_ok G hx) ?_ (fun _ z => z.elim)
  rintro rv outs ⟨⟨i', rfl⟩, rfl⟩
  unfold encN
  bv_omega
  refine wp_comp_map encY (fun p => encY (setI x i p)) ?_ ?_
  · intro p hp
    refine ⟨_, rfl, ?_⟩
    rw [show encY p = .tup [.str p.1, .int p.2] from rfl]
    bv_omega
    refine br_of (fun h => ?_) (fun h => ?_)
    · bv_omega
      simp [encY, setI, h]
    · bv_omega
      simp [encY, setI, h]
  bv_omega
  rw [show (y.map fun p => encY (setI x i p)) = (y.map (setI x i)).map encY by rw [List.map_map]; rfl, e]
  bv_omega
  rfl
theorem wkey_eq {p : Wy} {ky : Str} (hp : p ∈ w) (hn : (w.map (·.nm)).Nodup) (h : NetU y ((w.filter fun q : Wy => !(q.nm == p.nm)) ++ [{ p with ky := ky }]) f) (hl : w.length ≤ 900) : callF T (k + 7) "with_key" [.val (encN y w f), .val (.str p.nm), .val (.str ky)] = .ret (.val (encN (sY y) (sW ((w.filter fun q : Wy => !(q.nm == p.nm)) ++ [{ p with ky := ky }])) (sF f))) [.val (encN y w f), .val (.str p.nm), .val (.str ky)] := by
  have e := fit_eq P G.tupled G.fit (k := k) h (a := .tup (y.map encY)) (b := .lst (((w.filter fun q : Wy => !(q.nm == p.nm)) ++ [{ p with ky := ky }]).map encW)) (c := .tup (f.map encF)) (.inr rfl) (.inl rfl) (.inr rfl)
  rw [List.map_append] at e
  have hs : 1000 ≤ sizeLine := by decide
  have hfl : (w.filter fun q : Wy => !(q.nm == p.nm)).length ≤ w.length := List.length_filter_le _ w
  apply cwp_eq
  rw [cwp_callF G.with_key_ rfl]
  unfold f_with_key
  bv_omega
  refine cwp_mono (lineof_ok G (List.mem_map_of_mem (f := fun q : Wy => q.nm) hp)) ?_ (fun _ z => z.elim)
  rintro rv outs ⟨⟨q, hq, hqn, rfl⟩, rfl⟩
  obtain rfl := nodup_inj (fun q : Wy => q.nm) hn hq hp hqn
  rw [show encW q = .tup [.str q.nm, .str q.fr, .str q.to, .int q.cp, .str q.ky] from rfl]
  unfold encN
  bv_omega
  refine wp_comp_fil encW (fun r => !(r.nm == q.nm)) encW ?_ ?_
  · intro r hr
    refine ⟨_, rfl, ?_⟩
    rw [show encW r = .tup [.str r.nm, .str r.fr, .str r.to, .int r.cp, .str r.ky] from rfl]
    bv_omega
    refine br_of (fun h => ?_) (fun h => ?_)
    · bv_omega
      simp [h]
    · bv_omega
      simp [h]
  bv_omega
  refine ⟨by simp; omega, ?_⟩
  rw [show [D.tup [.str q.nm, .str q.fr, .str q.to, .int q.cp, .str ky]] = [({ q with ky := ky } : Wy)].map encW from rfl, e]
  bv_omega
  rfl
theorem wmost_eq {p : Wy} {cp : Int} (hp : p ∈ w) (hn : (w.map (·.nm)).Nodup) (h : NetU y ((w.filter fun q : Wy => !(q.nm == p.nm)) ++ [{ p with cp := cp }]) f) (hl : w.length ≤ 900) : callF T (k + 7) "with_most" [.val (encN y w f), .val (.str p.nm), .val (.int cp)] = .ret (.val (encN (sY y) (sW ((w.filter fun q : Wy => !(q.nm == p.nm)) ++ [{ p with cp := cp }])) (sF f))) [.val (encN y w f), .val (.str p.nm), .val (.int cp)] := by
  have e := fit_eq P G.tupled G.fit (k := k) h (a := .tup (y.map encY)) (b := .lst (((w.filter fun q : Wy => !(q.nm == p.nm)) ++ [{ p with cp := cp }]).map encW)) (c := .tup (f.map encF)) (.inr rfl) (.inl rfl) (.inr rfl)
  rw [List.map_append] at e
  have hs : 1000 ≤ sizeLine := by decide
  have hfl : (w.filter fun q : Wy => !(q.nm == p.nm)).length ≤ w.length := List.length_filter_le _ w
  apply cwp_eq
  rw [cwp_callF G.with_most_ rfl]
  unfold f_with_most
  bv_omega
  refine cwp_mono (lineof_ok G (List.mem_map_of_mem (f := fun q : Wy => q.nm) hp)) ?_ (fun _ z => z.elim)
  rintro rv outs ⟨⟨q, hq, hqn, rfl⟩, rfl⟩
  obtain rfl := nodup_inj (fun q : Wy => q.nm) hn hq hp hqn
  rw [show encW q = .tup [.str q.nm, .str q.fr, .str q.to, .int q.cp, .str q.ky] from rfl]
  unfold encN
  bv_omega
  refine wp_comp_fil encW (fun r => !(r.nm == q.nm)) encW ?_ ?_
  · intro r hr
    refine ⟨_, rfl, ?_⟩
    rw [show encW r = .tup [.str r.nm, .str r.fr, .str r.to, .int r.cp, .str r.ky] from rfl]
    bv_omega
    refine br_of (fun h => ?_) (fun h => ?_)
    · bv_omega
      simp [h]
    · bv_omega
      simp [h]
  bv_omega
  refine ⟨by simp; omega, ?_⟩
  rw [show [D.tup [.str q.nm, .str q.fr, .str q.to, .int cp, .str q.ky]] = [({ q with cp := cp } : Wy)].map encW from rfl, e]
  bv_omega
  rfl
end
theorem wp_forL_nil {tg} {body : M Flow} {r Q X} : Wp (forL tg body [] r) Q X = Q .next r := rfl
theorem z_wp_forL_cons {tg} {body : M Flow} {d ds r Q X} : Wp0 (forL tg body (d :: ds) r) Q X = Op0 (asgT tg d r) fun r1 => Wp0 (body r1) (fun fl r2 => match fl with | .next => Wp0 (forL tg body ds r2) Q X | .cont => Wp0 (forL tg body ds r2) Q X | .brk => Q .next r2 | .ret v => Q (.ret v) r2) X := by
  conv => lhs; unfold forL
  cases asgT tg d r with
  | none => rfl
  | some r1 =>
    dsimp only [z_op_some]
    cases body r1 with
    | stuck => rfl
    | exc e r => rfl
    | ok fl r2 => cases fl <;> rfl
theorem wp_forL_cons {tg} {body : M Flow} {d ds r Q X} : Wp (forL tg body (d :: ds) r) Q X = Op (asgT tg d r) fun r1 => Wp (body r1) (fun fl r2 => match fl with | .next => Wp (forL tg body ds r2) Q X | .cont => Wp (forL tg body ds r2) Q X | .brk => Q .next r2 | .ret v => Q (.ret v) r2) X := z_wp_forL_cons
theorem of_okT {T : List (Str × Fn)} (ht : Has T "_law_take" f_take) (ho : Has T "_law_of" f_of) {k : Nat} {m : Int} {xs ys : List D} (g : GB m xs) (hm : m ≤ 1000000) (h0 : ys ≠ []) (hl : ys.length ≤ 1000000) : CWp (callF T (k + 2) "_law_of" [.box xs, .val (.tup ys)]) (fun rv outs => ∃ v zs, rv = .val v ∧ v ∈ ys ∧ outs = [.box zs, .val (.tup ys)] ∧ GB (m + 1) zs) (fun _ => False) := by
  rw [cwp_callF ho rfl]
  unfold f_of
  bv_omega
  have : 0 < ys.length := List.length_pos_iff.mpr h0
  refine cwp_mono (take_ok ht g hm (by omega) (by omega)) ?_ (fun _ z => z.elim)
  rintro rv outs ⟨v, zs, rfl, v0, v1, rfl, g2⟩
  obtain ⟨x, e, hx⟩ := getK v0 v1
  bv_omega
  simp only [v0, v1, if_true]
  bv_omega
  rw [e]
  bv_omega
  exact ⟨_, _, rfl, hx, rfl, g2⟩
end Ev

-- part K05P
set_option maxHeartbeats 400000
/-! K05P: what the law asks of one drawn net. -/
namespace Ev
open PySem
local macro_rules | `(tactic| bv_omega) => `(tactic| simp (maxSteps := 1000000) (dsimp := false) only [↓cwp_runM, ↓cwp_ret, ↓br_t, ↓br_f, ↓wp_ok, ↓wp_exc, ↓wp_stuck, ↓wp_bind, ↓wp_pure, ↓wp_var, ↓wp_cst, ↓wp_glo, ↓wp_tup, ↓wp_lst, ↓wp_bin, ↓wp_tupS, ↓wp_lstS, ↓wp_ds0, ↓wp_ds1, st_f, st_tt, st_tl, List.headD_cons, List.headD_nil, List.tail_cons, List.tail_nil, ↓wp_neg, ↓wp_not, ↓wp_cmp, ↓wp_cmp2, ↓wp_and, ↓wp_or, ↓wp_ite, ↓wp_idx, ↓wp_sli, ↓wp_rev, ↓wp_onone, ↓wp_osome, ↓wp_nil, ↓wp_cons, ↓wp_bi, ↓wp_call, ↓wp_callk, ↓wp_callv, ↓wp_doCall, ↓wp_app, ↓wp_popAt, ↓wp_comp, ↓wp_turn, ↓wp_ifs0, ↓wp_ifs1, ↓wp_seq, ↓wp_rng, ↓wp_zip, ↓wp_enum, ↓wp_expr, ↓wp_asg, ↓wp_asgt, ↓wp_par, ↓wp_asgI, ↓wp_ret, ↓wp_ret0, ↓wp_pass, ↓wp_cont, ↓wp_brk, ↓wp_ifs, ↓wp_for, ↓wp_raise, ↓wp_snil, ↓wp_scons, ↓wp_toval, ↓wp_toown, ↓wp_tobor, ↓wp_tonil, ↓wp_tocons, ↓wp_pa0, ↓wp_paf, ↓wp_pao, ↓wp_pab, ↓wp_so0, ↓wp_sob, ↓wp_sov, ↓wp_soo, looks0, ↓op_looks, ↓op_some, ↓op_none, ↓op_ite, ↓op_map, ↓op_bind, ↓lk_val, ↓lk_own, ↓lk_bor, binOp, cmpOp, idxOp, bi_len1, bi_len2, bi_len3, bi_len4, bi_abs, bi_int1, bi_int2, bi_tup1, bi_tup2, bi_lst1, bi_lst2, bi_min2, bi_max2, bi_zipT, bi_isi, bi_all, bi_any, bi_sum, truD, asgRV, parAsg, asgT, asgTs, isMut, lent, nodupB, giveBack, noBor, negOp, revOp, atIx, rngOf, sliI, sb_int_int, sb_int_bool, sb_int_str, sb_int_list, sb_int_tuple, sb_bool_int, sb_bool_bool, sb_bool_str, sb_bool_list, sb_bool_tuple, sb_str_int, sb_str_bool, sb_str_str, sb_str_list, sb_str_tuple, sb_tuple_int, sb_tuple_bool, sb_tuple_str, sb_tuple_list, sb_tuple_tuple, sb_list_int, sb_list_bool, sb_list_str, sb_list_list, sb_list_tuple, sb_NoneType_int, sb_NoneType_bool, sb_NoneType_str, sb_NoneType_list, sb_NoneType_tuple, zip_ll, zip_tt, lockNil, lockBox, eqbs_refl, eqOp_str, eqOp_int, eqOp_bl, wipeE, restE, slotGet, Option.getD_some, Option.getD_none, partI, itemsD, seqD, lockOf, locksOf, shareL, List.foldl, outsOk, outOk, Int.ofNat_eq_natCast, tyD, permL, List.getElem?_cons_zero, List.getElem?_cons_succ, List.set_cons_zero, List.set_cons_succ, List.length_cons, List.length_nil, List.cons_append, List.nil_append, List.append_nil, List.replicate, List.take_succ_cons, List.take_zero, List.take_nil, List.all_cons, List.all_nil, List.any_cons, List.any_nil, List.contains_nil, List.contains_cons, List.isEmpty_nil, List.isEmpty_cons, Bool.true_and, Bool.and_true, Bool.false_and, Bool.and_false, Bool.true_or, Bool.or_true, Bool.false_or, Bool.or_false, Bool.not_true, Bool.not_false, true_and, and_true, false_and, and_false, if_true, if_false, Bool.false_eq_true, Nat.reduceSub, Nat.reduceAdd, Nat.reduceLT, Int.reduceLT, Int.reduceLE, Int.reduceToNat, Int.reducePow, Int.reduceAdd, Int.reduceSub, Int.reduceMul, Int.cast_ofNat_Int, Nat.reduceMul, Int.reduceNeg, Option.bind_some, Option.bind_none, Option.map_some, Option.map_none, decide_true, decide_false, reduceIte, ↓reduceIte, beq_self_eq_true, Nat.reduceBEq, Nat.reduceEqDiff])
def f_right5 : Fn := ⟨1, 18, [true], [
  .asg (.name 1) (.call "_law_net" [true, false, false, false, false] [(.var 0), (.cst (.int (3))), (.cst (.int (4))), (.cst (.int (3))), (.cst (.int (3)))]),
  .asg (.tup [(.name 6), (.name 7), (.name 8)]) (.var 1),
  .par [9, 10, 11] [(.idx (.call "_law_of" [true, false] [(.var 0), (.var 6)]) (.cst (.int (0)))), (.idx (.idx (.var 6) (.cst (.int (0)))) (.cst (.int (0)))), (.idx (.idx (.var 6) (.cst (.int (1)))) (.cst (.int (0))))],
  .par [12, 13] [(.call "_law_take" [true, false] [(.var 0), (.cst (.int (9)))]), (.call "_law_of" [true, false] [(.var 0), (.lst [(.cst (.str "blue")), (.cst (.str "k")), (.cst (.str "new"))])])],
  .asg (.name 2) (.call "with_line" [false, false, false, false, false, false] [(.call "with_yard" [false, false, false] [(.call "with_customer" [false, false, false] [(.var 1), (.cst (.str "mm")), (.var 9)]), (.cst (.str "new")), (.var 12)]), (.cst (.str "new")), (.var 10), (.var 11), (.var 12), (.var 13)]),
  .asg (.name 3) (.tup [(.bi .tuple [(.bi .sorted [(.bin .Add (.var 6) (.tup [(.tup [(.cst (.str "new")), (.var 12)])]))])]), (.bi .tuple [(.bi .sorted [(.bin .Add (.var 7) (.tup [(.tup [(.cst (.str "new")), (.var 10), (.var 11), (.var 12), (.var 13)])]))])])]),
  .asg (.name 3) (.bin .Add (.var 3) (.tup [(.bi .tuple [(.bi .sorted [(.bin .Add (.var 8) (.tup [(.tup [(.cst (.str "mm")), (.var 9)])]))])])])),
  .asg (.name 4) (.lst [(.var 2), (.call "without_customer" [false, false] [(.call "without_yard" [false, false] [(.call "without_line" [false, false] [(.var 2), (.cst (.str "new"))]), (.cst (.str "new"))]), (.cst (.str "mm"))])]),
  .asg (.name 4) (.bin .Add (.var 4) (.lst [(.call "with_supply" [false, false, false] [(.var 2), (.cst (.str "new")), (.cst (.int (0)))])])),
  .asg (.name 5) (.lst [(.var 3), (.var 1), (.bin .Add (.tup [(.bi .tuple [(.comp (.tup [(.idx (.var 17) (.cst (.int (0)))), (.bin .Mult (.idx (.var 17) (.cst (.int (1)))) (.bi .int [(.cmp .NotEq (.idx (.var 17) (.cst (.int (0)))) (.cst (.str "new")))]))]) (.name 17) (.seq (.idx (.var 3) (.cst (.int (0))))) [] [17])])]) (.sli (.var 3) (some (.cst (.int (1)))) none))]),
  .asg (.name 4) (.bin .Add (.var 4) (.lst [(.call "part_for" [false, false] [(.var 2), (.tup [(.var 13)])]), (.call "with_key" [false, false, false] [(.var 2), (.cst (.str "new")), (.cst (.str "old"))]), (.call "with_most" [false, false, false] [(.var 2), (.cst (.str "new")), (.cst (.int (77)))])])),
  .expr (.app 5 (.tup [(.idx (.var 3) (.cst (.int (0)))), (.bi .tuple [(.comp (.var 17) (.name 17) (.seq (.idx (.var 3) (.cst (.int (1))))) [(.cmp .Eq (.idx (.var 17) (.cst (.int (4)))) (.var 13))] [17])]), (.idx (.var 3) (.cst (.int (2))))])),
  .for_ (.tup [(.name 14), (.name 15)]) (.seq (.lst [(.tup [(.cst (.int (4))), (.cst (.str "old"))]), (.tup [(.cst (.int (3))), (.cst (.int (77)))])])) [.asg (.name 16) (.comp (.ite (.cmp .NotEq (.idx (.var 17) (.cst (.int (0)))) (.cst (.str "new"))) (.var 17) (.bin .Add (.bin .Add (.sli (.var 17) none (some (.var 14))) (.tup [(.var 15)])) (.sli (.var 17) (some (.bin .Add (.var 14) (.cst (.int (1))))) none))) (.name 17) (.seq (.idx (.var 3) (.cst (.int (1))))) [] [17]), .expr (.app 5 (.tup [(.idx (.var 3) (.cst (.int (0)))), (.bi .tuple [(.var 16)]), (.idx (.var 3) (.cst (.int (2))))]))],
  .ret (.call "_law_same" [false, false] [(.var 4), (.var 5)])]⟩
theorem pool5_ok : (∀ x ∈ yPool, okS x) ∧ (∀ x ∈ kPool, okS x) ∧ (∀ x ∈ wPool, okS x) ∧ (∀ x ∈ fPool, okS x) ∧ okS "new" ∧ okS "mm" ∧ okS "old" ∧ okS "blue" ∧ okS "k" ∧ ("new" : Str) ∉ yPool ∧ ("new" : Str) ∉ wPool ∧ ("mm" : Str) ∉ fPool := by
  unfold okS
  decide +kernel
theorem pures_of {α : Type} {n : Nat} (enc : α → D) (h : ∀ a, pure1 n (enc a) = true) : ∀ xs : List α, pures n (xs.map enc) = true
  | [] => rfl
  | x :: xs => by rw [List.map_cons, pures, h x, pures_of enc h xs]; rfl
theorem pure_encN {n : Nat} (y : List Yd) (w : List Wy) (f : List Fk) : pure1 (n + 3) (encN y w f) = true := by
  have h1 : pures (n + 1) (y.map encY) = true := pures_of encY (fun a => rfl) y
  have h2 : pures (n + 1) (w.map encW) = true := pures_of encW (fun a => rfl) w
  have h3 : pures (n + 1) (f.map encF) = true := pures_of encF (fun a => rfl) f
  simp only [encN, pure1, pures, h1, h2, h3, Bool.and_self]
theorem right5_ok {T : List (Str × Fn)} (dr : Draws T) (P : HasP T) (G : HasF T) (hN : Has T "_law_net" f_net5) (hS : Has T "_law_same" f_same) (hR : Has T "_law_right" f_right5) {k : Nat} {xs : List D} (g : GB 0 xs) : CWp (callF T (k + 8) "_law_right" [.box xs]) (fun rv outs => rv = .val (.bl true) ∧ outs.length = 1) (fun _ => False) := by
  rw [cwp_callF hR rfl]
  unfold f_right5
  bv_omega
  refine cwp_mono (net5_ok (k := k + 4) dr hN g (by omega) (by omega) (by omega) (by omega) (by omega)) ?_ (fun _ z => z.elim)
  rintro rv outs ⟨y, w, f, zs, rfl, hP, rfl, g2⟩
  obtain ⟨q1, q2, q3, q4, q5, q6, q7, q8, q9, q10, q11, q12⟩ := pool5_ok
  have wl := hP.w5
  have fl := hP.f4
  have yl := hP.y4
  have yl2 := hP.y2
  have hs : 1000 ≤ sizeLine := by decide
  have yr : y.Pairwise (LtN (·.1)) := (List.pairwise_map (f := fun p : Yd => p.1) (R := ltS)).mp hP.yr.up
  have wr : w.Pairwise (LtN (·.nm)) := (List.pairwise_map (f := fun p : Wy => p.nm) (R := ltS)).mp hP.wr.up
  have fr : f.Pairwise (LtN (·.1)) := (List.pairwise_map (f := fun p : Fk => p.1) (R := ltS)).mp hP.fr.up
  have yne : y ≠ [] := fun e => by rw [e] at yl2; simp at yl2
  have N0 : NetU y w f := ⟨fun p hp => ⟨q1 _ (hP.yr.sub _ (List.mem_map_of_mem hp)), hP.ys p hp⟩, nodup_of _ yr, yne, fun p hp => ⟨q3 _ (hP.wr.sub _ (List.mem_map_of_mem hp)), hP.wf p hp, hP.wt p hp, hP.wn p hp, hP.wc p hp, q2 _ (hP.wk p hp)⟩, nodup_of _ wr, fun p hp => ⟨q4 _ (hP.fr.sub _ (List.mem_map_of_mem hp)), hP.fg p hp⟩, nodup_of _ fr⟩
  obtain ⟨y0, y1, yt, rfl⟩ : ∃ y0 y1 yt, y = y0 :: y1 :: yt := by
    rcases y with _ | ⟨a, _ | ⟨b, t⟩⟩
    · simp at yl2
    · simp at yl2
    · exact ⟨a, b, t, rfl⟩
  have s0 : y0.1 ∈ (y0 :: y1 :: yt).map (·.1) := by simp
  have s1 : y1.1 ∈ (y0 :: y1 :: yt).map (·.1) := by simp
  have s01 : y0.1 ≠ y1.1 := by
    have := N0.yn
    simp at this
    exact fun e => this.1.1 e
  have hyn : ("new" : Str) ∉ (y0 :: y1 :: yt).map (·.1) := fun h => q10 (hP.yr.sub _ h)
  have hwn : ("new" : Str) ∉ w.map (·.nm) := fun h => q11 (hP.wr.sub _ h)
  have hfn : ("mm" : Str) ∉ f.map (·.1) := fun h => q12 (hP.fr.sub _ h)
  generalize hy : y0 :: y1 :: yt = y at *
  unfold encN
  rw [show (y.map encY) = encY y0 :: encY y1 :: yt.map encY by rw [← hy]; rfl]
  rw [show encY y0 = .tup [.str y0.1, .int y0.2] from rfl, show encY y1 = .tup [.str y1.1, .int y1.2] from rfl]
  bv_omega
  rw [show (D.tup [.str y0.1, .int y0.2] :: D.tup [.str y1.1, .int y1.2] :: yt.map encY) = y.map encY by rw [← hy]; rfl]
  refine cwp_mono (of_okT (ys := y.map encY) dr.take dr.of g2 (by omega) (by simpa using yne) (by simp; omega)) ?_ (fun _ z => z.elim)
  rintro rv outs ⟨tv, b2, rfl, tm, rfl, g3⟩
  obtain ⟨qy, qym, rfl⟩ := List.mem_map.mp tm
  have stag : qy.1 ∈ y.map (·.1) := List.mem_map_of_mem qym
  rw [show encY qy = .tup [.str qy.1, .int qy.2] from rfl]
  bv_omega
  have gy0 : (y.map encY)[0]? = some (.tup [.str y0.1, .int y0.2]) := by rw [← hy]; rfl
  have gy1 : (y.map encY)[1]? = some (.tup [.str y1.1, .int y1.2]) := by rw [← hy]; rfl
  have ylm : (y.map encY).length = y.length := List.length_map _
  refine ⟨by omega, ?_⟩
  simp (dsimp := false) only [gy0]
  bv_omega
  refine ⟨by omega, ?_⟩
  simp (dsimp := false) only [gy1]
  bv_omega
  refine cwp_mono (take_ok dr.take g3 (by omega) (by omega) (by omega)) ?_ (fun _ z => z.elim)
  rintro rv outs ⟨hi, b3, rfl, hi0, hi9, rfl, g4⟩
  bv_omega
  refine cwp_mono (of_ok (ys := [.str "blue", .str "k", .str "new"]) dr.take dr.of g4 (by omega) (by simp) (by decide)) ?_ (fun _ z => z.elim)
  rintro rv outs ⟨rd, b4, rfl, rm, rfl, g5⟩
  obtain ⟨rg, rfl, hrg⟩ : ∃ rg : Str, rd = .str rg ∧ okS rg := by
    simp only [List.mem_cons, List.not_mem_nil, or_false] at rm
    rcases rm with rfl | rfl | rfl
    · exact ⟨_, rfl, q8⟩
    · exact ⟨_, rfl, q9⟩
    · exact ⟨_, rfl, q5⟩
  have ey : sY y = y := sortK_id _ yr
  have ew : sW w = w := sortK_id _ wr
  have ef : sF f = f := sortK_id _ fr
  have N1 : NetU y w (f ++ [(("mm" : Str), qy.1)]) := N0.addF q6 stag hfn
  have c1 := wcust_eq P G (k := k) N1 hfn stag (by omega)
  have pF : (sF (f ++ [(("mm" : Str), qy.1)])).Perm (f ++ [(("mm" : Str), qy.1)]) := sortK_perm _ _
  have rF : (sF (f ++ [(("mm" : Str), qy.1)])).Pairwise (LtN (·.1)) := sortK_pw _ N1.fn
  have eF : sF (sF (f ++ [(("mm" : Str), qy.1)])) = sF (f ++ [(("mm" : Str), qy.1)]) := sortK_id _ rF
  have bF : (sF (f ++ [(("mm" : Str), qy.1)])).filter (fun p => !(p.1 == ("mm" : Str))) = f := fil_back (fun p : Fk => p.1) (x := (("mm" : Str), qy.1)) fr hfn
  have mF : ("mm" : Str) ∈ (sF (f ++ [(("mm" : Str), qy.1)])).map (·.1) := ((pF.map _).mem_iff).mpr (by simp)
  have lF : (sF (f ++ [(("mm" : Str), qy.1)])).length ≤ 900 := by rw [pF.length_eq]; simp; omega
  generalize hF1 : sF (f ++ [(("mm" : Str), qy.1)]) = F1 at *
  have N2 : NetU (y ++ [(("new" : Str), hi)]) w F1 := (N1.addY (p := (("new" : Str), hi)) q5 hi0 hyn).ofPerm (.refl _) (.refl _) pF
  have c2 := wyard_eq P G (k := k) N2 hyn (by omega)
  have pY : (sY (y ++ [(("new" : Str), hi)])).Perm (y ++ [(("new" : Str), hi)]) := sortK_perm _ _
  have rY : (sY (y ++ [(("new" : Str), hi)])).Pairwise (LtN (·.1)) := sortK_pw _ N2.yn
  have eY : sY (sY (y ++ [(("new" : Str), hi)])) = sY (y ++ [(("new" : Str), hi)]) := sortK_id _ rY
  have bY : (sY (y ++ [(("new" : Str), hi)])).filter (fun p => !(p.1 == ("new" : Str))) = y := fil_back (fun p : Yd => p.1) (x := (("new" : Str), hi)) yr hyn
  have mY : ∀ x, x ∈ (sY (y ++ [(("new" : Str), hi)])).map (·.1) ↔ x ∈ (y ++ [(("new" : Str), hi)]).map (·.1) := fun x => (pY.map _).mem_iff
  have mYn : ("new" : Str) ∈ (sY (y ++ [(("new" : Str), hi)])).map (·.1) := (mY _).mpr (by simp)
  have mY0 : y0.1 ∈ (sY (y ++ [(("new" : Str), hi)])).map (·.1) := (mY _).mpr (by rw [List.map_append]; exact List.mem_append_left _ s0)
  have mY1 : y1.1 ∈ (sY (y ++ [(("new" : Str), hi)])).map (·.1) := (mY _).mpr (by rw [List.map_append]; exact List.mem_append_left _ s1)
  have N2' : NetU (sY (y ++ [(("new" : Str), hi)])) w F1 := N2.ofPerm pY (.refl _) (.refl _)
  generalize hY1 : sY (y ++ [(("new" : Str), hi)]) = Y1 at *
  have N3 : NetU Y1 (w ++ [⟨"new", y0.1, y1.1, hi, rg⟩]) F1 := N2'.addW (p := ⟨"new", y0.1, y1.1, hi, rg⟩) q5 mY0 mY1 s01 hi0 hrg hwn
  have c3 := wline_eq P G (k := k) (p := ⟨"new", y0.1, y1.1, hi, rg⟩) N3 hwn mY0 mY1 (by omega)
  have pW : (sW (w ++ [⟨"new", y0.1, y1.1, hi, rg⟩])).Perm (w ++ [⟨"new", y0.1, y1.1, hi, rg⟩]) := sortK_perm _ _
  have rW : (sW (w ++ [⟨"new", y0.1, y1.1, hi, rg⟩])).Pairwise (LtN (·.nm)) := sortK_pw _ N3.wn
  have bW : (sW (w ++ [⟨"new", y0.1, y1.1, hi, rg⟩])).filter (fun p => !(p.nm == ("new" : Str))) = w := fil_back (fun p : Wy => p.nm) (x := ⟨"new", y0.1, y1.1, hi, rg⟩) wr hwn
  have mW : (⟨"new", y0.1, y1.1, hi, rg⟩ : Wy) ∈ sW (w ++ [⟨"new", y0.1, y1.1, hi, rg⟩]) := pW.mem_iff.mpr (by simp)
  have mWn : ("new" : Str) ∈ (sW (w ++ [⟨"new", y0.1, y1.1, hi, rg⟩])).map (·.nm) := List.mem_map_of_mem (f := fun p : Wy => p.nm) mW
  have lW : (sW (w ++ [⟨"new", y0.1, y1.1, hi, rg⟩])).length ≤ 900 := by rw [pW.length_eq]; simp; omega
  have N4 : NetU Y1 (sW (w ++ [⟨"new", y0.1, y1.1, hi, rg⟩])) F1 := N3.ofPerm (.refl _) pW (.refl _)
  have neq : ∀ p ∈ w, (p.nm == ("new" : Str)) = false := fun p hp => by
    rw [beq_eq_false_iff_ne]
    exact fun e => hwn (by rw [← e]; exact List.mem_map_of_mem hp)
  have r1 : (sW (w ++ [⟨"new", y0.1, y1.1, hi, rg⟩])).map (fun p => if (!(p.nm == ("new" : Str))) = true then p else { p with ky := "old" }) = sW (w ++ [⟨"new", y0.1, y1.1, hi, "old"⟩]) :=
    rep_back (fun p : Wy => p.nm) (x := ⟨"new", y0.1, y1.1, hi, rg⟩) (x' := ⟨"new", y0.1, y1.1, hi, "old"⟩) _ wr hwn rfl (by simp) (fun p hp => by simp [neq p hp])
  have r2 : (sW (w ++ [⟨"new", y0.1, y1.1, hi, rg⟩])).map (fun p => if (!(p.nm == ("new" : Str))) = true then p else { p with cp := 77 }) = sW (w ++ [⟨"new", y0.1, y1.1, 77, rg⟩]) :=
    rep_back (fun p : Wy => p.nm) (x := ⟨"new", y0.1, y1.1, hi, rg⟩) (x' := ⟨"new", y0.1, y1.1, 77, rg⟩) _ wr hwn rfl (by simp) (fun p hp => by simp [neq p hp])
  have gW : sortG (w.map encW ++ [.tup [.str "new", .str y0.1, .str y1.1, .int hi, .str rg]]) = some ((sW (w ++ [⟨"new", y0.1, y1.1, hi, rg⟩])).map encW) := by
    rw [show w.map encW ++ [.tup [.str "new", .str y0.1, .str y1.1, .int hi, .str rg]] = (w ++ [(⟨"new", y0.1, y1.1, hi, rg⟩ : Wy)]).map encW by rw [List.map_append]; rfl]
    exact sgW (fun p hp => ⟨(N3.w1 p hp).1, N3.y2 (N3.w1 p hp).2.1, N3.y2 (N3.w1 p hp).2.2.1, (N3.w1 p hp).2.2.2.2.2⟩) N3.wn
  have gY : sortG (y.map encY ++ [.tup [.str "new", .int hi]]) = some (Y1.map encY) := by
    rw [show y.map encY ++ [.tup [.str "new", .int hi]] = (y ++ [(("new" : Str), hi)]).map encY by rw [List.map_append]; rfl, ← hY1]
    exact sgY (fun p hp => (N2.y1 p hp).1) N2.yn
  have gF : sortG (f.map encF ++ [.tup [.str "mm", .str qy.1]]) = some (F1.map encF) := by
    rw [show f.map encF ++ [.tup [.str "mm", .str qy.1]] = (f ++ [(("mm" : Str), qy.1)]).map encF by rw [List.map_append]; rfl, ← hF1]
    exact sgF (fun p hp => ⟨(N1.f1 p hp).1, N1.y2 (N1.f1 p hp).2⟩) N1.fn
  have c9 := wkey_eq P G (k := k) (y := Y1) (f := F1) (ky := "old") mW N4.wn (by rw [bW]; exact N2'.addW q5 mY0 mY1 s01 hi0 q7 hwn) lW
  have c10 := wmost_eq P G (k := k) (y := Y1) (f := F1) (cp := 77) mW N4.wn (by rw [bW]; exact N2'.addW q5 mY0 mY1 s01 (show (0 : Int) ≤ 77 by decide) hrg hwn) lW
  rw [bW] at c9 c10
  generalize hW1 : sW (w ++ [⟨"new", y0.1, y1.1, hi, rg⟩]) = W1 at *
  have eW : sW W1 = W1 := sortK_id _ rW
  have c4 := oline_eq P G (k := k) (y := Y1) (w := W1) (f := F1) (x := "new") (by rw [bW]; exact N2') mWn
  have c5 := oyard_eq P G (k := k) (y := Y1) (w := w) (f := F1) (x := "new") (by rw [bY]; exact N1.ofPerm (.refl _) (.refl _) pF) mYn
  have c6 := ocust_eq P G (k := k) (y := y) (w := w) (f := F1) (x := "mm") (by rw [bF]; exact N0) mF
  have nmI : (Y1.map (setI "new" 0)).map (·.1) = Y1.map (·.1) := by rw [List.map_map]; rfl
  have N7 : NetU (Y1.map (setI "new" 0)) W1 F1 := by
    refine ⟨fun p hp => ?_, by rw [nmI]; exact N4.yn, fun e => N4.y0 (List.map_eq_nil_iff.mp e), by rw [nmI]; exact N4.w1, N4.wn, by rw [nmI]; exact N4.f1, N4.fn⟩
    obtain ⟨q, hq, rfl⟩ := List.mem_map.mp hp
    refine ⟨(N4.y1 q hq).1, ?_⟩
    unfold setI
    dsimp only
    split
    · omega
    · exact (N4.y1 q hq).2
  have c7 := wsupply_eq P G (k := k) (y := Y1) (w := W1) (f := F1) (x := "new") (i := 0) N7 mYn
  have eI : sY (Y1.map (setI "new" 0)) = Y1.map (setI "new" 0) := sortK_id _ (List.pairwise_map.mpr (rY.imp fun h => h))
  have c8 := partfor_eq P G (k := k) (y := Y1) (w := W1) (f := F1) (ks := [rg]) N4
  have eP : sW (W1.filter fun p => decide (p.ky ∈ [rg])) = W1.filter fun p => decide (p.ky ∈ [rg]) := sortK_id _ (rW.sublist List.filter_sublist)
  rw [ey, ew] at c1
  rw [ew, eF] at c2
  rw [eY, eF] at c3
  rw [bW, eY, ew, eF] at c4
  rw [bY, ey, ew, eF] at c5
  rw [bF, ey, ew, ef] at c6
  rw [eI, eW, eF] at c7
  rw [eY, eP, eF] at c8
  rw [eY, eF] at c9 c10
  clear N1 N2 N2' N3 N4 N7 bW bY bF eI eP eW eY eF
  unfold encN at c1 c2 c3 c4 c5 c6 c7 c8 c9 c10
  bv_omega
  simp (dsimp := false) only [c1]
  bv_omega
  simp (dsimp := false) only [c2]
  bv_omega
  simp (dsimp := false) only [c3]
  bv_omega
  have wlm : (w.map encW).length = w.length := List.length_map _
  have flm : (f.map encF).length = f.length := List.length_map _
  refine ⟨by omega, ?_⟩
  simp (dsimp := false) only [bi_sortT, gY]
  bv_omega
  refine ⟨by omega, ?_⟩
  simp (dsimp := false) only [bi_sortT, gW]
  bv_omega
  refine ⟨by omega, ?_⟩
  simp (dsimp := false) only [bi_sortT, gF]
  bv_omega
  refine ⟨by omega, ?_⟩
  simp (dsimp := false) only [c4]
  bv_omega
  simp (dsimp := false) only [c5]
  bv_omega
  simp (dsimp := false) only [c6]
  bv_omega
  simp (dsimp := false) only [c7]
  bv_omega
  refine ⟨by omega, ?_⟩
  refine wp_comp_map encY (fun p => encY (setI "new" 0 p)) ?_ ?_
  · intro p hp
    refine ⟨_, rfl, ?_⟩
    rw [show encY p = .tup [.str p.1, .int p.2] from rfl]
    bv_omega
    cases h : (p.1 == ("new" : Str))
    · bv_omega
      refine ⟨by simp [fits64], ?_⟩
      simp [encY, setI, h]
    · bv_omega
      refine ⟨by simp [fits64], ?_⟩
      simp [encY, setI, h]
  bv_omega
  rw [show (Y1.map fun p => encY (setI "new" 0 p)) = (Y1.map (setI "new" 0)).map encY by rw [List.map_map]; rfl]
  refine ⟨by decide, ?_⟩
  simp (dsimp := false) only [show ∀ a b c : D, cutL [a, b, c] (some 1) none = [b, c] from fun _ _ _ => rfl]
  bv_omega
  refine ⟨by omega, ?_⟩
  have c8' : callF T (k + 7) "part_for" [.val (.tup [.tup (Y1.map encY), .tup (W1.map encW), .tup (F1.map encF)]), .val (.tup [.str rg])] = _ := c8
  simp (dsimp := false) only [c8']
  bv_omega
  simp (dsimp := false) only [c9]
  bv_omega
  simp (dsimp := false) only [c10]
  bv_omega
  refine ⟨by omega, ?_⟩
  refine wp_comp_fil encW (fun p => decide (p.ky ∈ [rg])) encW ?_ ?_
  · intro p hp
    refine ⟨_, rfl, ?_⟩
    rw [show encW p = .tup [.str p.nm, .str p.fr, .str p.to, .int p.cp, .str p.ky] from rfl]
    bv_omega
    refine br_of (fun h => ?_) (fun h => ?_)
    · bv_omega
      simp at h
      simp [h]
    · bv_omega
      simp at h
      simp [h]
  bv_omega
  refine ⟨by omega, ?_⟩
  simp (dsimp := false) only [wp_forL_cons]
  bv_omega
  refine wp_comp_map encW (fun p => encW (if (!(p.nm == ("new" : Str))) = true then p else { p with ky := "old" })) ?_ ?_
  · intro p hp
    refine ⟨_, rfl, ?_⟩
    rw [show encW p = .tup [.str p.nm, .str p.fr, .str p.to, .int p.cp, .str p.ky] from rfl]
    bv_omega
    cases h : (p.nm == ("new" : Str))
    · bv_omega
      rfl
    · bv_omega
      refine ⟨by decide, ?_⟩
      rw [show cutL [D.str p.nm, .str p.fr, .str p.to, .int p.cp, .str p.ky] none (some 4) = [.str p.nm, .str p.fr, .str p.to, .int p.cp] from rfl]
      bv_omega
      refine ⟨by omega, by decide, ?_⟩
      rw [show cutL [D.str p.nm, .str p.fr, .str p.to, .int p.cp, .str p.ky] (some 5) none = [] from rfl]
      bv_omega
      exact ⟨by omega, rfl⟩
  bv_omega
  refine ⟨by omega, ?_⟩
  simp (dsimp := false) only [wp_forL_cons]
  bv_omega
  refine wp_comp_map encW (fun p => encW (if (!(p.nm == ("new" : Str))) = true then p else { p with cp := 77 })) ?_ ?_
  · intro p hp
    refine ⟨_, rfl, ?_⟩
    rw [show encW p = .tup [.str p.nm, .str p.fr, .str p.to, .int p.cp, .str p.ky] from rfl]
    bv_omega
    cases h : (p.nm == ("new" : Str))
    · bv_omega
      rfl
    · bv_omega
      refine ⟨by decide, ?_⟩
      rw [show cutL [D.str p.nm, .str p.fr, .str p.to, .int p.cp, .str p.ky] none (some 3) = [.str p.nm, .str p.fr, .str p.to] from rfl]
      bv_omega
      refine ⟨by omega, by decide, ?_⟩
      rw [show cutL [D.str p.nm, .str p.fr, .str p.to, .int p.cp, .str p.ky] (some 4) none = [.str p.ky] from rfl]
      bv_omega
      exact ⟨by omega, rfl⟩
  bv_omega
  refine ⟨by omega, ?_⟩
  simp (dsimp := false) only [wp_forL_nil]
  bv_omega
  have r1' : (W1.map fun p => encW (if (!(p.nm == ("new" : Str))) = true then p else { p with ky := "old" })) = (sW (w ++ [⟨"new", y0.1, y1.1, hi, "old"⟩])).map encW := by rw [← r1, List.map_map]; rfl
  have r2' : (W1.map fun p => encW (if (!(p.nm == ("new" : Str))) = true then p else { p with cp := 77 })) = (sW (w ++ [⟨"new", y0.1, y1.1, 77, rg⟩])).map encW := by rw [← r2, List.map_map]; rfl
  simp (dsimp := false) only [r1', r2', show ∀ a b c : D, cutL [a, b, c] (some 1) none = [b, c] from fun _ _ _ => rfl]
  have p1 : pure1 4 (.lst [encN Y1 W1 F1, encN y w f, encN (Y1.map (setI "new" 0)) W1 F1, encN Y1 (W1.filter fun p => decide (p.ky ∈ [rg])) F1, encN Y1 (sW (w ++ [⟨"new", y0.1, y1.1, hi, "old"⟩])) F1, encN Y1 (sW (w ++ [⟨"new", y0.1, y1.1, 77, rg⟩])) F1]) = true := by
    simp only [pure1, pures, pure_encN (n := 0), Bool.and_self]
  have sr : callF T (k + 7) "_law_same" _ = _ := same_refl hS (k := k + 2) p1
  unfold encN at sr
  simp (dsimp := false) only [sr]
  bv_omega
end Ev

-- part B
namespace Law
open PySem PySem.Spec PyProof.Rows L2 Ev
theorem tDraws : Draws tab := ⟨(by (first | unfold Has | skip); kernel_rfl), (by (first | unfold Has | skip); kernel_rfl), (by (first | unfold Has | skip); kernel_rfl)⟩
theorem tHasF : HasF tab := ⟨(by (first | unfold Has | skip); kernel_rfl), (by (first | unfold Has | skip); kernel_rfl), (by (first | unfold Has | skip); kernel_rfl), (by (first | unfold Has | skip); kernel_rfl), (by (first | unfold Has | skip); kernel_rfl), (by (first | unfold Has | skip); kernel_rfl), (by (first | unfold Has | skip); kernel_rfl), (by (first | unfold Has | skip); kernel_rfl), (by (first | unfold Has | skip); kernel_rfl), (by (first | unfold Has | skip); kernel_rfl), (by (first | unfold Has | skip); kernel_rfl), (by (first | unfold Has | skip); kernel_rfl), (by (first | unfold Has | skip); kernel_rfl), (by (first | unfold Has | skip); kernel_rfl), (by (first | unfold Has | skip); kernel_rfl), (by (first | unfold Has | skip); kernel_rfl), (by (first | unfold Has | skip); kernel_rfl), (by (first | unfold Has | skip); kernel_rfl)⟩
theorem tNet : Has tab "_law_net" f_net5 := (by (first | unfold Has | skip); kernel_rfl)
theorem tSame : Has tab "_law_same" f_same := (by (first | unfold Has | skip); kernel_rfl)
theorem tRight : Has tab "_law_right" f_right5 := (by (first | unfold Has | skip); kernel_rfl)
theorem tLaw : Has tab "law" f_law5 := (by (first | unfold Has | skip); kernel_rfl)
theorem tCells : Has tab "_law_cells" f_cells := (by (first | unfold Has | skip); kernel_rfl)
theorem tBox : Has tab "_law_box" (f_box 205) := (by (first | unfold Has | skip); kernel_rfl)
theorem tHand : callF tab 39 "_law_by_hand_right" [] = .ret (.val (.bl true)) [] := by kernel_rfl
theorem tP : HasP tab := ⟨(by (first | unfold Has | skip); kernel_rfl), (by (first | unfold Has | skip); kernel_rfl), (by (first | unfold Has | skip); kernel_rfl), (by (first | unfold Has | skip); kernel_rfl), ⟨(fnsOf defs).map fun p => (p.1, p.2.2), (by (first | unfold Has | skip); kernel_rfl), (by (first | unfold Has | skip); kernel_rfl), (by (first | unfold Has | skip); kernel_rfl), (by (first | unfold Has | skip); kernel_rfl)⟩, (by (first | unfold Has | skip); kernel_rfl), (by (first | unfold Has | skip); kernel_rfl), (by (first | unfold Has | skip); kernel_rfl), (by (first | unfold Has | skip); kernel_rfl)⟩
theorem plain (ns : List Int) (hn : ns.length ≤ 63) : ∃ outs, callF tab 40 "law" [.val (.scr (ns.map D.int))] = .ret (.val (.bl true)) outs ∧ outs.length = 1 := by
  exact law5_ok (k := 38) tCells tBox tLaw tHand (fun xs g => right5_ok (k := 31) tDraws tP tHasF tNet tSame tRight g) ns hn
def lawD : DefI := ⟨"law", ["_law_script", "_law_cells_here", "_law_k"], ["_law_script"], [false]⟩
end Law
open PySem PySem.W PySem.Calls PyProof.Rows
theorem PySem.Challenge.cw_keyedlines_k05_whole_nets_changed_there_holds : PySem.Challenge.rw_keyedlines_k05_whole_nets_changed_there.Holds := by
  w_on; o_law
  refine HandSHeadRun.head_any (r := OpenLaw.row PySem.Challenge.rw_keyedlines_k05_whole_nets_changed_there) (q := view (OpenLaw.row PySem.Challenge.rw_keyedlines_k05_whole_nets_changed_there).prog [54]) (H := Law.hk) (ob := Law.ob) (M := 6000) (loose := Law.loose) (d := HandSHeadRun.topDef (OpenLaw.row PySem.Challenge.rw_keyedlines_k05_whole_nets_changed_there).prog 54) (kwd := []) Law.ob_eq
    (by kernel_rfl) (fun s => by kernel_rfl) Law.run (by kernel_rfl) (by kernel_rfl) (by kernel_rfl) (by rfl) (by first | assumption | decide +kernel) (by decide +kernel) ⟨rfl, rfl, rfl, rfl, rfl, by decide +kernel⟩ ?hw ?hc
  case hw => w_witness2
  case hc =>
    refine L2.walk_ofE (l := PySem.Challenge.rw_keyedlines_k05_whole_nets_changed_there) (n := 63) (k := 42) (x := "_law_script") (CX := L2.CX0) rfl (by decide) (by kernel_rfl) ⟨rfl, by decide, by decide⟩ ?F (fun _ _ _ _ z => z)
    intro w mg fa h Y G hmg0
    obtain ⟨K, KX, c⟩ := Y
    have hmg : mg ("law" : PySem.Str) = some (.ref fa) := by
      have e : (HandSHeadRun.topDef (OpenLaw.row PySem.Challenge.rw_keyedlines_k05_whole_nets_changed_there).prog 54).name = ("law" : PySem.Str) := by kernel_rfl
      rw [← e]
      exact hmg0
    have M := Ev.mod_ok (P := Law.prog) (w := w) KX G c.t.d c.more Law.chk
    obtain ⟨fa', fd, e1, hb, hF⟩ := Ev.fns_all M (d := Law.lawD) (by simp [Law.defs, Law.lawD]) (40 - 1)
    have e2 := hmg.symm.trans e1
    cases e2
    exact ⟨K, fd, fun vs H Q _ => Ev.spEv K mg (Ev.callF Law.tab 40) "law" [false] vs H Q (fun _ _ _ => False), KX, fun s u => hb s [u] rfl, fun H a ns hl _ hS => Ev.law_promise hS (Law.plain ns hl), fun base _ _ => Ev.fn_cx0 (hF base)⟩

