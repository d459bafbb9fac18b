import PyProof.Rows.All
import PySem.Str
import Wide.All
import OpenK.AllK
import Wide.FinOn
import KE.KDictKeyed
import HandS.Base
import HandS.Call
import HandS.List
import HandS.Comp
import HandS.Ends
import HandS.Exc
import HandS.HeadHook1
import HandS.TupAny
import HandS.TupMul
import HandS.Wide
import HandS.Deep
import HandS.Style
import HandS.Dict
import HandS.Conv
import HandS.Flow
import HandS.TupLen
import HandS.WordsDict
import HandS.IsInst
import KE.SortData
import KE.KDictSum
import HandS.ExcValue
import HandS.ExcOwn
import HandS.Sort
import HandS.ExcInit
import HandS.Iter
import HandS.Zip
import KE.GoesEnum
import PyProof.InstNe
import HandS.TupSets
import HandS.RaiseMore
import HandS.ExcField
import HandS.TryMany
import HandS.Defaults
import HandS.HeadHook2
import HandS.Words
import HandS.Codes
import PyProof.ReprLen
import PySem.Challenge.RW_sixcopies_k02_nets_and_sets_refused
import HandS.Head0
import HandS.Head1
import HandS.Head2
import HandS.HeadEnd
/-! EV1: values, the small syntax, the evaluator. -/
set_option linter.all false
namespace EV
open PySem

/-- values by what they hold; f: lent (true) or frozen (false) -/
inductive PV where
  | non
  | bl (b : Bool)
  | int (i : Int)
  | str (s : Str)
  | tup (xs : List PV)
  | lst (f : Bool) (xs : List PV)
  | dct (f : Bool) (ks vs : List PV)
  | ins (f : Bool) (c : Nat) (ns : List Nat) (vs : List PV)
  | ref (k : Nat)
  | exc (c : Nat) (ns : List Nat) (vs : List PV)
  | scr (is : List Int)
  deriving Inhabited

/-- what a slot holds: a value, or an object of one's own that may be changed -/
inductive OV where
  | sh (v : PV)
  | ol (xs : List PV)
  | od (ks vs : List PV)
  | oi (c : Nat) (ns : List Nat) (vs : List OV)
  deriving Inhabited

abbrev St := List OV
abbrev Env := List (Option OV)

inductive R (α : Type) where
  | ok (a : α) (st : St)
  | exc (c : Nat) (ns : List Nat) (vs : List PV) (st : St)
  | bad

@[inline] def R.bind {α β : Type} (r : R α) (f : α → St → R β) : R β :=
  match r with
  | .ok a st => f a st
  | .exc c ns vs st => .exc c ns vs st
  | .bad => .bad
@[inline] def lift {α : Type} (o : Option α) (st : St) : R α :=
  match o with
  | some a => .ok a st
  | none => .bad

/-! ### syntax -/
inductive Cm where
  | eq | ne | lt | le | gt | ge | isC | notC | inn | nin
inductive Bo where
  | add | sub | mul | fdiv | mod | pow
/-- built-ins by values -/
inductive BI where
  | len | int | max2 | min2 | max1 | tuple | list | sorted | sset | lset | sumL | all | any | str | bool | dict
  | tindex | count | get | lrange1 | lrange2 | trange1
inductive Ty where
  | int | bool | str | tuple | list | dict | cls (c : Nat) | exc (c : Nat)
/-- what a loop walks: a value; enumerate; zip; range -/
inductive It where
  | plain | enum | zip | rng1 | rng2
inductive Tg where
  | one (i : Nat)
  | many (is : List Nat)

-- a parameter: the written argument at a place, or a default
inductive Arg where
  | at (i : Nat)
  | dfl (v : PV)
/-- an operation by the values of its operands -/
inductive Op where
  | bop (o : Bo)
  | neg
  | not
  | cmp (o : Cm)
  | idx
  | slc (lo hi back : Bool)
  | bi (b : BI)
  | isi (ts : List Ty)
mutual
inductive E where
  | var (i : Nat)
  | lit (v : PV)
  | tup (es : List E)
  | lst (es : List E)
  | dct0
  | dct1 (kv : List E)
  | op (o : Op) (es : List E)
  | chain (o o' : Cm) (a b c : E)
  | and (es : List E)
  | or (es : List E)
  | ifx (c : T) (a b : E)
  | fld (a : E) (f : Nat)
  | call (f : Nat) (es : List E)
  | callK (f : Nat) (es : List E) (pm : List Arg)
  | mcall (m : Nat) (es : List E)
  | mcallK (m : Nat) (es : List E) (pm : List Arg)
  | comp (elt : E) (tg : Tg) (it : It) (its : List E) (ifs : List T)
  | new (a : E)
  | der (a : E)
-- a test
inductive T where
  | val (e : E)
  | and (ts : List T)
  | or (ts : List T)
  | not (t : T)
end

inductive Pl where
  | var (i : Nat)
  | fld (i f : Nat)

/-- what an except suite makes: texts and fields of the error -/
inductive HI where
  | lit (v : PV)
  | fld (f : Nat)
inductive HE where
  | lst (is : List HI)
  | tup (is : List HI)
  | lit (v : PV)
  | err
/-- except c as nm: dst = e -/
structure Hd where
  c : Nat
  nm : Option Nat
  dst : Nat
  e : HE
inductive TB where
  | ex (e : E)
  | set (i : Nat) (frz : Bool) (e : E)
  | ife (t : T) (a b : E)

inductive S where
  | set (i : Nat) (frz : Bool) (e : E)
  | mv (i j : Nat) (frz : Bool)
  | setT (is : List Nat) (e : E)
  | setP (is : List Nat) (fz : List Bool) (es : List E)
  | put (p : Pl) (es : List E)
  | sfld (i f : Nat) (e : E)
  | app (p : Pl) (e : E)
  | appAt (i : Nat) (j e : E)
  | ext (p : Pl) (e : E)
  | sdef (p : Pl) (es : List E)
  | pop (p : Pl)
  | retPop (p : Pl)
  | retOwn (i : Nat)
  | ex (e : E)
  | ifs (c : T) (a b : List S)
  | fors (tg : Tg) (it : It) (its : List E) (body : List S)
  | whl (n : Nat) (c : T) (body : List S)
  | ret (e : E)
  | retN
  | rais (c : Nat) (es : List E)
  | try_ (b : TB) (hs : List Hd)
  | pass
  | frz (i : Nat)

structure Def where
  np : Nat
  nv : Nat
  body : List S

/-- the classes: a class's __init__, its methods, by the numbers of their defs -/
structure Cls where
  init : Nat → Option Nat
  excF : Nat → List Nat
  meth : Nat → Nat → Option Nat

/-! ### freezing, lending -/
mutual
def OV.freeze : OV → PV
  | .sh v => v
  | .ol xs => .lst false xs
  | .od ks vs => .dct false ks vs
  | .oi c ns vs => .ins false c ns (OV.freezes vs)
def OV.freezes : List OV → List PV
  | [] => []
  | v :: vs => v.freeze :: OV.freezes vs
end
mutual
def OV.lend : OV → PV
  | .sh v => v
  | .ol xs => .lst true xs
  | .od ks vs => .dct true ks vs
  | .oi c ns vs => .ins true c ns (OV.lends vs)
def OV.lends : List OV → List PV
  | [] => []
  | v :: vs => v.lend :: OV.lends vs
end
def OV.own : OV → Bool
  | .sh _ => false
  | _ => true
mutual
/-- nothing lent within -/
def PV.clean : PV → Bool
  | .tup xs => PV.cleans xs
  | .lst f xs => !f && PV.cleans xs
  | .dct f ks vs => !f && (PV.cleans ks && PV.cleans vs)
  | .ins f _ _ vs => !f && PV.cleans vs
  | .exc _ _ vs => PV.cleans vs
  | _ => true
def PV.cleans : List PV → Bool
  | [] => true
  | v :: vs => v.clean && PV.cleans vs
end
-- no stored object within
mutual
def PV.noRef : PV → Bool
  | .tup xs => PV.noRefs xs
  | .lst _ xs => PV.noRefs xs
  | .dct _ ks vs => PV.noRefs ks && PV.noRefs vs
  | .ins _ _ _ vs => PV.noRefs vs
  | .exc _ _ vs => PV.noRefs vs
  | .ref _ => false
  | _ => true
def PV.noRefs : List PV → Bool
  | [] => true
  | v :: vs => v.noRef && PV.noRefs vs
end
-- perhaps one object: alike but for what is lent (dicts, stored objects: always perhaps)
def pvAny : PV → Bool
  | .ref _ => true
  | .scr _ => true
  | .exc _ _ _ => true
  | _ => false
mutual
def pvSame : PV → PV → Bool
  | .non, y => (match y with | .non => true | y => pvAny y)
  | .bl a, y => (match y with | .bl b => a == b | y => pvAny y)
  | .int i, y => (match y with | .int j => decide (i = j) | y => pvAny y)
  | .str s, y => (match y with | .str z => decide (s = z) | y => pvAny y)
  | .tup xs, y => (match y with | .tup ys => pvSames xs ys | y => pvAny y)
  | .lst _ xs, y => (match y with | .lst _ ys => pvSames xs ys | y => pvAny y)
  | .dct _ _ _, y => (match y with | .dct _ _ _ => true | y => pvAny y)
  | .ins _ _ _ vs, y => (match y with | .ins _ _ _ us => pvSames vs us | y => pvAny y)
  | _, _ => true
def pvSames : List PV → List PV → Bool
  | [], ys => ys.isEmpty
  | x :: xs, ys => (match ys with
    | [] => false
    | y :: ys => pvSame x y && pvSames xs ys)
end
/-- not itself lent -/
def PV.top : PV → Bool
  | .lst f _ => !f
  | .dct f _ _ => !f
  | .ins f _ _ _ => !f
  | _ => true
mutual
def OV.clean : OV → Bool
  | .sh v => v.clean
  | .ol xs => PV.cleans xs
  | .od ks vs => PV.cleans ks && PV.cleans vs
  | .oi _ _ vs => OV.cleans vs
def OV.cleans : List OV → Bool
  | [] => true
  | v :: vs => v.clean && OV.cleans vs
end

/-! ### operations on values -/
def cap : Nat := 16777216
def num? : PV → Option Int
  | .int i => some i
  | .bl b => some (if b then 1 else 0)
  | _ => none
/-- None, numbers, texts, tuples, lists: compared by what they hold -/
def dataHd : PV → Bool
  | .dct .. => false
  | .ins .. => false
  | .ref _ => false
  | .exc .. => false
  | .scr _ => false
  | _ => true
mutual
def pvEq : PV → PV → Option Bool
  | .non, b => if dataHd b then some (match b with | .non => true | _ => false) else none
  | .bl x, b => if dataHd b then some (match num? b with | some j => decide ((if x then 1 else 0) = j) | none => false) else none
  | .int i, b => if dataHd b then some (match num? b with | some j => decide (i = j) | none => false) else none
  | .str x, b => if dataHd b then some (match b with | .str y => decide (x = y) | _ => false) else none
  | .tup xs, b => match b with
    | .tup ys => pvEqs xs ys
    | b => if dataHd b then some false else none
  | .lst _ xs, b => match b with
    | .lst _ ys => pvEqs xs ys
    | b => if dataHd b then some false else none
  | _, _ => none
def pvEqs : List PV → List PV → Option Bool
  | [], ys => some ys.isEmpty
  | x :: xs, ys => match ys with
    | [] => some false
    | y :: ys => match pvEq x y with
      | some true => pvEqs xs ys
      | some false => some false
      | none => none
end
def strOk (s : Str) : Bool := s.cps.all (· < 0x110000)
-- None, numbers, texts, lists and tuples of these, at most n deep
mutual
def dataD (n : Nat) : PV → Bool
  | .non => true
  | .bl _ => true
  | .int _ => true
  | .str s => strOk s
  | .tup xs => match n with
    | 0 => false
    | n + 1 => dataDs n xs
  | .lst _ xs => match n with
    | 0 => false
    | n + 1 => dataDs n xs
  | _ => false
def dataDs (n : Nat) : List PV → Bool
  | [] => true
  | x :: xs => dataD n x && dataDs n xs
end
def eqD (x y : PV) : Option Bool := if dataD 60 x && dataD 60 y then pvEq x y else none
def truthy : PV → Option Bool
  | .non => some false
  | .bl b => some b
  | .int i => some (i != 0)
  | .tup xs => some (!xs.isEmpty)
  | .lst _ xs => some (!xs.isEmpty)
  | _ => none
def okMul (i j : Int) : Bool := decide (-(2 ^ 64) < i ∧ i < 2 ^ 64) || decide (-(2 ^ 64) < j ∧ j < 2 ^ 64)
def bop : Bo → PV → PV → Option OV
  | .add, .int i, .int j => some (.sh (.int (i + j)))
  | .add, .tup xs, .tup ys => if xs.length + ys.length ≤ cap then some (.sh (.tup (xs ++ ys))) else none
  | .add, .lst _ xs, .lst _ ys => if xs.length + ys.length ≤ cap then some (.ol (xs ++ ys)) else none
  | .sub, .int i, .int j => some (.sh (.int (i - j)))
  | .mul, .int i, .int j => if okMul i j then some (.sh (.int (i * j))) else none
  | .mul, .lst _ xs, .int k => if k < 1000 ∧ xs.length ≤ 1000 ∧ -1000 < k then some (.ol (List.replicate k.toNat xs).flatten) else none
  | .mul, .tup xs, .int k => if k < 1000 ∧ xs.length ≤ 1000 ∧ -1000 < k then some (.sh (.tup (List.replicate k.toNat xs).flatten)) else none
  | .fdiv, .int i, .int j => if 0 < j ∧ j < 1073741824 then some (.sh (.int (i / j))) else none
  | .mod, .int i, .int j => if 0 < j then some (.sh (.int (i % j))) else none
  | .pow, .int i, .int j => if 0 ≤ j ∧ j ≤ 1000 ∧ i.natAbs < 2 ^ 256 then some (.sh (.int (i ^ j.toNat))) else none
  | _, _, _ => none
/-- a list or tuple of items -/
def seq? : PV → Option (List PV)
  | .tup xs => some xs
  | .lst _ xs => some xs
  | _ => none
def items? : PV → Option (List PV)
  | .tup xs => some xs
  | .lst _ xs => some xs
  | .dct _ ks _ => some ks
  | _ => none
def anyEq (x : PV) : List PV → Option Bool
  | [] => some false
  | y :: ys => match pvEq y x with
    | some true => some true
    | some false => anyEq x ys
    | none => none
-- what may be within a key: numbers, texts, None, tuples of these, at most n deep
mutual
def keyIn (n : Nat) : PV → Bool
  | .non => true
  | .bl _ => true
  | .int _ => true
  | .str _ => true
  | .tup xs => match n with
    | 0 => false
    | n + 1 => keyIns n xs
  | _ => false
def keyIns (n : Nat) : List PV → Bool
  | [] => true
  | x :: xs => keyIn n x && keyIns n xs
end
/-- a key: a number, or a tuple -/
def keyOk : PV → Bool
  | .int _ => true
  | .tup xs => keyIns 6 xs
  | _ => false
def keyT : PV → Bool
  | .tup xs => keyIns 6 xs
  | _ => false
def keyEq : PV → PV → Option Bool
  | .int i, .int j => some (decide (i = j))
  | .tup xs, .tup ys => pvEqs xs ys
  | _, _ => none
/-- a look-up: no doubt about any key ahead of it -/
def look (k : PV) : List PV → List PV → Option (Option PV)
  | [], _ => some none
  | _ :: _, [] => some none
  | x :: ks, v :: vs => match keyEq x k with
    | some true => some (some v)
    | some false => look k ks vs
    | none => none
def store (k v : PV) : List PV → List PV → Option (List PV × List PV)
  | [], vs => some ([k], [v])
  | x :: ks, vs => match vs with
    | [] => none
    | w :: vs => match keyEq x k with
      | some true => some (x :: ks, v :: vs)
      | some false => (store k v ks vs).map fun p => (x :: p.1, w :: p.2)
      | none => none
def isIn (x y : PV) : Option Bool :=
  match y with
  | .tup xs => if dataD 60 x && dataDs 60 xs then anyEq x xs else none
  | .lst _ xs => if dataD 60 x && dataDs 60 xs then anyEq x xs else none
  | .dct _ ks vs => if keyT x then (look x ks vs).map Option.isSome else none
  | _ => none
def ltInt (f : Int → Int → Bool) : PV → PV → Option PV
  | .int i, .int j => some (.bl (f i j))
  | _, _ => none
/-- is, for None, True, False -/
def isNonB : PV → Bool
  | .non => true
  | _ => false
def isBlB (b : Bool) : PV → Bool
  | .bl c => b == c
  | _ => false
def isC (x y : PV) : Option Bool :=
  match y with
  | .non => some (isNonB x)
  | .bl b => some (isBlB b x)
  | _ => none
def cmp : Cm → PV → PV → Option PV
  | .eq, x, y => (eqD x y).map .bl
  | .ne, x, y => (eqD x y).map fun b => .bl (!b)
  | .lt, x, y => ltInt (fun i j => decide (i < j)) x y
  | .le, x, y => ltInt (fun i j => decide (i ≤ j)) x y
  | .gt, x, y => ltInt (fun i j => decide (j < i)) x y
  | .ge, x, y => ltInt (fun i j => decide (j ≤ i)) x y
  | .isC, x, y => (isC x y).map .bl
  | .notC, x, y => (isC x y).map fun b => .bl (!b)
  | .inn, x, y => (isIn x y).map .bl
  | .nin, x, y => (isIn x y).map fun b => .bl (!b)
def at? (xs : List PV) (i : Int) : Option PV :=
  if 0 ≤ i then xs[i.toNat]? else if 0 ≤ i + (xs.length : Int) then xs[(i + (xs.length : Int)).toNat]? else none
def getIdx : PV → PV → Option PV
  | .tup xs, .int i => at? xs i
  | .lst _ xs, .int i => at? xs i
  | .scr is, .int i => if 0 ≤ i then (is[i.toNat]?).map .int else none
  | .dct _ ks vs, k => if keyT k then (look k ks vs).join else none
  | _, _ => none
def place (n : Nat) (i : Int) : Option Nat :=
  if 0 ≤ i then (if i.toNat < n then some i.toNat else none) else if 0 ≤ i + (n : Int) then some (i + (n : Int)).toNat else none
/-- a slice's end, brought into 0 .. n -/
def clip (n : Nat) (d : Nat) : Option Int → Nat
  | none => d
  | some i => if 0 ≤ i then min i.toNat n else (i + (n : Int)).toNat
def cut (xs : List PV) (lo hi : Option Int) : List PV :=
  (xs.drop (clip xs.length 0 lo)).take (clip xs.length xs.length hi - clip xs.length 0 lo)
def slice (x : PV) (lo hi : Option Int) (back : Bool) : Option OV :=
  match back with
  | false => (match x with
    | .tup xs => some (.sh (.tup (cut xs lo hi)))
    | .lst _ xs => some (.ol (cut xs lo hi))
    | _ => none)
  | true => (match lo, hi with
    | none, none => (match x with
      | .lst _ xs => some (.ol xs.reverse)
      | _ => none)
    | none, some 0 => (match x with
      | .tup xs => some (.sh (.tup (xs.drop 1).reverse))
      | .lst _ xs => some (.ol (xs.drop 1).reverse)
      | _ => none)
    | _, _ => none)
def assocN (f : Nat) : List Nat → List α → Option α
  | n :: ns, v :: vs => if n = f then some v else assocN f ns vs
  | _, _ => none
def setN (f : Nat) (v : α) : List Nat → List α → List Nat × List α
  | n :: ns, w :: vs => if n = f then (n :: ns, v :: vs) else (n :: (setN f v ns vs).1, w :: (setN f v ns vs).2)
  | _, _ => ([f], [v])
def fldV (f : Nat) (st : St) : OV → Option OV
  | .sh (.ins _ _ ns vs) => (assocN f ns vs).map .sh
  | .sh (.exc _ ns vs) => (assocN f ns vs).map .sh
  | .sh (.ref k) => (match st[k]? with
    | some (.oi _ ns vs) => assocN f ns vs
    | _ => none)
  | .oi _ ns vs => assocN f ns vs
  | _ => none
def isiOne : PV → Ty → Option Bool
  | .int _, t => some (match t with | .int => true | _ => false)
  | .bl _, t => some (match t with | .int => true | .bool => true | _ => false)
  | .non, _ => some false
  | .str _, t => some (match t with | .str => true | _ => false)
  | .tup _, t => some (match t with | .tuple => true | _ => false)
  | .lst .., t => some (match t with | .list => true | _ => false)
  | .dct .., t => some (match t with | .dict => true | _ => false)
  | .ins _ c _ _, t => some (match t with | .cls d => c == d | _ => false)
  | .exc c _ _, t => (match t with | .exc d => some (d == 0 || c == d) | _ => none)
  | .ref _, _ => none
  | .scr _, _ => none
def isiAny (x : PV) : List Ty → Option Bool
  | [] => some false
  | t :: ts => match isiOne x t with
    | some true => some true
    | some false => isiAny x ts
    | none => none
def ints? : List PV → Option (List Int)
  | [] => some []
  | .int i :: xs => (ints? xs).map (i :: ·)
  | _ => none
def bools? : List PV → Option (List Bool)
  | [] => some []
  | .bl b :: xs => (bools? xs).map (b :: ·)
  | _ => none
/-! order of data, places of one kind -/
mutual
def alike : PV → PV → Bool
  | .non, .non => true
  | .int _, .int _ => true
  | .bl _, .bl _ => true
  | .str _, .str _ => true
  | .tup xs, .tup ys => alikes xs ys
  | _, _ => false
def alikes : List PV → List PV → Bool
  | [], _ => true
  | _ :: _, [] => true
  | x :: xs, y :: ys => alike x y && alikes xs ys
end
def listLt : List Nat → List Nat → Bool
  | _, [] => false
  | [], _ :: _ => true
  | x :: xs, y :: ys => if x = y then listLt xs ys else decide (x < y)
mutual
def pvLt : PV → PV → Bool
  | .int i, .int j => decide (i < j)
  | .bl a, .bl b => !a && b
  | .str a, .str b => listLt a.cps.toList b.cps.toList
  | .tup xs, .tup ys => pvLts xs ys
  | _, _ => false
def pvLts : List PV → List PV → Bool
  | _, [] => false
  | [], _ :: _ => true
  | x :: xs, y :: ys => match pvEq x y with
    | some true => pvLts xs ys
    | _ => pvLt x y
end
def insSort (le : α → α → Bool) (x : α) : List α → List α
  | [] => [x]
  | y :: ys => if le x y then x :: y :: ys else y :: insSort le x ys
def sortBy (le : α → α → Bool) : List α → List α
  | [] => []
  | x :: xs => insSort le x (sortBy le xs)
def allAlike : List PV → Bool
  | xs => xs.all fun x => xs.all fun y => alike x y
/-- what sorted takes: all numbers, or all texts, or all tuples, of one shape place by place -/
def sortKind : PV → Nat
  | .int _ => 1
  | .str _ => 2
  | .tup (_ :: _) => 3
  | _ => 0
def sortOk (xs : List PV) : Bool := dataDs 60 xs && (allAlike xs && ((xs.all fun x => sortKind x == 3) || (xs.all fun x => sortKind x == 1 || sortKind x == 2)))
def sortOk1 (xs : List PV) : Bool := decide (xs.length ≤ 1) || sortOk xs
def sortPV (xs : List PV) : List PV := sortBy (fun x y => !pvLt y x) xs
def dedup : List PV → List PV
  | [] => []
  | x :: xs => match anyEq x xs with
    | some true => dedup xs
    | _ => x :: dedup xs
def intKeys (xs : List PV) : Bool := xs.all fun x => match x with | .int _ => true | _ => false
def pairKeys (xs : List PV) : Bool := xs.all fun x => match x with | .tup [.int i, .int j] => decide (0 ≤ i) && decide (i < 64) && decide (0 ≤ j) && decide (j < 64) | _ => false
def firstAt (x : PV) (n : Nat) : List PV → Option Nat
  | [] => none
  | y :: ys => match pvEq y x with
    | some true => some n
    | some false => firstAt x (n + 1) ys
    | none => none
def countEq (x : PV) : List PV → Option Nat
  | [] => some 0
  | y :: ys => match pvEq y x, countEq x ys with
    | some true, some n => some (n + 1)
    | some false, some n => some n
    | _, _ => none
def catLists : List PV → Option (List PV)
  | [] => some []
  | x :: xs => match x, catLists xs with
    | .lst _ ys, some zs => some (ys ++ zs)
    | _, _ => none
def pairs? : List PV → Option (List (PV × PV))
  | [] => some []
  | .tup [k, v] :: xs => (pairs? xs).map ((k, v) :: ·)
  | _ => none
def dictOf : List (PV × PV) → List PV → List PV → Option (List PV × List PV)
  | [], ks, vs => some (ks, vs)
  | (k, v) :: ps, ks, vs => if keyT k then (match store k v ks vs with
    | some (ks, vs) => dictOf ps ks vs
    | none => none) else none
def rangeL (lo : Int) : Nat → List PV
  | 0 => []
  | n + 1 => .int lo :: rangeL (lo + 1) n
/-! ### the evaluator -/
abbrev Call := Nat → List PV → St → R OV
def isPl : E → Bool
  | .var _ => true
  | .fld a _ => isPl a
  | .der _ => true
  | _ => false
def isFld : E → Bool
  | .fld .. => true
  | .der _ => true
  | _ => false
/-- as an operand: looked at, not kept -/
def opn (e : E) (v : OV) : PV := if isPl e then v.lend else v.freeze
/-- to be kept -/
def tak (e : E) (v : OV) : Option PV :=
  match v with
  | .sh v => some v
  | v => if isPl e then none else some v.freeze
def opns : List E → List OV → List PV
  | e :: es, v :: vs => opn e v :: opns es vs
  | _, _ => []
def taks : List E → List OV → Option (List PV)
  | e :: es, v :: vs => (match tak e v, taks es vs with
    | some x, some xs => some (x :: xs)
    | _, _ => none)
  | _, _ => some []
-- an own field is read ahead of something else: that must not change what is stored
mutual
def pureE : E → Bool
  | .var _ => true
  | .lit _ => true
  | .fld a _ => pureE a
  | .op _ es => pureEs es
  | .tup es => pureEs es
  | .lst es => pureEs es
  | .der a => pureE a
  | _ => false
def pureEs : List E → Bool
  | [] => true
  | e :: es => pureE e && pureEs es
end
/-- an own field is not handed on -/
def fldOwn : List E → List OV → Bool
  | e :: es, v :: vs => (isFld e && v.own) || fldOwn es vs
  | _, _ => false
/-- lent to a call -/
def lents : List E → List OV → Bool
  | e :: es, v :: vs => (isPl e && v.own) || lents es vs
  | _, _ => false
def bindMany : List Nat → List PV → Env → Option Env
  | [], [], env => some env
  | i :: is, v :: vs, env => bindMany is vs (env.set i (some (.sh v)))
  | _, _, _ => none
def bindTg : Tg → PV → Env → Option Env
  | .one i, v, env => some (env.set i (some (.sh v)))
  | .many is, .tup vs, env => bindMany is vs env
  | .many _, _, _ => none
def enumL (n : Nat) : List PV → List PV
  | [] => []
  | x :: xs => .tup [.int n, x] :: enumL (n + 1) xs
def zipL : List PV → List PV → List PV
  | x :: xs, y :: ys => .tup [x, y] :: zipL xs ys
  | _, _ => []
def itItems : It → List PV → Option (List PV)
  | .plain, [v] => seq? v
  | .enum, [v] => (seq? v).map (enumL 0)
  | .zip, [.tup xs, .tup ys] => some (zipL xs ys)
  | .zip, [.lst _ xs, .lst _ ys] => some (zipL xs ys)
  | .rng1, [.int n] => if -16777216 ≤ n ∧ n ≤ 16777216 then some (rangeL 0 n.toNat) else none
  | .rng2, [.int a, .int b] => if (-16777216 ≤ a ∧ a ≤ 16777216) ∧ -16777216 ≤ b ∧ b ≤ 16777216 then some (rangeL a (b - a).toNat) else none
  | _, _ => none
def maxInts : List Int → Option Int
  | [] => none
  | x :: xs => some (xs.foldl (fun a b => if b > a then b else a) x)
def biV : BI → List PV → Option OV
  | .len, [.dct _ ks _] => some (.sh (.int ks.length))
  | .len, [.scr is] => some (.sh (.int is.length))
  | .len, [v] => (seq? v).map fun xs => .sh (.int xs.length)
  | .int, [.int i] => some (.sh (.int i))
  | .int, [.bl b] => some (.sh (.int (if b then 1 else 0)))
  | .max2, [.int i, .int j] => some (.sh (.int (if j > i then j else i)))
  | .min2, [.int i, .int j] => some (.sh (.int (if j < i then j else i)))
  | .max1, [.lst _ xs] => (match ints? xs with
      | some is => (maxInts is).map fun i => .sh (.int i)
      | none => none)
  | .tuple, [v] => (seq? v).map fun xs => .sh (.tup xs)
  | .list, [v] => (seq? v).map .ol
  | .sorted, [v] => (match items? v with
    | some xs => if sortOk1 xs then some (.ol (sortPV xs)) else none
    | none => none)
  | .sset, [v] => (match v with
    | .lst _ xs => if pairKeys xs && decide (xs.length < 64) then some (.ol (sortPV (dedup xs))) else none
    | _ => none)
  | .lset, [v] => (match seq? v with
    | some xs => if intKeys xs then some (.sh (.int (dedup xs).length)) else none
    | none => none)
  | .sumL, [v] => (match seq? v with
    | some xs => (match catLists xs with
      | some ys => if ys.length ≤ cap then some (.ol ys) else none
      | none => none)
    | none => none)
  | .all, [.lst _ xs] => (bools? xs).map fun bs => .sh (.bl (bs.all id))
  | .any, [.lst _ xs] => (bools? xs).map fun bs => .sh (.bl (bs.any id))
  | .bool, [v] => (truthy v).map fun b => .sh (.bl b)
  | .dict, [v] => (match seq? v with
    | some xs => (match pairs? xs with
      | some ps => (dictOf ps [] []).map fun p => .od p.1 p.2
      | none => none)
    | none => none)
  | .tindex, [v, x] => (match seq? v with
    | some xs => if !(dataD 60 x && dataDs 60 xs) then none else (firstAt x 0 xs).map fun n => .sh (.int n)
    | none => none)
  | .count, [v, x] => (match seq? v with
    | some xs => if !(dataD 60 x && dataDs 60 xs) then none else (countEq x xs).map fun n => .sh (.int n)
    | none => none)
  | .get, [.dct _ ks vs, k, d] => if keyT k then (look k ks vs).map fun o => .sh (o.getD d) else none
  | .lrange1, [.int n] => if -16777216 ≤ n ∧ n ≤ 16777216 then some (.ol (rangeL 0 n.toNat)) else none
  | .trange1, [.int n] => if -16777216 ≤ n ∧ n ≤ 16777216 then some (.sh (.tup (rangeL 0 n.toNat))) else none
  | .lrange2, [.int a, .int b] => if (-8388608 ≤ a ∧ a ≤ 8388608) ∧ -8388608 ≤ b ∧ b ≤ 8388608 then some (.ol (rangeL a (b - a).toNat)) else none
  | _, _ => none

section
variable (cl : Cls) (txt : PV → Option Str) (call : Call)
-- ==, objects of one's own by their __eq__ (which changes nothing that is stored)
mutual
def eqI : PV → PV → Option Bool
  | .ins f c ns vs, b => if f || !b.top || !(PV.noRef (.ins f c ns vs) && b.noRef) then none else (match cl.meth c 17 with
    | some m => (match call m [.ins f c ns vs, b] [] with
      | .ok (.sh (.bl t)) [] => some t
      | _ => none)
    | none => none)
  | .tup xs, b => (match b with
    | .tup ys => eqIs xs ys
    | b => eqD (.tup xs) b)
  | .lst f xs, b => (match b with
    | .lst _ ys => eqIs xs ys
    | b => eqD (.lst f xs) b)
  | a, b => eqD a b
def eqIs : List PV → List PV → Option Bool
  | [], ys => some ys.isEmpty
  | x :: xs, ys => (match ys with
    | [] => some false
    | y :: ys => (match eqI x y with
      | some true => eqIs xs ys
      | some false => if pvSame x y then none else some false
      | none => none))
end
/-- in, by ==: each item first -/
def anyEqI (x : PV) : List PV → Option Bool
  | [] => some false
  | y :: ys => match eqI cl call y x with
    | some true => some true
    | some false => if pvSame y x then none else anyEqI x ys
    | none => none
/-- an instance first: its own __eq__ -/
def eqTop : PV → PV → Option Bool
  | .ins f c ns vs, b => (match b with
    | .scr _ => none
    | b => eqI cl call (.ins f c ns vs) b)
  | _, _ => none
def sameCls : PV → PV → Bool
  | .ins _ c _ _, .ins _ d _ _ => c == d
  | _, _ => false
def strEq : PV → PV → Option Bool
  | .str a, .str b => some (decide (a = b))
  | _, _ => none
def cmpI (o : Cm) (x y : PV) : Option PV :=
  match cmp o x y with
  | some v => some v
  | none => (match o with
    | .eq => if (strEq x y).isSome then (strEq x y).map .bl else (eqTop cl call x y).map .bl
    | .ne => if (strEq x y).isSome then (strEq x y).map (fun b => .bl (!b)) else if sameCls x y then (eqTop cl call x y).map fun b => .bl (!b) else none
    | _ => none)
def compL (el : Env → St → R OV) (e : E) (tst : Env → St → R Bool) (tg : Tg) (env : Env) : List PV → St → R (List PV)
  | [], st => .ok [] st
  | x :: xs, st => (match bindTg tg x env with
    | none => .bad
    | some env' => (match tst env' st with
      | .ok true st => (match el env' st with
        | .ok ov st => (match tak e ov with
          | some v => (match compL el e tst tg env xs st with
            | .ok vs st => .ok (v :: vs) st
            | _ => .bad)
          | none => .bad)
        | _ => .bad)
      | .ok false st => compL el e tst tg env xs st
      | _ => .bad))
def argsOf : List Arg → List PV → Option (List PV)
  | [], _ => some []
  | .dfl v :: pm, vs => (argsOf pm vs).map (v :: ·)
  | .at i :: pm, vs => (match vs[i]?, argsOf pm vs with
    | some v, some r => some (v :: r)
    | _, _ => none)
def biT (b : BI) (vs : List PV) : Option OV :=
  match b with
  | .str => (match vs with
    | [v] => (txt v).map fun s => .sh (.str s)
    | _ => none)
  | b => biV b vs
/-- a call. Handed no stored object, it is run over an empty store; what was lent has come back behind it -/
def callB (es : List E) (ovs : List OV) (f : Nat) (vs : List PV) (st : St) : R OV :=
  match PV.noRefs vs with
  | true => (match call f vs [] with
    | .ok v [] => if lents es ovs && !v.clean then .bad else .ok v st
    | .ok _ (_ :: _) => if fldOwn es ovs || lents es ovs then .bad else call f vs st
    | .exc c ns xs [] => if lents es ovs && !PV.cleans xs then .bad else .exc c ns xs st
    | _ => .bad)
  | false => if fldOwn es ovs || lents es ovs then .bad else call f vs st
def clsOf (st : St) : OV → Option Nat
  | .sh (.ins _ c _ _) => some c
  | .oi c _ _ => some c
  | .sh (.ref k) => (match st[k]? with
    | some (.oi c _ _) => some c
    | _ => none)
  | _ => none
/-- what an index looks at -/
def derefV (st : St) : PV → PV
  | .ref k => (match st[k]? with
    | some v => v.lend
    | none => .ref k)
  | v => v
def getI : Option PV → Option (Option Int)
  | none => some none
  | some (.int i) => some (some i)
  | _ => none
def slcV (lo hi back : Bool) (vs : List PV) : Option OV :=
  match vs with
  | x :: r => (match getI (if lo then r[0]? else none), getI (if hi then (if lo then r[1]? else r[0]?) else none) with
    | some l, some h => slice x l h back
    | _, _ => none)
  | [] => none
def opV (st : St) : Op → List PV → Option OV
  | .bop o, [x, y] => bop o x y
  | .neg, [.int i] => some (.sh (.int (-i)))
  | .not, [x] => (truthy x).map fun b => .sh (.bl (!b))
  | .cmp o, [x, y] => (cmpI cl call o x y).map .sh
  | .idx, [x, y] => (getIdx (derefV st x) y).map .sh
  | .slc lo hi bk, vs => slcV lo hi bk vs
  | .bi b, vs => biT txt b vs
  | .isi ts, [x] => (isiAny x ts).map fun b => .sh (.bl b)
  | _, _ => none
mutual
def ev : E → Env → St → R OV
  | .var i, env, st => lift (env[i]?.join) st
  | .lit v, _, st => .ok (.sh v) st
  | .tup es, env, st => (evs es env st).bind fun ovs st => lift ((taks es ovs).map fun vs => .sh (.tup vs)) st
  | .lst es, env, st => (evs es env st).bind fun ovs st => lift ((taks es ovs).map .ol) st
  | .dct0, _, st => .ok (.od [] []) st
  | .dct1 es, env, st => (evs es env st).bind fun ovs st => (match taks es ovs with
    | some [k, v] => if keyT k then .ok (.od [k] [v]) st else .bad
    | _ => .bad)
  | .op o es, env, st => (evs es env st).bind fun ovs st => lift (opV cl txt call st o (opns es ovs)) st
  | .chain o o' a b c, env, st => (ev a env st).bind fun x st => (ev b env st).bind fun y st => if (isPl a && x.own) || (isPl b && y.own) then .bad else (match cmpI cl call o (opn a x) (opn b y) with
    | some (.bl true) => (ev c env st).bind fun z st => lift ((cmpI cl call o' (opn b y) (opn c z)).map .sh) st
    | some (.bl false) => .ok (.sh (.bl false)) st
    | _ => .bad)
  | .and es, env, st => evAnd es env st
  | .or es, env, st => evOr es env st
  | .ifx c a b, env, st => (evT c env st).bind fun t st => (match t with
    | true => (ev a env st).bind fun x st => lift ((tak a x).map .sh) st
    | false => (ev b env st).bind fun x st => lift ((tak b x).map .sh) st)
  | .fld a f, env, st => (ev a env st).bind fun x st => lift (if isPl a then fldV f st x else fldV f [] (.sh x.freeze)) st
  | .call f es, env, st => (evs es env st).bind fun ovs st => callB call es ovs f (opns es ovs) st
  | .callK f es pm, env, st => (evs es env st).bind fun ovs st => (match argsOf pm (opns es ovs) with
    | some vs => callB call es ovs f vs st
    | none => .bad)
  | .mcall m es, env, st => (match es with
    | [] => .bad
    | e :: r => (ev e env st).bind fun ov s1 => (match (clsOf s1 ov).bind fun c => cl.meth c m with
      | some f => (evs r env s1).bind fun ovs s2 => if isFld e && ov.own && !pureEs r then .bad else callB call (e :: r) (ov :: ovs) f (opns (e :: r) (ov :: ovs)) s2
      | none => .bad))
  | .mcallK m es pm, env, st => (match es with
    | [] => .bad
    | e :: r => (ev e env st).bind fun ov s1 => (match (clsOf s1 ov).bind fun c => cl.meth c m with
      | some f => (evs r env s1).bind fun ovs s2 => if isFld e && ov.own && !pureEs r then .bad else (match argsOf pm (opns r ovs) with
        | some vs => callB call (e :: r) (ov :: ovs) f (opn e ov :: vs) s2
        | none => .bad)
      | none => .bad))
  | .comp elt tg it its ifs, env, st => (evs its env st).bind fun ovs st => (match (taks its ovs).bind (itItems it) with
    | some xs => (match compL (fun env st => ev elt env st) elt (fun env st => evTs ifs env st) tg env xs st with
      | .ok vs st => if vs.length ≤ cap then .ok (.ol vs) st else .bad
      | _ => .bad)
    | none => .bad)
  | .der a, env, st => (ev a env st).bind fun x st => (match x with
    | .sh (.ref k) => lift (st[k]?) st
    | _ => .bad)
  | .new a, env, st => (ev a env st).bind fun x st => if isPl a then .bad else (match x with
    | .sh _ => .bad
    | x => .ok (.sh (.ref st.length)) (st ++ [x]))
def evs : List E → Env → St → R (List OV)
  | [], _, st => .ok [] st
  | e :: es, env, st => (ev e env st).bind fun v st => if isFld e && v.own && !pureEs es then .bad else (evs es env st).bind fun vs st => .ok (v :: vs) st
def evAnd : List E → Env → St → R OV
  | [], _, _ => .bad
  | e :: es, env, st => (match es with
    | [] => (ev e env st).bind fun x st => lift ((tak e x).map .sh) st
    | _ => (ev e env st).bind fun x st => (match x with
      | .sh (.bl true) => evAnd es env st
      | .sh (.bl false) => .ok (.sh (.bl false)) st
      | _ => .bad))
def evOr : List E → Env → St → R OV
  | [], _, _ => .bad
  | e :: es, env, st => (match es with
    | [] => (ev e env st).bind fun x st => lift ((tak e x).map .sh) st
    | _ => (ev e env st).bind fun x st => (match x with
      | .sh (.bl false) => evOr es env st
      | .sh (.bl true) => .ok (.sh (.bl true)) st
      | _ => .bad))
def evT : T → Env → St → R Bool
  | .val e, env, st => (ev e env st).bind fun x st => lift (truthy (opn e x)) st
  | .and ts, env, st => evTA ts env st
  | .or ts, env, st => evTO ts env st
  | .not t, env, st => (evT t env st).bind fun b st => .ok (!b) st
def evTA : List T → Env → St → R Bool
  | [], _, st => .ok true st
  | t :: ts, env, st => (evT t env st).bind fun b st => (match b with
    | true => evTA ts env st
    | false => .ok false st)
def evTO : List T → Env → St → R Bool
  | [], _, st => .ok false st
  | t :: ts, env, st => (evT t env st).bind fun b st => (match b with
    | true => .ok true st
    | false => evTO ts env st)
def evTs : List T → Env → St → R Bool
  | [], _, st => .ok true st
  | t :: ts, env, st => (evT t env st).bind fun b st => (match b with
    | true => evTs ts env st
    | false => .ok false st)
end

inductive Out where
  | next (env : Env)
  | ret (v : OV)
def getPl (p : Pl) (env : Env) (st : St) : Option OV :=
  match p with
  | .var i => (match env[i]?.join with
    | some (.sh (.ref k)) => st[k]?
    | o => o)
  | .fld i f => (match env[i]?.join with
    | some (.oi _ ns vs) => assocN f ns vs
    | some (.sh (.ref k)) => (match st[k]? with
      | some (.oi _ ns vs) => assocN f ns vs
      | _ => none)
    | _ => none)
def setPl (p : Pl) (v : OV) (env : Env) (st : St) : Env × St :=
  match p with
  | .var i => (match env[i]?.join with
    | some (.sh (.ref k)) => (env, st.set k v)
    | _ => (env.set i (some v), st))
  | .fld i f => (match env[i]?.join with
    | some (.oi c ns vs) => (env.set i (some (.oi c (setN f v ns vs).1 (setN f v ns vs).2)), st)
    | some (.sh (.ref k)) => (match st[k]? with
      | some (.oi c ns vs) => (env, st.set k (.oi c (setN f v ns vs).1 (setN f v ns vs).2))
      | _ => (env, st))
    | _ => (env, st))
def isOl : OV → Bool
  | .ol _ => true
  | _ => false
def isOd : OV → Bool
  | .od _ _ => true
  | _ => false
def isOlOd : OV → Bool
  | .ol _ => true
  | .od _ _ => true
  | _ => false
/-- a field of a stored object -/
def viaFld (p : Pl) (env : Env) : Bool :=
  match p with
  | .var _ => false
  | .fld i _ => (match env[i]?.join with
    | some (.sh _) => true
    | _ => false)
/-- the object at a place, ahead of what is run behind its name -/
def plOk (k : OV → Bool) (p : Pl) (env : Env) (st : St) (pu : Bool) : Bool :=
  match getPl p env st with
  | some o => k o && (pu || !viaFld p env)
  | none => false
def upPl (p : Pl) (f : OV → Option OV) (env : Env) (st : St) : R Out :=
  match getPl p env st with
  | some v => (match f v with
    | some v' => .ok (.next (setPl p v' env st).1) (setPl p v' env st).2
    | none => .bad)
  | none => .bad
def putV (k x : PV) : OV → Option OV
  | .ol xs => (match k with
    | .int i => (place xs.length i).map fun n => .ol (xs.set n x)
    | _ => none)
  | .od ks vs => if keyT k && decide (ks.length < cap) then (store k x ks vs).map fun p => .od p.1 p.2 else none
  | _ => none
def appV (x : PV) : OV → Option OV
  | .ol xs => if xs.length < cap then some (.ol (xs ++ [x])) else none
  | _ => none
def extV (ys : List PV) : OV → Option OV
  | .ol xs => if xs.length + ys.length ≤ cap then some (.ol (xs ++ ys)) else none
  | _ => none
def sdefV (k x : PV) : OV → Option OV
  | .od ks vs => if keyOk k && decide (ks.length < cap) then (match look k ks vs with
    | some (some _) => some (.od ks vs)
    | some none => some (.od (ks ++ [k]) (vs ++ [x]))
    | none => none) else none
  | _ => none
def popV : OV → Option OV
  | .ol xs => if xs.isEmpty then none else some (.ol xs.dropLast)
  | _ => none
def lastV : OV → Option PV
  | .ol xs => xs.getLast?
  | _ => none
def forL (body : Env → St → R Out) (tg : Tg) : List PV → Env → St → R Out
  | [], env, st => .ok (.next env) st
  | x :: xs, env, st => (match bindTg tg x env with
    | none => .bad
    | some env' => (body env' st).bind fun o st => (match o with
      | .next env'' => forL body tg xs env'' st
      | .ret v => .ok (.ret v) st))
def whileL (tst : Env → St → R Bool) (body : Env → St → R Out) : Nat → Env → St → R Out
  | 0, _, _ => .bad
  | n + 1, env, st => (tst env st).bind fun b st => (match b with
    | false => .ok (.next env) st
    | true => (body env st).bind fun o st => (match o with
      | .next env'' => whileL tst body n env'' st
      | .ret v => .ok (.ret v) st))
/-- names and values side by side: each frozen, or kept as one's own -/
def setMany : List Nat → List Bool → List E → List OV → Env → Option Env
  | [], [], [], [], env => some env
  | i :: is, z :: zs, e :: es, v :: vs, env => (match z with
    | true => (match tak e v with
      | some v => setMany is zs es vs (env.set i (some (.sh v)))
      | none => none)
    | false => if isPl e && v.own then none else setMany is zs es vs (env.set i (some v)))
  | _, _, _, _, _ => none
/-- except clauses: the first whose class takes c -/
def takes (c d : Nat) : Bool := d == 0 || c == d
def hiV (ns : List Nat) (vs : List PV) : HI → Option PV
  | .lit v => some v
  | .fld f => assocN f ns vs
def hisV (ns : List Nat) (vs : List PV) : List HI → Option (List PV)
  | [] => some []
  | i :: is => (match hiV ns vs i, hisV ns vs is with
    | some v, some r => some (v :: r)
    | _, _ => none)
def heV (c : Nat) (ns : List Nat) (vs : List PV) : HE → Option OV
  | .lst is => (hisV ns vs is).map .ol
  | .tup is => (hisV ns vs is).map fun xs => .sh (.tup xs)
  | .lit v => some (.sh v)
  | .err => some (.sh (.exc c ns vs))
def nmIn (n : Option Nat) (env : Env) : Bool := match n with
  | some n => decide (n < env.length)
  | none => true
def exhs : List Hd → Nat → List Nat → List PV → Env → St → R Out
  | [], c, ns, vs, _, st => .exc c ns vs st
  | h :: hs, c, ns, vs, env, st => (match takes c h.c with
    | true => if !nmIn h.nm env then .bad else (match heV c ns vs h.e with
      | some v => .ok (.next ((match h.nm with
        | some n => env.set n none
        | none => env).set h.dst (some (.sh v.freeze)))) st
      | none => .bad)
    | false => exhs hs c ns vs env st)
def exTB : TB → Env → St → R Out
  | .ex e, env, st => (ev cl txt call e env st).bind fun _ st => .ok (.next env) st
  | .set i fz e, env, st => (ev cl txt call e env st).bind fun x st => lift ((tak e x).map fun v => .next (env.set i (some (.sh v)))) st
  | .ife t a b, env, st => (evT cl txt call t env st).bind fun c st => (match c with
    | true => (ev cl txt call a env st).bind fun _ st => .ok (.next env) st
    | false => (ev cl txt call b env st).bind fun _ st => .ok (.next env) st)
mutual
def exs : S → Env → St → R Out
  | .set i fz e, env, st => (ev cl txt call e env st).bind fun x st => (match fz with
    | true => lift ((tak e x).map fun v => .next (env.set i (some (.sh v)))) st
    | false => if isPl e && x.own then .bad else .ok (.next (env.set i (some x))) st)
  | .mv i j fz, env, st => (match env[j]?.join with
    | some x => .ok (.next ((env.set j none).set i (some (if fz then .sh x.freeze else x)))) st
    | none => .bad)
  | .setT is e, env, st => (ev cl txt call e env st).bind fun x st => (match tak e x with
    | some (.tup vs) => lift ((bindMany is vs env).map .next) st
    | _ => .bad)
  | .setP is zs es, env, st => (evs cl txt call es env st).bind fun ovs st => lift ((setMany is zs es ovs env).map .next) st
  | .put p es, env, st => if !plOk isOlOd p env st (pureEs (es.drop 1)) then .bad else (evs cl txt call es env st).bind fun ovs st => (match taks es ovs with
    | some [x, k] => upPl p (putV k x) env st
    | _ => .bad)
  | .sfld i f e, env, st => (ev cl txt call e env st).bind fun x st => if isPl e && x.own then .bad else (match env[i]?.join with
    | some (.oi c ns vs) => if (assocN f ns vs).isSome || !decide (ns.length < 100) then .bad else .ok (.next (env.set i (some (.oi c (setN f x ns vs).1 (setN f x ns vs).2)))) st
    | _ => .bad)
  | .app p e, env, st => if !plOk isOl p env st (pureE e) then .bad else (ev cl txt call e env st).bind fun x st => (match tak e x with
    | some v => upPl p (appV v) env st
    | none => .bad)
  | .appAt i j e, env, st => (ev cl txt call (.op .idx [.var i, j]) env st).bind fun x st => (match x with
    | .sh (.ref n) => (match (st[n]?).map isOl with
      | some true => (ev cl txt call e env st).bind fun y st => (match tak e y with
        | some v => (match (st[n]?).bind (appV v) with
          | some o => .ok (.next env) (st.set n o)
          | none => .bad)
        | none => .bad)
      | _ => .bad)
    | _ => .bad)
  | .ext p e, env, st => if !plOk isOl p env st (pureE e) then .bad else (ev cl txt call e env st).bind fun x st => (match tak e x with
    | some (.lst _ ys) => upPl p (extV ys) env st
    | _ => .bad)
  | .sdef p es, env, st => if !plOk isOd p env st (pureEs es) then .bad else (evs cl txt call es env st).bind fun ovs st => (match taks es ovs with
    | some [k, x] => upPl p (sdefV k x) env st
    | _ => .bad)
  | .pop p, env, st => upPl p popV env st
  | .retPop p, env, st => (match (getPl p env st).bind lastV with
    | some v => (upPl p popV env st).bind fun _ st => .ok (.ret (.sh v)) st
    | none => .bad)
  | .retOwn i, env, st => (match env[i]?.join with
    | some x => .ok (.ret x) st
    | none => .bad)
  | .ex e, env, st => (ev cl txt call e env st).bind fun _ st => .ok (.next env) st
  | .ifs c a b, env, st => (evT cl txt call c env st).bind fun t st => (match t with
    | true => exss a env st
    | false => exss b env st)
  | .fors tg it its body, env, st => (evs cl txt call its env st).bind fun ovs st => (match (taks its ovs).bind (itItems it) with
    | some xs => forL (fun env st => exss body env st) tg xs env st
    | none => .bad)
  | .whl n c body, env, st => whileL (fun env st => evT cl txt call c env st) (fun env st => exss body env st) n env st
  | .ret e, env, st => (ev cl txt call e env st).bind fun x st => if isPl e && x.own then .bad else .ok (.ret x) st
  | .retN, _, st => .ok (.ret (.sh .non)) st
  | .rais c es, env, st => (evs cl txt call es env st).bind fun ovs st => (match taks es ovs with
    | some vs => if (cl.excF c).length = vs.length then .exc c (cl.excF c) vs st else .bad
    | none => .bad)
  | .try_ b hs, env, st => (match exTB cl txt call b env st with
    | .exc c ns vs st => exhs hs c ns vs env st
    | r => r)
  | .pass, env, st => .ok (.next env) st
  | .frz i, env, st => (match env[i]?.join with
    | some x => .ok (.next (env.set i (some (.sh x.freeze)))) st
    | none => .bad)
def exss : List S → Env → St → R Out
  | [], env, st => .ok (.next env) st
  | s :: ss, env, st => (exs s env st).bind fun o st => (match o with
    | .next env' => exss ss env' st
    | .ret v => .ok (.ret v) st)
end
end
/-- the defs by their numbers; from 1000 on: the classes -/
abbrev Tab := Nat → Option Def
def start (d : Def) (vs : List PV) : Env := vs.map (fun v => some (.sh v)) ++ List.replicate (d.nv - d.np) none
def runDef (cl : Cls) (txt : PV → Option Str) (call : Call) (d : Def) (vs : List PV) (st : St) : R OV :=
  if vs.length = d.np ∧ d.np ≤ d.nv then
    (match exss cl txt call d.body (start d vs) st with
    | .ok (.next _) st => .ok (.sh .non) st
    | .ok (.ret v) st => .ok v st
    | .exc c ns vs st => .exc c ns vs st
    | .bad => .bad)
  else .bad
/-- C(..): __init__ over a new object of one's own -/
def runInit (cl : Cls) (txt : PV → Option Str) (call : Call) (c : Nat) (d : Def) (vs : List PV) (st : St) : R OV :=
  if vs.length + 1 = d.np ∧ d.np ≤ d.nv then
    (match exss cl txt call d.body (some (.oi c [] []) :: (vs.map (fun v => some (.sh v)) ++ List.replicate (d.nv - d.np) none)) st with
    | .ok (.next env) st => (match env[0]?.join with
      | some (OV.oi c ns vs) => .ok (.oi c ns vs) st
      | _ => .bad)
    | .ok (.ret _) _ => .bad
    | .exc c ns vs st => .exc c ns vs st
    | .bad => .bad)
  else .bad
def callN (cl : Cls) (txt : PV → Option Str) (tab : Tab) : Nat → Call
  | 0 => fun _ _ _ => .bad
  | n + 1 => fun f vs st =>
    if f < 1000 then (match tab f with
      | some d => runDef cl txt (callN cl txt tab n) d vs st
      | none => .bad)
    else (match (cl.init (f - 1000)).bind tab with
      | some d => runInit cl txt (callN cl txt tab n) (f - 1000) d vs st
      | none => .bad)
end EV

/-! EVP: the defs of the package, in the small syntax (printed by gen.py). -/
set_option linter.all false
namespace EV
open PySem
def p_is_count : Def := ⟨2, 2, [.ret (.and [(.op (.isi [.int]) [(.var 0)]), (.op .not [(.op (.isi [.bool]) [(.var 0)])]), (.op (.cmp .ge) [(.var 0), (.var 1)])])]⟩
def p_is_below : Def := ⟨2, 2, [.ret (.and [(.call 0 [(.var 0), (.lit (.int 0))]), (.op (.cmp .lt) [(.var 0), (.var 1)])])]⟩
def p_require_count : Def := ⟨2, 2, [.ifs (.not (.val (.call 0 [(.var 0), (.var 1)]))) [.rais 1 [(.var 0)]] []]⟩
def p_is_rising : Def := ⟨2, 5, [.ifs (.or [(.not (.val (.op (.isi [.tuple]) [(.var 0)]))), (.not (.val (.op (.bi .all) [(.comp (.call 1 [(.var 4), (.var 1)]) (.one 4) .plain [(.var 0)] [])])))]) [.ret (.lit (.bl false))] [], .ret (.op (.bi .all) [(.comp (.op (.cmp .lt) [(.var 2), (.var 3)]) (.many [2, 3]) .zip [(.var 0), (.op (.slc true false false) [(.var 0), (.lit (.int 1))])] [])])]⟩
def p_is_link : Def := ⟨2, 2, [.ret (.and [(.call 3 [(.var 0), (.var 1)]), (.op (.cmp .eq) [(.op (.bi .len) [(.var 0)]), (.lit (.int 2))])])]⟩
def p_checked_links : Def := ⟨2, 5, [.ifs (.not (.val (.op (.isi [.list, .tuple]) [(.var 0)]))) [.rais 2 [(.lit .non)]] [], .set 2 false .dct0, .fors (.many [3, 4]) .enum [(.var 0)] [.ifs (.or [(.not (.val (.call 4 [(.var 4), (.var 1)]))), (.val (.op (.cmp .inn) [(.var 4), (.var 2)]))]) [.rais 2 [(.var 3)]] [], .put (.var 2) [(.lit (.bl true)), (.var 4)]], .frz 2, .ret (.op (.bi .tuple) [(.op (.bi .sorted) [(.var 2)])])]⟩
def p_Net_init : Def := ⟨3, 3, [.ex (.call 2 [(.var 1), (.lit (.int 3))]), .sfld 0 5 (.var 1), .sfld 0 6 (.call 5 [(.var 2), (.var 1)])]⟩
def p_Net_eq : Def := ⟨2, 2, [.ret (.and [(.op (.isi [.cls 0]) [(.var 1)]), (.op (.cmp .eq) [(.tup [(.fld (.var 0) 5), (.fld (.var 0) 6)]), (.tup [(.fld (.var 1) 5), (.fld (.var 1) 6)])])])]⟩
def p_Net_ends : Def := ⟨2, 5, [.set 2 true (.comp (.var 3) (.many [3, 4]) .plain [(.fld (.var 0) 6)] [(.val (.op (.cmp .eq) [(.var 4), (.var 1)]))]), .ret (.op (.bi .tuple) [(.op (.bop .add) [(.var 2), (.comp (.var 4) (.many [3, 4]) .plain [(.fld (.var 0) 6)] [(.val (.op (.cmp .eq) [(.var 3), (.var 1)]))])])])]⟩
def p_Net_neighbours : Def := ⟨2, 2, [.ifs (.not (.val (.call 1 [(.var 1), (.fld (.var 0) 5)]))) [.rais 1 [(.var 1)]] [], .ret (.mcall 0 [(.var 0), (.var 1)])]⟩
def p_require_net : Def := ⟨1, 1, [.ifs (.not (.val (.op (.isi [.cls 0]) [(.var 0)]))) [.rais 3 [(.var 0)]] []]⟩
def p_require_lots : Def := ⟨2, 4, [.ifs (.not (.val (.op (.isi [.list, .tuple]) [(.var 0)]))) [.rais 4 [(.lit .non)]] [], .fors (.many [2, 3]) .enum [(.var 0)] [.ifs (.not (.val (.call 3 [(.var 3), (.fld (.var 1) 5)]))) [.rais 4 [(.var 2)]] []]]⟩
def p_require_liars : Def := ⟨2, 2, [.ifs (.not (.val (.call 3 [(.var 0), (.fld (.var 1) 5)]))) [.rais 8 [(.var 0)]] []]⟩
def p_choices : Def := ⟨2, 8, [.set 2 true (.lst [(.tup [])]), .fors (.one 3) .rng1 [(.var 1)] [.set 4 false (.lst []), .fors (.one 5) .plain [(.var 2)] [.set 6 true (.ifx (.val (.op (.cmp .ne) [(.var 5), (.tup [])])) (.op (.bop .add) [(.op .idx [(.var 5), (.op .neg [(.lit (.int 1))])]), (.lit (.int 1))]) (.lit (.int 0))), .ext (.var 4) (.comp (.op (.bop .add) [(.var 5), (.tup [(.var 7)])]) (.one 7) .rng2 [(.var 6), (.var 0)] [])], .mv 2 4 true], .ret (.var 2)]⟩
def p_at_most : Def := ⟨2, 2, [.ex (.call 10 [(.var 0)]), .ex (.call 2 [(.var 1), (.lit (.int 0))]), .ret (.op (.bi .tuple) [(.call 13 [(.fld (.var 0) 5), (.op (.bi .min2) [(.var 1), (.fld (.var 0) 5)])])])]⟩
def p_is_let : Def := ⟨2, 4, [.ret (.or [(.op (.cmp .eq) [(.op (.bi .len) [(.var 1)]), (.lit (.int 0))]), (.op (.bi .any) [(.comp (.op (.bi .all) [(.comp (.op (.cmp .inn) [(.var 3), (.var 2)]) (.one 3) .plain [(.var 1)] [])]) (.one 2) .plain [(.var 0)] [])])])]⟩
def p_may_lie : Def := ⟨3, 3, [.ex (.call 10 [(.var 0)]), .ex (.call 11 [(.var 1), (.var 0)]), .ex (.call 12 [(.var 2), (.var 0)]), .ret (.call 15 [(.var 1), (.var 2)])]⟩
def p_is_row : Def := ⟨3, 4, [.ret (.and [(.op (.isi [.tuple]) [(.var 0)]), (.op (.cmp .eq) [(.op (.bi .len) [(.var 0)]), (.var 1)]), (.op (.bi .all) [(.comp (.call 1 [(.var 3), (.var 2)]) (.one 3) .plain [(.var 0)] [])])])]⟩
def p_power : Def := ⟨2, 4, [.set 2 true (.lit (.int 1)), .fors (.one 3) .rng1 [(.var 1)] [.set 2 true (.op (.bop .mul) [(.var 2), (.var 0)])], .ret (.var 2)]⟩
def p_is_counts : Def := ⟨1, 2, [.ret (.and [(.op (.isi [.tuple]) [(.var 0)]), (.op (.bi .all) [(.comp (.call 0 [(.var 1), (.lit (.int 0))]) (.one 1) .plain [(.var 0)] [])])])]⟩
def p_checked_list : Def := ⟨3, 3, [.ifs (.or [(.not (.val (.op (.isi [.list, .tuple]) [(.var 1)]))), (.val (.op (.cmp .eq) [(.op (.bi .len) [(.var 1)]), (.lit (.int 0))])), (.and [(.val (.op (.cmp .notC) [(.var 2), (.lit .non)])), (.val (.op (.cmp .ne) [(.op (.bi .len) [(.var 1)]), (.var 2)]))])]) [.rais 5 [(.var 0), (.lit .non)]] [], .ret (.op (.bi .tuple) [(.var 1)])]⟩
def p_checked_sends : Def := ⟨1, 4, [.set 1 true (.call 20 [(.lit (.str "sends")), (.var 0), (.lit .non)]), .fors (.many [2, 3]) .enum [(.var 1)] [.ifs (.or [(.not (.val (.call 19 [(.var 3)]))), (.val (.op (.cmp .ne) [(.op (.bi .len) [(.var 3)]), (.op (.bi .len) [(.op .idx [(.var 1), (.lit (.int 0))])])]))]) [.rais 5 [(.lit (.str "sends")), (.var 2)]] []], .ret (.var 1)]⟩
def p_checked_hears : Def := ⟨2, 5, [.set 2 true (.call 20 [(.lit (.str "hears")), (.var 0), (.var 1)]), .fors (.many [3, 4]) .enum [(.var 2)] [.ifs (.or [(.not (.val (.op (.isi [.tuple]) [(.var 4)]))), (.val (.op (.cmp .eq) [(.op (.bi .len) [(.var 4)]), (.lit (.int 0))])), (.not (.val (.call 17 [(.var 4), (.op (.bi .len) [(.op .idx [(.var 2), (.lit (.int 0))])]), (.var 1)])))]) [.rais 5 [(.lit (.str "hears")), (.var 3)]] []], .ret (.var 2)]⟩
def p_checked_decides : Def := ⟨2, 5, [.set 2 true (.call 20 [(.lit (.str "decides")), (.var 0), (.var 1)]), .fors (.many [3, 4]) .enum [(.var 2)] [.ifs (.not (.val (.call 1 [(.var 4), (.lit (.int 2))]))) [.rais 5 [(.lit (.str "decides")), (.var 3)]] []], .ret (.var 2)]⟩
def p_Program_init : Def := ⟨5, 7, [.ifs (.or [(.not (.val (.call 19 [(.var 1)]))), (.val (.op (.cmp .ne) [(.op (.bi .len) [(.var 1)]), (.lit (.int 2))]))]) [.rais 5 [(.lit (.str "starts")), (.lit .non)]] [], .sfld 0 7 (.call 21 [(.var 2)]), .set 5 true (.op (.bi .len) [(.fld (.var 0) 7)]), .sfld 0 8 (.call 22 [(.var 3), (.var 5)]), .sfld 0 9 (.call 23 [(.var 4), (.var 5)]), .fors (.one 6) .plain [(.tup [(.lit (.int 0)), (.lit (.int 1))])] [.ifs (.val (.op (.cmp .ge) [(.op .idx [(.var 1), (.var 6)]), (.var 5)])) [.rais 5 [(.lit (.str "starts")), (.var 6)]] []], .sfld 0 10 (.var 1)]⟩
def p_Program_tables : Def := ⟨1, 1, [.ret (.tup [(.fld (.var 0) 10), (.fld (.var 0) 7), (.fld (.var 0) 8), (.fld (.var 0) 9)])]⟩
def p_Program_eq : Def := ⟨2, 2, [.ret (.and [(.op (.isi [.cls 1]) [(.var 1)]), (.op (.cmp .eq) [(.mcall 2 [(.var 0)]), (.mcall 2 [(.var 1)])])])]⟩
def p_Program_behind : Def := ⟨4, 6, [.set 4 true (.lit (.int 0)), .fors (.one 5) .plain [(.var 2)] [.set 4 true (.op (.bop .add) [(.op (.bop .mul) [(.var 4), (.var 3)]), (.var 5)])], .ret (.op .idx [(.op .idx [(.fld (.var 0) 8), (.var 1)]), (.var 4)])]⟩
def p_Program_is_fit : Def := ⟨3, 4, [.ifs (.not (.val (.op (.bi .all) [(.comp (.call 17 [(.var 3), (.var 1), (.var 2)]) (.one 3) .plain [(.fld (.var 0) 7)] [])]))) [.ret (.lit (.bl false))] [], .ret (.op (.cmp .eq) [(.op (.bi .len) [(.op .idx [(.fld (.var 0) 8), (.lit (.int 0))])]), (.call 18 [(.var 2), (.var 1)])])]⟩
def p_System_init : Def := ⟨5, 8, [.ex (.call 10 [(.var 1)]), .ex (.call 2 [(.var 2), (.lit (.int 1))]), .ex (.call 2 [(.var 3), (.lit (.int 1))]), .ifs (.or [(.not (.val (.op (.isi [.list, .tuple]) [(.var 4)]))), (.val (.op (.cmp .ne) [(.op (.bi .len) [(.var 4)]), (.fld (.var 1) 5)]))]) [.rais 6 [(.lit .non)]] [], .sfld 0 11 (.op (.bi .tuple) [(.comp (.mcall 0 [(.var 1), (.var 7)]) (.one 7) .rng1 [(.fld (.var 1) 5)] [])]), .fors (.many [5, 6]) .enum [(.var 4)] [.ifs (.or [(.not (.val (.op (.isi [.cls 1]) [(.var 6)]))), (.not (.val (.mcall 4 [(.var 6), (.op (.bi .len) [(.op .idx [(.fld (.var 0) 11), (.var 5)])]), (.var 2)])))]) [.rais 6 [(.var 5)]] []], .sfld 0 12 (.var 1), .sfld 0 13 (.var 2), .sfld 0 14 (.var 3), .sfld 0 15 (.op (.bi .tuple) [(.var 4)])]⟩
def p_System_parts : Def := ⟨1, 1, [.ret (.tup [(.fld (.var 0) 12), (.fld (.var 0) 13), (.fld (.var 0) 14), (.fld (.var 0) 15)])]⟩
def p_System_eq : Def := ⟨2, 2, [.ret (.and [(.op (.isi [.cls 2]) [(.var 1)]), (.op (.cmp .eq) [(.mcall 5 [(.var 0)]), (.mcall 5 [(.var 1)])])])]⟩
def p_System_port_to : Def := ⟨3, 3, [.ret (.op (.bi .tindex) [(.op .idx [(.fld (.var 0) 11), (.var 1)]), (.var 2)])]⟩
def p_require_system : Def := ⟨1, 1, [.ifs (.not (.val (.op (.isi [.cls 2]) [(.var 0)]))) [.rais 7 [(.var 0)]] []]⟩
def p_is_begins : Def := ⟨3, 5, [.ifs (.or [(.not (.val (.op (.isi [.tuple]) [(.var 0)]))), (.val (.op (.cmp .ne) [(.op (.bi .len) [(.var 0)]), (.var 2)]))]) [.ret (.lit (.bl false))] [], .ret (.op (.bi .all) [(.comp (.ifx (.val (.op (.cmp .inn) [(.var 3), (.var 1)])) (.op (.cmp .isC) [(.var 4), (.lit .non)]) (.call 1 [(.var 4), (.lit (.int 2))])) (.many [3, 4]) .enum [(.var 0)] [])])]⟩
def p_require_begins : Def := ⟨3, 3, [.ifs (.not (.val (.call 34 [(.var 0), (.var 1), (.var 2)]))) [.rais 9 [(.var 0)]] []]⟩
def p_is_messages : Def := ⟨3, 5, [.ifs (.or [(.not (.val (.op (.isi [.tuple]) [(.var 2)]))), (.val (.op (.cmp .ne) [(.op (.bi .len) [(.var 2)]), (.op (.bi .len) [(.var 1)])]))]) [.ret (.lit (.bl false))] [], .ret (.op (.bi .all) [(.comp (.call 17 [(.var 4), (.op (.bi .len) [(.op .idx [(.fld (.var 0) 11), (.var 3)])]), (.fld (.var 0) 13)]) (.many [3, 4]) .zip [(.var 1), (.var 2)] [])])]⟩
def p_checked_rounds : Def := ⟨3, 5, [.ifs (.or [(.not (.val (.op (.isi [.list, .tuple]) [(.var 2)]))), (.val (.op (.cmp .ne) [(.op (.bi .len) [(.var 2)]), (.fld (.var 0) 14)]))]) [.rais 10 [(.lit .non)]] [], .fors (.many [3, 4]) .enum [(.var 2)] [.ifs (.not (.val (.call 36 [(.var 0), (.var 1), (.var 4)]))) [.rais 10 [(.var 3)]] []], .ret (.op (.bi .tuple) [(.var 2)])]⟩
def p_Attack_init : Def := ⟨5, 5, [.ex (.call 33 [(.var 1)]), .ex (.call 12 [(.var 2), (.fld (.var 1) 12)]), .ex (.call 35 [(.var 3), (.var 2), (.fld (.fld (.var 1) 12) 5)]), .sfld 0 14 (.call 37 [(.var 1), (.var 2), (.var 4)]), .sfld 0 16 (.var 1), .sfld 0 17 (.var 2), .sfld 0 18 (.var 3)]⟩
def p_Attack_parts : Def := ⟨1, 1, [.ret (.tup [(.fld (.var 0) 16), (.fld (.var 0) 17), (.fld (.var 0) 18), (.fld (.var 0) 14)])]⟩
def p_Attack_eq : Def := ⟨2, 2, [.ret (.and [(.op (.isi [.cls 3]) [(.var 1)]), (.op (.cmp .eq) [(.mcall 5 [(.var 0)]), (.mcall 5 [(.var 1)])])])]⟩
def p_require_attack : Def := ⟨1, 1, [.ifs (.not (.val (.op (.isi [.cls 3]) [(.var 0)]))) [.rais 11 [(.var 0)]] []]⟩
def p_require_promise : Def := ⟨1, 1, [.ifs (.or [(.not (.val (.op (.isi [.str]) [(.var 0)]))), (.val (.op (.cmp .nin) [(.var 0), (.tup [(.lit (.str "strong")), (.lit (.str "weak"))])]))]) [.rais 12 [(.var 0)]] []]⟩
def p_start_of : Def := ⟨2, 5, [.set 2 false (.lst []), .fors (.many [3, 4]) .zip [(.fld (.var 0) 15), (.var 1)] [.app (.var 2) (.ifx (.val (.op (.cmp .isC) [(.var 4), (.lit .non)])) (.lit .non) (.op .idx [(.fld (.var 3) 10), (.var 4)]))], .frz 2, .ret (.op (.bi .tuple) [(.var 2)])]⟩
def p_spoken : Def := ⟨5, 5, [.ifs (.val (.op (.cmp .isC) [(.op .idx [(.var 1), (.var 4)]), (.lit .non)])) [.ret (.op .idx [(.var 3), (.op (.bi .tindex) [(.var 2), (.var 4)])])] [], .ret (.op .idx [(.fld (.op .idx [(.fld (.var 0) 15), (.var 4)]) 7), (.op .idx [(.var 1), (.var 4)])])]⟩
def p_heard_by : Def := ⟨5, 8, [.set 5 false (.lst []), .fors (.one 6) .plain [(.op .idx [(.fld (.var 0) 11), (.var 4)])] [.set 7 true (.call 44 [(.var 0), (.var 1), (.var 2), (.var 3), (.var 6)]), .app (.var 5) (.op .idx [(.var 7), (.mcall 6 [(.var 0), (.var 6), (.var 4)])])], .frz 5, .ret (.op (.bi .tuple) [(.var 5)])]⟩
def p_row_behind : Def := ⟨4, 8, [.set 4 false (.lst []), .fors (.many [5, 6]) .enum [(.var 1)] [.ifs (.val (.op (.cmp .isC) [(.var 6), (.lit .non)])) [.app (.var 4) (.lit .non)] [.set 7 true (.call 45 [(.var 0), (.var 1), (.var 2), (.var 3), (.var 5)]), .app (.var 4) (.mcall 3 [(.op .idx [(.fld (.var 0) 15), (.var 5)]), (.var 6), (.var 7), (.fld (.var 0) 13)])]], .frz 4, .ret (.op (.bi .tuple) [(.var 4)])]⟩
def p_rows_of : Def := ⟨1, 3, [.set 1 false (.lst [(.call 43 [(.fld (.var 0) 16), (.fld (.var 0) 18)])]), .fors (.one 2) .plain [(.fld (.var 0) 14)] [.app (.var 1) (.call 46 [(.fld (.var 0) 16), (.op .idx [(.var 1), (.op .neg [(.lit (.int 1))])]), (.fld (.var 0) 17), (.var 2)])], .retOwn 1]⟩
def p_walked : Def := ⟨1, 1, [.ex (.call 41 [(.var 0)]), .ret (.call 47 [(.var 0)])]⟩
def p_decided_in : Def := ⟨2, 5, [.set 2 false (.lst []), .fors (.many [3, 4]) .zip [(.fld (.var 0) 15), (.var 1)] [.app (.var 2) (.ifx (.val (.op (.cmp .isC) [(.var 4), (.lit .non)])) (.lit .non) (.op .idx [(.fld (.var 3) 9), (.var 4)]))], .frz 2, .ret (.op (.bi .tuple) [(.var 2)])]⟩
def p_decided : Def := ⟨1, 1, [.ex (.call 41 [(.var 0)]), .ret (.call 49 [(.fld (.var 0) 16), (.op .idx [(.call 47 [(.var 0)]), (.op .neg [(.lit (.int 1))])])])]⟩
def p_judged_row : Def := ⟨4, 7, [.set 4 true (.comp (.var 6) (.one 6) .plain [(.call 49 [(.var 0), (.var 2)])] [(.val (.op (.cmp .notC) [(.var 6), (.lit .non)]))]), .ifs (.val (.op (.cmp .gt) [(.op (.bi .lset) [(.var 4)]), (.lit (.int 1))])) [.ret (.lit (.str "unlike"))] [], .set 5 true (.comp (.var 6) (.one 6) .plain [(.var 1)] [(.val (.op (.cmp .notC) [(.var 6), (.lit .non)]))]), .ifs (.or [(.val (.op (.cmp .ne) [(.op (.bi .lset) [(.var 5)]), (.lit (.int 1))])), (.and [(.val (.op (.cmp .eq) [(.var 3), (.lit (.str "weak"))])), (.val (.op (.cmp .inn) [(.lit .non), (.var 1)]))])]) [.ret (.lit (.str "good"))] [], .ret (.ifx (.val (.op (.cmp .eq) [(.op .idx [(.var 4), (.lit (.int 0))]), (.op .idx [(.var 5), (.lit (.int 0))])])) (.lit (.str "good")) (.lit (.str "unfounded")))]⟩
def p_verdict : Def := ⟨2, 2, [.ex (.call 41 [(.var 0)]), .ex (.call 42 [(.var 1)]), .ret (.call 51 [(.fld (.var 0) 16), (.fld (.var 0) 18), (.op .idx [(.call 47 [(.var 0)]), (.op .neg [(.lit (.int 1))])]), (.var 1)])]⟩
def p_is_tie : Def := ⟨2, 3, [.ifs (.or [(.not (.val (.op (.isi [.tuple]) [(.var 1)]))), (.val (.op (.cmp .ne) [(.op (.bi .len) [(.var 1)]), (.lit (.int 2))])), (.not (.val (.op (.bi .all) [(.comp (.call 1 [(.var 2), (.fld (.fld (.var 0) 12) 5)]) (.one 2) .plain [(.var 1)] [])])))]) [.ret (.lit (.bl false))] [], .ret (.op (.cmp .inn) [(.op (.bi .tuple) [(.op (.bi .sorted) [(.var 1)])]), (.fld (.fld (.var 0) 12) 6)])]⟩
def p_checked_raised : Def := ⟨2, 5, [.ifs (.not (.val (.op (.isi [.list, .tuple]) [(.var 1)]))) [.rais 13 [(.lit .non)]] [], .set 2 false .dct0, .fors (.many [3, 4]) .enum [(.var 1)] [.ifs (.or [(.not (.val (.call 53 [(.var 0), (.var 4)]))), (.val (.op (.cmp .inn) [(.var 4), (.var 2)]))]) [.rais 13 [(.var 3)]] [], .put (.var 2) [(.lit (.int 1)), (.var 4)], .put (.var 2) [(.op .neg [(.lit (.int 1))]), (.op (.slc false false true) [(.var 4)])]], .retOwn 2]⟩
def p_require_numbers : Def := ⟨1, 2, [.ifs (.or [(.not (.val (.op (.isi [.tuple]) [(.var 0)]))), (.val (.op (.cmp .eq) [(.var 0), (.tup [])])), (.not (.val (.op (.bi .all) [(.comp (.call 1 [(.var 1), (.lit (.int 2))]) (.one 1) .plain [(.var 0)] [])])))]) [.rais 9 [(.var 0)]] []]⟩
def p_Cover_init : Def := ⟨4, 6, [.sfld 0 16 (.var 1), .sfld 0 19 (.var 2), .sfld 0 20 (.var 3), .sfld 0 21 (.lst [(.op (.bi .tuple) [(.comp (.mcall 7 [(.var 0), (.var 5)]) (.one 5) .plain [(.var 3)] [])])]), .fors (.one 4) .rng1 [(.fld (.var 1) 14)] [.app (.fld 0 21) (.mcall 3 [(.var 0), (.op .idx [(.fld (.var 0) 21), (.op .neg [(.lit (.int 1))])])])]]⟩
def p_Cover_start : Def := ⟨2, 3, [.ret (.op (.bi .tuple) [(.comp (.op .idx [(.fld (.var 2) 10), (.var 1)]) (.one 2) .plain [(.fld (.fld (.var 0) 16) 15)] [])])]⟩
def p_Cover_copy_at : Def := ⟨4, 4, [.ret (.op (.bop .mod) [(.op (.bop .add) [(.var 2), (.op (.bi .get) [(.fld (.var 0) 19), (.tup [(.var 1), (.var 3)]), (.lit (.int 0))])]), (.op (.bi .len) [(.fld (.var 0) 20)])])]⟩
def p_Cover_said : Def := ⟨5, 6, [.set 5 true (.op .idx [(.op .idx [(.var 1), (.mcall 8 [(.var 0), (.var 2), (.var 3), (.var 4)])]), (.var 4)]), .ret (.op .idx [(.op .idx [(.fld (.op .idx [(.fld (.fld (.var 0) 16) 15), (.var 4)]) 7), (.var 5)]), (.mcall 6 [(.fld (.var 0) 16), (.var 4), (.var 2)])])]⟩
def p_Cover_behind : Def := ⟨2, 10, [.set 2 false (.lst []), .fors (.many [3, 4]) .enum [(.var 1)] [.set 5 false (.lst []), .fors (.many [6, 7]) .enum [(.var 4)] [.set 8 true (.comp (.mcall 9 [(.var 0), (.var 1), (.var 6), (.var 3), (.var 9)]) (.one 9) .plain [(.op .idx [(.fld (.fld (.var 0) 16) 11), (.var 6)])] []), .app (.var 5) (.mcall 3 [(.op .idx [(.fld (.fld (.var 0) 16) 15), (.var 6)]), (.var 7), (.var 8), (.fld (.fld (.var 0) 16) 13)])], .frz 5, .app (.var 2) (.op (.bi .tuple) [(.var 5)])], .frz 2, .ret (.op (.bi .tuple) [(.var 2)])]⟩
def p_Cover_messages : Def := ⟨4, 7, [.set 4 false (.lst []), .fors (.one 5) .plain [(.op .idx [(.fld (.fld (.var 0) 16) 11), (.var 3)])] [.set 6 true (.op .idx [(.var 2), (.var 5)]), .app (.var 4) (.ifx (.val (.op (.cmp .isC) [(.var 6), (.lit .non)])) (.lit (.int 0)) (.mcall 9 [(.var 0), (.var 1), (.var 5), (.var 6), (.var 3)]))], .frz 4, .ret (.op (.bi .tuple) [(.var 4)])]⟩
def p_Cover_attack : Def := ⟨2, 9, [.set 2 true (.op (.bi .tuple) [(.comp (.var 7) (.many [7, 6]) .enum [(.var 1)] [(.val (.op (.cmp .isC) [(.var 6), (.lit .non)]))])]), .set 3 true (.op (.bi .tuple) [(.comp (.ifx (.val (.op (.cmp .isC) [(.var 6), (.lit .non)])) (.lit .non) (.op .idx [(.fld (.var 0) 20), (.var 6)])) (.one 6) .plain [(.var 1)] [])]), .set 4 false (.lst []), .fors (.one 5) .plain [(.op (.slc false true false) [(.fld (.var 0) 21), (.op .neg [(.lit (.int 1))])])] [.app (.var 4) (.op (.bi .tuple) [(.comp (.mcall 10 [(.var 0), (.var 5), (.var 1), (.var 8)]) (.one 8) .plain [(.var 2)] [])])], .frz 4, .ret (.call 1003 [(.fld (.var 0) 16), (.var 2), (.var 3), (.var 4)])]⟩
def p_copied : Def := ⟨3, 4, [.ex (.call 33 [(.var 0)]), .set 3 true (.call 54 [(.var 0), (.var 1)]), .ex (.call 55 [(.var 2)]), .ret (.op (.bi .list) [(.fld (.call 1004 [(.var 0), (.var 3), (.var 2)]) 21)])]⟩
def p_is_choice : Def := ⟨3, 4, [.ifs (.or [(.not (.val (.op (.isi [.tuple]) [(.var 0)]))), (.val (.op (.cmp .ne) [(.op (.bi .len) [(.var 0)]), (.var 1)]))]) [.ret (.lit (.bl false))] [], .ret (.op (.bi .all) [(.comp (.or [(.op (.cmp .isC) [(.var 3), (.lit .non)]), (.call 1 [(.var 3), (.var 2)])]) (.one 3) .plain [(.var 0)] [])])]⟩
def p_cut : Def := ⟨4, 8, [.ex (.call 33 [(.var 0)]), .set 4 true (.call 54 [(.var 0), (.var 1)]), .ex (.call 55 [(.var 2)]), .ifs (.not (.val (.call 64 [(.var 3), (.fld (.fld (.var 0) 12) 5), (.op (.bi .len) [(.var 2)])]))) [.rais 14 [(.var 3)]] [], .set 5 true (.call 1004 [(.var 0), (.var 4), (.var 2)]), .fors (.many [6, 7]) .plain [(.fld (.fld (.var 0) 12) 6)] [.ifs (.and [(.val (.op (.cmp .notC) [(.op .idx [(.var 3), (.var 6)]), (.lit .non)])), (.val (.op (.cmp .notC) [(.op .idx [(.var 3), (.var 7)]), (.lit .non)]))]) [.ifs (.val (.op (.cmp .ne) [(.mcall 8 [(.var 5), (.var 6), (.op .idx [(.var 3), (.var 6)]), (.var 7)]), (.op .idx [(.var 3), (.var 7)])])) [.rais 15 [(.var 6), (.var 7)]] []] []], .ret (.mcall 11 [(.var 5), (.var 3)])]⟩
def p_are_all : Def := ⟨2, 3, [.ret (.op (.cmp .eq) [(.op (.bi .sorted) [(.op (.bi .sumL) [(.comp (.op (.bi .list) [(.var 2)]) (.one 2) .plain [(.var 0)] [])])]), (.op (.bi .lrange1) [(.var 1)])])]⟩
def p_are_apart : Def := ⟨3, 5, [.ret (.op (.cmp .eq) [(.comp (.lit (.int 1)) (.many [3, 4]) .plain [(.fld (.var 0) 6)] [(.or [(.and [(.val (.op (.cmp .inn) [(.var 3), (.var 1)])), (.val (.op (.cmp .inn) [(.var 4), (.var 2)]))]), (.and [(.val (.op (.cmp .inn) [(.var 3), (.var 2)])), (.val (.op (.cmp .inn) [(.var 4), (.var 1)]))])])]), (.lst [])])]⟩
def p_is_right : Def := ⟨3, 4, [.ifs (.val (.op (.cmp .eq) [(.op (.bi .len) [(.var 2)]), (.lit (.int 3))])) [.ret (.op (.bi .all) [(.comp (.and [(.op (.cmp .ne) [(.var 3), (.tup [])]), (.call 15 [(.var 1), (.var 3)])]) (.one 3) .plain [(.var 2)] [])])] [], .ifs (.or [(.val (.op (.cmp .eq) [(.op .idx [(.var 2), (.lit (.int 0))]), (.tup [])])), (.val (.op (.cmp .eq) [(.op .idx [(.var 2), (.lit (.int 2))]), (.tup [])])), (.not (.val (.call 67 [(.var 0), (.op .idx [(.var 2), (.lit (.int 0))]), (.op .idx [(.var 2), (.lit (.int 2))])])))]) [.ret (.lit (.bl false))] [], .ret (.and [(.call 15 [(.var 1), (.op .idx [(.var 2), (.lit (.int 1))])]), (.call 15 [(.var 1), (.op .idx [(.var 2), (.lit (.int 3))])])])]⟩
def p_is_parted : Def := ⟨3, 4, [.ifs (.or [(.not (.val (.op (.isi [.tuple]) [(.var 2)]))), (.val (.op (.cmp .nin) [(.op (.bi .len) [(.var 2)]), (.tup [(.lit (.int 3)), (.lit (.int 4))])]))]) [.ret (.lit (.bl false))] [], .ifs (.or [(.not (.val (.op (.bi .all) [(.comp (.call 3 [(.var 3), (.fld (.var 0) 5)]) (.one 3) .plain [(.var 2)] [])]))), (.not (.val (.call 66 [(.var 2), (.fld (.var 0) 5)])))]) [.ret (.lit (.bl false))] [], .ret (.call 68 [(.var 0), (.var 1), (.var 2)])]⟩
def p_is_parting : Def := ⟨3, 3, [.ex (.call 10 [(.var 0)]), .ex (.call 11 [(.var 1), (.var 0)]), .ret (.call 69 [(.var 0), (.var 1), (.var 2)])]⟩
def p_raised_steps : Def := ⟨2, 7, [.set 2 false .dct0, .fors (.many [3, 4]) .plain [(.fld (.fld (.var 0) 12) 6)] [.fors (.many [5, 6]) .plain [(.tup [(.tup [(.var 3), (.var 4)]), (.tup [(.var 4), (.var 3)])])] [.ifs (.and [(.val (.op (.cmp .inn) [(.var 5), (.op .idx [(.var 1), (.op .neg [(.lit (.int 1))])])])), (.val (.op (.cmp .inn) [(.var 6), (.op .idx [(.var 1), (.lit (.int 0))])]))]) [.put (.var 2) [(.lit (.int 1)), (.tup [(.var 5), (.var 6)])], .put (.var 2) [(.op .neg [(.lit (.int 1))]), (.tup [(.var 6), (.var 5)])]] []]], .retOwn 2]⟩
def p_chosen_copies : Def := ⟨3, 7, [.set 3 false (.op (.bop .mul) [(.lst [(.lit .non)]), (.fld (.fld (.var 0) 12) 5)]), .fors (.many [4, 5]) .zip [(.var 1), (.var 2)] [.fors (.one 6) .plain [(.var 4)] [.put (.var 3) [(.var 5), (.var 6)]]], .frz 3, .ret (.op (.bi .tuple) [(.var 3)])]⟩
def p_windows_of : Def := ⟨2, 2, [.ifs (.val (.op (.cmp .eq) [(.op (.bi .len) [(.var 0)]), (.lit (.int 3))])) [.ret (.lst [(.tup [(.var 1), (.var 1), (.lit .non)]), (.tup [(.lit .non), (.var 1), (.var 1)]), (.tup [(.op (.bop .add) [(.var 1), (.lit (.int 1))]), (.lit .non), (.var 1)])])] [], .ret (.lst [(.tup [(.var 1), (.var 1), (.var 1), (.lit .non)]), (.tup [(.op (.bop .add) [(.var 1), (.lit (.int 1))]), (.lit .non), (.var 1), (.var 1)])])]⟩
def p_strong_windows : Def := ⟨1, 1, [.ifs (.val (.op (.cmp .eq) [(.op (.bi .len) [(.var 0)]), (.lit (.int 3))])) [.ret (.lst [(.tup [(.lit .non), (.lit (.int 0)), (.lit (.int 0))]), (.tup [(.lit (.int 1)), (.lit .non), (.lit (.int 0))]), (.tup [(.lit (.int 1)), (.lit (.int 1)), (.lit .non)])])] [], .ret (.lst [(.tup [(.lit (.int 0)), (.lit (.int 0)), (.lit (.int 0)), (.lit .non)]), (.tup [(.lit (.int 1)), (.lit .non), (.lit (.int 0)), (.lit (.int 0))]), (.tup [(.lit (.int 1)), (.lit (.int 1)), (.lit (.int 1)), (.lit .non)])])]⟩
def p_first_bad : Def := ⟨5, 7, [.fors (.one 5) .plain [(.var 3)] [.set 6 true (.mcall 11 [(.var 2), (.call 72 [(.var 0), (.var 1), (.var 5)])]), .ifs (.val (.op (.cmp .ne) [(.callK 52 [(.var 6), (.var 4)] [.at 0, .at 1]), (.lit (.str "good"))])) [.ret (.var 6)] []], .ret (.lit .non)]⟩
def p_strong_attack : Def := ⟨2, 3, [.set 2 true (.call 1004 [(.var 0), (.call 71 [(.var 0), (.var 1)]), (.tup [(.lit (.int 0)), (.lit (.int 1))])]), .ret (.call 75 [(.var 0), (.var 1), (.var 2), (.call 74 [(.var 1)]), (.lit (.str "strong"))])]⟩
def p_weak_attack : Def := ⟨2, 9, [.set 2 true (.fld (.var 0) 14), .fors (.one 3) .plain [(.tup [(.lit (.int 0)), (.lit (.int 1))])] [.set 8 true (.call 1003 [(.var 0), (.tup []), (.op (.bop .mul) [(.tup [(.var 3)]), (.fld (.fld (.var 0) 12) 5)]), (.op (.bop .mul) [(.lst [(.tup [])]), (.var 2)])]), .ifs (.val (.op (.cmp .ne) [(.callK 52 [(.var 8), (.lit (.str "weak"))] [.at 0, .at 1]), (.lit (.str "good"))])) [.ret (.var 8)] []], .set 4 true (.op (.bop .add) [(.op (.bop .mul) [(.tup [(.lit (.int 0))]), (.op (.bop .add) [(.op (.bop .mul) [(.lit (.int 2)), (.var 2)]), (.lit (.int 1))])]), (.op (.bop .mul) [(.tup [(.lit (.int 1))]), (.op (.bop .add) [(.op (.bop .mul) [(.lit (.int 2)), (.var 2)]), (.lit (.int 1))])])]), .set 5 true (.call 1004 [(.var 0), (.call 71 [(.var 0), (.var 1)]), (.var 4)]), .set 6 false (.lst []), .fors (.one 7) .rng2 [(.var 2), (.op (.bop .add) [(.op (.bop .mul) [(.lit (.int 3)), (.var 2)]), (.lit (.int 1))])] [.ext (.var 6) (.call 73 [(.var 1), (.var 7)])], .frz 6, .ret (.call 75 [(.var 0), (.var 1), (.var 5), (.var 6), (.lit (.str "weak"))])]⟩
def p_broken : Def := ⟨4, 4, [.ex (.call 33 [(.var 0)]), .ex (.call 11 [(.var 1), (.fld (.var 0) 12)]), .ifs (.not (.val (.call 69 [(.fld (.var 0) 12), (.var 1), (.var 2)]))) [.rais 16 [(.var 2)]] [], .ex (.call 42 [(.var 3)]), .ret (.ifx (.val (.op (.cmp .eq) [(.var 3), (.lit (.str "strong"))])) (.call 76 [(.var 0), (.var 2)]) (.call 77 [(.var 0), (.var 2)]))]⟩
def p_subsets : Def := ⟨1, 4, [.set 1 true (.lst [(.tup [])]), .fors (.one 2) .rng1 [(.var 0)] [.set 1 true (.op (.bop .add) [(.var 1), (.comp (.op (.bop .add) [(.var 3), (.tup [(.var 2)])]) (.one 3) .plain [(.var 1)] [])])], .ret (.var 1)]⟩
def p_rows_over : Def := ⟨1, 6, [.set 1 true (.lst [(.tup [])]), .fors (.one 2) .plain [(.var 0)] [.set 3 false (.lst []), .fors (.one 4) .plain [(.var 1)] [.ext (.var 3) (.comp (.op (.bop .add) [(.var 4), (.tup [(.var 5)])]) (.one 5) .plain [(.var 2)] [])], .mv 1 3 true], .ret (.var 1)]⟩
def p_sets_that_may_lie : Def := ⟨2, 5, [.set 2 true (.comp (.var 3) (.one 3) .plain [(.call 79 [(.fld (.fld (.var 0) 12) 5)])] [(.val (.call 15 [(.var 1), (.var 3)]))]), .ret (.comp (.var 3) (.many [4, 3]) .plain [(.op (.bi .sorted) [(.comp (.tup [(.op (.bi .len) [(.var 3)]), (.var 3)]) (.one 3) .plain [(.var 2)] [])])] [])]⟩
def p_begins_of : Def := ⟨2, 3, [.ret (.call 80 [(.comp (.ifx (.val (.op (.cmp .inn) [(.var 2), (.var 1)])) (.tup [(.lit .non)]) (.tup [(.lit (.int 0)), (.lit (.int 1))])) (.one 2) .rng1 [(.fld (.fld (.var 0) 12) 5)] [])])]⟩
def p_cases_of : Def := ⟨2, 5, [.set 2 false (.lst []), .fors (.one 3) .plain [(.call 81 [(.var 0), (.var 1)])] [.ext (.var 2) (.comp (.tup [(.var 3), (.var 4)]) (.one 4) .plain [(.call 82 [(.var 0), (.var 3)])] [])], .retOwn 2]⟩
def p_spoken_to : Def := ⟨3, 6, [.set 3 false (.lst []), .fors (.one 4) .plain [(.op .idx [(.fld (.var 0) 11), (.var 2)])] [.ifs (.val (.op (.cmp .isC) [(.op .idx [(.var 1), (.var 4)]), (.lit .non)])) [.app (.var 3) (.op (.bi .trange1) [(.fld (.var 0) 13)])] [.set 5 true (.op .idx [(.fld (.op .idx [(.fld (.var 0) 15), (.var 4)]) 7), (.op .idx [(.var 1), (.var 4)])]), .app (.var 3) (.tup [(.op .idx [(.var 5), (.mcall 6 [(.var 0), (.var 4), (.var 2)])])])]], .retOwn 3]⟩
def p_states_behind : Def := ⟨3, 5, [.set 3 false .dct0, .fors (.one 4) .plain [(.call 80 [(.call 84 [(.var 0), (.var 1), (.var 2)])])] [.sdef (.var 3) [(.mcall 3 [(.op .idx [(.fld (.var 0) 15), (.var 2)]), (.op .idx [(.var 1), (.var 2)]), (.var 4), (.fld (.var 0) 13)]), (.var 4)]], .retOwn 3]⟩
def p_choices_behind : Def := ⟨2, 5, [.set 2 false (.lst []), .fors (.many [3, 4]) .enum [(.var 1)] [.app (.var 2) (.ifx (.val (.op (.cmp .isC) [(.var 4), (.lit .non)])) (.tup [(.lit .non)]) (.op (.bi .tuple) [(.op (.bi .sorted) [(.call 85 [(.var 0), (.var 1), (.var 3)])])]))], .retOwn 2]⟩
def p_lists_of : Def := ⟨2, 7, [.set 2 false (.lst [(.dct1 [(.call 43 [(.var 0), (.var 1)]), (.lit .non)])]), .fors (.one 3) .rng1 [(.fld (.var 0) 14)] [.set 4 false .dct0, .fors (.one 5) .plain [(.op .idx [(.var 2), (.op .neg [(.lit (.int 1))])])] [.fors (.one 6) .plain [(.call 80 [(.call 86 [(.var 0), (.var 5)])])] [.sdef (.var 4) [(.var 6), (.var 5)]]], .frz 4, .app (.var 2) (.var 4)], .retOwn 2]⟩
def p_messages_to : Def := ⟨4, 4, [.ret (.op .idx [(.call 85 [(.var 0), (.var 1), (.var 3)]), (.op .idx [(.var 2), (.var 3)])])]⟩
def p_said_by : Def := ⟨4, 7, [.set 4 false (.lst []), .fors (.one 5) .plain [(.op .idx [(.fld (.var 0) 11), (.var 3)])] [.ifs (.val (.op (.cmp .isC) [(.op .idx [(.var 1), (.var 5)]), (.lit .non)])) [.app (.var 4) (.lit (.int 0))] [.set 6 true (.call 88 [(.var 0), (.var 1), (.var 2), (.var 5)]), .app (.var 4) (.op .idx [(.var 6), (.mcall 6 [(.var 0), (.var 5), (.var 3)])])]], .frz 4, .ret (.op (.bi .tuple) [(.var 4)])]⟩
def p_attack_to : Def := ⟨5, 11, [.set 5 false (.lst [(.var 4)]), .fors (.one 6) .plain [(.op (.slc false true true) [(.var 3), (.lit (.int 0))])] [.app (.var 5) (.op .idx [(.var 6), (.op .idx [(.var 5), (.op .neg [(.lit (.int 1))])])])], .frz 5, .set 5 true (.op (.slc false false true) [(.var 5)]), .set 7 false (.lst []), .fors (.many [8, 9]) .zip [(.var 5), (.op (.slc true false false) [(.var 5), (.lit (.int 1))])] [.app (.var 7) (.op (.bi .tuple) [(.comp (.call 89 [(.var 0), (.var 8), (.var 9), (.var 10)]) (.one 10) .plain [(.var 1)] [])])], .frz 7, .ret (.call 1003 [(.var 0), (.var 1), (.var 2), (.var 7)])]⟩
def p_judged : Def := ⟨3, 9, [.ex (.call 33 [(.var 0)]), .ex (.call 11 [(.var 1), (.fld (.var 0) 12)]), .ex (.call 42 [(.var 2)]), .set 3 false (.lst []), .fors (.many [4, 5]) .plain [(.call 83 [(.var 0), (.var 1)])] [.set 6 true (.call 87 [(.var 0), (.var 5)]), .fors (.one 7) .plain [(.op .idx [(.var 6), (.op .neg [(.lit (.int 1))])])] [.ifs (.val (.op (.cmp .ne) [(.call 51 [(.var 0), (.var 5), (.var 7), (.var 2)]), (.lit (.str "good"))])) [.ret (.tup [(.lit (.str "broken")), (.call 90 [(.var 0), (.var 4), (.var 5), (.var 6), (.var 7)])])] []], .app (.var 3) (.tup [(.var 4), (.var 5), (.op (.bi .tuple) [(.comp (.op (.bi .tuple) [(.op (.bi .sorted) [(.var 8)])]) (.one 8) .plain [(.var 6)] [])])])], .frz 3, .ret (.tup [(.lit (.str "held")), (.op (.bi .tuple) [(.var 3)])])]⟩
def p_is_state_row : Def := ⟨3, 5, [.ifs (.or [(.not (.val (.op (.isi [.tuple]) [(.var 2)]))), (.val (.op (.cmp .ne) [(.op (.bi .len) [(.var 2)]), (.fld (.fld (.var 0) 12) 5)]))]) [.ret (.lit (.bl false))] [], .fors (.many [3, 4]) .enum [(.var 2)] [.ifs (.and [(.val (.op (.cmp .inn) [(.var 3), (.var 1)])), (.val (.op (.cmp .notC) [(.var 4), (.lit .non)]))]) [.ret (.lit (.bl false))] [], .ifs (.and [(.val (.op (.cmp .nin) [(.var 3), (.var 1)])), (.not (.val (.call 1 [(.var 4), (.op (.bi .len) [(.fld (.op .idx [(.fld (.var 0) 15), (.var 3)]) 7)])])))]) [.ret (.lit (.bl false))] []], .ret (.lit (.bl true))]⟩
def p_is_lists : Def := ⟨3, 5, [.ifs (.or [(.not (.val (.op (.isi [.tuple]) [(.var 2)]))), (.val (.op (.cmp .ne) [(.op (.bi .len) [(.var 2)]), (.op (.bop .add) [(.fld (.var 0) 14), (.lit (.int 1))])]))]) [.ret (.lit (.bl false))] [], .fors (.one 3) .plain [(.var 2)] [.ifs (.or [(.not (.val (.op (.isi [.tuple]) [(.var 3)]))), (.not (.val (.op (.bi .all) [(.comp (.call 92 [(.var 0), (.var 1), (.var 4)]) (.one 4) .plain [(.var 3)] [])])))]) [.ret (.lit (.bl false))] []], .ret (.lit (.bl true))]⟩
def p_goes_on : Def := ⟨3, 7, [.set 3 true (.call 86 [(.var 0), (.var 1)]), .set 4 true (.lit (.int 1)), .fors (.one 5) .plain [(.var 3)] [.set 4 true (.op (.bop .mul) [(.var 4), (.op (.bi .len) [(.var 5)])])], .ret (.and [(.op (.cmp .le) [(.var 4), (.op (.bi .len) [(.var 2)])]), (.op (.bi .all) [(.comp (.op (.cmp .inn) [(.var 6), (.var 2)]) (.one 6) .plain [(.call 80 [(.var 3)])] [])])])]⟩
def p_are_good_lists : Def := ⟨4, 8, [.set 4 true (.comp (.op (.bi .dict) [(.comp (.tup [(.var 7), (.lit (.bl true))]) (.one 7) .plain [(.var 6)] [])]) (.one 6) .plain [(.var 2)] []), .ifs (.val (.op (.cmp .nin) [(.call 43 [(.var 0), (.var 1)]), (.op .idx [(.var 4), (.lit (.int 0))])])) [.ret (.lit (.bl false))] [], .fors (.one 5) .rng1 [(.fld (.var 0) 14)] [.ifs (.not (.val (.op (.bi .all) [(.comp (.call 94 [(.var 0), (.var 7), (.op .idx [(.var 4), (.op (.bop .add) [(.var 5), (.lit (.int 1))])])]) (.one 7) .plain [(.op .idx [(.var 4), (.var 5)])] [])]))) [.ret (.lit (.bl false))] []], .ret (.op (.bi .all) [(.comp (.op (.cmp .eq) [(.call 51 [(.var 0), (.var 1), (.var 7), (.var 3)]), (.lit (.str "good"))]) (.one 7) .plain [(.op .idx [(.var 4), (.op .neg [(.lit (.int 1))])])] [])])]⟩
def p_is_item : Def := ⟨3, 6, [.ifs (.or [(.not (.val (.op (.isi [.tuple]) [(.var 2)]))), (.val (.op (.cmp .ne) [(.op (.bi .len) [(.var 2)]), (.lit (.int 3))]))]) [.ret (.lit (.bl false))] [], .setT [3, 4, 5] (.var 2), .ifs (.or [(.not (.val (.call 3 [(.var 3), (.fld (.fld (.var 0) 12) 5)]))), (.not (.val (.call 15 [(.var 1), (.var 3)])))]) [.ret (.lit (.bl false))] [], .ret (.and [(.call 34 [(.var 4), (.var 3), (.fld (.fld (.var 0) 12) 5)]), (.call 93 [(.var 0), (.var 3), (.var 5)])])]⟩
def p_is_paper : Def := ⟨4, 9, [.ex (.call 33 [(.var 0)]), .ex (.call 11 [(.var 1), (.fld (.var 0) 12)]), .ex (.call 42 [(.var 3)]), .ifs (.or [(.not (.val (.op (.isi [.tuple]) [(.var 2)]))), (.not (.val (.op (.bi .all) [(.comp (.call 96 [(.var 0), (.var 1), (.var 5)]) (.one 5) .plain [(.var 2)] [])])))]) [.ret (.lit (.bl false))] [], .set 4 true (.op (.bi .sorted) [(.comp (.tup [(.op (.bi .len) [(.op .idx [(.var 5), (.lit (.int 0))])]), (.op .idx [(.var 5), (.lit (.int 0))]), (.op (.bi .str) [(.op .idx [(.var 5), (.lit (.int 1))])])]) (.one 5) .plain [(.var 2)] [])]), .ifs (.val (.op (.cmp .ne) [(.var 4), (.op (.bi .sorted) [(.comp (.tup [(.op (.bi .len) [(.var 6)]), (.var 6), (.op (.bi .str) [(.var 7)])]) (.many [6, 7]) .plain [(.call 83 [(.var 0), (.var 1)])] [])])])) [.ret (.lit (.bl false))] [], .ret (.op (.bi .all) [(.comp (.call 95 [(.var 0), (.var 7), (.var 8), (.var 3)]) (.many [6, 7, 8]) .plain [(.var 2)] [])])]⟩
def p_Live_init : Def := ⟨4, 4, [.ex (.call 33 [(.var 1)]), .ex (.call 12 [(.var 2), (.fld (.var 1) 12)]), .ex (.call 35 [(.var 3), (.var 2), (.fld (.fld (.var 1) 12) 5)]), .sfld 0 16 (.var 1), .sfld 0 17 (.var 2), .sfld 0 18 (.var 3), .sfld 0 22 (.lst [(.call 43 [(.var 1), (.var 3)])]), .sfld 0 23 (.lst [])]⟩
def p_Live_row : Def := ⟨1, 1, [.ret (.op .idx [(.fld (.var 0) 22), (.op .neg [(.lit (.int 1))])])]⟩
def p_Live_len : Def := ⟨1, 1, [.ret (.op (.bi .len) [(.fld (.var 0) 23)])]⟩
def p_Live_heard : Def := ⟨2, 5, [.ifs (.or [(.not (.val (.call 1 [(.var 1), (.fld (.fld (.fld (.var 0) 16) 12) 5)]))), (.val (.op (.cmp .inn) [(.var 1), (.fld (.var 0) 17)]))]) [.rais 1 [(.var 1)]] [], .set 2 false (.lst []), .fors (.many [3, 4]) .zip [(.fld (.var 0) 22), (.fld (.var 0) 23)] [.app (.var 2) (.call 45 [(.fld (.var 0) 16), (.var 3), (.fld (.var 0) 17), (.var 4), (.var 1)])], .frz 2, .ret (.op (.bi .tuple) [(.var 2)])]⟩
def p_Live_step : Def := ⟨2, 2, [.ifs (.not (.val (.call 36 [(.fld (.var 0) 16), (.fld (.var 0) 17), (.var 1)]))) [.rais 10 [(.lit .non)]] [], .ifs (.val (.op (.cmp .eq) [(.op (.bi .len) [(.fld (.var 0) 23)]), (.fld (.fld (.var 0) 16) 14)])) [.rais 17 []] [], .app (.fld 0 22) (.call 46 [(.fld (.var 0) 16), (.op .idx [(.fld (.var 0) 22), (.op .neg [(.lit (.int 1))])]), (.fld (.var 0) 17), (.var 1)]), .app (.fld 0 23) (.var 1), .ret (.op .idx [(.fld (.var 0) 22), (.op .neg [(.lit (.int 1))])])]⟩
def p_Live_back : Def := ⟨1, 1, [.ifs (.val (.op (.cmp .eq) [(.fld (.var 0) 23), (.lst [])])) [.rais 18 []] [], .pop (.fld 0 22), .retPop (.fld 0 23)]⟩
def p_Live_attack : Def := ⟨1, 4, [.set 1 true (.op (.bi .tuple) [(.comp (.op (.bop .mul) [(.tup [(.lit (.int 0))]), (.op (.bi .len) [(.op .idx [(.fld (.fld (.var 0) 16) 11), (.var 3)])])]) (.one 3) .plain [(.fld (.var 0) 17)] [])]), .set 2 true (.op (.bop .add) [(.fld (.var 0) 23), (.op (.bop .mul) [(.lst [(.var 1)]), (.op (.bop .sub) [(.fld (.fld (.var 0) 16) 14), (.op (.bi .len) [(.fld (.var 0) 23)])])])]), .ret (.call 1003 [(.fld (.var 0) 16), (.fld (.var 0) 17), (.fld (.var 0) 18), (.var 2)])]⟩
def progList : List Def := [p_is_count, p_is_below, p_require_count, p_is_rising, p_is_link, p_checked_links, p_Net_init, p_Net_eq, p_Net_ends, p_Net_neighbours, p_require_net, p_require_lots, p_require_liars, p_choices, p_at_most, p_is_let, p_may_lie, p_is_row, p_power, p_is_counts, p_checked_list, p_checked_sends, p_checked_hears, p_checked_decides, p_Program_init, p_Program_tables, p_Program_eq, p_Program_behind, p_Program_is_fit, p_System_init, p_System_parts, p_System_eq, p_System_port_to, p_require_system, p_is_begins, p_require_begins, p_is_messages, p_checked_rounds, p_Attack_init, p_Attack_parts, p_Attack_eq, p_require_attack, p_require_promise, p_start_of, p_spoken, p_heard_by, p_row_behind, p_rows_of, p_walked, p_decided_in, p_decided, p_judged_row, p_verdict, p_is_tie, p_checked_raised, p_require_numbers, p_Cover_init, p_Cover_start, p_Cover_copy_at, p_Cover_said, p_Cover_behind, p_Cover_messages, p_Cover_attack, p_copied, p_is_choice, p_cut, p_are_all, p_are_apart, p_is_right, p_is_parted, p_is_parting, p_raised_steps, p_chosen_copies, p_windows_of, p_strong_windows, p_first_bad, p_strong_attack, p_weak_attack, p_broken, p_subsets, p_rows_over, p_sets_that_may_lie, p_begins_of, p_cases_of, p_spoken_to, p_states_behind, p_choices_behind, p_lists_of, p_messages_to, p_said_by, p_attack_to, p_judged, p_is_state_row, p_is_lists, p_goes_on, p_are_good_lists, p_is_item, p_is_paper, p_Live_init, p_Live_row, p_Live_len, p_Live_heard, p_Live_step, p_Live_back, p_Live_attack]
def pInit : Nat → Option Nat
  | 0 => some 6
  | 1 => some 24
  | 2 => some 29
  | 3 => some 38
  | 4 => some 56
  | 5 => some 98
  | _ => none
def pMeth : Nat → Nat → Option Nat
  | 0, 0 => some 8
  | 0, 1 => some 9
  | 0, 17 => some 7
  | 1, 2 => some 25
  | 1, 3 => some 27
  | 1, 4 => some 28
  | 1, 17 => some 26
  | 2, 5 => some 30
  | 2, 6 => some 32
  | 2, 17 => some 31
  | 3, 5 => some 39
  | 3, 17 => some 40
  | 4, 3 => some 60
  | 4, 7 => some 57
  | 4, 8 => some 58
  | 4, 9 => some 59
  | 4, 10 => some 61
  | 4, 11 => some 62
  | 5, 11 => some 104
  | 5, 12 => some 99
  | 5, 13 => some 101
  | 5, 14 => some 102
  | 5, 15 => some 103
  | 5, 16 => some 100
  | _, _ => none
def pExcF : Nat → List Nat
  | 1 => [0]
  | 2 => [1]
  | 3 => [0]
  | 4 => [1]
  | 5 => [2, 1]
  | 6 => [1]
  | 7 => [0]
  | 8 => [0]
  | 9 => [0]
  | 10 => [1]
  | 11 => [0]
  | 12 => [0]
  | 13 => [1]
  | 14 => [0]
  | 15 => [3, 4]
  | 16 => [0]
  | _ => []
def pCls : Cls := ⟨pInit, pExcF, pMeth⟩
end EV

set_option Elab.async false
set_option linter.all false
set_option maxRecDepth 100000
/-! EV2: what the values of EV stand for in the abstract heap. -/
namespace EV
open PySem PySem.Spec PyProof.Rows L2

/-- the names of the classes, of the fields -/
structure Nm where
  cls : Nat → Str
  fld : Nat → Str
  fn : Nat → Str
  met : Nat → Str
  exc : Nat → Str
  cs : List Nat
  fs : List Nat
  tys : List Ty
  xs : List Nat
/-- what is frozen, lent; where the stored objects stand -/
structure Wd where
  F : Addr → Prop
  L : Addr → Prop
  M : List Addr
def Wd.seen (W : Wd) (f : Bool) (a : Addr) : Prop := if f = true then W.L a else W.F a
mutual
def toKey : PV → Option NestedKey
  | .non => some .none
  | .bl b => some (.num (if b then 1 else 0))
  | .int i => some (.num i)
  | .str s => some (.text s)
  | .tup xs => (toKeys xs).map .tup
  | _ => none
def toKeys : List PV → Option (List NestedKey)
  | [] => some []
  | x :: xs => match toKey x, toKeys xs with
    | some k, some ks => some (k :: ks)
    | _, _ => none
end
/-- a list of the written part -/
def KL (K : PySem.W.Frag) (a : Addr) (xs : List V) : Prop :=
  ∃ (o : Obj) (its : Array Value) (n : Nat), K.lookup a = some o ∧ o.cls = .type "list" ∧ o.dict = none ∧ o.data = .seq its n ∧ its.size ≤ sizeLine ∧ Vals xs its.toList
/-- a dict with tuples as keys, by its entries -/
def dctO (P : Program) (w : World) (a : Addr) (xs : List (NestedKey × Addr × Value)) : HO :=
  .ext fun h => ∃ o es ep, h.get? a = some o ∧ o.ExactDict ∧ o.data = .dict es ep ∧ es.toList = xs.map (entryOfKey (nestedKind P w)) ∧ (xs.map (·.1)).Nodup ∧ (a == sysModules) = false ∧ xs.length ≤ sizeLine
def ca (K : PySem.W.Frag) (nm : Nm) (c : Nat) : Addr := He.ga K (nm.cls c)
section
variable (P : Program) (w : World) (K : PySem.W.Frag) (nm : Nm)
mutual
def Rep (W : Wd) (H : Hp) : PV → V → Prop
  | .non, v => v = .non
  | .bl b, v => v = .bl b
  | .int i, v => v = .int i
  | .str s, v => v = .str s
  | .tup xs, v => ∃ a vs, v = .ref a ∧ H a = some (.tup vs) ∧ Reps W H xs vs
  | .lst f xs, v => ∃ a vs, v = .ref a ∧ W.seen f a ∧ H a = some (.lst vs) ∧ Reps W H xs vs
  | .dct f ks vs, v => ∃ a, v = .ref a ∧ W.seen f a ∧
      ((∃ xs vvs, H a = some (dctO P w a xs) ∧ toKeys ks = some (xs.map (·.1)) ∧ (∀ x ∈ xs, x.1.depth ≤ 8) ∧ Reps W H ks (xs.map fun x => .ref x.2.1) ∧ Reps W H vs vvs ∧ Vals vvs (xs.map (·.2.2)))
       ∨ (∃ kvs : List (Key × V), kvs ≠ [] ∧ H a = some (.dK kvs) ∧ Reps W H ks (kvs.map fun q => kV q.1) ∧ Reps W H vs (kvs.map (·.2))))
  | .ins f c ns vs, v => ∃ a dx fs, v = .ref a ∧ W.seen f a ∧ H a = some (.ins (ca K nm c) dx fs) ∧ (c ∈ nm.cs ∧ (∀ n ∈ ns, n ∈ nm.fs) ∧ fs.map (·.1) = ns.map nm.fld) ∧ Reps W H vs (fs.map (·.2))
  | .ref k, v => ∃ a, W.M[k]? = some a ∧ v = .ref a
  | .exc _ _ _, _ => False
  | .scr is, v => ∃ a, v = .ref a ∧ ((∃ o, H a = some (.frz o (.lst (is.map V.int)))) ∨ KL K a (is.map V.int))
def Reps (W : Wd) (H : Hp) : List PV → List V → Prop
  | [], vs => vs = []
  | x :: xs, vs => ∃ v r, vs = v :: r ∧ Rep W H x v ∧ Reps W H xs r
end
/-- the dict at a holds ks, vs -/
def DictAt (W : Wd) (H : Hp) (a : Addr) (ks vs : List PV) : Prop :=
  (∃ xs vvs, H a = some (dctO P w a xs) ∧ toKeys ks = some (xs.map (·.1)) ∧ (∀ x ∈ xs, x.1.depth ≤ 8) ∧ Reps P w K nm W H ks (xs.map fun x => .ref x.2.1) ∧ Reps P w K nm W H vs vvs ∧ Vals vvs (xs.map (·.2.2)))
   ∨ (∃ kvs : List (Key × V), kvs ≠ [] ∧ H a = some (.dK kvs) ∧ Reps P w K nm W H ks (kvs.map fun q => kV q.1) ∧ Reps P w K nm W H vs (kvs.map (·.2)))
mutual
def RepO (W : Wd) (H : Hp) : OV → V → List Addr → Prop
  | .sh x, v, A => A = [] ∧ Rep P w K nm W H x v
  | .ol xs, v, A => ∃ a vs, v = .ref a ∧ A = [a] ∧ H a = some (.lst vs) ∧ Reps P w K nm W H xs vs
  | .od ks vs, v, A => ∃ a, v = .ref a ∧ A = [a] ∧ DictAt P w K nm W H a ks vs
  | .oi c ns vs, v, A => ∃ a dx fs B, v = .ref a ∧ A = a :: B ∧ H a = some (.ins (ca K nm c) dx fs) ∧ (c ∈ nm.cs ∧ (∀ n ∈ ns, n ∈ nm.fs) ∧ fs.map (·.1) = ns.map nm.fld) ∧ RepOs W H vs (fs.map (·.2)) B
def RepOs (W : Wd) (H : Hp) : List OV → List V → List Addr → Prop
  | [], vs, A => vs = [] ∧ A = []
  | x :: xs, vs, A => ∃ v r A1 A2, vs = v :: r ∧ A = A1 ++ A2 ∧ RepO W H x v A1 ∧ RepOs W H xs r A2
end
end

/-- the frozen, the lent, the tuples stay -/
structure Kp (W W' : Wd) (H H' : Hp) : Prop where
  F : ∀ a, W.F a → W'.F a
  L : ∀ a, W.L a → W'.L a
  M : ∀ (k : Nat) a, W.M[k]? = some a → W'.M[k]? = some a
  tup : ∀ a xs, H a = some (.tup xs) → H' a = some (.tup xs)
  frz : ∀ a o u, H a = some (.frz o u) → H' a = some (.frz o u)
  see : ∀ a o, (W.F a ∨ W.L a) → H a = some o → H' a = some o

section
variable {P : Program} {w : World} {K : PySem.W.Frag} {nm : Nm} {W W' : Wd} {H H' : Hp}
theorem Wd.seen_or {f : Bool} {a : Addr} (h : W.seen f a) : W.F a ∨ W.L a := by
  unfold Wd.seen at h
  split at h
  · exact .inr h
  · exact .inl h
theorem Kp.seen (k : Kp W W' H H') {f : Bool} {a : Addr} (h : W.seen f a) : W'.seen f a := by
  unfold Wd.seen at h ⊢
  split
  · rename_i e
    rw [if_pos e] at h
    exact k.L a h
  · rename_i e
    rw [if_neg e] at h
    exact k.F a h
mutual
theorem Rep.keep (k : Kp W W' H H') : ∀ (x : PV) (v : V), Rep P w K nm W H x v → Rep P w K nm W' H' x v
  | .non, _, h => h
  | .bl _, _, h => h
  | .int _, _, h => h
  | .str _, _, h => h
  | .tup xs, v, h => by
    rw [Rep] at h ⊢
    obtain ⟨a, vs, e, ht, hr⟩ := h
    exact ⟨a, vs, e, k.tup _ _ ht, Reps.keep k xs vs hr⟩
  | .lst f xs, v, h => by
    rw [Rep] at h ⊢
    obtain ⟨a, vs, e, hs, ht, hr⟩ := h
    exact ⟨a, vs, e, k.seen hs, k.see a _ (Wd.seen_or hs) ht, Reps.keep k xs vs hr⟩
  | .dct f ks vs, v, h => by
    rw [Rep] at h ⊢
    obtain ⟨a, e, hs, h⟩ := h
    refine ⟨a, e, k.seen hs, ?_⟩
    rcases h with ⟨xs, vvs, h1, h2, h3, h4, h5, h6⟩ | ⟨kvs, hne, h1, h2, h3⟩
    · exact .inl ⟨xs, vvs, k.see a _ (Wd.seen_or hs) h1, h2, h3, Reps.keep k ks _ h4, Reps.keep k vs _ h5, h6⟩
    · exact .inr ⟨kvs, hne, k.see a _ (Wd.seen_or hs) h1, Reps.keep k ks _ h2, Reps.keep k vs _ h3⟩
  | .ins f c ns vs, v, h => by
    rw [Rep] at h ⊢
    obtain ⟨a, dx, fs, e, hs, h1, h2, h3⟩ := h
    exact ⟨a, dx, fs, e, k.seen hs, k.see a _ (Wd.seen_or hs) h1, h2, Reps.keep k vs _ h3⟩
  | .ref n, v, h => by
    rw [Rep] at h ⊢
    obtain ⟨a, h1, h2⟩ := h
    exact ⟨a, k.M n a h1, h2⟩
  | .exc _ _ _, _, h => by
    rw [Rep] at h
    exact h.elim
  | .scr is, v, h => by
    rw [Rep] at h ⊢
    obtain ⟨a, e, ⟨o, h⟩ | h⟩ := h
    · exact ⟨a, e, .inl ⟨o, k.frz a o _ h⟩⟩
    · exact ⟨a, e, .inr h⟩
theorem Reps.keep (k : Kp W W' H H') : ∀ (xs : List PV) (vs : List V), Reps P w K nm W H xs vs → Reps P w K nm W' H' xs vs
  | [], _, h => by
    rw [Reps] at h ⊢
    exact h
  | x :: xs, vs, h => by
    rw [Reps] at h ⊢
    obtain ⟨v, r, e, h1, h2⟩ := h
    exact ⟨v, r, e, Rep.keep k x v h1, Reps.keep k xs r h2⟩
end
theorem DictAt.keep (k : Kp W W' H H') {a : Addr} {ks vs : List PV} (he : ∀ o, H a = some o → H' a = some o) (h : DictAt P w K nm W H a ks vs) : DictAt P w K nm W' H' a ks vs := by
  rcases h with ⟨xs, vvs, h1, h2, h3, h4, h5, h6⟩ | ⟨kvs, hne, h1, h2, h3⟩
  · exact .inl ⟨xs, vvs, he _ h1, h2, h3, Reps.keep k ks _ h4, Reps.keep k vs _ h5, h6⟩
  · exact .inr ⟨kvs, hne, he _ h1, Reps.keep k ks _ h2, Reps.keep k vs _ h3⟩
mutual
theorem RepO.keep (k : Kp W W' H H') : ∀ (x : OV) (v : V) (A : List Addr), (∀ a ∈ A, ∀ o, H a = some o → H' a = some o) → RepO P w K nm W H x v A → RepO P w K nm W' H' x v A
  | .sh x, v, A, he, h => by
    rw [RepO] at h ⊢
    exact ⟨h.1, Rep.keep k x v h.2⟩
  | .ol xs, v, A, he, h => by
    rw [RepO] at h ⊢
    obtain ⟨a, vs, e, eA, h1, h2⟩ := h
    exact ⟨a, vs, e, eA, he a (by rw [eA]; simp) _ h1, Reps.keep k xs vs h2⟩
  | .od ks vs, v, A, he, h => by
    rw [RepO] at h ⊢
    obtain ⟨a, e, eA, h1⟩ := h
    exact ⟨a, e, eA, h1.keep k (he a (by rw [eA]; simp))⟩
  | .oi c ns vs, v, A, he, h => by
    rw [RepO] at h ⊢
    obtain ⟨a, dx, fs, B, e, eA, h1, h2, h3⟩ := h
    exact ⟨a, dx, fs, B, e, eA, he a (by rw [eA]; simp) _ h1, h2, RepOs.keep k vs _ B (fun b hb => he b (by rw [eA]; simp [hb])) h3⟩
theorem RepOs.keep (k : Kp W W' H H') : ∀ (xs : List OV) (vs : List V) (A : List Addr), (∀ a ∈ A, ∀ o, H a = some o → H' a = some o) → RepOs P w K nm W H xs vs A → RepOs P w K nm W' H' xs vs A
  | [], _, _, _, h => by
    rw [RepOs] at h ⊢
    exact h
  | x :: xs, vs, A, he, h => by
    rw [RepOs] at h ⊢
    obtain ⟨v, r, A1, A2, e, eA, h1, h2⟩ := h
    exact ⟨v, r, A1, A2, e, eA, RepO.keep k x v A1 (fun a ha => he a (by rw [eA]; simp [ha])) h1, RepOs.keep k xs r A2 (fun a ha => he a (by rw [eA]; simp [ha])) h2⟩
end
theorem Reps.length : ∀ {xs : List PV} {vs : List V}, Reps P w K nm W H xs vs → xs.length = vs.length
  | [], _, h => by
    rw [Reps] at h
    rw [h]
    rfl
  | x :: xs, vs, h => by
    rw [Reps] at h
    obtain ⟨v, r, e, _, h2⟩ := h
    rw [e, List.length_cons, List.length_cons, Reps.length h2]
theorem Reps.get : ∀ {xs : List PV} {vs : List V} {i : Nat} {x : PV}, Reps P w K nm W H xs vs → xs[i]? = some x → ∃ v, vs[i]? = some v ∧ Rep P w K nm W H x v
  | [], _, _, _, _, e => by simp at e
  | y :: ys, vs, i, x, h, e => by
    rw [Reps] at h
    obtain ⟨v, r, e1, h1, h2⟩ := h
    subst e1
    cases i with
    | zero =>
      simp at e
      subst e
      exact ⟨v, rfl, h1⟩
    | succ n =>
      obtain ⟨u, q1, q2⟩ := Reps.get (i := n) (x := x) h2 (by simpa using e)
      exact ⟨u, by simpa using q1, q2⟩
theorem Reps.getV : ∀ {xs : List PV} {vs : List V} {i : Nat} {v : V}, Reps P w K nm W H xs vs → vs[i]? = some v → ∃ x, xs[i]? = some x ∧ Rep P w K nm W H x v := fun {xs vs i v} h e => by
  have hl := h.length
  obtain ⟨hi, _⟩ := List.getElem?_eq_some_iff.mp e
  have hx : xs[i]? = some (xs[i]'(by omega)) := by simp [show i < xs.length by omega]
  obtain ⟨u, q1, q2⟩ := h.get hx
  rw [e] at q1
  cases q1
  exact ⟨_, hx, q2⟩
theorem Reps.append : ∀ {xs ys : List PV} {vs us : List V}, Reps P w K nm W H xs vs → Reps P w K nm W H ys us → Reps P w K nm W H (xs ++ ys) (vs ++ us)
  | [], ys, vs, us, h, q => by
    rw [Reps] at h
    rw [h]
    exact q
  | x :: xs, ys, vs, us, h, q => by
    rw [Reps] at h
    obtain ⟨v, r, e, h1, h2⟩ := h
    rw [e]
    show Reps P w K nm W H (x :: (xs ++ ys)) (v :: (r ++ us))
    rw [Reps]
    exact ⟨v, _, rfl, h1, Reps.append h2 q⟩
theorem Reps.nil : Reps P w K nm W H [] [] := by rw [Reps]
theorem Reps.cons {x : PV} {xs : List PV} {v : V} {vs : List V} (h : Rep P w K nm W H x v) (q : Reps P w K nm W H xs vs) : Reps P w K nm W H (x :: xs) (v :: vs) := by
  rw [Reps]
  exact ⟨v, vs, rfl, h, q⟩
theorem Reps.uncons {x : PV} {xs : List PV} {vs : List V} (h : Reps P w K nm W H (x :: xs) vs) : ∃ v r, vs = v :: r ∧ Rep P w K nm W H x v ∧ Reps P w K nm W H xs r := by
  rw [Reps] at h
  exact h
theorem Reps.nil_inv {vs : List V} (h : Reps P w K nm W H [] vs) : vs = [] := by
  rw [Reps] at h
  exact h
/-- by places -/
theorem Reps.of_get : ∀ {xs : List PV} {vs : List V}, xs.length = vs.length → (∀ (i : Nat) x v, xs[i]? = some x → vs[i]? = some v → Rep P w K nm W H x v) → Reps P w K nm W H xs vs
  | [], vs, hl, _ => by
    have : vs = [] := List.length_eq_zero_iff.mp hl.symm
    rw [this]
    exact Reps.nil
  | x :: xs, vs, hl, h => by
    cases vs with
    | nil => simp at hl
    | cons v r => exact Reps.cons (h 0 x v rfl rfl) (Reps.of_get (by simpa using hl) fun i y u e1 e2 => h (i + 1) y u (by simpa using e1) (by simpa using e2))
theorem Reps.take {xs : List PV} {vs : List V} (n : Nat) (h : Reps P w K nm W H xs vs) : Reps P w K nm W H (xs.take n) (vs.take n) := by
  refine Reps.of_get (by rw [List.length_take, List.length_take, h.length]) fun i x v e1 e2 => ?_
  rw [List.getElem?_take] at e1 e2
  split at e1
  · rename_i hi
    rw [if_pos hi] at e2
    obtain ⟨u, q1, q2⟩ := h.get e1
    rw [e2] at q1
    cases q1
    exact q2
  · cases e1
theorem Reps.drop {xs : List PV} {vs : List V} (n : Nat) (h : Reps P w K nm W H xs vs) : Reps P w K nm W H (xs.drop n) (vs.drop n) := by
  refine Reps.of_get (by rw [List.length_drop, List.length_drop, h.length]) fun i x v e1 e2 => ?_
  rw [List.getElem?_drop] at e1 e2
  obtain ⟨u, q1, q2⟩ := h.get e1
  rw [e2] at q1
  cases q1
  exact q2
theorem Reps.reverse {xs : List PV} {vs : List V} (h : Reps P w K nm W H xs vs) : Reps P w K nm W H xs.reverse vs.reverse := by
  have hl := h.length
  refine Reps.of_get (by simpa using hl) fun i x v e1 e2 => ?_
  have hi : i < xs.length := by
    have := (List.getElem?_eq_some_iff.mp e1).1
    simpa using this
  rw [List.getElem?_reverse hi] at e1
  rw [List.getElem?_reverse (by omega)] at e2
  rw [← hl] at e2
  obtain ⟨u, q1, q2⟩ := h.get e1
  rw [e2] at q1
  cases q1
  exact q2
theorem Reps.set {xs : List PV} {vs : List V} {x : PV} {v : V} (n : Nat) (h : Reps P w K nm W H xs vs) (q : Rep P w K nm W H x v) : Reps P w K nm W H (xs.set n x) (vs.set n v) := by
  have hl := h.length
  refine Reps.of_get (by simpa using hl) fun i y u e1 e2 => ?_
  rw [List.getElem?_set] at e1 e2
  by_cases hn : n = i
  · subst hn
    rw [if_pos rfl] at e1 e2
    split at e1
    · rename_i hlt
      rw [if_pos (by omega)] at e2
      cases e1; cases e2
      exact q
    · cases e1
  · rw [if_neg hn] at e1 e2
    obtain ⟨u', q1, q2⟩ := h.get e1
    rw [e2] at q1
    cases q1
    exact q2
theorem Reps.map_int (is : List Int) : Reps P w K nm W H (is.map PV.int) (is.map V.int) := by
  refine Reps.of_get (by simp) fun i x v e1 e2 => ?_
  rw [List.getElem?_map] at e1 e2
  cases e : is[i]? with
  | none => rw [e] at e1; cases e1
  | some j =>
    rw [e] at e1 e2
    cases e1; cases e2
    rfl
end

/-! ### frozen, lent -/
def Wd.fz (W : Wd) (A : List Addr) : Wd := ⟨fun a => W.F a ∨ a ∈ A, W.L, W.M⟩
def Wd.ln (W : Wd) (A : List Addr) : Wd := ⟨W.F, fun a => W.L a ∨ a ∈ A, W.M⟩
section
variable {P : Program} {w : World} {K : PySem.W.Frag} {nm : Nm} {W W' : Wd} {H H' : Hp}
theorem Kp.wd (hF : ∀ a, W.F a → W'.F a) (hL : ∀ a, W.L a → W'.L a) (hM : ∀ (k : Nat) a, W.M[k]? = some a → W'.M[k]? = some a) : Kp W W' H H := ⟨hF, hL, hM, fun _ _ h => h, fun _ _ _ h => h, fun _ _ _ h => h⟩
theorem Kp.refl : Kp W W H H := Kp.wd (fun _ h => h) (fun _ h => h) fun _ _ h => h
theorem Kp.to_fz (A : List Addr) : Kp W (W.fz A) H H := Kp.wd (fun _ h => .inl h) (fun _ h => h) fun _ _ h => h
theorem Kp.to_ln (A : List Addr) : Kp W (W.ln A) H H := Kp.wd (fun _ h => h) (fun _ h => .inl h) fun _ _ h => h
mutual
theorem RepO.freeze : ∀ (x : OV) (v : V) (A : List Addr), (∀ a, W.F a → W'.F a) → (∀ a, W.L a → W'.L a) → (∀ (k : Nat) a, W.M[k]? = some a → W'.M[k]? = some a) → (∀ a ∈ A, W'.F a) → RepO P w K nm W H x v A → Rep P w K nm W' H x.freeze v
  | .sh x, v, A, h1, h2, h3, hA, h => by
    rw [RepO] at h
    rw [OV.freeze]
    exact Rep.keep (Kp.wd h1 h2 h3) x v h.2
  | .ol xs, v, A, h1, h2, h3, hA, h => by
    rw [RepO] at h
    obtain ⟨a, vs, e, eA, q1, q2⟩ := h
    rw [OV.freeze, Rep]
    exact ⟨a, vs, e, hA a (by rw [eA]; simp), q1, Reps.keep (Kp.wd h1 h2 h3) xs vs q2⟩
  | .od ks vs, v, A, h1, h2, h3, hA, h => by
    rw [RepO] at h
    obtain ⟨a, e, eA, q⟩ := h
    rw [OV.freeze, Rep]
    exact ⟨a, e, hA a (by rw [eA]; simp), q.keep (Kp.wd h1 h2 h3) fun _ h => h⟩
  | .oi c ns vs, v, A, h1, h2, h3, hA, h => by
    rw [RepO] at h
    obtain ⟨a, dx, fs, B, e, eA, q1, q2, q3⟩ := h
    rw [OV.freeze, Rep]
    exact ⟨a, dx, fs, e, hA a (by rw [eA]; simp), q1, q2, RepOs.freeze vs _ B h1 h2 h3 (fun b hb => hA b (by rw [eA]; simp [hb])) q3⟩
theorem RepOs.freeze : ∀ (xs : List OV) (vs : List V) (A : List Addr), (∀ a, W.F a → W'.F a) → (∀ a, W.L a → W'.L a) → (∀ (k : Nat) a, W.M[k]? = some a → W'.M[k]? = some a) → (∀ a ∈ A, W'.F a) → RepOs P w K nm W H xs vs A → Reps P w K nm W' H (OV.freezes xs) vs
  | [], vs, A, _, _, _, _, h => by
    rw [RepOs] at h
    rw [OV.freezes, h.1]
    exact Reps.nil
  | x :: xs, vs, A, h1, h2, h3, hA, h => by
    rw [RepOs] at h
    obtain ⟨v, r, A1, A2, e, eA, q1, q2⟩ := h
    rw [OV.freezes, e]
    exact Reps.cons (RepO.freeze x v A1 h1 h2 h3 (fun a ha => hA a (by rw [eA]; simp [ha])) q1) (RepOs.freeze xs r A2 h1 h2 h3 (fun a ha => hA a (by rw [eA]; simp [ha])) q2)
end
mutual
theorem RepO.lend : ∀ (x : OV) (v : V) (A : List Addr), (∀ a, W.F a → W'.F a) → (∀ a, W.L a → W'.L a) → (∀ (k : Nat) a, W.M[k]? = some a → W'.M[k]? = some a) → (∀ a ∈ A, W'.L a) → RepO P w K nm W H x v A → Rep P w K nm W' H x.lend v
  | .sh x, v, A, h1, h2, h3, hA, h => by
    rw [RepO] at h
    rw [OV.lend]
    exact Rep.keep (Kp.wd h1 h2 h3) x v h.2
  | .ol xs, v, A, h1, h2, h3, hA, h => by
    rw [RepO] at h
    obtain ⟨a, vs, e, eA, q1, q2⟩ := h
    rw [OV.lend, Rep]
    exact ⟨a, vs, e, hA a (by rw [eA]; simp), q1, Reps.keep (Kp.wd h1 h2 h3) xs vs q2⟩
  | .od ks vs, v, A, h1, h2, h3, hA, h => by
    rw [RepO] at h
    obtain ⟨a, e, eA, q⟩ := h
    rw [OV.lend, Rep]
    exact ⟨a, e, hA a (by rw [eA]; simp), q.keep (Kp.wd h1 h2 h3) fun _ h => h⟩
  | .oi c ns vs, v, A, h1, h2, h3, hA, h => by
    rw [RepO] at h
    obtain ⟨a, dx, fs, B, e, eA, q1, q2, q3⟩ := h
    rw [OV.lend, Rep]
    exact ⟨a, dx, fs, e, hA a (by rw [eA]; simp), q1, q2, RepOs.lend vs _ B h1 h2 h3 (fun b hb => hA b (by rw [eA]; simp [hb])) q3⟩
theorem RepOs.lend : ∀ (xs : List OV) (vs : List V) (A : List Addr), (∀ a, W.F a → W'.F a) → (∀ a, W.L a → W'.L a) → (∀ (k : Nat) a, W.M[k]? = some a → W'.M[k]? = some a) → (∀ a ∈ A, W'.L a) → RepOs P w K nm W H xs vs A → Reps P w K nm W' H (OV.lends xs) vs
  | [], vs, A, _, _, _, _, h => by
    rw [RepOs] at h
    rw [OV.lends, h.1]
    exact Reps.nil
  | x :: xs, vs, A, h1, h2, h3, hA, h => by
    rw [RepOs] at h
    obtain ⟨v, r, A1, A2, e, eA, q1, q2⟩ := h
    rw [OV.lends, e]
    exact Reps.cons (RepO.lend x v A1 h1 h2 h3 (fun a ha => hA a (by rw [eA]; simp [ha])) q1) (RepOs.lend xs r A2 h1 h2 h3 (fun a ha => hA a (by rw [eA]; simp [ha])) q2)
end
-- a value in which nothing is lent leans on nothing lent
mutual
theorem Rep.clean (hF : ∀ a, W.F a → W'.F a) (hM : W'.M = W.M) : ∀ (x : PV) (v : V), x.clean = true → Rep P w K nm W H x v → Rep P w K nm W' H x v
  | .non, _, _, h => h
  | .bl _, _, _, h => h
  | .int _, _, _, h => h
  | .str _, _, _, h => h
  | .tup xs, v, c, h => by
    rw [Rep] at h ⊢
    rw [PV.clean] at c
    obtain ⟨a, vs, e, ht, hr⟩ := h
    exact ⟨a, vs, e, ht, Reps.clean hF hM xs vs c hr⟩
  | .lst f xs, v, c, h => by
    rw [Rep] at h ⊢
    rw [PV.clean, Bool.and_eq_true] at c
    obtain ⟨a, vs, e, hs, ht, hr⟩ := h
    have ef : f = false := by simpa using c.1
    subst ef
    exact ⟨a, vs, e, hF a hs, ht, Reps.clean hF hM xs vs c.2 hr⟩
  | .dct f ks vs, v, c, h => by
    rw [Rep] at h ⊢
    rw [PV.clean, Bool.and_eq_true, Bool.and_eq_true] at c
    obtain ⟨a, e, hs, h⟩ := h
    have ef : f = false := by simpa using c.1
    subst ef
    refine ⟨a, e, hF a hs, ?_⟩
    rcases h with ⟨xs, vvs, h1, h2, h3, h4, h5, h6⟩ | ⟨kvs, hne, h1, h2, h3⟩
    · exact .inl ⟨xs, vvs, h1, h2, h3, Reps.clean hF hM ks _ c.2.1 h4, Reps.clean hF hM vs _ c.2.2 h5, h6⟩
    · exact .inr ⟨kvs, hne, h1, Reps.clean hF hM ks _ c.2.1 h2, Reps.clean hF hM vs _ c.2.2 h3⟩
  | .ins f c ns vs, v, cc, h => by
    rw [Rep] at h ⊢
    rw [PV.clean, Bool.and_eq_true] at cc
    obtain ⟨a, dx, fs, e, hs, h1, h2, h3⟩ := h
    have ef : f = false := by simpa using cc.1
    subst ef
    exact ⟨a, dx, fs, e, hF a hs, h1, h2, Reps.clean hF hM vs _ cc.2 h3⟩
  | .ref n, v, _, h => by
    rw [Rep] at h ⊢
    obtain ⟨a, h1, h2⟩ := h
    exact ⟨a, by rw [hM]; exact h1, h2⟩
  | .exc _ _ _, _, _, h => by
    rw [Rep] at h
    exact h.elim
  | .scr is, v, _, h => by
    rw [Rep] at h ⊢
    exact h
theorem Reps.clean (hF : ∀ a, W.F a → W'.F a) (hM : W'.M = W.M) : ∀ (xs : List PV) (vs : List V), PV.cleans xs = true → Reps P w K nm W H xs vs → Reps P w K nm W' H xs vs
  | [], _, _, h => by
    rw [Reps] at h ⊢
    exact h
  | x :: xs, vs, c, h => by
    rw [Reps] at h ⊢
    rw [PV.cleans, Bool.and_eq_true] at c
    obtain ⟨v, r, e, h1, h2⟩ := h
    exact ⟨v, r, e, Rep.clean hF hM x v c.1 h1, Reps.clean hF hM xs r c.2 h2⟩
end
mutual
theorem RepO.clean (hF : ∀ a, W.F a → W'.F a) (hM : W'.M = W.M) : ∀ (x : OV) (v : V) (A : List Addr), x.clean = true → RepO P w K nm W H x v A → RepO P w K nm W' H x v A
  | .sh x, v, A, c, h => by
    rw [RepO] at h ⊢
    rw [OV.clean] at c
    exact ⟨h.1, Rep.clean hF hM x v c h.2⟩
  | .ol xs, v, A, c, h => by
    rw [RepO] at h ⊢
    rw [OV.clean] at c
    obtain ⟨a, vs, e, eA, h1, h2⟩ := h
    exact ⟨a, vs, e, eA, h1, Reps.clean hF hM xs vs c h2⟩
  | .od ks vs, v, A, c, h => by
    rw [RepO] at h ⊢
    rw [OV.clean, Bool.and_eq_true] at c
    obtain ⟨a, e, eA, h⟩ := h
    refine ⟨a, e, eA, ?_⟩
    rcases h with ⟨xs, vvs, h1, h2, h3, h4, h5, h6⟩ | ⟨kvs, hne, h1, h2, h3⟩
    · exact .inl ⟨xs, vvs, h1, h2, h3, Reps.clean hF hM ks _ c.1 h4, Reps.clean hF hM vs _ c.2 h5, h6⟩
    · exact .inr ⟨kvs, hne, h1, Reps.clean hF hM ks _ c.1 h2, Reps.clean hF hM vs _ c.2 h3⟩
  | .oi c ns vs, v, A, cc, h => by
    rw [RepO] at h ⊢
    rw [OV.clean] at cc
    obtain ⟨a, dx, fs, B, e, eA, h1, h2, h3⟩ := h
    exact ⟨a, dx, fs, B, e, eA, h1, h2, RepOs.clean hF hM vs _ B cc h3⟩
theorem RepOs.clean (hF : ∀ a, W.F a → W'.F a) (hM : W'.M = W.M) : ∀ (xs : List OV) (vs : List V) (A : List Addr), OV.cleans xs = true → RepOs P w K nm W H xs vs A → RepOs P w K nm W' H xs vs A
  | [], _, _, _, h => by
    rw [RepOs] at h ⊢
    exact h
  | x :: xs, vs, A, c, h => by
    rw [RepOs] at h ⊢
    rw [OV.cleans, Bool.and_eq_true] at c
    obtain ⟨v, r, A1, A2, e, eA, h1, h2⟩ := h
    exact ⟨v, r, A1, A2, e, eA, RepO.clean hF hM x v A1 c.1 h1, RepOs.clean hF hM xs r A2 c.2 h2⟩
end
-- one's own objects are tracked, and none of them is a tuple
mutual
theorem RepO.there : ∀ (x : OV) (v : V) (A : List Addr), RepO P w K nm W H x v A → ∀ a ∈ A, ∃ o, H a = some o ∧ Mut (some o)
  | .sh x, v, A, h => by
    rw [RepO] at h
    intro a ha
    rw [h.1] at ha
    cases ha
  | .ol xs, v, A, h => by
    rw [RepO] at h
    obtain ⟨a, vs, e, eA, h1, h2⟩ := h
    intro b hb
    rw [eA] at hb
    have eb : b = a := by simpa using hb
    subst eb
    exact ⟨_, h1, trivial⟩
  | .od ks vs, v, A, h => by
    rw [RepO] at h
    obtain ⟨a, e, eA, h1⟩ := h
    intro b hb
    rw [eA] at hb
    have eb : b = a := by simpa using hb
    subst eb
    rcases h1 with ⟨xs, vvs, h1, _⟩ | ⟨kvs, _, h1, _⟩
    · exact ⟨_, h1, trivial⟩
    · exact ⟨_, h1, trivial⟩
  | .oi c ns vs, v, A, h => by
    rw [RepO] at h
    obtain ⟨a, dx, fs, B, e, eA, h1, h2, h3⟩ := h
    intro b hb
    rw [eA] at hb
    rcases List.mem_cons.mp hb with eb | hb
    · subst eb
      exact ⟨_, h1, trivial⟩
    · exact RepOs.there vs _ B h3 b hb
theorem RepOs.there : ∀ (xs : List OV) (vs : List V) (A : List Addr), RepOs P w K nm W H xs vs A → ∀ a ∈ A, ∃ o, H a = some o ∧ Mut (some o)
  | [], _, A, h => by
    rw [RepOs] at h
    intro a ha
    rw [h.2] at ha
    cases ha
  | x :: xs, vs, A, h => by
    rw [RepOs] at h
    obtain ⟨v, r, A1, A2, e, eA, h1, h2⟩ := h
    intro a ha
    rw [eA] at ha
    rcases List.mem_append.mp ha with q | q
    · exact RepO.there x v A1 h1 a q
    · exact RepOs.there xs r A2 h2 a q
end
end
end EV

set_option Elab.async false
set_option linter.all false
set_option maxRecDepth 100000
/-! EV3: the state of a def's run; what an expression's run comes to. -/
namespace EV
open PySem PySem.Spec PyProof.Rows L2

section
variable (P : Program) (w : World) (K : PySem.W.Frag) (nm : Nm)
def SlotR (W : Wd) (H : Hp) : Option OV → Option V → List Addr → Prop
  | none, _, A => A = []
  | some o, some v, A => RepO P w K nm W H o v A
  | some _, none, _ => False
def EnvR (W : Wd) (H : Hp) : Env → L2.St → List Addr → Prop
  | [], σ, A => σ = [] ∧ A = []
  | o :: env, σ, A => ∃ x r A1 A2, σ = x :: r ∧ A = A1 ++ A2 ∧ SlotR P w K nm W H o x A1 ∧ EnvR W H env r A2
def StR (W : Wd) (H : Hp) : St → List Addr → List Addr → Prop
  | [], M, A => M = [] ∧ A = []
  | o :: st, M, A => ∃ a r A1 A2, M = a :: r ∧ A = A1 ++ A2 ∧ RepO P w K nm W H o (.ref a) A1 ∧ o.own = true ∧ StR W H st r A2
end
/-- from W0, H0, the stored objects at A0, to W, H, A -/
structure Ent (W0 : Wd) (H0 : Hp) (A0 : List Addr) (W : Wd) (H : Hp) (A : List Addr) : Prop where
  F : ∀ a, W0.F a → W.F a
  L : W.L = W0.L
  M : ∀ (k : Nat) a, W0.M[k]? = some a → W.M[k]? = some a
  keep : ∀ a o, H0 a = some o → a ∉ A0 → H a = some o
  live : ∀ a, H0 a ≠ none → H a ≠ none
  fr : ∀ a, W.F a → W0.F a ∨ H0 a = none
  st : ∀ a ∈ A, a ∈ A0 ∨ H0 a = none
theorem Ent.refl {W : Wd} {H : Hp} {A : List Addr} : Ent W H A W H A := ⟨fun _ h => h, rfl, fun _ _ h => h, fun _ _ h _ => h, fun _ h => h, fun _ h => .inl h, fun _ h => .inl h⟩
theorem Ent.trans {W0 W1 W2 : Wd} {H0 H1 H2 : Hp} {A0 A1 A2 : List Addr} (x : Ent W0 H0 A0 W1 H1 A1) (y : Ent W1 H1 A1 W2 H2 A2) : Ent W0 H0 A0 W2 H2 A2 where
  F := fun a h => y.F a (x.F a h)
  L := y.L.trans x.L
  M := fun k a h => y.M k a (x.M k a h)
  keep := fun a o h n => y.keep a o (x.keep a o h n) fun q => by
    rcases x.st a q with z | z
    · exact n z
    · rw [z] at h; cases h
  live := fun a h => y.live a (x.live a h)
  fr := fun a h => by
    rcases y.fr a h with z | z
    · exact x.fr a z
    · right
      cases e : H0 a with
      | none => rfl
      | some o => exact absurd z (x.live a (by rw [e]; simp))
  st := fun a h => by
    rcases y.st a h with z | z
    · exact x.st a z
    · right
      cases e : H0 a with
      | none => rfl
      | some o => exact absurd z (x.live a (by rw [e]; simp))
/-- the heap grows by new objects -/
theorem Ent.grow {W : Wd} {H H' : Hp} {A : List Addr} (h : ∀ a o, H a = some o → H' a = some o) : Ent W H A W H' A :=
  ⟨fun _ h => h, rfl, fun _ _ h => h, fun a o e _ => h a o e, fun a n => by
    cases e : H a with
    | none => exact absurd e n
    | some o => rw [h a o e]; simp, fun _ h => .inl h, fun _ h => .inl h⟩
/-- something new (or one's own) is frozen -/
theorem Ent.fz {W : Wd} {H : Hp} {A B : List Addr} {H0 : Hp} {W0 : Wd} {A0 : List Addr} (x : Ent W0 H0 A0 W H A) (h : ∀ a ∈ B, H0 a = none) : Ent W0 H0 A0 (W.fz B) H A :=
  ⟨fun a h => .inl (x.F a h), x.L, x.M, x.keep, x.live, fun a q => q.elim (x.fr a) fun z => .inr (h a z), x.st⟩

section
variable (P : Program) (w : World) (K : PySem.W.Frag) (nm : Nm)
/-- the state: slots, stored objects; AS, AE: where one's own objects stand -/
structure Cfg (W : Wd) (H : Hp) (σ : L2.St) (env : Env) (st : St) (AS AE : List Addr) : Prop where
  env : EnvR P w K nm W H env σ AE
  str : StR P w K nm W H st W.M AS
  nd : (AS ++ AE).Nodup
  ff : ∀ a ∈ AS ++ AE, ¬ W.F a ∧ ¬ W.L a
  tr : ∀ a, W.F a ∨ W.L a → H a ≠ none
/-- an expression's run -/
structure Got (W : Wd) (H : Hp) (AS AE : List Addr) (e : E) (ov : OV) (st' : St) (W' : Wd) (H' : Hp) (AS' : List Addr) (v : V) (A : List Addr) : Prop where
  ent : Ent W H AS W' H' AS'
  str : StR P w K nm W' H' st' W'.M AS'
  nd : (AS' ++ AE).Nodup
  ff : ∀ a ∈ AS' ++ AE, ¬ W'.F a ∧ ¬ W'.L a
  tr : ∀ a, W'.F a ∨ W'.L a → H' a ≠ none
  rep : RepO P w K nm W' H' ov v A
  pl : isPl e = true → isFld e = false → ∀ a ∈ A, a ∈ AE
  fr : isPl e = false → A.Nodup ∧ ∀ a ∈ A, H a = none ∧ ¬ W'.F a ∧ ¬ W'.L a ∧ a ∉ AS'
  pu : pureE e = true → ∀ a o, H a = some o → H' a = some o
/-- the values of a list of expressions; B: what is new among them -/
def RepEs (W : Wd) (H : Hp) (AE : List Addr) : List E → List OV → List V → List Addr → Prop
  | [], ovs, vs, B => ovs = [] ∧ vs = [] ∧ B = []
  | e :: es, ovs, vs, B => ∃ ov r v rv A B', ovs = ov :: r ∧ vs = v :: rv ∧ RepO P w K nm W H ov v A ∧
      (isPl e = true → isFld e = false → ∀ a ∈ A, a ∈ AE) ∧ B = (if isPl e = true then B' else A ++ B') ∧ RepEs W H AE es r rv B'
structure Gots (W : Wd) (H : Hp) (AS AE : List Addr) (es : List E) (ovs : List OV) (st' : St) (W' : Wd) (H' : Hp) (AS' : List Addr) (vs : List V) (B : List Addr) : Prop where
  ent : Ent W H AS W' H' AS'
  str : StR P w K nm W' H' st' W'.M AS'
  nd : (AS' ++ AE).Nodup
  ff : ∀ a ∈ AS' ++ AE, ¬ W'.F a ∧ ¬ W'.L a
  tr : ∀ a, W'.F a ∨ W'.L a → H' a ≠ none
  rep : RepEs P w K nm W' H' AE es ovs vs B
  ndB : B.Nodup
  fr : ∀ a ∈ B, H a = none ∧ ¬ W'.F a ∧ ¬ W'.L a ∧ a ∉ AS'
  pu : pureEs es = true → ∀ a o, H a = some o → H' a = some o
/-- an exception's class, dict -/
def ExcR (W : Wd) (H : Hp) (c : Nat) (ns : List Nat) (vs : List PV) (cls : Value) (d : Option Addr) : Prop :=
  cls = .ref (He.ga K (nm.exc c)) ∧ (c ∈ nm.xs ∧ (ns.map nm.fld).Nodup) ∧ (vs = [] ∨ ∃ (dd : Addr) (fs : List (Str × V)), d = some dd ∧ H dd = some (.xd fs.reverse) ∧ fs.map (·.1) = ns.map nm.fld ∧ Reps P w K nm W H vs (fs.map (·.2)))
structure GotX (W : Wd) (H : Hp) (AS AE : List Addr) (c : Nat) (ns : List Nat) (vs : List PV) (st' : St) (W' : Wd) (H' : Hp) (AS' : List Addr) (cls : Value) (d : Option Addr) : Prop where
  ent : Ent W H AS W' H' AS'
  str : StR P w K nm W' H' st' W'.M AS'
  nd : (AS' ++ AE).Nodup
  ff : ∀ a ∈ AS' ++ AE, ¬ W'.F a ∧ ¬ W'.L a
  tr : ∀ a, W'.F a ∨ W'.L a → H' a ≠ none
  exc : ExcR P w K nm W' H' c ns vs cls d
end
section
variable {P : Program} {w : World} {K : PySem.W.Frag} {nm : Nm} {W W' : Wd} {H H' : Hp} {σ : L2.St} {env : Env} {st st' : St} {AS AE AS' A : List Addr}
theorem SlotR.keep (k : Kp W W' H H') {o : Option OV} {x : Option V} {A : List Addr} (he : ∀ a ∈ A, ∀ o, H a = some o → H' a = some o) (h : SlotR P w K nm W H o x A) : SlotR P w K nm W' H' o x A := by
  cases o with
  | none => exact h
  | some o =>
    cases x with
    | none => exact h
    | some v => exact RepO.keep k o v A he h
theorem EnvR.keep (k : Kp W W' H H') : ∀ {env : Env} {σ : L2.St} {A : List Addr}, (∀ a ∈ A, ∀ o, H a = some o → H' a = some o) → EnvR P w K nm W H env σ A → EnvR P w K nm W' H' env σ A
  | [], _, _, _, h => h
  | o :: env, σ, A, he, h => by
    obtain ⟨x, r, A1, A2, e, eA, h1, h2⟩ := h
    exact ⟨x, r, A1, A2, e, eA, h1.keep k fun a ha => he a (by rw [eA]; simp [ha]), EnvR.keep k (fun a ha => he a (by rw [eA]; simp [ha])) h2⟩
theorem StR.keep (k : Kp W W' H H') : ∀ {st : St} {M : List Addr} {A : List Addr}, (∀ a ∈ A, ∀ o, H a = some o → H' a = some o) → StR P w K nm W H st M A → StR P w K nm W' H' st M A
  | [], _, _, _, h => h
  | o :: st, M, A, he, h => by
    obtain ⟨x, r, A1, A2, e, eA, h1, h2, h3⟩ := h
    exact ⟨x, r, A1, A2, e, eA, h1.keep k o _ A1 fun a ha => he a (by rw [eA]; simp [ha]), h2, StR.keep k (fun a ha => he a (by rw [eA]; simp [ha])) h3⟩
theorem SlotR.there {o : Option OV} {x : Option V} {A : List Addr} (h : SlotR P w K nm W H o x A) : ∀ a ∈ A, ∃ o, H a = some o ∧ Mut (some o) := by
  cases o with
  | none =>
    intro a ha
    rw [show A = [] from h] at ha
    cases ha
  | some o =>
    cases x with
    | none => exact False.elim h
    | some v => exact RepO.there o v A h
theorem EnvR.there : ∀ {env : Env} {σ : L2.St} {A : List Addr}, EnvR P w K nm W H env σ A → ∀ a ∈ A, ∃ o, H a = some o ∧ Mut (some o)
  | [], _, _, h => by
    intro a ha
    rw [h.2] at ha
    cases ha
  | o :: env, σ, A, h => by
    obtain ⟨x, r, A1, A2, e, eA, h1, h2⟩ := h
    intro a ha
    rw [eA] at ha
    exact (List.mem_append.mp ha).elim (h1.there a) (EnvR.there h2 a)
theorem StR.there : ∀ {st : St} {M A : List Addr}, StR P w K nm W H st M A → ∀ a ∈ A, ∃ o, H a = some o ∧ Mut (some o)
  | [], _, _, h => by
    intro a ha
    rw [h.2] at ha
    cases ha
  | o :: st, M, A, h => by
    obtain ⟨x, r, A1, A2, e, eA, h1, h2, h3⟩ := h
    intro a ha
    rw [eA] at ha
    exact (List.mem_append.mp ha).elim (RepO.there _ _ _ h1 a) (StR.there h3 a)
theorem EnvR.length : ∀ {env : Env} {σ : L2.St} {A : List Addr}, EnvR P w K nm W H env σ A → env.length = σ.length
  | [], _, _, h => by rw [h.1]; rfl
  | o :: env, σ, A, h => by
    obtain ⟨x, r, A1, A2, e, eA, h1, h2⟩ := h
    rw [e, List.length_cons, List.length_cons, EnvR.length h2]
theorem StR.length : ∀ {st : St} {M A : List Addr}, StR P w K nm W H st M A → st.length = M.length
  | [], _, _, h => by rw [h.1]; rfl
  | o :: st, M, A, h => by
    obtain ⟨x, r, A1, A2, e, eA, h1, h2, h3⟩ := h
    rw [e, List.length_cons, List.length_cons, StR.length h3]
/-- one slot, and what stands there when it is set -/
theorem EnvR.at : ∀ {env : Env} {σ : L2.St} {A : List Addr} {i : Nat}, EnvR P w K nm W H env σ A → i < env.length →
    ∃ x A1 B C, σ[i]? = some x ∧ A = B ++ (A1 ++ C) ∧ SlotR P w K nm W H (env[i]?.join) x A1 ∧
      ∀ o y A2, SlotR P w K nm W H o y A2 → EnvR P w K nm W H (env.set i o) (σ.set i y) (B ++ (A2 ++ C))
  | [], _, _, _, _, hi => absurd hi (Nat.not_lt_zero _)
  | o :: env, σ, A, i, h, hi => by
    obtain ⟨x, r, A1, A2, e, eA, h1, h2⟩ := h
    subst e
    cases i with
    | zero =>
      exact ⟨x, A1, [], A2, rfl, by rw [eA]; rfl, h1, fun o' y A3 q => ⟨y, r, A3, A2, rfl, rfl, q, h2⟩⟩
    | succ n =>
      obtain ⟨x', A1', B, C, e1, e2, e3, e4⟩ := EnvR.at (i := n) h2 (by simpa using hi)
      exact ⟨x', A1', A1 ++ B, C, by simpa using e1, by rw [eA, e2, List.append_assoc], by simpa using e3, fun o' y A3 q => ⟨x, _, A1, B ++ (A3 ++ C), rfl, by rw [List.append_assoc], h1, e4 o' y A3 q⟩⟩
theorem StR.at : ∀ {st : St} {M A : List Addr} {k : Nat} {o : OV}, StR P w K nm W H st M A → st[k]? = some o →
    ∃ a A1 B C, M[k]? = some a ∧ A = B ++ (A1 ++ C) ∧ RepO P w K nm W H o (.ref a) A1 ∧ o.own = true ∧
      ∀ o' A2, RepO P w K nm W H o' (.ref a) A2 → o'.own = true → StR P w K nm W H (st.set k o') M (B ++ (A2 ++ C))
  | [], _, _, _, _, _, hk => by simp at hk
  | o :: st, M, A, k, o1, h, hk => by
    obtain ⟨x, r, A1, A2, e, eA, h1, h2, h3⟩ := h
    subst e
    cases k with
    | zero =>
      simp at hk
      subst hk
      exact ⟨x, A1, [], A2, rfl, by rw [eA]; rfl, h1, h2, fun o' A3 q z => ⟨x, r, A3, A2, rfl, rfl, q, z, h3⟩⟩
    | succ n =>
      obtain ⟨x', A1', B, C, e1, e2, e3, e4, e5⟩ := StR.at (k := n) h3 (by simpa using hk)
      exact ⟨x', A1', A1 ++ B, C, by simpa using e1, by rw [eA, e2, List.append_assoc], e3, e4, fun o' A3 q z => ⟨x, r, A1, B ++ (A3 ++ C), rfl, by rw [List.append_assoc], h1, h2, e5 o' A3 q z⟩⟩
/-- a new stored object -/
theorem StR.push : ∀ {st : St} {M A : List Addr} {o : OV} {a : Addr} {B : List Addr}, StR P w K nm W H st M A → RepO P w K nm W H o (.ref a) B → o.own = true → StR P w K nm W H (st ++ [o]) (M ++ [a]) (A ++ B)
  | [], _, _, o, a, B, h, q, z => by
    rw [h.1, h.2]
    exact ⟨a, [], B, [], rfl, by simp, q, z, rfl, rfl⟩
  | o1 :: st, M, A, o, a, B, h, q, z => by
    obtain ⟨x, r, A1, A2, e, eA, h1, h2, h3⟩ := h
    exact ⟨x, r ++ [a], A1, A2 ++ B, by rw [e]; rfl, by rw [eA, List.append_assoc], h1, h2, StR.push h3 q z⟩
theorem Cfg.kp (C : Cfg P w K nm W H σ env st AS AE) (e : Ent W H AS W' H' AS') : Kp W W' H H' where
  F := e.F
  L := fun a h => by rw [e.L]; exact h
  M := e.M
  tup := fun a xs h => e.keep a _ h fun q => by
    obtain ⟨o, h1, h2⟩ := C.str.there a q
    rw [h] at h1
    cases h1
    exact h2
  frz := fun a ob u h => e.keep a _ h fun q => by
    obtain ⟨o, h1, h2⟩ := C.str.there a q
    rw [h] at h1
    cases h1
    exact h2
  see := fun a o hs h => e.keep a o h fun q => by
    have := C.ff a (by simp [q])
    rcases hs with z | z
    · exact this.1 z
    · exact this.2 z
theorem Cfg.ownE (C : Cfg P w K nm W H σ env st AS AE) (e : Ent W H AS W' H' AS') : ∀ a ∈ AE, ∀ o, H a = some o → H' a = some o := fun a ha o h =>
  e.keep a o h fun q => by
    have := (List.nodup_append.mp C.nd).2.2 a q a ha
    exact this rfl
/-- the state behind an expression -/
theorem Cfg.after (C : Cfg P w K nm W H σ env st AS AE) (e : Ent W H AS W' H' AS') (h1 : StR P w K nm W' H' st' W'.M AS') (h2 : (AS' ++ AE).Nodup) (h3 : ∀ a ∈ AS' ++ AE, ¬ W'.F a ∧ ¬ W'.L a) (h4 : ∀ a, W'.F a ∨ W'.L a → H' a ≠ none) :
    Cfg P w K nm W' H' σ env st' AS' AE := ⟨C.env.keep (C.kp e) (C.ownE e), h1, h2, h3, h4⟩
theorem Got.cfg {e : E} {ov : OV} {v : V} (C : Cfg P w K nm W H σ env st AS AE) (g : Got P w K nm W H AS AE e ov st' W' H' AS' v A) : Cfg P w K nm W' H' σ env st' AS' AE := C.after g.ent g.str g.nd g.ff g.tr
theorem Gots.cfg {es : List E} {ovs : List OV} {vs : List V} (C : Cfg P w K nm W H σ env st AS AE) (g : Gots P w K nm W H AS AE es ovs st' W' H' AS' vs A) : Cfg P w K nm W' H' σ env st' AS' AE := C.after g.ent g.str g.nd g.ff g.tr
theorem Cfg.live (C : Cfg P w K nm W H σ env st AS AE) : ∀ a ∈ AS ++ AE, H a ≠ none := fun a ha => by
  rcases List.mem_append.mp ha with q | q
  · obtain ⟨o, h, _⟩ := C.str.there a q
    rw [h]; simp
  · obtain ⟨o, h, _⟩ := C.env.there a q
    rw [h]; simp
/-- one behind another -/
theorem Gots.cons {e : E} {es : List E} {ov : OV} {ovs : List OV} {v : V} {vs : List V} {W1 W2 : Wd} {H1 H2 : Hp} {AS1 AS2 B : List Addr} {st1 st2 : St} (C : Cfg P w K nm W H σ env st AS AE)
    (g : Got P w K nm W H AS AE e ov st1 W1 H1 AS1 v A) (gs : Gots P w K nm W1 H1 AS1 AE es ovs st2 W2 H2 AS2 vs B) (hp : isFld e = true → ov.own = true → pureEs es = true) :
    Gots P w K nm W H AS AE (e :: es) (ov :: ovs) st2 W2 H2 AS2 (v :: vs) (if isPl e = true then B else A ++ B) := by
  have C1 := g.cfg C
  have k12 := C1.kp gs.ent
  have stay : ∀ a ∈ A, ∀ o, H1 a = some o → H2 a = some o := by
    intro a ha o h
    cases hpl : isPl e with
    | false => exact gs.ent.keep a o h ((g.fr hpl).2 a ha).2.2.2
    | true =>
      cases hf : isFld e with
      | false => exact C1.ownE gs.ent a (g.pl hpl hf a ha) o h
      | true =>
        have ho : ov.own = true := by
          cases ov with
          | sh x =>
            have := g.rep
            rw [RepO] at this
            rw [this.1] at ha
            cases ha
          | _ => rfl
        exact gs.pu (hp hf ho) a o h
  refine ⟨g.ent.trans gs.ent, gs.str, gs.nd, gs.ff, gs.tr, ?_, ?_, ?_, fun q a o h => ?_⟩
  · exact ⟨ov, ovs, v, vs, A, B, rfl, rfl, RepO.keep k12 ov v A stay g.rep, g.pl, rfl, gs.rep⟩
  · split
    · exact gs.ndB
    · rename_i hpl
      have hpl' : isPl e = false := by simpa using hpl
      refine List.nodup_append.mpr ⟨(g.fr hpl').1, gs.ndB, fun a ha b hb z => ?_⟩
      subst z
      have h1 := (gs.fr a hb).1
      obtain ⟨o, h2, _⟩ := RepO.there _ _ _ g.rep a ha
      rw [h1] at h2
      cases h2
  · intro a ha
    have hB : a ∈ B → H a = none ∧ ¬ W2.F a ∧ ¬ W2.L a ∧ a ∉ AS2 := fun hb => by
      obtain ⟨h1, h2, h3, h4⟩ := gs.fr a hb
      refine ⟨?_, h2, h3, h4⟩
      cases q : H a with
      | none => rfl
      | some o => exact absurd h1 (g.ent.live a (by rw [q]; simp))
    split at ha
    · exact hB ha
    · rename_i hpl
      have hpl' : isPl e = false := by simpa using hpl
      rcases List.mem_append.mp ha with q | q
      · obtain ⟨h1, h2, h3, h4⟩ := (g.fr hpl').2 a q
        obtain ⟨o, ho, _⟩ := RepO.there _ _ _ g.rep a q
        refine ⟨h1, fun z => ?_, fun z => ?_, fun z => ?_⟩
        · rcases gs.ent.fr a z with z | z
          · exact h2 z
          · rw [ho] at z; cases z
        · rw [gs.ent.L] at z
          exact h3 z
        · rcases gs.ent.st a z with z | z
          · exact h4 z
          · rw [ho] at z; cases z
      · exact hB q
  · have q' : (pureE e && pureEs es) = true := by
      rw [pureEs] at q
      exact q
    obtain ⟨q1, q2⟩ := Bool.and_eq_true_iff.mp q'
    exact gs.pu q2 a o (g.pu q1 a o h)
theorem Gots.nil (C : Cfg P w K nm W H σ env st AS AE) : Gots P w K nm W H AS AE [] [] st W H AS [] [] :=
  ⟨.refl, C.str, C.nd, C.ff, C.tr, ⟨rfl, rfl, rfl⟩, List.nodup_nil, fun _ h => (List.not_mem_nil h).elim, fun _ _ _ h => h⟩
end
end EV

set_option Elab.async false
set_option linter.all false
set_option maxRecDepth 100000
/-! EV4: readings of expressions, lists of them, operations. -/
namespace EV
open PySem PySem.Spec PyProof.Rows L2

theorem PE.imp {X : Cx} {e : Expr} {t t' : TE} (h : PE X e t) (i : ∀ σ H Q, t' σ H Q → t σ H Q) : PE X e t' := ⟨fun pins s σ H Q I q => h.run pins s σ H Q I (i σ H Q q)⟩
theorem PT.imp {X : Cx} {e : Expr} {t t' : TT} (h : PT X e t) (i : ∀ σ H Q, t' σ H Q → t σ H Q) : PT X e t' := ⟨fun pins s σ H Q I q => h.run pins s σ H Q I (i σ H Q q)⟩
theorem PA.imp {X : Cx} {e : List Expr} {t t' : TA} (h : PA X e t) (i : ∀ σ H Q, t' σ H Q → t σ H Q) : PA X e t' := ⟨fun pos pins s σ H Q I q => h.run pos pins s σ H Q I (i σ H Q q)⟩

/-- what stays the same through a law's run: the classes, the texts of values, the callee's run, the names -/
structure Env1 where
  cl : Cls
  txt : PV → Option Str
  call : Call
  nm : Nm

section
variable (V1 : Env1) (P : Program) (w : World) (K : PySem.W.Frag) (Z : WX)
/-- an exception's end -/
def XEnd (W : Wd) (H : Hp) (AS AE : List Addr) (σ : L2.St) (c : Nat) (ns : List Nat) (vs : List PV) (st' : St) : Prop :=
  ∀ W' H' AS' cls d, GotX P w K V1.nm W H AS AE c ns vs st' W' H' AS' cls d → Z cls d σ H'
def tE (e : E) : TE := fun σ H Q => ∃ env st W AS AE, Cfg P w K V1.nm W H σ env st AS AE ∧
  match ev V1.cl V1.txt V1.call e env st with
  | .ok ov st' => ∀ W' H' AS' v A, Got P w K V1.nm W H AS AE e ov st' W' H' AS' v A → Q v H'
  | .exc c ns vs st' => XEnd V1 P w K Z W H AS AE σ c ns vs st'
  | .bad => False
def tL (es : List E) : TA := fun σ H Q => ∃ env st W AS AE, Cfg P w K V1.nm W H σ env st AS AE ∧
  match evs V1.cl V1.txt V1.call es env st with
  | .ok ovs st' => ∀ W' H' AS' vs B, Gots P w K V1.nm W H AS AE es ovs st' W' H' AS' vs B → Q vs H'
  | .exc c ns vs st' => XEnd V1 P w K Z W H AS AE σ c ns vs st'
  | .bad => False
end
section
variable {V1 : Env1} {P : Program} {w : World} {K : PySem.W.Frag} {Z : WX} {W W' : Wd} {H H' : Hp} {σ : L2.St} {env : Env} {st st' : St} {AS AE AS' A : List Addr} {nm : Nm}
theorem GotX.after {c : Nat} {ns : List Nat} {vs : List PV} {W1 : Wd} {H1 : Hp} {AS1 : List Addr} {cls : Value} {d : Option Addr} (e : Ent W H AS W1 H1 AS1) (g : GotX P w K nm W1 H1 AS1 AE c ns vs st' W' H' AS' cls d) : GotX P w K nm W H AS AE c ns vs st' W' H' AS' cls d :=
  ⟨e.trans g.ent, g.str, g.nd, g.ff, g.tr, g.exc⟩
theorem XEnd.after {c : Nat} {ns : List Nat} {vs : List PV} {W1 : Wd} {H1 : Hp} {AS1 : List Addr} (e : Ent W H AS W1 H1 AS1) (g : XEnd V1 P w K Z W H AS AE σ c ns vs st') : XEnd V1 P w K Z W1 H1 AS1 AE σ c ns vs st' :=
  fun W' H' AS' cls d x => g W' H' AS' cls d (x.after e)
theorem tL_nil {Q : List V → Hp → Prop} (h : tL V1 P w K Z [] σ H Q) : Q [] H := by
  obtain ⟨env, st, W, AS, AE, C, h⟩ := h
  rw [evs] at h
  exact h W H AS [] [] (Gots.nil C)
theorem tL_cons {e : E} {es : List E} {Q : List V → Hp → Prop} (h : tL V1 P w K Z (e :: es) σ H Q) : tE V1 P w K Z e σ H fun v H1 => tL V1 P w K Z es σ H1 fun vs H2 => Q (v :: vs) H2 := by
  obtain ⟨env, st, W, AS, AE, C, h⟩ := h
  refine ⟨env, st, W, AS, AE, C, ?_⟩
  rw [evs] at h
  cases he : ev V1.cl V1.txt V1.call e env st with
  | bad =>
    rw [he] at h
    exact h
  | exc c ns vs st1 =>
    rw [he] at h
    exact h
  | ok ov st1 =>
    rw [he] at h
    intro W1 H1 AS1 v A g
    refine ⟨env, st1, W1, AS1, AE, g.cfg C, ?_⟩
    simp only [R.bind] at h
    by_cases hp : (isFld e && ov.own && !pureEs es) = true
    · rw [if_pos hp] at h
      exact h.elim
    · rw [if_neg hp] at h
      have hp' : isFld e = true → ov.own = true → pureEs es = true := fun a b => by
        rw [a, b] at hp
        simpa using hp
      cases hs : evs V1.cl V1.txt V1.call es env st1 with
      | bad =>
        rw [hs] at h
        exact h
      | exc c ns vs st2 =>
        rw [hs] at h
        exact XEnd.after g.ent h
      | ok ovs st2 =>
        rw [hs] at h
        intro W2 H2 AS2 vs B gs
        exact h W2 H2 AS2 (v :: vs) _ (Gots.cons C g gs hp')
theorem tL_one {a : E} {Q : List V → Hp → Prop} (h : tL V1 P w K Z [a] σ H Q) : tE V1 P w K Z a σ H fun v H1 => Q [v] H1 := by
  have q := tL_cons h
  obtain ⟨env, st, W, AS, AE, C, q⟩ := q
  refine ⟨env, st, W, AS, AE, C, ?_⟩
  cases he : ev V1.cl V1.txt V1.call a env st with
  | bad => rw [he] at q; exact q
  | exc c ns vs st1 => rw [he] at q; exact q
  | ok ov st1 =>
    rw [he] at q
    exact fun W1 H1 AS1 v A g => tL_nil (q W1 H1 AS1 v A g)
/-- an expression's reading may be weakened behind it -/
theorem tE_mono {e : E} {Q Q' : VK} (i : ∀ v H, Q v H → Q' v H) (h : tE V1 P w K Z e σ H Q) : tE V1 P w K Z e σ H Q' := by
  obtain ⟨env, st, W, AS, AE, C, q⟩ := h
  refine ⟨env, st, W, AS, AE, C, ?_⟩
  cases he : ev V1.cl V1.txt V1.call e env st with
  | bad => rw [he] at q; exact q
  | exc c ns vs st1 => rw [he] at q; exact q
  | ok ov st1 =>
    rw [he] at q
    exact fun W1 H1 AS1 v A g => i _ _ (q W1 H1 AS1 v A g)
theorem tL_two {a b : E} {Q : List V → Hp → Prop} (h : tL V1 P w K Z [a, b] σ H Q) : tE V1 P w K Z a σ H fun x H1 => tE V1 P w K Z b σ H1 fun y H2 => Q [x, y] H2 :=
  tE_mono (fun _ _ q => tL_one q) (tL_cons h)
theorem tL_three {a b c : E} {Q : List V → Hp → Prop} (h : tL V1 P w K Z [a, b, c] σ H Q) : tE V1 P w K Z a σ H fun x H1 => tE V1 P w K Z b σ H1 fun y H2 => tE V1 P w K Z c σ H2 fun z H3 => Q [x, y, z] H3 :=
  tE_mono (fun _ _ q => tL_two q) (tL_cons h)
end

/-! ### lists of expressions -/
def noStar : Expr → Bool
  | .Starred .. => false
  | _ => true
theorem starEach_cons {x : Expr} {xs : List Expr} {env : PySem.Env} (h : noStar x = true) : starEach (x :: xs) env = (false, eval x env) :: starEach xs env := by
  cases x <;> first
    | rfl
    | cases h
/-- each of the Python expressions is read as its small one -/
def PEs (V1 : Env1) (Z : WX) (X : Cx) : List E → List Expr → Prop
  | [], xs => xs = []
  | e :: es, xs => ∃ x r, xs = x :: r ∧ noStar x = true ∧ PE X x (tE V1 X.prog X.w X.K Z e) ∧ PEs V1 Z X es r
section
variable {V1 : Env1} {Z : WX} {X : Cx}
theorem pa_of : ∀ {es : List E} {xs : List Expr}, PEs V1 Z X es xs → PA X xs (tL V1 X.prog X.w X.K Z es)
  | [], xs, h => by
    rw [show xs = [] from h]
    exact PA.imp pa_nil fun σ H Q q => tL_nil q
  | e :: es, xs, h => by
    obtain ⟨x, r, ex, ns, h1, h2⟩ := h
    subst ex
    exact PA.imp (pa_cons h1 (pa_of h2) (starEach_cons ns)) fun σ H Q q => tL_cons q
theorem PEs.one {e : E} {xs : List Expr} (h : PEs V1 Z X [e] xs) : ∃ x, xs = [x] ∧ noStar x = true ∧ PE X x (tE V1 X.prog X.w X.K Z e) := by
  obtain ⟨x, r, e1, n1, h1, h2⟩ := h
  exact ⟨x, by rw [e1, show r = [] from h2], n1, h1⟩
theorem PEs.two {e f : E} {xs : List Expr} (h : PEs V1 Z X [e, f] xs) : ∃ x y, xs = [x, y] ∧ noStar x = true ∧ noStar y = true ∧ PE X x (tE V1 X.prog X.w X.K Z e) ∧ PE X y (tE V1 X.prog X.w X.K Z f) := by
  obtain ⟨x, r, e1, n1, h1, h2⟩ := h
  obtain ⟨y, e2, n2, h3⟩ := h2.one
  exact ⟨x, y, by rw [e1, e2], n1, n2, h1, h3⟩
theorem PEs.stars : ∀ {es : List E} {xs : List Expr}, PEs V1 Z X es xs → ∀ pos env, (backTo pos (starEach xs env)).any (·.1) = false
  | [], xs, h, pos, env => by
    rw [show xs = [] from h]
    rfl
  | e :: es, xs, h, pos, env => by
    obtain ⟨x, r, ex, ns, h1, h2⟩ := h
    subst ex
    rw [starEach_cons ns]
    have q := PEs.stars h2 pos env
    simpa [backTo] using q
end

/-! ### operands -/
section
variable (P : Program) (w : World) (K : PySem.W.Frag) (nm : Nm)
/-- looked at, though it is lent -/
def Shal (W : Wd) (H : Hp) : PV → V → Prop
  | .lst true xs, v => ∃ a vs, v = .ref a ∧ H a = some (.lst vs) ∧ Reps P w K nm W H xs vs
  | .dct true ks vs, v => ∃ a, v = .ref a ∧ DictAt P w K nm W H a ks vs
  | .ins true c ns vs, v => ∃ a dx fs, v = .ref a ∧ H a = some (.ins (ca K nm c) dx fs) ∧ c ∈ nm.cs
  | _, _ => False
def RepV (W : Wd) (H : Hp) (x : PV) (v : V) : Prop := Rep P w K nm W H x v ∨ Shal P w K nm W H x v
def RepVs (W : Wd) (H : Hp) : List PV → List V → Prop
  | [], vs => vs = []
  | x :: xs, vs => ∃ v r, vs = v :: r ∧ RepV P w K nm W H x v ∧ RepVs W H xs r
end
section
variable {P : Program} {w : World} {K : PySem.W.Frag} {nm : Nm} {W W' : Wd} {H H' : Hp} {AS AE AS' A B : List Addr}
theorem RepO.shal {x : OV} {v : V} (h : RepO P w K nm W H x v A) (ho : x.own = true) : Shal P w K nm W H x.lend v := by
  cases x with
  | sh x => cases ho
  | ol xs =>
    rw [RepO] at h
    obtain ⟨a, vs, e, eA, h1, h2⟩ := h
    exact ⟨a, vs, e, h1, h2⟩
  | od ks vs =>
    rw [RepO] at h
    obtain ⟨a, e, eA, h1⟩ := h
    exact ⟨a, e, h1⟩
  | oi c ns vs =>
    rw [RepO] at h
    obtain ⟨a, dx, fs, B, e, eA, h1, h2, h3⟩ := h
    exact ⟨a, dx, fs, e, h1, h2.1⟩
theorem Shal.keep (k : Kp W W' H H) {x : PV} {v : V} (h : Shal P w K nm W H x v) : Shal P w K nm W' H x v := by
  cases x with
  | lst f xs =>
    cases f with
    | false => exact h
    | true =>
      obtain ⟨a, vs, e, h1, h2⟩ := h
      exact ⟨a, vs, e, h1, Reps.keep k xs vs h2⟩
  | dct f ks vs =>
    cases f with
    | false => exact h
    | true =>
      obtain ⟨a, e, h1⟩ := h
      exact ⟨a, e, h1.keep k fun _ q => q⟩
  | ins f c ns vs =>
    cases f with
    | false => exact h
    | true => exact h
  | _ => exact h
theorem opn_rep {e : E} {x : OV} {v : V} (h : RepO P w K nm W H x v A) (hB : isPl e = false → ∀ a ∈ A, a ∈ B) : RepV P w K nm (W.fz B) H (opn e x) v := by
  unfold opn
  cases hp : isPl e with
  | true =>
    rw [if_pos rfl]
    cases ho : x.own with
    | true => exact .inr ((h.shal ho).keep (Kp.to_fz B))
    | false =>
      cases x with
      | sh y =>
        rw [RepO] at h
        rw [OV.lend]
        exact .inl (Rep.keep (Kp.to_fz B) y v h.2)
      | _ => cases ho
  | false =>
    rw [if_neg (by simp)]
    exact .inl (RepO.freeze x v A (fun _ h => .inl h) (fun _ h => h) (fun _ _ h => h) (fun a ha => .inr (hB hp a ha)) h)
theorem RepEs.sub : ∀ {es : List E} {ovs : List OV} {vs : List V} {B : List Addr}, RepEs P w K nm W H AE es ovs vs B → ∀ a ∈ B, ∃ o, H a = some o ∧ Mut (some o)
  | [], _, _, _, h => by
    intro a ha
    rw [h.2.2] at ha
    cases ha
  | e :: es, ovs, vs, B, h => by
    obtain ⟨ov, r, v, rv, A, B', e1, e2, h1, h2, h3, h4⟩ := h
    intro a ha
    rw [h3] at ha
    split at ha
    · exact RepEs.sub h4 a ha
    · exact (List.mem_append.mp ha).elim (RepO.there _ _ _ h1 a) (RepEs.sub h4 a)
theorem opns_rep : ∀ {es : List E} {ovs : List OV} {vs : List V} {B B1 : List Addr}, RepEs P w K nm W H AE es ovs vs B → (∀ a ∈ B, a ∈ B1) → RepVs P w K nm (W.fz B1) H (opns es ovs) vs
  | [], ovs, vs, B, B1, h, _ => by
    obtain ⟨h1, h2, h3⟩ := h
    rw [h1]
    exact h2
  | e :: es, ovs, vs, B, B1, h, hB => by
    obtain ⟨ov, r, v, rv, A, B', e1, e2, h1, h2, h3, h4⟩ := h
    rw [e1]
    refine ⟨v, rv, e2, opn_rep h1 (fun hp a ha => hB a ?_), opns_rep h4 fun a ha => hB a ?_⟩
    · rw [h3, if_neg (by rw [hp]; simp)]
      exact List.mem_append_left _ ha
    · rw [h3]
      split
      · exact ha
      · exact List.mem_append_right _ ha
theorem RepVs.one {x : PV} {vs : List V} (h : RepVs P w K nm W H [x] vs) : ∃ v, vs = [v] ∧ RepV P w K nm W H x v := by
  obtain ⟨v, r, e, h1, h2⟩ := h
  exact ⟨v, by rw [e, show r = [] from h2], h1⟩
theorem RepVs.two {x y : PV} {vs : List V} (h : RepVs P w K nm W H [x, y] vs) : ∃ v u, vs = [v, u] ∧ RepV P w K nm W H x v ∧ RepV P w K nm W H y u := by
  obtain ⟨v, r, e, h1, h2⟩ := h
  obtain ⟨u, e2, h3⟩ := h2.one
  exact ⟨v, u, by rw [e, e2], h1, h3⟩
theorem RepVs.length : ∀ {xs : List PV} {vs : List V}, RepVs P w K nm W H xs vs → xs.length = vs.length
  | [], vs, h => by rw [show vs = [] from h]; rfl
  | x :: xs, vs, h => by
    obtain ⟨v, r, e, h1, h2⟩ := h
    rw [e, List.length_cons, List.length_cons, RepVs.length h2]
end

/-! ### an operation's end -/
section
variable (P : Program) (w : World) (K : PySem.W.Frag) (nm : Nm)
/-- what an operation gives: perhaps a new object, nothing else changed -/
structure OpGot (W : Wd) (H : Hp) (ov : OV) (v : V) (A : List Addr) (H' : Hp) : Prop where
  keep : ∀ a o, H a = some o → H' a = some o
  rep : RepO P w K nm W H' ov v A
  nd : A.Nodup
  fr : ∀ a ∈ A, H a = none
end
section
variable {P : Program} {w : World} {K : PySem.W.Frag} {nm : Nm} {W W' : Wd} {H H' : Hp} {σ : L2.St} {env : Env} {st st' : St} {AS AE AS' A B : List Addr}
/-- a value that stands already -/
theorem OpGot.sh {x : PV} {v : V} (h : Rep P w K nm W H x v) : OpGot P w K nm W H (.sh x) v [] H := ⟨fun _ _ h => h, by rw [RepO]; exact ⟨rfl, h⟩, List.nodup_nil, fun _ h => (List.not_mem_nil h).elim⟩
theorem kp_upd {a : Addr} {o : HO} (hn : H a = none) : Kp W W H (upd H a o) :=
  ⟨fun _ h => h, fun _ h => h, fun _ _ h => h, fun b xs e => by rw [upd_ne (ne_of_none e hn)]; exact e, fun b ob u e => by rw [upd_ne (ne_of_none e hn)]; exact e, fun b u _ e => by rw [upd_ne (ne_of_none e hn)]; exact e⟩
theorem keep_upd {a : Addr} {o : HO} (hn : H a = none) : ∀ b u, H b = some u → upd H a o b = some u := fun b u e => by rw [upd_ne (ne_of_none e hn)]; exact e
/-- a new tuple -/
theorem OpGot.tup {xs : List PV} {vs : List V} {p : Addr} (h : Reps P w K nm W H xs vs) (hn : H p = none) : OpGot P w K nm W H (.sh (.tup xs)) (.ref p) [] (upd H p (.tup vs)) :=
  ⟨keep_upd hn, by rw [RepO]; exact ⟨rfl, by rw [Rep]; exact ⟨p, vs, rfl, upd_same, Reps.keep (kp_upd hn) xs vs h⟩⟩, List.nodup_nil, fun _ h => (List.not_mem_nil h).elim⟩
/-- a new list -/
theorem OpGot.lst {xs : List PV} {vs : List V} {p : Addr} (h : Reps P w K nm W H xs vs) (hn : H p = none) : OpGot P w K nm W H (.ol xs) (.ref p) [p] (upd H p (.lst vs)) :=
  ⟨keep_upd hn, by rw [RepO]; exact ⟨p, vs, rfl, rfl, upd_same, Reps.keep (kp_upd hn) xs vs h⟩, by simp, fun a h => by rw [show a = p by simpa using h]; exact hn⟩
/-- behind the operands, the operation -/
theorem Gots.op {e : E} {es : List E} {ovs : List OV} {vs : List V} {W1 : Wd} {H1 : Hp} {AS1 : List Addr} {st1 : St} {ov : OV} {v : V} (C : Cfg P w K nm W H σ env st AS AE)
    (gs : Gots P w K nm W H AS AE es ovs st1 W1 H1 AS1 vs B) (g : OpGot P w K nm (W1.fz B) H1 ov v A H') (hpl : isPl e = false) (hpu : pureE e = true → pureEs es = true) :
    Got P w K nm W H AS AE e ov st1 (W1.fz B) H' AS1 v A := by
  have C1 := gs.cfg C
  have bn : ∀ a ∈ B, a ∉ AS1 ++ AE := fun a ha q => by
    rcases List.mem_append.mp q with z | z
    · exact (gs.fr a ha).2.2.2 z
    · exact C.live a (List.mem_append_right _ z) (gs.fr a ha).1
  have e1 : Ent W H AS (W1.fz B) H1 AS1 := gs.ent.fz fun a ha => (gs.fr a ha).1
  have trB : ∀ a, (W1.fz B).F a ∨ (W1.fz B).L a → H1 a ≠ none := fun a h => by
    rcases h with (h | h) | h
    · exact gs.tr a (.inl h)
    · obtain ⟨o, q, _⟩ := gs.rep.sub a h
      rw [q]; simp
    · exact gs.tr a (.inr h)
  refine ⟨e1.trans (Ent.grow g.keep), ?_, gs.nd, fun a ha => ⟨fun z => ?_, (gs.ff a ha).2⟩, fun a h => ?_, g.rep, (fun q => by rw [hpl] at q; cases q), fun _ => ⟨g.nd, fun a ha => ?_⟩, fun q a o h => ?_⟩
  · exact (gs.str.keep (Kp.to_fz B) fun _ _ _ h => h).keep ⟨fun _ h => h, fun _ h => h, fun _ _ h => h, fun a xs h => g.keep a _ h, fun a ob u h => g.keep a _ h, fun a o _ h => g.keep a o h⟩ fun a _ o h => g.keep a o h
  · rcases z with z | z
    · exact (gs.ff a ha).1 z
    · exact bn a z ha
  · have := trB a h
    cases q : H1 a with
    | none => exact absurd q this
    | some o => rw [g.keep a o q]; simp
  · have hn := g.fr a ha
    refine ⟨?_, fun z => trB a (.inl z) hn, fun z => trB a (.inr z) hn, fun z => ?_⟩
    · cases q : H a with
      | none => rfl
      | some o => exact absurd hn (gs.ent.live a (by rw [q]; simp))
    · exact C1.live a (List.mem_append_left _ z) hn
  · exact g.keep a o (gs.pu (hpu q) a o h)
end
/-- what an operation asks and gives, by values: r as HandS has it -/
def OpQ (V1 : Env1) (P : Program) (w : World) (K : PySem.W.Frag) (o : Op) (vs : List V) (H : Hp) (Q : VK) : Prop :=
  ∃ W pvs st AS, RepVs P w K V1.nm W H pvs vs ∧ (StR P w K V1.nm W H st W.M AS ∧ ∀ a, W.F a ∨ W.L a → H a ≠ none) ∧ ∃ ov, opV V1.cl V1.txt V1.call st o pvs = some ov ∧ ∀ v H' A, OpGot P w K V1.nm W H ov v A H' → Q v H'
section
variable {V1 : Env1} {P : Program} {w : World} {K : PySem.W.Frag} {Z : WX} {σ : L2.St} {H : Hp}
theorem tE_op {o : Op} {es : List E} {Q : VK} (h : tE V1 P w K Z (.op o es) σ H Q) : tL V1 P w K Z es σ H fun vs H1 => OpQ V1 P w K o vs H1 Q := by
  obtain ⟨env, st, W, AS, AE, C, h⟩ := h
  refine ⟨env, st, W, AS, AE, C, ?_⟩
  rw [ev] at h
  cases he : evs V1.cl V1.txt V1.call es env st with
  | bad => rw [he] at h; exact h
  | exc c ns vs st1 => rw [he] at h; exact h
  | ok ovs st1 =>
    rw [he] at h
    intro W1 H1 AS1 vs B gs
    simp only [R.bind, lift] at h
    cases hv : opV V1.cl V1.txt V1.call st1 o (opns es ovs) with
    | none => rw [hv] at h; exact h.elim
    | some ov =>
      rw [hv] at h
      have trB : ∀ a, (W1.fz B).F a ∨ (W1.fz B).L a → H1 a ≠ none := fun a h => by
        rcases h with (h | h) | h
        · exact gs.tr a (.inl h)
        · obtain ⟨o, q, _⟩ := gs.rep.sub a h
          rw [q]; simp
        · exact gs.tr a (.inr h)
      exact ⟨W1.fz B, opns es ovs, st1, AS1, opns_rep gs.rep fun _ h => h, ⟨gs.str.keep (Kp.to_fz B) fun _ _ _ h => h, trB⟩, ov, hv, fun v H' A g => h _ H' AS1 v A (Gots.op C gs g rfl fun q => by
        rw [pureE] at q
        exact q)⟩
end
end EV

set_option Elab.async false
set_option linter.all false
set_option maxRecDepth 100000
/-! EV5a: values that are data. -/
namespace EV
open PySem PySem.Spec PyProof.Rows L2
mutual
def toData : PV → PyData
  | .non => .none
  | .bl b => .bool b
  | .int i => .int i
  | .str s => .str s
  | .tup xs => .tuple (toDatas xs)
  | .lst _ xs => .list (toDatas xs)
  | _ => .none
def toDatas : List PV → List PyData
  | [] => []
  | x :: xs => toData x :: toDatas xs
end
theorem toDatas_map : ∀ xs : List PV, toDatas xs = xs.map toData
  | [] => rfl
  | x :: xs => by rw [toDatas, toDatas_map xs]; rfl
theorem dataDs_iff {n : Nat} : ∀ {xs : List PV}, dataDs n xs = true ↔ ∀ x ∈ xs, dataD n x = true
  | [] => by simp [dataDs]
  | x :: xs => by simp [dataDs, dataDs_iff (xs := xs)]
mutual
theorem dataD_lay {n : Nat} : ∀ (x : PV), dataD n x = true → (toData x).canLay0 = true ∧ (toData x).depth ≤ n
  | .non, _ => by simp [toData, PyData.canLay0, PyData.depth]
  | .bl b, _ => by simp [toData, PyData.canLay0, PyData.depth]
  | .int i, _ => by simp [toData, PyData.canLay0, PyData.depth]
  | .str s, h => by
    simp only [toData, PyData.canLay0, PyData.depth]
    exact ⟨h, Nat.zero_le _⟩
  | .tup xs, h => by
    cases n with
    | zero => simp [dataD] at h
    | succ m =>
      rw [dataD] at h
      obtain ⟨h1, h2⟩ := dataDs_lay xs h
      simp only [toData, PyData.canLay0, PyData.depth]
      exact ⟨h1, by omega⟩
  | .lst f xs, h => by
    cases n with
    | zero => simp [dataD] at h
    | succ m =>
      rw [dataD] at h
      obtain ⟨h1, h2⟩ := dataDs_lay xs h
      simp only [toData, PyData.canLay0, PyData.depth]
      exact ⟨h1, by omega⟩
  | .dct f ks vs, h => by simp [dataD] at h
  | .ins f c ns vs, h => by simp [dataD] at h
  | .ref k, h => by simp [dataD] at h
  | .exc c ns vs, h => by simp [dataD] at h
  | .scr is, h => by simp [dataD] at h
theorem dataDs_lay {n : Nat} : ∀ (xs : List PV), dataDs n xs = true → PyData.canLayAll0 (toDatas xs) = true ∧ PyData.depthAll (toDatas xs) ≤ n
  | [], _ => by simp [toDatas, PyData.canLayAll0, PyData.depthAll]
  | x :: xs, h => by
    rw [dataDs, Bool.and_eq_true] at h
    obtain ⟨h1, h2⟩ := dataD_lay x h.1
    obtain ⟨h3, h4⟩ := dataDs_lay xs h.2
    rw [toDatas, PyData.canLayAll0, PyData.depthAll, h1, h3]
    exact ⟨rfl, by omega⟩
end
theorem dataD_shaped {x : PV} (h : dataD 60 x = true) : SeqAt.shaped (toData x) = true := by
  obtain ⟨h1, h2⟩ := dataD_lay x h
  unfold SeqAt.shaped
  rw [h1, decide_eq_true (by omega)]
  rfl
theorem dataDs_shaped {xs : List PV} (h : dataDs 60 xs = true) : SeqAt.shaped (.list (toDatas xs)) = true ∧ SeqAt.shaped (.tuple (toDatas xs)) = true := by
  obtain ⟨h1, h2⟩ := dataDs_lay xs h
  constructor
  · unfold SeqAt.shaped
    rw [PyData.canLay0, h1, PyData.depth, decide_eq_true (by omega)]
    rfl
  · unfold SeqAt.shaped
    rw [PyData.canLay0, h1, PyData.depth, decide_eq_true (by omega)]
    rfl
theorem pvEqs_nil (ys : List PV) : pvEqs [] ys = some ys.isEmpty := by rw [pvEqs]
theorem pvEqs_cn (x : PV) (xs : List PV) : pvEqs (x :: xs) [] = some false := by rw [pvEqs]
theorem pvEqs_cc (x : PV) (xs : List PV) (y : PV) (ys : List PV) : pvEqs (x :: xs) (y :: ys) = match pvEq x y with
      | some true => pvEqs xs ys
      | some false => some false
      | none => none := by
  rw [pvEqs] <;> rfl
mutual
theorem pvEq_data {n m : Nat} : ∀ (x y : PV), dataD n x = true → dataD m y = true → pvEq x y = some (PyData.eqv (toData x) (toData y))
  | .non, y, hx, hy => by
    cases y <;> first
      | (simp [dataD] at hy; done)
      | simp [pvEq, dataHd, toData, PyData.eqv]
  | .bl b, y, hx, hy => by
    cases y <;> first
      | (simp [dataD] at hy; done)
      | (cases b <;> rename_i c <;> cases c <;> rfl)
      | simp [pvEq, dataHd, toData, PyData.eqv, num?, Bool.beq_eq_decide_eq]
  | .int i, y, hx, hy => by
    cases y <;> first
      | (simp [dataD] at hy; done)
      | (simp [pvEq, dataHd, toData, PyData.eqv, num?, Bool.beq_eq_decide_eq])
  | .str s, y, hx, hy => by
    cases y <;> first
      | (simp [dataD] at hy; done)
      | (simp [pvEq, dataHd, toData, PyData.eqv, Bool.beq_eq_decide_eq])
  | .tup xs, y, hx, hy => by
    cases y <;> first
      | (simp [dataD] at hy; done)
      | (cases n with
         | zero => simp [dataD] at hx
         | succ a =>
           cases m with
           | zero => simp [dataD] at hy
           | succ b =>
             rw [dataD] at hx hy
             rw [pvEq, toData, toData, PyData.eqv]
             exact pvEqs_data xs _ hx hy)
      | (simp [pvEq, dataHd, toData, PyData.eqv])
  | .lst f xs, y, hx, hy => by
    cases y <;> first
      | (simp [dataD] at hy; done)
      | (cases n with
         | zero => simp [dataD] at hx
         | succ a =>
           cases m with
           | zero => simp [dataD] at hy
           | succ b =>
             rw [dataD] at hx hy
             rw [pvEq, toData, toData, PyData.eqv]
             exact pvEqs_data xs _ hx hy)
      | (simp [pvEq, dataHd, toData, PyData.eqv])
  | .dct f ks vs, _, hx, _ => by simp [dataD] at hx
  | .ins f c ns vs, _, hx, _ => by simp [dataD] at hx
  | .ref k, _, hx, _ => by simp [dataD] at hx
  | .exc c ns vs, _, hx, _ => by simp [dataD] at hx
  | .scr is, _, hx, _ => by simp [dataD] at hx
theorem pvEqs_data {n m : Nat} : ∀ (xs ys : List PV), dataDs n xs = true → dataDs m ys = true → pvEqs xs ys = some (PyData.eqvAll (toDatas xs) (toDatas ys))
  | [], ys, _, _ => by
    rw [pvEqs_nil]
    cases ys <;> simp [toDatas, PyData.eqvAll]
  | x :: xs, ys, hx, hy => by
    cases ys with
    | nil =>
      rw [pvEqs_cn]
      simp [toDatas, PyData.eqvAll]
    | cons y ys =>
      rw [pvEqs_cc]
      rw [dataDs, Bool.and_eq_true] at hx hy
      rw [toDatas, toDatas, PyData.eqvAll, pvEq_data x y hx.1 hy.1]
      cases e : PyData.eqv (toData x) (toData y) with
      | true =>
        simp only [Bool.true_and]
        exact pvEqs_data xs ys hx.2 hy.2
      | false => rfl
end
section
variable {P : Program} {w : World} {K : PySem.W.Frag} {nm : Nm} {W : Wd} {H : Hp}
mutual
theorem Rep.dp {n : Nat} : ∀ (x : PV) (v : V), dataD n x = true → Rep P w K nm W H x v → Dp K H v (toData x)
  | .non, v, _, h => by rw [show v = _ from h]; exact .non
  | .bl b, v, _, h => by rw [show v = _ from h]; exact .bl b
  | .int i, v, _, h => by rw [show v = _ from h]; exact .int i
  | .str s, v, _, h => by rw [show v = _ from h]; exact .str s
  | .tup xs, v, hd, h => by
    cases n with
    | zero => simp [dataD] at hd
    | succ m =>
      rw [dataD] at hd
      rw [Rep] at h
      obtain ⟨a, vs, e, h1, h2⟩ := h
      subst e
      exact .tup (.of h1) (Reps.dp xs vs hd h2)
  | .lst f xs, v, hd, h => by
    cases n with
    | zero => simp [dataD] at hd
    | succ m =>
      rw [dataD] at hd
      rw [Rep] at h
      obtain ⟨a, vs, e, _, h1, h2⟩ := h
      subst e
      exact .lst (.of h1) (Reps.dp xs vs hd h2)
  | .dct f ks vs, _, hx, _ => by simp [dataD] at hx
  | .ins f c ns vs, _, hx, _ => by simp [dataD] at hx
  | .ref k, _, hx, _ => by simp [dataD] at hx
  | .exc c ns vs, _, hx, _ => by simp [dataD] at hx
  | .scr is, _, hx, _ => by simp [dataD] at hx
theorem Reps.dp {n : Nat} : ∀ (xs : List PV) (vs : List V), dataDs n xs = true → Reps P w K nm W H xs vs → DpAll K H vs (toDatas xs)
  | [], vs, _, h => by
    rw [h.nil_inv]
    exact .nil
  | x :: xs, vs, hd, h => by
    rw [dataDs, Bool.and_eq_true] at hd
    obtain ⟨v, r, e, h1, h2⟩ := h.uncons
    subst e
    exact .cons (Rep.dp x v hd.1 h1) (Reps.dp xs r hd.2 h2)
end
theorem RepV.dp {n : Nat} {x : PV} {v : V} (hd : dataD n x = true) (h : RepV P w K nm W H x v) : Dp K H v (toData x) := by
  rcases h with h | h
  · exact Rep.dp x v hd h
  · cases x with
    | lst f xs =>
      cases f with
      | false => exact False.elim h
      | true =>
        cases n with
        | zero => simp [dataD] at hd
        | succ m =>
          rw [dataD] at hd
          obtain ⟨a, vs, e, h1, h2⟩ := h
          subst e
          exact .lst (.of h1) (Reps.dp xs vs hd h2)
    | dct f ks vs => simp [dataD] at hd
    | ins f c ns vs => simp [dataD] at hd
    | _ => exact False.elim h
end
end EV

set_option Elab.async false
set_option linter.all false
set_option maxRecDepth 100000
/-! EV5b: operators, comparisons. -/
namespace EV
open PySem PySem.Spec PyProof.Rows L2
section
variable {P : Program} {w : World} {K : PySem.W.Frag} {nm : Nm} {W : Wd} {H : Hp} {v : V}
theorem RepV.int {i : Int} (h : RepV P w K nm W H (.int i) v) : v = .int i := h.elim (fun h => by rw [Rep] at h; exact h) False.elim
theorem RepV.bl {b : Bool} (h : RepV P w K nm W H (.bl b) v) : v = .bl b := h.elim (fun h => by rw [Rep] at h; exact h) False.elim
theorem RepV.non (h : RepV P w K nm W H .non v) : v = .non := h.elim (fun h => by rw [Rep] at h; exact h) False.elim
theorem RepV.str {s : Str} (h : RepV P w K nm W H (.str s) v) : v = .str s := h.elim (fun h => by rw [Rep] at h; exact h) False.elim
theorem RepV.tup {xs : List PV} (h : RepV P w K nm W H (.tup xs) v) : ∃ a vs, v = .ref a ∧ H a = some (.tup vs) ∧ Reps P w K nm W H xs vs := h.elim (fun h => by rw [Rep] at h; exact h) False.elim
theorem RepV.lst {f : Bool} {xs : List PV} (h : RepV P w K nm W H (.lst f xs) v) : ∃ a vs, v = .ref a ∧ H a = some (.lst vs) ∧ Reps P w K nm W H xs vs := by
  rcases h with h | h
  · rw [Rep] at h
    obtain ⟨a, vs, e, _, h1, h2⟩ := h
    exact ⟨a, vs, e, h1, h2⟩
  · cases f with
    | false => exact False.elim h
    | true => exact h
theorem RepV.dct {f : Bool} {ks vs : List PV} (h : RepV P w K nm W H (.dct f ks vs) v) : ∃ a, v = .ref a ∧ DictAt P w K nm W H a ks vs := by
  rcases h with h | h
  · rw [Rep] at h
    obtain ⟨a, e, _, h1⟩ := h
    exact ⟨a, e, h1⟩
  · cases f with
    | false => exact False.elim h
    | true => exact h
theorem RepV.ins {f : Bool} {c : Nat} {ns : List Nat} {vs : List PV} (h : RepV P w K nm W H (.ins f c ns vs) v) : ∃ a dx fs, v = .ref a ∧ H a = some (.ins (ca K nm c) dx fs) ∧ c ∈ nm.cs := by
  rcases h with h | h
  · rw [Rep] at h
    obtain ⟨a, dx, fs, e, _, h1, h2, _⟩ := h
    exact ⟨a, dx, fs, e, h1, h2.1⟩
  · cases f with
    | false => exact False.elim h
    | true => exact h
theorem RepV.scr {is : List Int} (h : RepV P w K nm W H (.scr is) v) : ∃ a, v = .ref a ∧ SqL K H a (is.map V.int) := by
  rcases h with h | h
  · rw [Rep] at h
    obtain ⟨a, e, ⟨o, h⟩ | h⟩ := h
    · exact ⟨a, e, .inl (.inr ⟨o, h⟩)⟩
    · exact ⟨a, e, .inr h⟩
  · exact False.elim h
theorem RepVs.inv1 {xs : List PV} {x : V} (h : RepVs P w K nm W H xs [x]) : ∃ p, xs = [p] ∧ RepV P w K nm W H p x := by
  cases xs with
  | nil => cases (show [x] = [] from h)
  | cons p ps =>
    obtain ⟨v, r, e, h1, h2⟩ := h
    cases e
    cases ps with
    | nil => exact ⟨p, rfl, h1⟩
    | cons q qs =>
      obtain ⟨_, _, e, _⟩ := h2
      cases e
theorem RepVs.inv2 {xs : List PV} {x y : V} (h : RepVs P w K nm W H xs [x, y]) : ∃ p q, xs = [p, q] ∧ RepV P w K nm W H p x ∧ RepV P w K nm W H q y := by
  cases xs with
  | nil => cases (show [x, y] = [] from h)
  | cons p ps =>
    obtain ⟨v, r, e, h1, h2⟩ := h
    cases e
    obtain ⟨q, e2, h3⟩ := RepVs.inv1 h2
    exact ⟨p, q, by rw [e2], h1, h3⟩
theorem RepVs.inv0 {xs : List PV} (h : RepVs P w K nm W H xs []) : xs = [] := by
  cases xs with
  | nil => rfl
  | cons p ps =>
    obtain ⟨v, r, e, h1, h2⟩ := h
    cases e
theorem OpGot.int {i : Int} : OpGot P w K nm W H (.sh (.int i)) (.int i) [] H := OpGot.sh rfl
theorem OpGot.bl {b : Bool} : OpGot P w K nm W H (.sh (.bl b)) (.bl b) [] H := OpGot.sh rfl
theorem Reps.rep {xs : List PV} {vs : List V} (n : Nat) (h : Reps P w K nm W H xs vs) : Reps P w K nm W H (List.replicate n xs).flatten (List.replicate n vs).flatten := by
  induction n with
  | zero => exact Reps.nil
  | succ n ih =>
    rw [List.replicate_succ, List.replicate_succ, List.flatten_cons, List.flatten_cons]
    exact Reps.append h ih
end

/-! ### a tuple times 1, times nought -/
theorem tuple_mulW1 (l : Addr) (items : Array Value) (n : Nat) (dd : Option Addr) (sl : Array (Option Value)) (x : Int) (u : Tok) (c0 : (decide (x < -(2 ^ 63)) || decide (x ≥ 2 ^ 63)) = false) (c1 : (items.isEmpty || x == 1) = true) :
    Meets (Builtin.«tuple.__mul__» ⟨[.ref l, .int x u], []⟩) (fun _ R s => s.heap.get? l = some { cls := .type "tuple", dict := dd, data := .seq items n, slots := sl } ∧ R (.ok (.ret (Value.ref l))) s) :=
  .of_wp fun prog w A R s h => by
    obtain ⟨hp, g, d, tk, os⟩ := s
    obtain ⟨hl, h⟩ := h
    have f1 := AutoSeq1.idx_int
    wp_walk using wpAny_loadPart' hl
    repeat (first
      | (refine wpAny_ite_false (decide_eq_false (by rw [c0]; exact Bool.false_ne_true)) ?_; wp_walk using wpAny_loadPart' hl)
      | (refine wpAny_ite_true (decide_eq_true c1) ?_; wp_walk using wpAny_loadPart' hl))
    exact ⟨_, rfl, h⟩
theorem tuple_mulW0 (l : Addr) (items : Array Value) (n : Nat) (dd : Option Addr) (sl : Array (Option Value)) (x : Int) (u : Tok) (c0 : (decide (x < -(2 ^ 63)) || decide (x ≥ 2 ^ 63)) = false) (c1 : (items.isEmpty || x == 1) = false) (c2 : (decide (x ≤ 0) || items.isEmpty) = true) :
    Meets (Builtin.«tuple.__mul__» ⟨[.ref l, .int x u], []⟩) (fun _ R s => s.heap.get? l = some { cls := .type "tuple", dict := dd, data := .seq items n, slots := sl } ∧
      R (.ok (.ret (Value.ref s.heap.objs.size))) { s with heap := s.heap.push { cls := Value.type "tuple", data := Data.seq #[] }, toks := s.toks }) :=
  .of_wp fun prog w A R s h => by
    obtain ⟨hp, g, d, tk, os⟩ := s
    obtain ⟨hl, h⟩ := h
    have f1 := AutoSeq1.idx_int
    wp_walk using wpAny_loadPart' hl
    repeat (first
      | (refine wpAny_ite_false (decide_eq_false (by rw [c0]; exact Bool.false_ne_true)) ?_; wp_walk using wpAny_loadPart' hl)
      | (refine wpAny_ite_false (decide_eq_false (by rw [c1]; exact Bool.false_ne_true)) ?_; wp_walk using wpAny_loadPart' hl)
      | (refine wpAny_ite_true (decide_eq_true c2) ?_; wp_walk using wpAny_loadPart' hl))
    exact ⟨_, rfl, h⟩
section
variable {X : Cx}
/-- t * 1, () * k, t * 0 -/
theorem op_repT0 : OpR X (binaryOp .Mult) (fun x y H Q => ∃ l k xs, x = .ref l ∧ y = .int k ∧ SqT X.K H l xs ∧ -1000 < k ∧ k < 1000 ∧
    ((xs = [] ∨ k = 1) → Q (.ref l) H) ∧ (xs ≠ [] → k ≠ 1 → k ≤ 0 ∧ ∀ p, H p = none → Q (.ref p) (upd H p (.tup [])))) := by
  intro pins s σ H x y v u Q I rx ry h
  obtain ⟨l, k, xs, rfl, rfl, hT, h1, h2, q1, q2⟩ := h
  cases rx
  obtain ⟨t, rfl⟩ := ry
  obtain ⟨its, r, ⟨⟨cls, dd, data, sl⟩, ho, hc, n, hd⟩, hs⟩ := I.tuple hT
  simp only at hc hd
  subst hc hd
  have c0 : (decide (k < -(2 ^ 63)) || decide (k ≥ 2 ^ 63)) = false := by
    rw [decide_eq_false (by omega), decide_eq_false (by omega)] <;> rfl
  by_cases hw : xs = [] ∨ k = 1
  · have c1 : (its.toArray.isEmpty || k == 1) = true := by
      rcases hw with e | e
      · subst e
        cases r
        rfl
      · rw [e]
        simp
    refine wpAny_binaryOp_repeat_ref (T := "tuple") (U := "int") (by decide) ⟨_, ho, rfl⟩ (fun s' => typeIs_int s' k t) noFill_tuple_mul F.fills_int_mul F.slot_int_rmul repeat_tuple F.slot_int_index.lookup
      (call_meets F.slot_int_rmul (typeIs_int s k t) F.entry_int_rmul (F.args_int_rmul_2 _ _) (int_rmul_tuple k t l its.toArray n dd sl)
        ⟨ho, rfl, ⟨_, ho, rfl⟩, call_meets F.slot_tuple_mul ⟨_, ho, rfl⟩ F.entry_tuple_mul (F.args_tuple_mul_2 _ _) (tuple_mulW1 l its.toArray n dd sl k t c0 c1) ⟨ho, ?_⟩⟩)
    exact ⟨.ref l, H, I, rfl, q1 hw⟩
  · have hne : xs ≠ [] := fun e => hw (.inl e)
    have hk : k ≠ 1 := fun e => hw (.inr e)
    obtain ⟨hk0, q⟩ := q2 hne hk
    have hn : its ≠ [] := fun e => hne (by
      rw [e] at r
      cases r
      rfl)
    have hi : its.toArray.isEmpty = false := by
      cases its with
      | nil => exact absurd rfl hn
      | cons a b => rfl
    have c1 : (its.toArray.isEmpty || k == 1) = false := by
      rw [hi, Bool.false_or]
      exact beq_eq_false_iff_ne.mpr hk
    have c2 : (decide (k ≤ 0) || its.toArray.isEmpty) = true := by
      rw [decide_eq_true hk0] <;> rfl
    refine wpAny_binaryOp_repeat_ref (T := "tuple") (U := "int") (by decide) ⟨_, ho, rfl⟩ (fun s' => typeIs_int s' k t) noFill_tuple_mul F.fills_int_mul F.slot_int_rmul repeat_tuple F.slot_int_index.lookup
      (call_meets F.slot_int_rmul (typeIs_int s k t) F.entry_int_rmul (F.args_int_rmul_2 _ _) (int_rmul_tuple k t l its.toArray n dd sl)
        ⟨ho, rfl, ⟨_, ho, rfl⟩, call_meets F.slot_tuple_mul ⟨_, ho, rfl⟩ F.entry_tuple_mul (F.args_tuple_mul_2 _ _) (tuple_mulW0 l its.toArray n dd sl k t c0 c1 c2) ⟨ho, ?_⟩⟩)
    refine ⟨.ref s.heap.objs.size, _, I.laid (t' := s.toks) (o := .tup []) (fun b ob q => Heap.get?_push_of_some _ q) (Nat.le_refl _) ?_, rfl, q _ (I.hok.fresh (Nat.le_refl _))⟩
    exact ⟨Nat.zero_le _, [], .nil, IsTup.new _ _⟩
end
end EV

set_option Elab.async false
set_option linter.all false
set_option maxRecDepth 100000
set_option maxHeartbeats 1000000
/-! EV5c: binary operators, by OpQ. -/
namespace EV
open PySem PySem.Spec PyProof.Rows L2
def opB : Bo → Operator
  | .add => .Add
  | .sub => .Sub
  | .mul => .Mult
  | .fdiv => .FloorDiv
  | .mod => .Mod
  | .pow => .Pow
theorem intBits_256 {i : Int} (h : i.natAbs < 2 ^ 256) : Builtin.Int.intBits i ≤ 256 := by
  by_cases h0 : i.natAbs = 0
  · unfold Builtin.Int.intBits
    rw [if_pos (by simpa using h0)]
    omega
  · have := (Nat.log2_lt h0).mpr h
    unfold Builtin.Int.intBits
    split <;> omega
section
variable {V1 : Env1} {X : Cx}
theorem op_powB : OpR X (binaryOp .Pow) (rI (fun i j => 0 ≤ j ∧ j ≤ 1000 ∧ i.natAbs < 2 ^ 256) fun i j => .int (i ^ j.toNat)) := opI fun i j _ _ _ _ _ hc q => by
  refine pow_int hc.1 ?_ q
  have h1 := intBits_256 hc.2.2
  have h2 : (Builtin.Int.intBits i : Int) * j ≤ 256 * 1000 := Int.mul_le_mul (by omega) hc.2.1 hc.1 (by omega)
  omega
theorem opr_bop (o : Bo) : OpR X (binaryOp (opB o)) (fun x y H Q => OpQ V1 X.prog X.w X.K (.bop o) [x, y] H Q) := by
  intro pins s σ H x y v u Q I rx ry h
  obtain ⟨W, pvs, st, AS, hr, hst, ov, hov, hq⟩ := h
  obtain ⟨p, q, e, hp, hq'⟩ := hr.inv2
  subst e
  rw [opV] at hov
  unfold bop at hov
  split at hov
  · -- int + int
    cases hov
    exact op_add pins s σ H _ _ v u Q I rx ry ⟨_, _, hp.int, hq'.int, hq _ _ _ OpGot.int⟩
  · -- tup + tup
    rename_i xs ys
    split at hov
    · rename_i hz
      cases hov
      obtain ⟨a, vs, ea, ha, hra⟩ := hp.tup
      obtain ⟨b, us, eb, hb, hrb⟩ := hq'.tup
      have l1 := hra.length
      have l2 := hrb.length
      subst ea eb
      have hab : Rep X.prog X.w X.K V1.nm W H (.tup ys) (.ref b) := by
        rw [Rep]
        exact ⟨b, us, rfl, hb, hrb⟩
      have haa : Rep X.prog X.w X.K V1.nm W H (.tup xs) (.ref a) := by
        rw [Rep]
        exact ⟨a, vs, rfl, ha, hra⟩
      refine op_catA pins s σ H _ _ v u Q I rx ry ⟨a, b, vs, us, rfl, rfl, .of ha, .of hb, by rw [sizeLine_eq]; unfold cap at hz; omega, fun e => ?_, fun e1 e2 => ?_, fun e1 e2 z hz' => ?_⟩
      · have : xs = [] := List.length_eq_zero_iff.mp (by rw [l1, e]; rfl)
        rw [this, List.nil_append] at hq
        exact hq _ _ _ (OpGot.sh hab)
      · have : ys = [] := List.length_eq_zero_iff.mp (by rw [l2, e2]; rfl)
        rw [this, List.append_nil] at hq
        exact hq _ _ _ (OpGot.sh haa)
      · exact hq _ _ _ (OpGot.tup (Reps.append hra hrb) hz')
    · cases hov
  · -- lst + lst
    rename_i xs _ ys
    split at hov
    · rename_i hz
      cases hov
      obtain ⟨a, vs, ea, ha, hra⟩ := hp.lst
      obtain ⟨b, us, eb, hb, hrb⟩ := hq'.lst
      have l1 := hra.length
      have l2 := hrb.length
      subst ea eb
      exact op_cat pins s σ H _ _ v u Q I rx ry ⟨a, b, vs, us, rfl, rfl, ha, hb, by rw [sizeLine_eq]; unfold cap at hz; omega, fun z hz' => hq _ _ _ (OpGot.lst (Reps.append hra hrb) hz')⟩
    · cases hov
  · cases hov
    exact op_sub pins s σ H _ _ v u Q I rx ry ⟨_, _, hp.int, hq'.int, hq _ _ _ OpGot.int⟩
  · split at hov
    · rename_i hz
      cases hov
      refine op_mul pins s σ H _ _ v u Q I rx ry ⟨_, _, hp.int, hq'.int, ?_, hq _ _ _ OpGot.int⟩
      unfold okMul at hz
      rw [Bool.or_eq_true, decide_eq_true_eq, decide_eq_true_eq] at hz
      exact hz
    · cases hov
  · -- list * int
    rename_i xs k
    split at hov
    · rename_i hz
      cases hov
      obtain ⟨a, vs, ea, ha, hra⟩ := hp.lst
      have l1 := hra.length
      have ey := hq'.int
      subst ea ey
      refine op_rep pins s σ H _ _ v u Q I rx ry ⟨a, k, vs, rfl, rfl, ha, ?_, by omega, ?_, fun z hz' => hq _ _ _ (OpGot.lst (Reps.rep _ hra) hz')⟩
      · have := hz.2.2
        omega
      · have a1 : vs.length * k.toNat ≤ 1000 * 1000 := Nat.mul_le_mul (by omega) (by omega)
        rw [sizeLine_eq]
        omega
    · cases hov
  · -- tuple * int
    rename_i xs k
    split at hov
    · rename_i hz
      cases hov
      obtain ⟨a, vs, ea, ha, hra⟩ := hp.tup
      have l1 := hra.length
      have ey := hq'.int
      subst ea ey
      have haa : Rep X.prog X.w X.K V1.nm W H (.tup xs) (.ref a) := by
        rw [Rep]
        exact ⟨a, vs, rfl, ha, hra⟩
      by_cases hc : vs ≠ [] ∧ 2 ≤ k
      · exact op_repT pins s σ H _ _ v u Q I rx ry ⟨a, k, vs, rfl, rfl, .of ha, hc.1, hc.2, by omega, by omega, fun z hz' => hq _ _ _ (OpGot.tup (Reps.rep _ hra) hz')⟩
      · refine op_repT0 pins s σ H _ _ v u Q I rx ry ⟨a, k, vs, rfl, rfl, .of ha, by omega, hz.1, fun e => ?_, fun e1 e2 => ?_⟩
        · have er : (List.replicate k.toNat xs).flatten = xs := by
            rcases e with e | e
            · have : xs = [] := List.length_eq_zero_iff.mp (by rw [l1, e]; rfl)
              rw [this]
              simp
            · rw [e]
              simp
          rw [er] at hq
          exact hq _ _ _ (OpGot.sh haa)
        · have hk : k ≤ 0 := by
            by_cases h2 : 2 ≤ k
            · exact absurd ⟨e1, h2⟩ hc
            · omega
          refine ⟨hk, fun z hz' => ?_⟩
          have er : (List.replicate k.toNat xs).flatten = [] := by
            rw [show k.toNat = 0 by omega]
            rfl
          rw [er] at hq
          exact hq _ _ _ (OpGot.tup Reps.nil hz')
    · cases hov
  · split at hov
    · rename_i hz
      cases hov
      exact op_fdiv pins s σ H _ _ v u Q I rx ry ⟨_, _, hp.int, hq'.int, hz, hq _ _ _ OpGot.int⟩
    · cases hov
  · split at hov
    · rename_i hz
      cases hov
      exact op_mod pins s σ H _ _ v u Q I rx ry ⟨_, _, hp.int, hq'.int, hz, hq _ _ _ OpGot.int⟩
    · cases hov
  · split at hov
    · rename_i hz
      cases hov
      exact op_powB pins s σ H _ _ v u Q I rx ry ⟨_, _, hp.int, hq'.int, hz, hq _ _ _ OpGot.int⟩
    · cases hov
  · cases hov
end
end EV

set_option Elab.async false
set_option linter.all false
set_option maxRecDepth 100000
set_option maxHeartbeats 1000000
/-! EV5d: comparisons of data, is. -/
namespace EV
open PySem PySem.Spec PyProof.Rows L2
def opC : Cm → CmpOp
  | .eq => .Eq
  | .ne => .NotEq
  | .lt => .Lt
  | .le => .LtE
  | .gt => .Gt
  | .ge => .GtE
  | .isC => .Is
  | .notC => .IsNot
  | .inn => .In
  | .nin => .NotIn
theorem anyEq_data {n m : Nat} {x : PV} (hx : dataD n x = true) : ∀ xs : List PV, dataDs m xs = true → anyEq x xs = some ((toDatas xs).any fun z => PyData.eqv z (toData x))
  | [], _ => rfl
  | y :: ys, h => by
    rw [dataDs, Bool.and_eq_true] at h
    rw [anyEq, pvEq_data y x h.1 hx, toDatas, List.any_cons]
    cases e : PyData.eqv (toData y) (toData x) with
    | true => rfl
    | false =>
      simp only [Bool.false_or]
      exact anyEq_data hx ys h.2
theorem eqD_eq {x y : PV} {b : Bool} (h : eqD x y = some b) : dataD 60 x = true ∧ dataD 60 y = true ∧ b = PyData.eqv (toData x) (toData y) := by
  unfold eqD at h
  split at h
  · rename_i hd
    rw [Bool.and_eq_true] at hd
    rw [pvEq_data x y hd.1 hd.2] at h
    cases h
    exact ⟨hd.1, hd.2, rfl⟩
  · cases h
section
variable {V1 : Env1} {X : Cx}
theorem wp_eqD {pins : List (Addr × Obj)} {s : Shared} {σ : L2.St} {H : Hp} {x y : V} {v u : Value} {Q : VK} {W : Wd} {p q : PV} {b : Bool} (hu : X.A.units + 65 < cLine) (I : Inv X pins σ H s) (rx : RelV x v) (ry : RelV y u)
    (hp : RepV X.prog X.w X.K V1.nm W H p x) (hq : RepV X.prog X.w X.K V1.nm W H q y) (he : eqD p q = some b) (h : Q (.bl b) H) : wpAny (model X.prog X.w) X.A (compareOp .Eq v u) (EP X pins σ Q) X.xe s := by
  obtain ⟨h1, h2, e⟩ := eqD_eq he
  subst e
  exact op_eqD (by omega) pins s σ H x y v u Q I rx ry ⟨_, _, hp.dp h1, hq.dp h2, dataD_shaped h1, dataD_shaped h2, h⟩
theorem wp_neD {pins : List (Addr × Obj)} {s : Shared} {σ : L2.St} {H : Hp} {x y : V} {v u : Value} {Q : VK} {W : Wd} {p q : PV} {b : Bool} (hu : X.A.units + 65 < cLine) (I : Inv X pins σ H s) (rx : RelV x v) (ry : RelV y u)
    (hp : RepV X.prog X.w X.K V1.nm W H p x) (hq : RepV X.prog X.w X.K V1.nm W H q y) (he : eqD p q = some b) (h : Q (.bl (!b)) H) : wpAny (model X.prog X.w) X.A (compareOp .NotEq v u) (EP X pins σ Q) X.xe s := by
  obtain ⟨h1, h2, e⟩ := eqD_eq he
  subst e
  exact op_neD (by omega) pins s σ H x y v u Q I rx ry ⟨_, _, hp.dp h1, hq.dp h2, dataD_shaped h1, dataD_shaped h2, h⟩
theorem plain_bl {x : V} {v : Value} (r : RelV x v) (b : Bool) : plainIs v (.bool b) = true := by
  cases x with
  | non => cases r; rfl
  | bl c => cases r; rfl
  | int _ => obtain ⟨t, rfl⟩ := r; rfl
  | str _ => obtain ⟨t, rfl⟩ := r; rfl
  | byt _ => obtain ⟨t, rfl⟩ := r; rfl
  | flt _ => obtain ⟨t, rfl⟩ := r; rfl
  | ref _ => cases r; rfl
  | ty _ => cases r; rfl
theorem rel_bl {x : V} {v : Value} (r : RelV x v) (b : Bool) : (v == Value.bool b) = decide (x = .bl b) := by
  cases x with
  | non => cases r; rfl
  | bl c =>
    cases (show v = Value.bool c from r)
    cases b <;> cases c <;> rfl
  | int _ => obtain ⟨t, rfl⟩ := r; rfl
  | str _ => obtain ⟨t, rfl⟩ := r; rfl
  | byt _ => obtain ⟨t, rfl⟩ := r; rfl
  | flt _ => obtain ⟨t, rfl⟩ := r; rfl
  | ref _ => cases r; rfl
  | ty _ => cases r; rfl
variable {W : Wd} {H : Hp} {p : PV} {x : V}
theorem RepV.is_bl (h : RepV X.prog X.w X.K V1.nm W H p x) (b : Bool) : decide (x = .bl b) = isBlB b p := by
  cases p with
  | bl c =>
    rw [h.bl]
    cases b <;> cases c <;> rfl
  | non => rw [h.non]; rfl
  | int i => rw [h.int]; rfl
  | str s => rw [h.str]; rfl
  | tup xs => obtain ⟨a, vs, e, _⟩ := h.tup; rw [e]; rfl
  | lst f xs => obtain ⟨a, vs, e, _⟩ := h.lst; rw [e]; rfl
  | dct f ks vs => obtain ⟨a, e, _⟩ := h.dct; rw [e]; rfl
  | ins f c ns vs => obtain ⟨a, dx, fs, e, _⟩ := h.ins; rw [e]; rfl
  | scr is => obtain ⟨a, e, _⟩ := h.scr; rw [e]; rfl
  | ref k =>
    rcases h with h | h
    · rw [Rep] at h
      obtain ⟨a, _, e⟩ := h
      rw [e]; rfl
    · exact False.elim h
  | exc c ns vs =>
    rcases h with h | h
    · rw [Rep] at h
      exact h.elim
    · exact False.elim h
theorem RepV.is_non (h : RepV X.prog X.w X.K V1.nm W H p x) : decide (x = .non) = isNonB p := by
  cases p with
  | bl c => rw [h.bl]; rfl
  | non => rw [h.non]; rfl
  | int i => rw [h.int]; rfl
  | str s => rw [h.str]; rfl
  | tup xs => obtain ⟨a, vs, e, _⟩ := h.tup; rw [e]; rfl
  | lst f xs => obtain ⟨a, vs, e, _⟩ := h.lst; rw [e]; rfl
  | dct f ks vs => obtain ⟨a, e, _⟩ := h.dct; rw [e]; rfl
  | ins f c ns vs => obtain ⟨a, dx, fs, e, _⟩ := h.ins; rw [e]; rfl
  | scr is => obtain ⟨a, e, _⟩ := h.scr; rw [e]; rfl
  | ref k =>
    rcases h with h | h
    · rw [Rep] at h
      obtain ⟨a, _, e⟩ := h
      rw [e]; rfl
    · exact False.elim h
  | exc c ns vs =>
    rcases h with h | h
    · rw [Rep] at h
      exact h.elim
    · exact False.elim h
theorem wp_is {pins : List (Addr × Obj)} {s : Shared} {σ : L2.St} {y : V} {v u : Value} {Q : VK} {q : PV} {b : Bool} (I : Inv X pins σ H s) (rx : RelV x v) (ry : RelV y u)
    (hp : RepV X.prog X.w X.K V1.nm W H p x) (hq : RepV X.prog X.w X.K V1.nm W H q y) (he : isC p q = some b) : (Q (.bl b) H → wpAny (model X.prog X.w) X.A (compareOp .Is v u) (EP X pins σ Q) X.xe s) ∧ (Q (.bl (!b)) H → wpAny (model X.prog X.w) X.A (compareOp .IsNot v u) (EP X pins σ Q) X.xe s) := by
  unfold isC at he
  split at he
  · cases he
    have e := hp.is_non
    rw [← e]
    exact ⟨fun h => op_isN pins s σ H x y v u Q I rx ry ⟨hq.non, h⟩, fun h => op_notN pins s σ H x y v u Q I rx ry ⟨hq.non, h⟩⟩
  · rename_i c
    cases he
    have e := hp.is_bl c
    rw [← e]
    have hy := hq.bl
    subst hy
    cases (show u = Value.bool c from ry)
    exact ⟨fun h => wpAny_is_plain (plain_bl rx c) ⟨.bl _, H, I, by rw [rel_bl rx c]; rfl, h⟩, fun h => wpAny_isNot_plain (plain_bl rx c) ⟨.bl _, H, I, by rw [rel_bl rx c]; rfl, h⟩⟩
  · cases he
theorem wp_cmpI {pins : List (Addr × Obj)} {s : Shared} {σ : L2.St} {y : V} {v u : Value} {Q : VK} {q r : PV} {o : Cm} {f : Int → Int → Bool} (I : Inv X pins σ H s) (rx : RelV x v) (ry : RelV y u)
    (hp : RepV X.prog X.w X.K V1.nm W H p x) (hq : RepV X.prog X.w X.K V1.nm W H q y) (he : ltInt f p q = some r) (hop : OpR X (compareOp (opC o)) (rI0 fun i j => .bl (f i j)))
    (h : ∀ v H' A, OpGot X.prog X.w X.K V1.nm W H (.sh r) v A H' → Q v H') : wpAny (model X.prog X.w) X.A (compareOp (opC o) v u) (EP X pins σ Q) X.xe s := by
  unfold ltInt at he
  split at he
  · cases he
    exact hop pins s σ H x y v u Q I rx ry ⟨_, _, hp.int, hq.int, h _ _ _ OpGot.bl⟩
  · cases he
/-- in, of a list or a tuple -/
theorem wp_inS {pins : List (Addr × Obj)} {s : Shared} {σ : L2.St} {y : V} {v u : Value} {Q : VK} {q : PV} {xs : List PV} {b : Bool} (hu : X.A.units + 65 < cLine) (I : Inv X pins σ H s) (rx : RelV x v) (ry : RelV y u)
    (hp : RepV X.prog X.w X.K V1.nm W H p x) (hq : RepV X.prog X.w X.K V1.nm W H q y) (hs : seq? q = some xs) (hd : (dataD 60 p && dataDs 60 xs) = true) (he : anyEq p xs = some b) :
    (Q (.bl b) H → wpAny (model X.prog X.w) X.A (compareOp .In v u) (EP X pins σ Q) X.xe s) ∧ (Q (.bl (!b)) H → wpAny (model X.prog X.w) X.A (compareOp .NotIn v u) (EP X pins σ Q) X.xe s) := by
  rw [Bool.and_eq_true] at hd
  rw [anyEq_data hd.1 xs hd.2] at he
  cases he
  obtain ⟨as, r1⟩ := Dp.reads I (toData p) x v (hp.dp hd.1) rx
  have sd := dataD_shaped hd.1
  obtain ⟨sl, stp⟩ := dataDs_shaped hd.2
  unfold seq? at hs
  split at hs
  · cases hs
    obtain ⟨a, vs, e, ha, hr⟩ := hq.tup
    subst e
    obtain ⟨bs, r2⟩ := Dp.reads I (.tuple (toDatas xs)) (.ref a) u (.tup (.of ha) (Reps.dp xs vs hd.2 hr)) ry
    exact ⟨fun h => SeqAt.in_tuple_reads r2 r1 (SeqAt.canLay_of_shaped stp) (SeqAt.canLay_of_shaped sd) (room_in_shaped sd hu) ⟨.bl _, H, I, rfl, h⟩,
      fun h => SeqAt.notIn_tuple_reads r2 r1 (SeqAt.canLay_of_shaped stp) (SeqAt.canLay_of_shaped sd) (room_in_shaped sd hu) ⟨.bl _, H, I, rfl, h⟩⟩
  · cases hs
    obtain ⟨a, vs, e, ha, hr⟩ := hq.lst
    subst e
    obtain ⟨bs, r2⟩ := Dp.reads I (.list (toDatas xs)) (.ref a) u (.lst (.of ha) (Reps.dp xs vs hd.2 hr)) ry
    exact ⟨fun h => SeqAt.in_list_reads r2 r1 (SeqAt.canLay_of_shaped sl) (SeqAt.canLay_of_shaped sd) (room_in_shaped sd hu) ⟨.bl _, H, I, rfl, h⟩,
      fun h => SeqAt.notIn_list_reads r2 r1 (SeqAt.canLay_of_shaped sl) (SeqAt.canLay_of_shaped sd) (room_in_shaped sd hu) ⟨.bl _, H, I, rfl, h⟩⟩
  · cases hs
end
end EV

set_option Elab.async false
set_option linter.all false
set_option maxRecDepth 100000
set_option maxHeartbeats 1000000
/-! EV5e: keys, dicts with tuples as keys. -/
namespace EV
open PySem PySem.Spec PyProof.Rows L2
mutual
theorem toKey_depth : ∀ (n : Nat) (x : PV), keyIn n x = true → ∃ k, toKey x = some k ∧ k.depth ≤ n
  | _, .non, _ => ⟨_, rfl, Nat.zero_le _⟩
  | _, .bl _, _ => ⟨_, rfl, Nat.zero_le _⟩
  | _, .int _, _ => ⟨_, rfl, Nat.zero_le _⟩
  | _, .str _, _ => ⟨_, rfl, Nat.zero_le _⟩
  | 0, .tup xs, h => by simp [keyIn] at h
  | n + 1, .tup xs, h => by
    rw [keyIn] at h
    obtain ⟨ks, e, d⟩ := toKeys_depth n xs h
    exact ⟨.tup ks, by rw [toKey, e]; rfl, by rw [NestedKey.depth]; omega⟩
  | _, .lst _ _, h => by simp [keyIn] at h
  | _, .dct _ _ _, h => by simp [keyIn] at h
  | _, .ins _ _ _ _, h => by simp [keyIn] at h
  | _, .ref _, h => by simp [keyIn] at h
  | _, .exc _ _ _, h => by simp [keyIn] at h
  | _, .scr _, h => by simp [keyIn] at h
theorem toKeys_depth : ∀ (n : Nat) (xs : List PV), keyIns n xs = true → ∃ ks, toKeys xs = some ks ∧ NestedKey.depthAll ks ≤ n
  | _, [], _ => ⟨[], rfl, Nat.zero_le _⟩
  | n, x :: xs, h => by
    rw [keyIns, Bool.and_eq_true] at h
    obtain ⟨k, e1, d1⟩ := toKey_depth n x h.1
    obtain ⟨ks, e2, d2⟩ := toKeys_depth n xs h.2
    exact ⟨k :: ks, by rw [toKeys, e1, e2], by rw [NestedKey.depthAll]; omega⟩
end
/-- keys compared -/
theorem toKey_hd {y : PV} {k : NestedKey} (h : toKey y = some k) : dataHd y = true := by
  cases y <;> first
    | rfl
    | simp [toKey] at h
mutual
theorem pvEq_key : ∀ (x y : PV) (k l : NestedKey), toKey x = some k → toKey y = some l → pvEq x y = some (decide (k = l))
  | .non, y, k, l, h1, h2 => by
    rw [toKey] at h1
    cases h1
    cases y <;> simp [toKey] at h2 <;> first
      | (subst h2; simp [pvEq, dataHd])
      | (obtain ⟨ks, _, e⟩ := h2; subst e; simp [pvEq, dataHd])
  | .bl b, y, k, l, h1, h2 => by
    rw [toKey] at h1
    cases h1
    cases y <;> simp [toKey] at h2 <;> first
      | (subst h2; simp [pvEq, dataHd, num?])
      | (obtain ⟨ks, _, e⟩ := h2; subst e; simp [pvEq, dataHd, num?])
  | .int i, y, k, l, h1, h2 => by
    rw [toKey] at h1
    cases h1
    cases y <;> simp [toKey] at h2 <;> first
      | (subst h2; simp [pvEq, dataHd, num?])
      | (obtain ⟨ks, _, e⟩ := h2; subst e; simp [pvEq, dataHd, num?])
  | .str s, y, k, l, h1, h2 => by
    rw [toKey] at h1
    cases h1
    cases y with
    | str z =>
      simp [toKey] at h2
      subst h2
      simp [pvEq, dataHd]
    | _ => simp [toKey] at h2 <;> first
      | (subst h2; simp [pvEq, dataHd])
      | (obtain ⟨ks, _, e⟩ := h2; subst e; simp [pvEq, dataHd])
  | .tup xs, y, k, l, h1, h2 => by
    rw [toKey] at h1
    obtain ⟨ks, e1, e2⟩ := Option.map_eq_some_iff.mp h1
    subst e2
    cases y with
    | tup ys =>
      rw [toKey] at h2
      obtain ⟨ls, e3, e4⟩ := Option.map_eq_some_iff.mp h2
      subst e4
      rw [pvEq]
      show pvEqs xs ys = _
      rw [pvEqs_key xs ys ks ls e1 e3]
      simp
    | _ => simp [toKey] at h2 <;> (subst h2; simp [pvEq, dataHd])
  | .lst _ _, _, _, _, h, _ => by simp [toKey] at h
  | .dct _ _ _, _, _, _, h, _ => by simp [toKey] at h
  | .ins _ _ _ _, _, _, _, h, _ => by simp [toKey] at h
  | .ref _, _, _, _, h, _ => by simp [toKey] at h
  | .exc _ _ _, _, _, _, h, _ => by simp [toKey] at h
  | .scr _, _, _, _, h, _ => by simp [toKey] at h
theorem pvEqs_key : ∀ (xs ys : List PV) (ks ls : List NestedKey), toKeys xs = some ks → toKeys ys = some ls → pvEqs xs ys = some (decide (ks = ls))
  | [], ys, ks, ls, h1, h2 => by
    rw [toKeys] at h1
    cases h1
    cases ys with
    | nil => rw [toKeys] at h2; cases h2; rfl
    | cons y ys =>
      rw [toKeys] at h2
      split at h2
      · cases h2; rfl
      · cases h2
  | x :: xs, ys, ks, ls, h1, h2 => by
    rw [toKeys] at h1
    split at h1
    · rename_i k ks e1 e2
      cases h1
      cases ys with
      | nil => rw [toKeys] at h2; cases h2; rfl
      | cons y ys =>
        rw [toKeys] at h2
        split at h2
        · rename_i l ls e3 e4
          cases h2
          rw [pvEqs]
          show (match pvEq x y with | some true => pvEqs xs ys | some false => some false | none => none) = _
          rw [pvEq_key x y k l e1 e3]
          by_cases hk : k = l
          · subst hk
            simp only [decide_true]
            rw [pvEqs_key xs ys ks ls e2 e4]
            simp
          · rw [decide_eq_false hk]
            simp [hk]
        · cases h2
    · cases h1
end
section
variable {P : Program} {w : World} {K : PySem.W.Frag} {nm : Nm} {X : Cx} {pins : List (Addr × Obj)} {s : Shared} {σ : L2.St} {W : Wd} {H : Hp}
mutual
/-- a key stands in the heap -/
theorem toKey_is (I : Inv X pins σ H s) : ∀ (x : PV) (v : V) (u : Value) (k : NestedKey), toKey x = some k → Rep X.prog X.w X.K nm W H x v → RelV v u → NestedIs s.heap k u
  | .non, v, u, k, e, h, r => by
    rw [toKey] at e; cases e
    cases (show v = .non from h)
    cases r
    exact .none
  | .bl b, v, u, k, e, h, r => by
    rw [toKey] at e; cases e
    cases (show v = .bl b from h)
    cases r
    exact .bool rfl
  | .int i, v, u, k, e, h, r => by
    rw [toKey] at e; cases e
    cases (show v = .int i from h)
    obtain ⟨t, rfl⟩ := r
    exact .int i t
  | .str z, v, u, k, e, h, r => by
    rw [toKey] at e; cases e
    cases (show v = .str z from h)
    obtain ⟨t, rfl⟩ := r
    exact .text z t
  | .tup xs, v, u, k, e, h, r => by
    rw [toKey] at e
    obtain ⟨ks, e1, e2⟩ := Option.map_eq_some_iff.mp e
    subst e2
    rw [Rep] at h
    obtain ⟨a, vs, ev, ha, hr⟩ := h
    subst ev
    cases r
    obtain ⟨its, rr, ⟨o, ho, hc, n, hd⟩, _⟩ := I.tuple (.inl (.inl ha))
    refine .tup ho hc hd ?_
    simpa using toKeys_is I xs vs its ks e1 hr rr
  | .lst _ _, _, _, _, e, _, _ => by simp [toKey] at e
  | .dct _ _ _, _, _, _, e, _, _ => by simp [toKey] at e
  | .ins _ _ _ _, _, _, _, e, _, _ => by simp [toKey] at e
  | .ref _, _, _, _, e, _, _ => by simp [toKey] at e
  | .exc _ _ _, _, _, _, e, _, _ => by simp [toKey] at e
  | .scr _, _, _, _, e, _, _ => by simp [toKey] at e
theorem toKeys_is (I : Inv X pins σ H s) : ∀ (xs : List PV) (vs : List V) (us : List Value) (ks : List NestedKey), toKeys xs = some ks → Reps X.prog X.w X.K nm W H xs vs → Vals vs us → NestedAll s.heap ks us
  | [], vs, us, ks, e, h, r => by
    rw [toKeys] at e; cases e
    rw [h.nil_inv] at r
    cases r
    exact .nil
  | x :: xs, vs, us, ks, e, h, r => by
    rw [toKeys] at e
    split at e
    · rename_i k ks e1 e2
      cases e
      obtain ⟨v, rest, ev, h1, h2⟩ := h.uncons
      subst ev
      cases r with
      | cons r1 r2 => exact .cons (toKey_is I x v _ k e1 h1 r1) (toKeys_is I xs rest _ ks e2 h2 r2)
    · cases e
end
theorem key_tup {y : PV} {k : NestedKey} {a : Addr} (e : toKey y = some k) (h : Rep P w K nm W H y (.ref a)) : ∃ zs, y = .tup zs := by
  cases y with
  | tup zs => exact ⟨zs, rfl⟩
  | non => rw [Rep] at h; cases h
  | bl b => rw [Rep] at h; cases h
  | int i => rw [Rep] at h; cases h
  | str z => rw [Rep] at h; cases h
  | _ => simp [toKey] at e
/-- the entries of a dict by values and by addresses -/
theorem look_ext {κ : NestedKey} {k : PV} (hk : toKey k = some κ) (ht : ∃ ys, k = .tup ys) : ∀ (ks vs : List PV) (xs : List (NestedKey × Addr × Value)) (vvs : List V) (o : Option PV), look k ks vs = some o → toKeys ks = some (xs.map (·.1)) →
    Reps P w K nm W H ks (xs.map fun x => .ref x.2.1) → Reps P w K nm W H vs vvs → Vals vvs (xs.map (·.2.2)) →
    (o = none ∧ atKey xs κ = none) ∨ (∃ x a v u, o = some x ∧ atKey xs κ = some (a, u) ∧ Rep P w K nm W H x v ∧ RelV v u)
  | [], vs, xs, vvs, o, h, h1, h2, h3, h4 => by
    rw [look] at h
    cases h
    have e := h2.nil_inv
    have : xs = [] := by
      cases xs with
      | nil => rfl
      | cons a b => simp at e
    subst this
    exact .inl ⟨rfl, rfl⟩
  | y :: ks, vs, xs, vvs, o, h, h1, h2, h3, h4 => by
    obtain ⟨va, ra, e1, q1, q2⟩ := h2.uncons
    cases xs with
    | nil => simp at e1
    | cons x xs =>
      rw [List.map_cons] at e1 h1 h4
      cases e1
      obtain ⟨v, rv, ev, r1, r2⟩ : ∃ v rv, vvs = v :: rv ∧ RelV v x.2.2 ∧ Vals rv (xs.map (·.2.2)) := by
        cases h4 with
        | cons a b => exact ⟨_, _, rfl, a, b⟩
      subst ev
      cases vs with
      | nil => cases (h3.nil_inv)
      | cons w1 vs =>
        obtain ⟨v', rv', ev', q3, q4⟩ := h3.uncons
        cases ev'
        rw [toKeys] at h1
        split at h1
        · rename_i l ls e3 e4
          injection h1 with h1
          injection h1 with e5 e6
          subst e5
          rw [look] at h
          obtain ⟨ys, ek⟩ := ht
          have hq : keyEq y k = some (decide (x.1 = κ)) := by
            have := pvEq_key y k x.1 κ e3 hk
            obtain ⟨zs, ez⟩ := key_tup e3 q1
            subst ek ez
            rw [pvEq] at this
            exact this
          rw [hq] at h
          by_cases hx : x.1 = κ
          · rw [decide_eq_true hx] at h
            cases h
            refine .inr ⟨w1, x.2.1, v, x.2.2, rfl, ?_, q3, r1⟩
            simp [atKey, hx]
          · rw [decide_eq_false hx] at h
            have ih := look_ext hk ⟨ys, ek⟩ ks vs xs rv o h (by rw [e4, e6]) q2 q4 r2
            have e7 : atKey (x :: xs) κ = atKey xs κ := by simp [atKey, hx]
            rw [e7]
            exact ih
        · cases h1
/-- an entry is stored -/
theorem store_ext {κ : NestedKey} {k xv : PV} {ka : Addr} {nv : V} {nu : Value} (hk : toKey k = some κ) (ht : ∃ ys, k = .tup ys) (hkr : Rep P w K nm W H k (.ref ka)) (hxr : Rep P w K nm W H xv nv) (hur : RelV nv nu) :
    ∀ (ks vs : List PV) (xs : List (NestedKey × Addr × Value)) (vvs : List V) (ks' vs' : List PV), store k xv ks vs = some (ks', vs') → toKeys ks = some (xs.map (·.1)) → (xs.map (·.1)).Nodup →
    Reps P w K nm W H ks (xs.map fun x => .ref x.2.1) → Reps P w K nm W H vs vvs → Vals vvs (xs.map (·.2.2)) →
    ∃ vvs', toKeys ks' = some ((storedH xs κ ka nu).map (·.1)) ∧ Reps P w K nm W H ks' ((storedH xs κ ka nu).map fun x => .ref x.2.1) ∧ Reps P w K nm W H vs' vvs' ∧ Vals vvs' ((storedH xs κ ka nu).map (·.2.2))
  | [], vs, xs, vvs, ks', vs', h, h1, hn, h2, h3, h4 => by
    rw [store] at h
    cases h
    have e := h2.nil_inv
    have : xs = [] := by
      cases xs with
      | nil => rfl
      | cons a b => simp at e
    subst this
    refine ⟨[nv], ?_, ?_, ?_, ?_⟩
    · simp [storedH, atKey, toKeys, hk]
    · exact Reps.cons hkr Reps.nil
    · exact Reps.cons hxr Reps.nil
    · exact .cons hur .nil
  | y :: ks, vs, xs, vvs, ks', vs', h, h1, hn, h2, h3, h4 => by
    obtain ⟨va, ra, e1, q1, q2⟩ := h2.uncons
    cases xs with
    | nil => simp at e1
    | cons x xs =>
      rw [List.map_cons] at e1 h1 h4 hn
      cases e1
      obtain ⟨v, rv, ev, r1, r2⟩ : ∃ v rv, vvs = v :: rv ∧ RelV v x.2.2 ∧ Vals rv (xs.map (·.2.2)) := by
        cases h4 with
        | cons a b => exact ⟨_, _, rfl, a, b⟩
      subst ev
      cases vs with
      | nil => cases (h3.nil_inv)
      | cons w1 vs =>
        obtain ⟨v', rv', ev', q3, q4⟩ := h3.uncons
        cases ev'
        rw [toKeys] at h1
        split at h1
        · rename_i l ls e3 e4
          injection h1 with h1
          injection h1 with e5 e6
          subst e5
          obtain ⟨hx0, hnt⟩ := List.nodup_cons.mp hn
          rw [store] at h
          obtain ⟨ys, ek⟩ := ht
          have hq : keyEq y k = some (decide (x.1 = κ)) := by
            have := pvEq_key y k x.1 κ e3 hk
            obtain ⟨zs, ez⟩ := key_tup e3 q1
            subst ek ez
            rw [pvEq] at this
            exact this
          simp only [hq] at h
          by_cases hx : x.1 = κ
          · rw [decide_eq_true hx] at h
            cases h
            have hno : ∀ z ∈ xs, z.1 ≠ κ := fun z hz e => hx0 (by
              rw [hx, ← e]
              exact List.mem_map_of_mem hz)
            have est : storedH (x :: xs) κ ka nu = (x.1, x.2.1, nu) :: xs := by
              have : atKey (x :: xs) κ = some x.2 := by simp [atKey, hx]
              rw [storedH_old this]
              rw [List.map_cons]
              congr 1
              · simp [putAt, hx]
              · exact (List.map_congr_left (g := id) fun z hz => by simp [putAt, hno z hz]).trans (List.map_id _)
            rw [est]
            refine ⟨nv :: rv, ?_, ?_, ?_, ?_⟩
            · rw [toKeys, e3, e4, e6]; rfl
            · exact Reps.cons q1 q2
            · exact Reps.cons hxr q4
            · exact .cons hur r2
          · rw [decide_eq_false hx] at h
            obtain ⟨p, hp, ep⟩ := Option.map_eq_some_iff.mp h
            cases ep
            obtain ⟨vvs', i1, i2, i3, i4⟩ := store_ext hk ⟨ys, ek⟩ hkr hxr hur ks vs xs rv p.1 p.2 hp (by rw [e4, e6]) hnt q2 q4 r2
            have est : storedH (x :: xs) κ ka nu = x :: storedH xs κ ka nu := by
              unfold storedH
              have : atKey (x :: xs) κ = atKey xs κ := by simp [atKey, hx]
              rw [this]
              split
              · simp [putAt, hx]
              · rfl
            rw [est]
            refine ⟨v :: vvs', ?_, ?_, ?_, ?_⟩
            · rw [toKeys, e3, i1]; rfl
            · exact Reps.cons q1 i2
            · exact Reps.cons q3 i3
            · exact .cons r1 i4
        · cases h1
end
end EV

set_option Elab.async false
set_option linter.all false
set_option maxRecDepth 100000
set_option maxHeartbeats 1000000
/-! EV5f: dicts with tuples as keys, in the heap. -/
namespace EV
open PySem PySem.Spec PyProof.Rows L2
section
variable {nm : Nm} {X : Cx} {pins : List (Addr × Obj)} {s : Shared} {σ : L2.St} {W : Wd} {H : Hp} {ks vs : List PV} {xs : List (NestedKey × Addr × Value)} {a : Addr}
theorem vals_refs : ∀ xs : List (NestedKey × Addr × Value), Vals (xs.map fun x => V.ref x.2.1) (xs.map fun x => Value.ref x.2.1)
  | [] => .nil
  | _ :: xs => .cons rfl (vals_refs xs)
theorem all_is {h : Heap} : ∀ xs : List (NestedKey × Addr × Value), NestedAll h (xs.map (·.1)) (xs.map fun x => Value.ref x.2.1) → ∀ x ∈ xs, NestedIs h x.1 (.ref x.2.1)
  | [], _, x, hx => (List.not_mem_nil hx).elim
  | y :: ys, hall, x, hx => by
    cases hall with
    | cons h1 h2 =>
      rcases List.mem_cons.mp hx with e | e
      · subst e
        exact h1
      · exact all_is ys h2 x e
theorem dict_of (I : Inv X pins σ H s) (h : H a = some (dctO X.prog X.w a xs)) (hk : toKeys ks = some (xs.map (·.1))) (hd : ∀ x ∈ xs, x.1.depth ≤ 8) (hr : Reps X.prog X.w X.K nm W H ks (xs.map fun x => .ref x.2.1)) :
    s.heap.DictOfH (nestedKind X.prog X.w) a xs ∧ (a == sysModules) = false ∧ xs.length ≤ sizeLine := by
  obtain ⟨⟨o, es, ep, ho, hx, hdat, hes, hn, hs, hz⟩, _⟩ := I.hok a _ h
  exact ⟨⟨o, es, ep, ho, hx, hdat, hes, fun x hx => ⟨all_is xs (toKeys_is I ks _ _ _ hk hr (vals_refs xs)) x hx, hd x hx⟩, hn⟩, hs, hz⟩
theorem key_of (I : Inv X pins σ H s) {k : PV} {v : V} {u : Value} (h : keyT k = true) (hr : Rep X.prog X.w X.K nm W H k v) (r : RelV v u) : ∃ κ ka, toKey k = some κ ∧ v = .ref ka ∧ u = .ref ka ∧ (nestedKind X.prog X.w).is s.heap κ ka ∧ κ.depth ≤ 8 ∧ ∃ ys, k = .tup ys := by
  cases k with
  | tup ys =>
    rw [keyT] at h
    obtain ⟨κs, e, d⟩ := toKeys_depth 6 ys h
    have ek : toKey (.tup ys) = some (.tup κs) := by rw [toKey, e]; rfl
    have hi := toKey_is I (.tup ys) v u _ ek hr r
    rw [Rep] at hr
    obtain ⟨ka, vs, ev, _⟩ := hr
    subst ev
    cases r
    have hdp : (NestedKey.tup κs).depth ≤ 8 := by rw [NestedKey.depth]; omega
    exact ⟨_, ka, ek, rfl, rfl, ⟨hi, hdp⟩, hdp, ys, rfl⟩
  | _ => cases h
/-- what stands in the dict under a key -/
theorem valueAt_of {xs : List (NestedKey × Addr × Value)} {κ : NestedKey} : valueAt (pairsH xs) κ = (atKey xs κ).map (·.2) := valueAt_pairsH xs κ
theorem repT_of {p : PV} {v : V} (h : RepV X.prog X.w X.K nm W H p v) (hk : keyT p = true) : Rep X.prog X.w X.K nm W H p v := by
  cases p with
  | tup ys =>
    rcases h with h | h
    · exact h
    · exact False.elim h
  | _ => cases hk
/-- a dict read, its kind known by the key -/
theorem dictT_at {k : PV} (ht : keyT k = true) {o : Option PV} (h : look k ks vs = some o) (hD : DictAt X.prog X.w X.K nm W H a ks vs) : ∃ xs vvs, H a = some (dctO X.prog X.w a xs) ∧ toKeys ks = some (xs.map (·.1)) ∧ (∀ x ∈ xs, x.1.depth ≤ 8) ∧ Reps X.prog X.w X.K nm W H ks (xs.map fun x => .ref x.2.1) ∧ Reps X.prog X.w X.K nm W H vs vvs ∧ Vals vvs (xs.map (·.2.2)) := by
  rcases hD with h1 | ⟨kvs, hne, h1, h2, h3⟩
  · exact h1
  · exfalso
    cases kvs with
    | nil => exact hne rfl
    | cons kv kvs =>
      cases ks with
      | nil =>
        have := h2.nil_inv
        cases this
      | cons y ys =>
        obtain ⟨v1, r1, e1, q1, q2⟩ := h2.uncons
        rw [List.map_cons] at e1
        cases e1
        cases vs with
        | nil =>
          rw [List.map_cons] at h3
          have := h3.nil_inv
          cases this
        | cons w1 ws =>
          rw [look] at h
          cases k with
          | tup zs =>
            cases y with
            | tup ws =>
              rw [Rep] at q1
              obtain ⟨_, _, e, _⟩ := q1
              obtain ⟨kk, kv2⟩ := kv
              cases kk <;> cases e
            | _ => simp [keyEq] at h
          | _ => cases ht
section
variable {V1 : Env1}
theorem store_look {k x : PV} : ∀ {ks vs : List PV} {r}, store k x ks vs = some r → ks.length = vs.length → ∃ o, look k ks vs = some o
  | [], vs, r, _, _ => ⟨none, rfl⟩
  | y :: ks, [], r, h, _ => by simp [store] at h
  | y :: ks, v :: vs, r, h, hl => by
    rw [store] at h
    rw [look]
    cases e : keyEq y k with
    | none => rw [e] at h; cases h
    | some b =>
      rw [e] at h
      cases b with
      | true => exact ⟨_, rfl⟩
      | false =>
        obtain ⟨p, hp, _⟩ := Option.map_eq_some_iff.mp h
        obtain ⟨o, ho⟩ := store_look hp (by simpa using hl)
        exact ⟨o, ho⟩
/-- in, of a dict -/
theorem wp_inD {x y : V} {v u : Value} {Q : VK} {p : PV} {b : Bool} (hu : X.A.units + 9 < cLine) (I : Inv X pins σ H s) (rx : RelV x v) (ry : RelV y u) (hp : RepV X.prog X.w X.K nm W H p x) {f : Bool} (hq : RepV X.prog X.w X.K nm W H (.dct f ks vs) y)
    (ht : keyT p = true) {o : Option PV} (hl : look p ks vs = some o) (hb : b = o.isSome) :
    (Q (.bl b) H → wpAny (model X.prog X.w) X.A (compareOp .In v u) (EP X pins σ Q) X.xe s) ∧ (Q (.bl (!b)) H → wpAny (model X.prog X.w) X.A (compareOp .NotIn v u) (EP X pins σ Q) X.xe s) := by
  obtain ⟨a, ea, hD⟩ := hq.dct
  subst ea
  cases (show u = Value.ref a from ry)
  obtain ⟨xs, vvs, h1, h2, h3, h4, h5, h6⟩ := dictT_at ht hl hD
  obtain ⟨hm, hs, hz⟩ := dict_of I h1 h2 h3 h4
  obtain ⟨κ, ka, ek, ev, eu, his, hdp, hy⟩ := key_of I ht (repT_of hp ht) rx
  subst ev eu
  have hb' : b = (valueAt (pairsH xs) κ).isSome := by
    rw [valueAt_pairsH, Option.isSome_map, hb]
    rcases look_ext ek hy ks vs xs vvs o hl h2 h4 h5 h6 with ⟨e1, e2⟩ | ⟨x, a', v', u', e1, e2, _⟩
    · rw [e1, e2]; rfl
    · rw [e1, e2]; rfl
  refine ⟨fun h => ?_, fun h => ?_⟩
  · exact in_keyed (by show X.A.in1.units + 8 < cLine; show X.A.units + 1 + 8 < cLine; omega) his hs ⟨xs, hm, rfl⟩ ⟨.bl b, H, I.tok _, by rw [hb']; rfl, h⟩
  · exact notIn_keyed (by show X.A.in1.units + 8 < cLine; show X.A.units + 1 + 8 < cLine; omega) his hs ⟨xs, hm, rfl⟩ ⟨.bl (!b), H, I.tok _, by rw [hb']; rfl, h⟩
end
end
end EV

set_option Elab.async false
set_option linter.all false
set_option maxRecDepth 100000
set_option maxHeartbeats 1000000
/-! EV5g: built-ins by values. -/
namespace EV
open PySem PySem.Spec PyProof.Rows L2
section
variable {V1 : Env1} {X : Cx} {Z : WX} {pos : Pos}
/-- what a built-in asks and gives -/
abbrev BQ (V1 : Env1) (X : Cx) (b : BI) : List V → Hp → VK → Prop := fun vs H Q => OpQ V1 X.prog X.w X.K (.bi b) vs H Q
theorem seq_at {W : Wd} {H : Hp} {nm : Nm} {p : PV} {v : V} {xs : List PV} (h : RepV X.prog X.w X.K nm W H p v) (hs : seq? p = some xs) : ∃ a vs, v = .ref a ∧ (SqL X.K H a vs ∨ SqT X.K H a vs) ∧ Reps X.prog X.w X.K nm W H xs vs ∧ ((∃ f, p = .lst f xs ∧ H a = some (.lst vs)) ∨ (p = .tup xs ∧ H a = some (.tup vs))) := by
  unfold seq? at hs
  split at hs
  · cases hs
    obtain ⟨a, vs, e, h1, h2⟩ := h.tup
    exact ⟨a, vs, e, .inr (.inl (.inl h1)), h2, .inr ⟨rfl, h1⟩⟩
  · cases hs
    rename_i f
    obtain ⟨a, vs, e, h1, h2⟩ := h.lst
    exact ⟨a, vs, e, .inl (.inl (.inl h1)), h2, .inl ⟨f, rfl, h1⟩⟩
  · cases hs
theorem len_dict {pins : List (Addr × Obj)} {s : Shared} {σ : L2.St} {H : Hp} {W : Wd} {f : Bool} {ks vs : List PV} {v : V} {u : Value} {Q : VK} (I : Inv X pins σ H s) (r : RelV v u) (h : RepV X.prog X.w X.K V1.nm W H (.dct f ks vs) v) (q : Q (.int ks.length) H) :
    wpAny (model X.prog X.w) X.A (call (.builtin "len") [u]) (EP X pins σ Q) X.xe s := by
  obtain ⟨a, ea, hD⟩ := h.dct
  subst ea
  rcases hD with ⟨xs, vvs, h1, h2, h3, h4, h5, h6⟩ | ⟨kvs, hne, h1, h2, h3⟩
  · cases (show u = Value.ref a from r)
    obtain ⟨hm, hs, hz⟩ := dict_of I h1 h2 h3 h4
    have hl : ks.length = xs.length := by rw [h4.length, List.length_map]
    rw [hl] at q
    exact call_len_dictH hs hm (by rw [sizeLine_eq] at hz; omega) ⟨.int ((xs.length : Nat) : Int), H, I.tok _, ⟨_, rfl⟩, q⟩
  · have hl : ks.length = kvs.length := by rw [h2.length, List.length_map]
    rw [hl] at q
    exact call_lenD pins s σ H _ _ Q I (.cons r .nil) ⟨a, kvs, rfl, h1, q⟩
theorem cb_len : CallR X (.builtin "len") (BQ V1 X .len) := by
  intro pins s σ H xs us Q I r h
  obtain ⟨W, pvs, st, AS, hr, hst, ov, hov, hq⟩ := h
  replace hov : biV .len pvs = some ov := hov
  unfold biV at hov
  split at hov <;> first
    | contradiction
    | skip
  · cases hov
    obtain ⟨v, e, hv⟩ := hr.one
    subst e
    cases r with
    | cons r1 r2 =>
      cases r2
      exact len_dict I r1 hv (hq _ _ _ OpGot.int)
  · cases hov
    obtain ⟨v, e, hv⟩ := hr.one
    subst e
    obtain ⟨a, ea, hs⟩ := hv.scr
    subst ea
    refine call_len_seq pins s σ H _ us Q I r ⟨a, _, rfl, .inl hs, ?_⟩
    rw [List.length_map]
    exact hq _ _ _ OpGot.int
  · obtain ⟨ys, hs, e2⟩ := Option.map_eq_some_iff.mp hov
    subst e2
    obtain ⟨v, e, hv⟩ := hr.one
    subst e
    obtain ⟨a, vs, ea, hsq, hrs, _⟩ := seq_at hv hs
    subst ea
    refine call_len_seq pins s σ H _ us Q I r ⟨a, _, rfl, hsq, ?_⟩
    rw [← hrs.length]
    exact hq _ _ _ OpGot.int
theorem cb_int : CallR X (.type "int") (BQ V1 X .int) := by
  intro pins s σ H xs us Q I r h
  obtain ⟨W, pvs, st, AS, hr, hst, ov, hov, hq⟩ := h
  replace hov : biV .int pvs = some ov := hov
  unfold biV at hov
  split at hov <;> first
    | contradiction
    | skip
  · cases hov
    obtain ⟨v, e, hv⟩ := hr.one
    rw [hv.int] at e
    exact call_int1 pins s σ H xs us Q I r (.inl ⟨_, e, hq _ _ _ OpGot.int⟩)
  · cases hov
    obtain ⟨v, e, hv⟩ := hr.one
    rw [hv.bl] at e
    exact call_int1 pins s σ H xs us Q I r (.inr ⟨_, e, hq _ _ _ OpGot.int⟩)
theorem cb_max2 (hc : X.calm = true) : CallR X (.builtin "max") (BQ V1 X .max2) := by
  intro pins s σ H xs us Q I r h
  obtain ⟨W, pvs, st, AS, hr, hst, ov, hov, hq⟩ := h
  replace hov : biV .max2 pvs = some ov := hov
  unfold biV at hov
  split at hov <;> first
    | contradiction
    | skip
  cases hov
  obtain ⟨v, u, e, hv, hu⟩ := hr.two
  rw [hv.int, hu.int] at e
  exact call_max2 hc pins s σ H xs us Q I r ⟨_, _, e, hq _ _ _ OpGot.int⟩
theorem cb_min2 (hc : X.calm = true) : CallR X (.builtin "min") (BQ V1 X .min2) := by
  intro pins s σ H xs us Q I r h
  obtain ⟨W, pvs, st, AS, hr, hst, ov, hov, hq⟩ := h
  replace hov : biV .min2 pvs = some ov := hov
  unfold biV at hov
  split at hov <;> first
    | contradiction
    | skip
  cases hov
  obtain ⟨v, u, e, hv, hu⟩ := hr.two
  rw [hv.int, hu.int] at e
  exact call_min2 hc pins s σ H xs us Q I r ⟨_, _, e, hq _ _ _ OpGot.int⟩
theorem cb_list : CallR X (.type "list") (BQ V1 X .list) := by
  intro pins s σ H xs us Q I r h
  obtain ⟨W, pvs, st, AS, hr, hst, ov, hov, hq⟩ := h
  replace hov : biV .list pvs = some ov := hov
  unfold biV at hov
  split at hov <;> first
    | contradiction
    | skip
  obtain ⟨ys, hs, e2⟩ := Option.map_eq_some_iff.mp hov
  subst e2
  obtain ⟨v, e, hv⟩ := hr.one
  obtain ⟨a, vs, ea, hsq, hrs, _⟩ := seq_at hv hs
  rw [ea] at e
  exact call_list_of pins s σ H xs us Q I r ⟨a, vs, e, hsq, fun l hl => hq _ _ _ (OpGot.lst hrs hl)⟩
theorem cb_tuple : CallR X (.type "tuple") (BQ V1 X .tuple) := by
  intro pins s σ H xs us Q I r h
  obtain ⟨W, pvs, st, AS, hr, hst, ov, hov, hq⟩ := h
  replace hov : biV .tuple pvs = some ov := hov
  unfold biV at hov
  split at hov <;> first
    | contradiction
    | skip
  obtain ⟨ys, hs, e2⟩ := Option.map_eq_some_iff.mp hov
  subst e2
  obtain ⟨v, e, hv⟩ := hr.one
  obtain ⟨a, vs, ea, _, hrs, hd⟩ := seq_at hv hs
  rw [ea] at e
  refine call_tuple_of pins s σ H xs us Q I r ⟨a, vs, e, ?_⟩
  rcases hd with ⟨f, ep, hH⟩ | ⟨ep, hH⟩
  · exact .inl ⟨.inl (.inl hH), fun l hl => hq _ _ _ (OpGot.tup hrs hl)⟩
  · exact .inr ⟨.inl (.inl hH), hq _ _ _ (OpGot.sh (by rw [Rep]; exact ⟨a, vs, rfl, hH, hrs⟩))⟩
theorem bools_rep {W : Wd} {H : Hp} : ∀ {xs : List PV} {vs : List V} {bs : List Bool}, bools? xs = some bs → Reps X.prog X.w X.K V1.nm W H xs vs → vs = bs.map V.bl
  | [], vs, bs, h, hr => by
    rw [bools?] at h
    cases h
    rw [hr.nil_inv]; rfl
  | x :: xs, vs, bs, h, hr => by
    obtain ⟨v, r, e, h1, h2⟩ := hr.uncons
    unfold bools? at h
    split at h
    · contradiction
    · rename_i b ys e1
      cases e1
      obtain ⟨cs, hc, e3⟩ := Option.map_eq_some_iff.mp h
      subst e3
      rw [e, bools_rep hc h2]
      cases (show v = .bl b from h1)
      rfl
    · cases h
theorem ints_rep {W : Wd} {H : Hp} : ∀ {xs : List PV} {vs : List V} {bs : List Int}, ints? xs = some bs → Reps X.prog X.w X.K V1.nm W H xs vs → vs = bs.map V.int
  | [], vs, bs, h, hr => by
    rw [ints?] at h
    cases h
    rw [hr.nil_inv]; rfl
  | x :: xs, vs, bs, h, hr => by
    obtain ⟨v, r, e, h1, h2⟩ := hr.uncons
    unfold ints? at h
    split at h
    · contradiction
    · rename_i b ys e1
      cases e1
      obtain ⟨cs, hc, e3⟩ := Option.map_eq_some_iff.mp h
      subst e3
      rw [e, ints_rep hc h2]
      cases (show v = .int b from h1)
      rfl
    · cases h
theorem cb_all (hc : X.calm = true) : CallR X (.builtin "all") (BQ V1 X .all) := by
  intro pins s σ H xs us Q I r h
  obtain ⟨W, pvs, st, AS, hr, hst, ov, hov, hq⟩ := h
  replace hov : biV .all pvs = some ov := hov
  unfold biV at hov
  split at hov <;> first
    | contradiction
    | skip
  obtain ⟨bs, hb, e2⟩ := Option.map_eq_some_iff.mp hov
  subst e2
  obtain ⟨v, e, hv⟩ := hr.one
  obtain ⟨a, vs, ea, hH, hrs⟩ := hv.lst
  rw [ea] at e
  have ev := bools_rep hb hrs
  subst ev
  exact cr_all hc pins s σ H xs us Q I r ⟨a, bs, e, .inl (.inl hH), hq _ _ _ OpGot.bl⟩
theorem cb_any (hc : X.calm = true) : CallR X (.builtin "any") (BQ V1 X .any) := by
  intro pins s σ H xs us Q I r h
  obtain ⟨W, pvs, st, AS, hr, hst, ov, hov, hq⟩ := h
  replace hov : biV .any pvs = some ov := hov
  unfold biV at hov
  split at hov <;> first
    | contradiction
    | skip
  obtain ⟨bs, hb, e2⟩ := Option.map_eq_some_iff.mp hov
  subst e2
  obtain ⟨v, e, hv⟩ := hr.one
  obtain ⟨a, vs, ea, hH, hrs⟩ := hv.lst
  rw [ea] at e
  have ev := bools_rep hb hrs
  subst ev
  exact cr_any hc pins s σ H xs us Q I r ⟨a, bs, e, .inl (.inl hH), hq _ _ _ OpGot.bl⟩
theorem maxInts_le : ∀ (xs : List Int) (x m : Int), xs.foldl (fun a b => if b > a then b else a) x = m → x ≤ m ∧ (∀ y ∈ xs, y ≤ m)
  | [], x, m, h => ⟨by have : x = m := h; omega, fun _ h => (List.not_mem_nil h).elim⟩
  | y :: ys, x, m, h => by
    rw [List.foldl_cons] at h
    obtain ⟨h1, h2⟩ := maxInts_le ys _ m h
    refine ⟨by split at h1 <;> omega, fun z hz => ?_⟩
    rcases List.mem_cons.mp hz with e | e
    · subst e
      split at h1 <;> omega
    · exact h2 z e
theorem maxInts_mem : ∀ (xs : List Int) (x m : Int), xs.foldl (fun a b => if b > a then b else a) x = m → m = x ∨ m ∈ xs
  | [], x, m, h => .inl h.symm
  | y :: ys, x, m, h => by
    rw [List.foldl_cons] at h
    rcases maxInts_mem ys _ m h with e | e
    · split at e
      · exact .inr (by rw [e]; exact List.mem_cons_self)
      · exact .inl e
    · exact .inr (List.mem_cons_of_mem _ e)
theorem cb_max1 (hc : X.calm = true) : CallR X (.builtin "max") (BQ V1 X .max1) := by
  intro pins s σ H xs us Q I r h
  obtain ⟨W, pvs, st, AS, hr, hst, ov, hov, hq⟩ := h
  replace hov : biV .max1 pvs = some ov := hov
  unfold biV at hov
  split at hov <;> first
    | contradiction
    | skip
  split at hov
  · rename_i is hi
    obtain ⟨m, hm, e2⟩ := Option.map_eq_some_iff.mp hov
    subst e2
    obtain ⟨v, e, hv⟩ := hr.one
    obtain ⟨a, vs, ea, hH, hrs⟩ := hv.lst
    rw [ea] at e
    have ev := ints_rep hi hrs
    subst ev
    cases is with
    | nil => cases hm
    | cons j js =>
      have hm : js.foldl (fun a b => if b > a then b else a) j = m := Option.some.inj hm
      obtain ⟨h1, h2⟩ := maxInts_le js j m hm
      refine cr_max hc pins s σ H xs us Q I r ⟨a, j :: js, e, .inl (.inl hH), by simp, fun k hk hle => ?_⟩
      have hmem : m ∈ j :: js := by
        rcases maxInts_mem js j m hm with e | e
        · rw [e]; exact List.mem_cons_self
        · exact List.mem_cons_of_mem _ e
      have e1 := hle m hmem
      have e2 : k ≤ m := by
        rcases List.mem_cons.mp hk with e | e
        · omega
        · exact h2 k e
      have : k = m := by omega
      subst this
      exact hq _ _ _ OpGot.int
  · cases hov
end
end EV

set_option Elab.async false
set_option linter.all false
set_option maxRecDepth 100000
set_option maxHeartbeats 1000000
/-! EV5h: minus, an item, a slice. -/
namespace EV
open PySem PySem.Spec PyProof.Rows L2
section
variable {V1 : Env1} {X : Cx} {Z : WX} {pos : Pos}
theorem un_negE : UnR X (unaryOp .USub) (fun x H Q => OpQ V1 X.prog X.w X.K .neg [x] H Q) := by
  intro pins s σ H x v Q I r h
  obtain ⟨W, pvs, st, AS, hr, hst, ov, hov, hq⟩ := h
  obtain ⟨p, e, hp⟩ := hr.inv1
  subst e
  unfold opV at hov
  split at hov <;> first
    | contradiction
    | skip
  all_goals first
    | (rename_i i _ hh _
       injection hh with h1 _
       subst h1
       cases hov
       exact un_neg pins s σ H x v Q I r ⟨_, hp.int, hq _ _ _ OpGot.int⟩)
    | skip
  · rename_i i hp1 hp2
    cases hp2
    cases hov
    exact un_neg pins s σ H x v Q I r ⟨_, hp.int, hq _ _ _ OpGot.int⟩
theorem at_rep {nm : Nm} {W : Wd} {H : Hp} {xs : List PV} {vs : List V} {i : Int} {x : PV} (hr : Reps X.prog X.w X.K nm W H xs vs) (h : at? xs i = some x) : ∃ v, atI vs i = some v ∧ Rep X.prog X.w X.K nm W H x v := by
  have hl := hr.length
  unfold at? at h
  split at h
  · rename_i h0
    obtain ⟨v, e, hv⟩ := hr.get h
    refine ⟨v, ?_, hv⟩
    have hlt : i.toNat < vs.length := (List.getElem?_eq_some_iff.mp e).1
    unfold atI ixN
    rw [if_pos h0, if_pos (by omega)]
    exact e
  · rename_i h0
    split at h
    · rename_i h1
      obtain ⟨v, e, hv⟩ := hr.get h
      refine ⟨v, ?_, hv⟩
      unfold atI ixN
      rw [if_neg h0, if_pos (by omega)]
      rw [← hl]
      exact e
    · cases h
theorem deref_rep {nm : Nm} {W : Wd} {H : Hp} {p : PV} {v : V} {st : St} {AS : List Addr} (h : RepV X.prog X.w X.K nm W H p v) (hs : StR X.prog X.w X.K nm W H st W.M AS) : RepV X.prog X.w X.K nm W H (derefV st p) v := by
  cases p with
  | ref k =>
    show RepV X.prog X.w X.K nm W H (match st[k]? with | some v => v.lend | none => .ref k) v
    cases e : st[k]? with
    | none => exact h
    | some o =>
      show RepV X.prog X.w X.K nm W H o.lend v
      rcases h with h | h
      · rw [Rep] at h
        obtain ⟨a, h1, h2⟩ := h
        obtain ⟨b, A1, B, C, e1, e2, e3, e4, e5⟩ := hs.at e
        rw [h1] at e1
        cases e1
        subst h2
        exact .inr (e3.shal e4)
      · exact False.elim h
  | _ => exact h
theorem ix_ev (hu : X.A.units + 9 < cLine) : IxR X (fun x y H Q => OpQ V1 X.prog X.w X.K .idx [x, y] H Q) := by
  intro value slice pins s σ H x y v u Q I rx ry h hs
  obtain ⟨W, pvs, st, AS, hr, hst, ov, hov, hq⟩ := h
  obtain ⟨p, q, e, hp, hq'⟩ := hr.inv2
  subst e
  replace hov : (getIdx (derefV st p) q).map OV.sh = some ov := hov
  obtain ⟨z, hz, eo⟩ := Option.map_eq_some_iff.mp hov
  subst eo
  replace hp := deref_rep hp hst.1
  unfold getIdx at hz
  split at hz
  · rename_i xs i e1
    rw [e1] at hp
    obtain ⟨a, vs, ea, ha, hrs⟩ := hp.tup
    obtain ⟨w1, hw, hrep⟩ := at_rep hrs hz
    exact ix_tup value slice pins s σ H x y v u Q I rx ry ⟨a, vs, i, w1, ea, hq'.int, .inl (.inl ha), hw, hq _ _ _ (OpGot.sh hrep)⟩ hs
  · rename_i f xs i e1
    rw [e1] at hp
    obtain ⟨a, vs, ea, ha, hrs⟩ := hp.lst
    obtain ⟨w1, hw, hrep⟩ := at_rep hrs hz
    exact ix_list value slice pins s σ H x y v u Q I rx ry ⟨a, vs, i, w1, ea, hq'.int, .inl (.inl ha), hw, hq _ _ _ (OpGot.sh hrep)⟩ hs
  · rename_i is i e1
    rw [e1] at hp
    split at hz
    · rename_i h0
      obtain ⟨j, hj, ez⟩ := Option.map_eq_some_iff.mp hz
      subst ez
      obtain ⟨a, ea, hsq⟩ := hp.scr
      refine ix_list value slice pins s σ H x y v u Q I rx ry ⟨a, _, i, .int j, ea, hq'.int, hsq, ?_, hq _ _ _ OpGot.int⟩ hs
      have hlt : i.toNat < is.length := (List.getElem?_eq_some_iff.mp hj).1
      unfold atI ixN
      rw [if_pos h0, if_pos (by rw [List.length_map]; omega)]
      show (is.map V.int)[i.toNat]? = _
      rw [List.getElem?_map, hj]
      rfl
    · cases hz
  · rename_i q _ _ f ks vs e1
    rw [e1] at hp
    split at hz
    · rename_i hk
      cases hl : look q ks vs with
      | none => rw [hl] at hz; cases hz
      | some o =>
        rw [hl] at hz
        have eo : o = some z := hz
        subst eo
        obtain ⟨a, ea, hD⟩ := hp.dct
        subst ea
        cases (show v = Value.ref a from rx)
        obtain ⟨xs, vvs, h1, h2, h3, h4, h5, h6⟩ := dictT_at hk hl hD
        obtain ⟨hm, hsy, hz'⟩ := dict_of I h1 h2 h3 h4
        obtain ⟨κ, ka, ek, ev, eu, his, hdp, hy⟩ := key_of I hk (repT_of hq' hk) ry
        subst ev eu
        rcases look_ext ek hy ks vs xs vvs _ hl h2 h4 h5 h6 with ⟨e1, e2⟩ | ⟨x, a', v', u', e1, e2, hx, hru⟩
        · cases e1
        · cases e1
          have hval : valueAt (pairsH xs) κ = some u' := by rw [valueAt_pairsH, e2]; rfl
          refine subscriptTail_builtinR (x := u') hm.typeIs PySem.F.slot_dict_getitem.lookup (getItem_keyed (Q := fun r s' => r = u' ∧ EP X pins σ Q r s') (by show X.A.units + 1 + 8 < cLine; omega) his ⟨xs, hm, rfl⟩ hval ⟨rfl, v', H, I.tok _, hru, hq _ _ _ (OpGot.sh hx)⟩) hs
    · cases hz
  · cases hz
theorem clip_eq {n d : Nat} {o : Option Int} : clip n d o = HT.sIx n d o := by
  cases o with
  | none => rfl
  | some i =>
    unfold clip HT.sIx
    show (if 0 ≤ i then min i.toNat n else (i + (n : Int)).toNat) = (if i < 0 then (i + (n : Int)).toNat else min i.toNat n)
    by_cases h : 0 ≤ i
    · rw [if_pos h, if_neg (by omega)]
    · rw [if_neg h, if_pos (by omega)]
theorem cut_rep {nm : Nm} {W : Wd} {H : Hp} {xs : List PV} {vs : List V} {lo hi : Option Int} (hr : Reps X.prog X.w X.K nm W H xs vs) : Reps X.prog X.w X.K nm W H (cut xs lo hi) (cutV vs lo hi) := by
  unfold cut cutV
  rw [clip_eq, clip_eq, hr.length]
  exact (hr.drop _).take _
/-- what a slice asks and gives -/
def slQ (V1 : Env1) (X : Cx) (x : V) (lo hi : Option Int) (H : Hp) (Q : VK) : Prop := ∃ W p, RepV X.prog X.w X.K V1.nm W H p x ∧ ∃ ov, slice p lo hi false = some ov ∧ ∀ v H' A, OpGot X.prog X.w X.K V1.nm W H ov v A H' → Q v H'
theorem sl_ev : SlR X (slQ V1 X) := by
  intro pins s σ H x v vl vu lo hi sl Q I rx hsl pl pu h
  obtain ⟨W, p, hp, ov, hov, hq⟩ := h
  unfold slice at hov
  simp only at hov
  split at hov
  · rename_i xs
    cases hov
    obtain ⟨a, vs, ea, ha, hrs⟩ := hp.tup
    have hl := hrs.length
    refine sl_tupA pins s σ H x v vl vu lo hi sl Q I rx hsl pl pu ⟨a, vs, ea, .inl (.inl ha), fun hc => ?_, fun hc p' hp' => hq _ _ _ (OpGot.tup (cut_rep hrs) hp')⟩
    have : cut xs lo hi = xs := by
      unfold cut
      rw [clip_eq, clip_eq, hl, hc.1, hc.2]
      simp [← hl]
    rw [this] at hq
    exact hq _ _ _ (OpGot.sh (by rw [Rep]; exact ⟨a, vs, rfl, ha, hrs⟩))
  · cases hov
    obtain ⟨a, vs, ea, ha, hrs⟩ := hp.lst
    exact sl_list pins s σ H x v vl vu lo hi sl Q I rx hsl pl pu ⟨a, vs, ea, .inl (.inl ha), fun p' hp' => hq _ _ _ (OpGot.lst (cut_rep hrs) hp')⟩
  · cases hov
end
end EV

set_option Elab.async false
set_option linter.all false
set_option maxRecDepth 100000
set_option maxHeartbeats 1000000
/-! EV6a: names, constants, displays, fields, and, or, tests. -/
namespace EV
open PySem PySem.Spec PyProof.Rows L2
section
variable {P : Program} {w : World} {K : PySem.W.Frag} {nm : Nm} {W : Wd} {H : Hp} {AE : List Addr}
theorem taks_rep : ∀ {es : List E} {ovs : List OV} {vs : List V} {B B1 : List Addr} {pvs : List PV}, RepEs P w K nm W H AE es ovs vs B → (∀ a ∈ B, a ∈ B1) → taks es ovs = some pvs → Reps P w K nm (W.fz B1) H pvs vs
  | [], ovs, vs, B, B1, pvs, h, _, ht => by
    obtain ⟨h1, h2, h3⟩ := h
    rw [h1] at ht
    cases ht
    rw [h2]
    exact Reps.nil
  | e :: es, ovs, vs, B, B1, pvs, h, hB, ht => by
    obtain ⟨ov, r, v, rv, A, B', e1, e2, h1, h2, h3, h4⟩ := h
    rw [e1, taks] at ht
    cases hk : tak e ov with
    | none => rw [hk] at ht; cases ht
    | some x =>
      cases hs : taks es r with
      | none => rw [hk, hs] at ht; cases ht
      | some xs =>
        rw [hk, hs] at ht
        cases ht
        rw [e2]
        refine Reps.cons ?_ (taks_rep h4 (fun a ha => hB a ?_) hs)
        · have own : ov.own = true → isPl e = true → False := fun o p => by
            cases ov with
            | sh y => cases o
            | _ => simp [tak, p] at hk
          have fz : ov.own = true → x = ov.freeze := fun o => by
            cases hp : isPl e with
            | true => exact (own o hp).elim
            | false =>
              cases ov with
              | sh y => cases o
              | _ =>
                simp [tak, hp] at hk
                exact hk.symm
          cases ho : ov.own with
          | false =>
            cases ov with
            | sh y =>
              cases hk
              rw [RepO] at h1
              exact Rep.keep (Kp.to_fz B1) _ v h1.2
            | _ => cases ho
          | true =>
            rw [fz ho]
            have hp : isPl e = false := by
              cases hp : isPl e with
              | false => rfl
              | true => exact (own ho hp).elim
            exact RepO.freeze ov v A (fun _ h => .inl h) (fun _ h => h) (fun _ _ h => h) (fun a ha => .inr (hB a (by
              rw [h3, if_neg (by rw [hp]; simp)]
              exact List.mem_append_left _ ha))) h1
        · rw [h3]
          split
          · exact ha
          · exact List.mem_append_right _ ha
theorem RepEs.length : ∀ {es : List E} {ovs : List OV} {vs : List V} {B : List Addr}, RepEs P w K nm W H AE es ovs vs B → vs.length = es.length ∧ ovs.length = es.length
  | [], _, _, _, h => by rw [h.1, h.2.1]; exact ⟨rfl, rfl⟩
  | e :: es, ovs, vs, B, h => by
    obtain ⟨ov, r, v, rv, A, B', e1, e2, h1, h2, h3, h4⟩ := h
    obtain ⟨q1, q2⟩ := RepEs.length h4
    rw [e1, e2, List.length_cons, List.length_cons, List.length_cons, q1, q2]
    exact ⟨rfl, rfl⟩
end

section
variable {V1 : Env1} {X : Cx} {Z : WX} {pos : Pos}
theorem mem_mid {a : Addr} {A B C : List Addr} (h : a ∈ A) : a ∈ B ++ (A ++ C) := List.mem_append_right _ (List.mem_append_left _ h)
/-- a name -/
theorem pe_varE {i : Nat} {x : Str} (hN : X.N[i]? = some x) (hv : Vis X.env.scope x) (hd : (x == ("__debug__" : Str)) = false) (hcd : (x == ("__classdict__" : Str)) = false) : PE X (.Name x pos) (tE V1 X.prog X.w X.K Z (.var i)) := by
  refine PE.imp (pe_var hN hv hd hcd) fun σ H Q h => ?_
  obtain ⟨env, st, W, AS, AE, C, h⟩ := h
  rw [ev] at h
  cases he : env[i]?.join with
  | none => rw [he] at h; exact h.elim
  | some ov =>
    rw [he] at h
    have hi : i < env.length := by
      rcases Nat.lt_or_ge i env.length with q | q
      · exact q
      · rw [List.getElem?_eq_none q] at he
        cases he
    obtain ⟨y, A1, B, D, e1, e2, e3, _⟩ := C.env.at hi
    rw [he] at e3
    cases y with
    | none => exact False.elim e3
    | some v =>
      refine ⟨v, e1, h W H AS v A1 ⟨.refl, C.str, C.nd, C.ff, C.tr, e3, fun _ _ a ha => by rw [e2]; exact mem_mid ha, fun q => ?_, fun _ _ _ h => h⟩⟩
      simp [isPl] at q
/-- what a written constant is -/
def constV : PV → Const → Bool
  | .non, .none => true
  | .bl b, .bool c => b == c
  | .int i, .int j => decide (i = j)
  | .str s, .str t => decide (s = t)
  | _, _ => false
theorem pe_litE {v : PV} {c : Const} {j : Nat} (h : constV v c = true) : PE X (.Constant c j pos) (tE V1 X.prog X.w X.K Z (.lit v)) := by
  have go : ∀ {u : V}, (∀ W H, Rep X.prog X.w X.K V1.nm W H v u) → PE X (.Constant c j pos) (tC u) → PE X (.Constant c j pos) (tE V1 X.prog X.w X.K Z (.lit v)) := fun {u} hr hp => by
    refine PE.imp hp fun σ H Q h => ?_
    obtain ⟨env, st, W, AS, AE, C, h⟩ := h
    rw [ev] at h
    exact h W H AS u [] ⟨.refl, C.str, C.nd, C.ff, C.tr, by rw [RepO]; exact ⟨rfl, hr W H⟩, fun _ _ a ha => (List.not_mem_nil ha).elim, fun _ => ⟨List.nodup_nil, fun a ha => (List.not_mem_nil ha).elim⟩, fun _ _ _ h => h⟩
  cases v with
  | non =>
    cases c <;> first
      | exact go (u := .non) (fun _ _ => rfl) pe_non
      | cases h
  | bl b =>
    cases c <;> first
      | (rename_i d
         have e : b = d := by simpa [constV] using h
         subst e
         exact go (u := .bl b) (fun _ _ => rfl) pe_bl)
      | cases h
  | int i =>
    cases c <;> first
      | (rename_i d
         have e : i = d := by simpa [constV] using h
         subst e
         exact go (u := .int i) (fun _ _ => rfl) pe_int)
      | cases h
  | str s =>
    cases c <;> first
      | (rename_i d
         have e : s = d := by simpa [constV] using h
         subst e
         exact go (u := .str s) (fun _ _ => rfl) pe_str)
      | cases h
  | _ => cases h
theorem pe_tupE {es : List E} {xs : List Expr} {k : Nat} (h : PEs V1 Z X es xs) (hz : es.length ≤ 1000) : PE X (.Tuple xs k pos) (tE V1 X.prog X.w X.K Z (.tup es)) := by
  refine PE.imp (pe_tup (pa_of h)) fun σ H Q h => ?_
  obtain ⟨env, st, W, AS, AE, C, h⟩ := h
  refine ⟨env, st, W, AS, AE, C, ?_⟩
  rw [ev] at h
  cases he : evs V1.cl V1.txt V1.call es env st with
  | bad => rw [he] at h; exact h
  | exc c ns vs st1 => rw [he] at h; exact h
  | ok ovs st1 =>
    rw [he] at h
    simp only [R.bind, lift] at h
    cases hk : taks es ovs with
    | none => rw [hk] at h; exact h.elim
    | some pvs =>
      rw [hk] at h
      intro W1 H1 AS1 vs B gs
      refine ⟨by rw [gs.rep.length.1, sizeLine_eq]; omega, fun p hp => ?_⟩
      exact h _ _ AS1 _ _ (Gots.op C gs (OpGot.tup (taks_rep gs.rep (fun _ h => h) hk) hp) rfl fun q => by rw [pureE] at q; exact q)
theorem pe_lstE {es : List E} {xs : List Expr} (h : PEs V1 Z X es xs) (hz : es.length ≤ 1000) : PE X (.List xs pos) (tE V1 X.prog X.w X.K Z (.lst es)) := by
  refine PE.imp (pe_lst (pa_of h)) fun σ H Q h => ?_
  obtain ⟨env, st, W, AS, AE, C, h⟩ := h
  refine ⟨env, st, W, AS, AE, C, ?_⟩
  rw [ev] at h
  cases he : evs V1.cl V1.txt V1.call es env st with
  | bad => rw [he] at h; exact h
  | exc c ns vs st1 => rw [he] at h; exact h
  | ok ovs st1 =>
    rw [he] at h
    simp only [R.bind, lift] at h
    cases hk : taks es ovs with
    | none => rw [hk] at h; exact h.elim
    | some pvs =>
      rw [hk] at h
      intro W1 H1 AS1 vs B gs
      refine ⟨by rw [gs.rep.length.1, sizeLine_eq]; omega, fun p hp => ?_⟩
      exact h _ _ AS1 _ _ (Gots.op C gs (OpGot.lst (taks_rep gs.rep (fun _ h => h) hk) hp) rfl fun q => by rw [pureE] at q; exact q)
end

/-! ### tests -/
section
variable (P : Program) (w : World) (K : PySem.W.Frag) (nm : Nm)
structure GotT (W : Wd) (H : Hp) (AS AE : List Addr) (st' : St) (W' : Wd) (H' : Hp) (AS' : List Addr) : Prop where
  ent : Ent W H AS W' H' AS'
  str : StR P w K nm W' H' st' W'.M AS'
  nd : (AS' ++ AE).Nodup
  ff : ∀ a ∈ AS' ++ AE, ¬ W'.F a ∧ ¬ W'.L a
  tr : ∀ a, W'.F a ∨ W'.L a → H' a ≠ none
end
section
variable (V1 : Env1) (P : Program) (w : World) (K : PySem.W.Frag) (Z : WX)
/-- the reading of a test by its run -/
def tR (run : EV.Env → St → R Bool) : TT := fun σ H Q => ∃ env st W AS AE, Cfg P w K V1.nm W H σ env st AS AE ∧
  match run env st with
  | .ok b st' => ∀ W' H' AS', GotT P w K V1.nm W H AS AE st' W' H' AS' → Q b H'
  | .exc c ns vs st' => XEnd V1 P w K Z W H AS AE σ c ns vs st'
  | .bad => False
abbrev tT (t : T) : TT := tR V1 P w K Z (evT V1.cl V1.txt V1.call t)
end
section
variable {V1 : Env1} {P : Program} {w : World} {K : PySem.W.Frag} {Z : WX} {nm : Nm} {W W' : Wd} {H H' : Hp} {σ : L2.St} {env : EV.Env} {st st' : St} {AS AE AS' A : List Addr}
theorem Got.t {e : E} {ov : OV} {v : V} (g : Got P w K nm W H AS AE e ov st' W' H' AS' v A) : GotT P w K nm W H AS AE st' W' H' AS' := ⟨g.ent, g.str, g.nd, g.ff, g.tr⟩
theorem GotT.cfg (C : Cfg P w K nm W H σ env st AS AE) (g : GotT P w K nm W H AS AE st' W' H' AS') : Cfg P w K nm W' H' σ env st' AS' AE := C.after g.ent g.str g.nd g.ff g.tr
theorem GotT.trans {W1 : Wd} {H1 : Hp} {AS1 : List Addr} {st1 : St} (g : GotT P w K nm W H AS AE st1 W1 H1 AS1) (g' : GotT P w K nm W1 H1 AS1 AE st' W' H' AS') : GotT P w K nm W H AS AE st' W' H' AS' := ⟨g.ent.trans g'.ent, g'.str, g'.nd, g'.ff, g'.tr⟩
theorem GotT.refl (C : Cfg P w K nm W H σ env st AS AE) : GotT P w K nm W H AS AE st W H AS := ⟨.refl, C.str, C.nd, C.ff, C.tr⟩
/-- one run behind another -/
theorem tR_bind {r1 r : EV.Env → St → R Bool} {f : Bool → EV.Env → St → R Bool} {Q : Bool → Hp → Prop} (h : tR V1 P w K Z r σ H Q) (e : ∀ env st, r env st = (r1 env st).bind fun b st => f b env st) :
    tR V1 P w K Z r1 σ H fun b H1 => tR V1 P w K Z (f b) σ H1 Q := by
  obtain ⟨env, st, W, AS, AE, C, h⟩ := h
  refine ⟨env, st, W, AS, AE, C, ?_⟩
  rw [e] at h
  cases he : r1 env st with
  | bad => rw [he] at h; exact h
  | exc c ns vs st1 => rw [he] at h; exact h
  | ok b st1 =>
    rw [he] at h
    intro W1 H1 AS1 g
    refine ⟨env, st1, W1, AS1, AE, g.cfg C, ?_⟩
    simp only [R.bind] at h
    cases hf : f b env st1 with
    | bad => rw [hf] at h; exact h
    | exc c ns vs st2 => rw [hf] at h; exact XEnd.after g.ent h
    | ok b2 st2 =>
      rw [hf] at h
      exact fun W2 H2 AS2 g2 => h W2 H2 AS2 (g.trans g2)
theorem tR_ok {b : Bool} {r : EV.Env → St → R Bool} {Q : Bool → Hp → Prop} (h : tR V1 P w K Z r σ H Q) (e : ∀ env st, r env st = .ok b st) : Q b H := by
  obtain ⟨env, st, W, AS, AE, C, h⟩ := h
  rw [e] at h
  exact h W H AS (GotT.refl C)
theorem tR_mono {r : EV.Env → St → R Bool} {Q Q' : Bool → Hp → Prop} (i : ∀ b H, Q b H → Q' b H) (h : tR V1 P w K Z r σ H Q) : tR V1 P w K Z r σ H Q' := by
  obtain ⟨env, st, W, AS, AE, C, h⟩ := h
  refine ⟨env, st, W, AS, AE, C, ?_⟩
  cases he : r env st with
  | bad => rw [he] at h; exact h
  | exc c ns vs st1 => rw [he] at h; exact h
  | ok b st1 =>
    rw [he] at h
    exact fun W1 H1 AS1 g => i _ _ (h W1 H1 AS1 g)
/-- the value of an expression as a test -/
theorem tT_val {e : E} {Q : Bool → Hp → Prop} (h : tT V1 P w K Z (.val e) σ H Q) : tE V1 P w K Z e σ H fun v H1 => ∃ W x k, RepV P w K V1.nm W H1 x v ∧ truthy x = some k ∧ Q k H1 := by
  obtain ⟨env, st, W, AS, AE, C, h⟩ := h
  refine ⟨env, st, W, AS, AE, C, ?_⟩
  rw [evT] at h
  cases he : ev V1.cl V1.txt V1.call e env st with
  | bad => rw [he] at h; exact h
  | exc c ns vs st1 => rw [he] at h; exact h
  | ok ov st1 =>
    rw [he] at h
    simp only [R.bind, lift] at h
    cases ht : EV.truthy (opn e ov) with
    | none => rw [ht] at h; exact h.elim
    | some k =>
      rw [ht] at h
      exact fun W1 H1 AS1 v A g => ⟨W1.fz A, opn e ov, k, opn_rep g.rep fun _ a ha => ha, ht, h W1 H1 AS1 g.t⟩
theorem RepV.tru {x : PV} {v : V} {k : Bool} (h : RepV P w K nm W H x v) (ht : EV.truthy x = some k) : TruV K v H k := by
  cases x with
  | non => rw [h.non]; cases ht; rfl
  | bl b => rw [h.bl]; cases ht; rfl
  | int i => rw [h.int]; cases ht; rfl
  | tup xs =>
    obtain ⟨a, vs, e, h1, h2⟩ := h.tup
    rw [e]
    cases ht
    refine .inr (.inl ⟨vs, .of h1, ?_⟩)
    have := h2.length
    cases xs <;> cases vs <;> simp at this ⊢
  | lst f xs =>
    obtain ⟨a, vs, e, h1, h2⟩ := h.lst
    rw [e]
    cases ht
    refine .inl ⟨vs, .of h1, ?_⟩
    have := h2.length
    cases xs <;> cases vs <;> simp at this ⊢
  | _ => cases ht
end
/-- a test that is its value's truth -/
def plainT : Expr → Bool
  | .UnaryOp .Not _ _ => false
  | .BoolOp .. => false
  | .IfExp .. => false
  | .Compare .. => false
  | _ => true
theorem isTrue_of {x : Expr} (h : plainT x = true) (env : PySem.Env) (whole : Sem Value) : isTrue x env whole = (do let v ← whole; standAt x.pos; holding [v] (PySem.truthy v)) := by
  cases x <;> first
    | rfl
    | cases h
    | (rename_i op a p
       cases op <;> first
         | rfl
         | cases h)
section
variable {V1 : Env1} {X : Cx} {Z : WX} {pos : Pos}
theorem pt_valE {x : Expr} {e : E} (h : PE X x (tE V1 X.prog X.w X.K Z e)) (hp : plainT x = true) : PT X x (tT V1 X.prog X.w X.K Z (.val e)) := by
  refine PT.imp (pt_truth h (isTrue_of hp X.env)) fun σ H Q q => ?_
  exact tE_mono (fun v H1 ⟨W, x, k, h1, h2, h3⟩ => ⟨k, h1.tru h2, h3⟩) (tT_val q)
theorem pt_notE {x : Expr} {t : T} (h : PT X x (tT V1 X.prog X.w X.K Z t)) : PT X (.UnaryOp .Not x pos) (tT V1 X.prog X.w X.K Z (.not t)) := by
  refine PT.imp (pt_not h) fun σ H Q q => ?_
  exact tR_mono (fun b H1 q1 => tR_ok (b := !b) q1 fun _ _ => rfl) (tR_bind q (r1 := evT V1.cl V1.txt V1.call t) (f := fun b _ st => .ok (!b) st) fun env st => by rw [evT])
/-- each of the tests -/
def PTl (V1 : Env1) (Z : WX) (X : Cx) : List T → List Expr → Prop
  | [], xs => xs = []
  | t :: ts, xs => ∃ x r, xs = x :: r ∧ PT X x (tT V1 X.prog X.w X.K Z t) ∧ PTl V1 Z X ts r
theorem pw_andE : ∀ {ts : List T} {xs : List Expr}, PTl V1 Z X ts xs → ts ≠ [] → PW X (.BoolOp .And xs pos) (tR V1 X.prog X.w X.K Z (evTA V1.cl V1.txt V1.call ts))
  | [], _, _, hn => absurd rfl hn
  | [t], xs, h, _ => by
    obtain ⟨x, r, e, h1, h2⟩ := h
    rw [e, show r = [] from h2]
    refine ⟨fun wh pins s σ H Q I q => (pw_and1 h1).run wh pins s σ H Q I ?_⟩
    have := tR_bind q (r1 := evT V1.cl V1.txt V1.call t) (f := fun b _ st => if b = true then .ok true st else .ok false st) fun env st => by
      rw [evTA]
      congr 1
      funext b st
      cases b
      · rfl
      · rw [evTA]; rfl
    refine tR_mono (fun b H1 q1 => ?_) this
    cases b
    · exact tR_ok (b := false) q1 fun _ _ => rfl
    · exact tR_ok (b := true) q1 fun _ _ => rfl
  | t :: t2 :: ts, xs, h, _ => by
    obtain ⟨x, r, e, h1, h2⟩ := h
    obtain ⟨x2, r2, e2, h3, h4⟩ := id h2
    subst e
    subst e2
    have ih := pw_andE h2 (by simp)
    refine ⟨fun wh pins s σ H Q I q => (pw_and h1 ih).run wh pins s σ H Q I ?_⟩
    have := tR_bind q (r1 := evT V1.cl V1.txt V1.call t) (f := fun b env st => if b = true then evTA V1.cl V1.txt V1.call (t2 :: ts) env st else .ok false st) fun env st => by
      rw [evTA]
      congr 1
      funext b st
      cases b <;> rfl
    refine tR_mono (fun b H1 q1 => ?_) this
    cases b
    · simp only [Bool.false_eq_true, if_false]
      exact tR_ok (b := false) q1 fun _ _ => rfl
    · simp only [if_true] at q1 ⊢
      exact q1
theorem pw_orE : ∀ {ts : List T} {xs : List Expr}, PTl V1 Z X ts xs → ts ≠ [] → PW X (.BoolOp .Or xs pos) (tR V1 X.prog X.w X.K Z (evTO V1.cl V1.txt V1.call ts))
  | [], _, _, hn => absurd rfl hn
  | [t], xs, h, _ => by
    obtain ⟨x, r, e, h1, h2⟩ := h
    rw [e, show r = [] from h2]
    refine ⟨fun wh pins s σ H Q I q => (pw_or1 h1).run wh pins s σ H Q I ?_⟩
    have := tR_bind q (r1 := evT V1.cl V1.txt V1.call t) (f := fun b _ st => if b = true then .ok true st else .ok false st) fun env st => by
      rw [evTO]
      congr 1
      funext b st
      cases b
      · rw [evTO]; rfl
      · rfl
    refine tR_mono (fun b H1 q1 => ?_) this
    cases b
    · exact tR_ok (b := false) q1 fun _ _ => rfl
    · exact tR_ok (b := true) q1 fun _ _ => rfl
  | t :: t2 :: ts, xs, h, _ => by
    obtain ⟨x, r, e, h1, h2⟩ := h
    obtain ⟨x2, r2, e2, h3, h4⟩ := id h2
    subst e
    subst e2
    have ih := pw_orE h2 (by simp)
    refine ⟨fun wh pins s σ H Q I q => (pw_or h1 ih).run wh pins s σ H Q I ?_⟩
    have := tR_bind q (r1 := evT V1.cl V1.txt V1.call t) (f := fun b env st => if b = true then .ok true st else evTO V1.cl V1.txt V1.call (t2 :: ts) env st) fun env st => by
      rw [evTO]
      congr 1
      funext b st
      cases b <;> rfl
    refine tR_mono (fun b H1 q1 => ?_) this
    cases b
    · simp only [Bool.false_eq_true, if_false] at q1 ⊢
      exact q1
    · simp only [if_true]
      exact tR_ok (b := true) q1 fun _ _ => rfl
theorem pt_andE {ts : List T} {xs : List Expr} (h : PTl V1 Z X ts xs) (hn : ts ≠ []) : PT X (.BoolOp .And xs pos) (tT V1 X.prog X.w X.K Z (.and ts)) :=
  PT.imp (pw_andE h hn).pt fun σ H Q q => by
    obtain ⟨env, st, W, AS, AE, C, q⟩ := q
    refine ⟨env, st, W, AS, AE, C, ?_⟩
    rw [evT] at q
    exact q
theorem pt_orE {ts : List T} {xs : List Expr} (h : PTl V1 Z X ts xs) (hn : ts ≠ []) : PT X (.BoolOp .Or xs pos) (tT V1 X.prog X.w X.K Z (.or ts)) :=
  PT.imp (pw_orE h hn).pt fun σ H Q q => by
    obtain ⟨env, st, W, AS, AE, C, q⟩ := q
    refine ⟨env, st, W, AS, AE, C, ?_⟩
    rw [evT] at q
    exact q
end
end EV

set_option Elab.async false
set_option linter.all false
set_option maxRecDepth 100000
set_option maxHeartbeats 1000000
/-! EV6b: fields; operators as expressions. -/
namespace EV
open PySem PySem.Spec PyProof.Rows L2
/-- the type of a value; a type as it stands in the text -/
def tyV (K : PySem.W.Frag) (nm : Nm) : PV → Value
  | .non => .type "NoneType"
  | .bl _ => .type "bool"
  | .int _ => .type "int"
  | .str _ => .type "str"
  | .tup _ => .type "tuple"
  | .lst _ _ => .type "list"
  | .dct _ _ _ => .type "dict"
  | .ins _ c _ _ => .ref (ca K nm c)
  | _ => .none
def tyU (K : PySem.W.Frag) (nm : Nm) : Ty → Value
  | .int => .type "int"
  | .bool => .type "bool"
  | .str => .type "str"
  | .tuple => .type "tuple"
  | .list => .type "list"
  | .dict => .type "dict"
  | .cls c => .ref (ca K nm c)
  | .exc c => .ref (He.ga K (nm.exc c))
def tyC (K : PySem.W.Frag) (nm : Nm) : Ty → V
  | .int => .ty "int"
  | .bool => .ty "bool"
  | .str => .ty "str"
  | .tuple => .ty "tuple"
  | .list => .ty "list"
  | .dict => .ty "dict"
  | .cls c => .ref (ca K nm c)
  | .exc c => .ref (He.ga K (nm.exc c))
theorem tyC_cls (K : PySem.W.Frag) (nm : Nm) : ∀ t : Ty, ClsV (tyC K nm t) (tyU K nm t)
  | .int => .ty _
  | .bool => .ty _
  | .str => .ty _
  | .tuple => .ty _
  | .list => .ty _
  | .dict => .ty _
  | .cls _ => .own _
  | .exc _ => .own _
/-- what is known of the classes, the fields -/
structure Facts (nm : Nm) (K : PySem.W.Frag) : Prop where
  cls : ∀ c ∈ nm.cs, L2.Cls K (ca K nm c)
  noat : ∀ c ∈ nm.cs, ∀ f ∈ nm.fs, NoAttr K (ca K nm c) (nm.fld f)
  inj : ∀ f ∈ nm.fs, ∀ g ∈ nm.fs, nm.fld f = nm.fld g → f = g
  ccl : ∀ c ∈ nm.cs, PySem.W.findIn K (.ref (ca K nm c)) "__class__" = some (some (.builtin "object.__class__")) ∧ PySem.W.mroIn K (ca K nm c) (.type "object") = some true
  oget : PySem.W.specialIn K (.builtin "object.__class__") "__get__" = some (some (.builtin "getset_descriptor.__get__"))
  otk : PySem.W.takesIn K (.builtin "object.__class__") = some true
  isi : ∀ (p : PV) (t : Ty) (b : Bool), (∀ f c ns vs, p = .ins f c ns vs → c ∈ nm.cs) → t ∈ nm.tys → isiOne p t = some b → PySem.W.kitOne K (tyV K nm p) (tyU K nm t) = some b
section
variable {P : Program} {w : World} {K : PySem.W.Frag} {nm : Nm} {W W' : Wd} {H H' : Hp} {σ : L2.St} {env : EV.Env} {st st' : St} {AS AE AS' A : List Addr}
theorem assoc_mem {α : Type} {f : Nat} : ∀ {ns : List Nat} {vs : List α} {y : α}, assocN f ns vs = some y → f ∈ ns
  | [], vs, y, h => by simp [assocN] at h
  | n :: ns, [], y, h => by simp [assocN] at h
  | n :: ns, v :: vs, y, h => by
    rw [assocN] at h
    split at h
    · rename_i e
      rw [e]; exact List.mem_cons_self
    · exact List.mem_cons_of_mem _ (assoc_mem h)
theorem assoc_rep (F : Facts nm K) {f : Nat} : ∀ {ns : List Nat} {vs : List PV} {fs : List (Str × V)} {y : PV}, (∀ n ∈ ns, n ∈ nm.fs) → fs.map (·.1) = ns.map nm.fld → Reps P w K nm W H vs (fs.map (·.2)) → assocN f ns vs = some y →
    ∃ v, fs.lookup (nm.fld f) = some v ∧ Rep P w K nm W H y v
  | [], vs, fs, y, _, _, _, h => by simp [assocN] at h
  | n :: ns, [], fs, y, _, _, _, h => by simp [assocN] at h
  | n :: ns, z :: vs, fs, y, hm, he, hr, h => by
    cases fs with
    | nil => simp at he
    | cons p fs =>
      rw [List.map_cons, List.map_cons] at he
      injection he with e1 e2
      rw [List.map_cons] at hr
      obtain ⟨v, r, ev, h1, h2⟩ := hr.uncons
      cases ev
      obtain ⟨pf, pv⟩ := p
      simp only at e1 h1
      subst e1
      have hfm : f ∈ nm.fs := hm f (assoc_mem h)
      rw [assocN] at h
      by_cases hn : n = f
      · rw [if_pos hn] at h
        cases h
        subst hn
        exact ⟨pv, by simp, h1⟩
      · rw [if_neg hn] at h
        obtain ⟨v, q1, q2⟩ := assoc_rep F (fun k hk => hm k (List.mem_cons_of_mem _ hk)) e2 h2 h
        refine ⟨v, ?_, q2⟩
        have : (nm.fld f == nm.fld n) = false := by
          refine beq_eq_false_iff_ne.mpr fun e => hn ?_
          exact (F.inj f hfm n (hm n List.mem_cons_self) e).symm
        rw [List.lookup, this]
        exact q1
theorem assoc_repO (F : Facts nm K) {f : Nat} : ∀ {ns : List Nat} {vs : List OV} {fs : List (Str × V)} {A : List Addr} {y : OV}, (∀ n ∈ ns, n ∈ nm.fs) → fs.map (·.1) = ns.map nm.fld → RepOs P w K nm W H vs (fs.map (·.2)) A → assocN f ns vs = some y →
    ∃ v A', fs.lookup (nm.fld f) = some v ∧ RepO P w K nm W H y v A' ∧ ∀ a ∈ A', a ∈ A
  | [], vs, fs, A, y, _, _, _, h => by simp [assocN] at h
  | n :: ns, [], fs, A, y, _, _, _, h => by simp [assocN] at h
  | n :: ns, z :: vs, fs, A, y, hm, he, hr, h => by
    cases fs with
    | nil => simp at he
    | cons p fs =>
      rw [List.map_cons, List.map_cons] at he
      injection he with e1 e2
      rw [List.map_cons, RepOs] at hr
      obtain ⟨v, r, A1, A2, ev, eA, h1, h2⟩ := hr
      cases ev
      obtain ⟨pf, pv⟩ := p
      simp only at e1 h1
      subst e1
      have hfm : f ∈ nm.fs := hm f (assoc_mem h)
      rw [assocN] at h
      by_cases hn : n = f
      · rw [if_pos hn] at h
        cases h
        subst hn
        exact ⟨pv, A1, by simp, h1, fun a ha => by rw [eA]; exact List.mem_append_left _ ha⟩
      · rw [if_neg hn] at h
        obtain ⟨v, A', q1, q2, q3⟩ := assoc_repO F (fun k hk => hm k (List.mem_cons_of_mem _ hk)) e2 h2 h
        refine ⟨v, A', ?_, q2, fun a ha => by rw [eA]; exact List.mem_append_right _ (q3 a ha)⟩
        have : (nm.fld f == nm.fld n) = false := by
          refine beq_eq_false_iff_ne.mpr fun e => hn ?_
          exact (F.inj f hfm n (hm n List.mem_cons_self) e).symm
        rw [List.lookup, this]
        exact q1
/-- a field's read, behind the object -/
theorem fld_rep (F : Facts nm K) {f : Nat} {x y : OV} {v : V} {A : List Addr} (hr : RepO P w K nm W H x v A) (hs : StR P w K nm W H st W.M AS) (h : fldV f st x = some y) :
    ∃ a c dx fs u A', v = .ref a ∧ c ∈ nm.cs ∧ f ∈ nm.fs ∧ H a = some (.ins (ca K nm c) dx fs) ∧ fs.lookup (nm.fld f) = some u ∧ RepO P w K nm W H y u A' := by
  unfold fldV at h
  split at h
  · rename_i g c ns vs
    obtain ⟨z, hz, ez⟩ := Option.map_eq_some_iff.mp h
    subst ez
    rw [RepO, Rep] at hr
    obtain ⟨_, a, dx, fs, ev, _, h1, ⟨h2, h3, h4⟩, h5⟩ := hr
    obtain ⟨u, q1, q2⟩ := assoc_rep F h3 h4 h5 hz
    exact ⟨a, c, dx, fs, u, [], ev, h2, h3 f (assoc_mem hz), h1, q1, by rw [RepO]; exact ⟨rfl, q2⟩⟩
  · rw [RepO, Rep] at hr
    exact hr.2.elim
  · rename_i k
    split at h
    · rename_i c ns vs e
      rw [RepO, Rep] at hr
      obtain ⟨_, a, h1, h2⟩ := hr
      obtain ⟨b, A1, B, C, e1, e2, e3, e4, e5⟩ := hs.at e
      rw [h1] at e1
      cases e1
      rw [RepO] at e3
      obtain ⟨a', dx, fs, B', ev, eA, q1, ⟨q2, q3, q4⟩, q5⟩ := e3
      cases ev
      obtain ⟨u, A', z1, z2, z3⟩ := assoc_repO F q3 q4 q5 h
      exact ⟨a, c, dx, fs, u, A', h2, q2, q3 f (assoc_mem h), q1, z1, z2⟩
    · cases h
  · rename_i c ns vs
    rw [RepO] at hr
    obtain ⟨a, dx, fs, B', ev, eA, q1, ⟨q2, q3, q4⟩, q5⟩ := hr
    obtain ⟨u, A', z1, z2, z3⟩ := assoc_repO F q3 q4 q5 h
    exact ⟨a, c, dx, fs, u, A', ev, q2, q3 f (assoc_mem h), q1, z1, z2⟩
  · cases h
/-- nothing is owned in a field of a frozen thing -/
theorem fldV_sh {f : Nat} {x : PV} {y : OV} (h : fldV f [] (.sh x) = some y) : (∃ z, y = .sh z) ∧ fldV f st (.sh x) = some y := by
  cases x with
  | ins g c ns vs =>
    obtain ⟨z, _, e⟩ := Option.map_eq_some_iff.mp h
    exact ⟨⟨z, e.symm⟩, h⟩
  | exc c ns vs =>
    obtain ⟨z, _, e⟩ := Option.map_eq_some_iff.mp h
    exact ⟨⟨z, e.symm⟩, h⟩
  | _ => simp [fldV] at h
end
section
variable {V1 : Env1} {X : Cx} {Z : WX} {pos : Pos}
/-- what may stand ahead of a dot -/
def dotOk : Expr → Bool
  | .Call (.Name _ _) [] [] _ => false
  | _ => true
theorem dot_base {e : Expr} {f : Str} (h : dotOk e = true) (env : PySem.Env) (whole : Sem Value) : attributeBase e f env whole = whole := by
  unfold attributeBase
  split
  · cases h
  · rfl
theorem pe_fldE {a : E} {f : Nat} {x : Expr} {y : Str} (F : Facts V1.nm X.K) (h : PE X x (tE V1 X.prog X.w X.K Z a)) (hd : dotOk x = true) (hy : V1.nm.fld f = y) : PE X (.Attribute x y pos) (tE V1 X.prog X.w X.K Z (.fld a f)) := by
  subst hy
  refine PE.imp (pe_fld h (dot_base hd X.env _)) fun σ H Q q => ?_
  obtain ⟨env, st, W, AS, AE, C, q⟩ := q
  refine ⟨env, st, W, AS, AE, C, ?_⟩
  rw [ev] at q
  cases he : ev V1.cl V1.txt V1.call a env st with
  | bad => rw [he] at q; exact q
  | exc c ns vs st1 => rw [he] at q; exact q
  | ok ov st1 =>
    rw [he] at q
    simp only [R.bind, lift] at q
    intro W1 H1 AS1 v A g
    cases hp : isPl a with
    | true =>
      rw [hp, if_pos rfl] at q
      cases hv : fldV f st1 ov with
      | none => rw [hv] at q; exact q.elim
      | some yv =>
        rw [hv] at q
        obtain ⟨b, c, dx, fs, u, A', e1, hc, hf, e2, e3, e4⟩ := fld_rep F g.rep g.str hv
        refine ⟨b, _, dx, fs, u, e1, e2, F.cls c hc, F.noat c hc f hf, e3, ?_⟩
        refine q W1 H1 AS1 u A' ⟨g.ent, g.str, g.nd, g.ff, g.tr, e4, fun _ h => (by cases h), fun h => ?_, fun h => g.pu (by rw [pureE] at h; exact h)⟩
        rw [isPl, hp] at h
        cases h
    | false =>
      rw [hp] at q
      simp only [Bool.false_eq_true, if_false] at q
      cases hv : fldV f [] (.sh ov.freeze) with
      | none => rw [hv] at q; exact q.elim
      | some yv =>
        rw [hv] at q
        obtain ⟨⟨z, ez⟩, hv⟩ := fldV_sh (st := st1) hv
        subst ez
        obtain ⟨g1, g2⟩ := g.fr hp
        have C1 := g.cfg C
        -- the object is frozen first
        have hr : RepO X.prog X.w X.K V1.nm (W1.fz A) H1 (.sh ov.freeze) v [] := by
          rw [RepO]
          exact ⟨rfl, RepO.freeze ov v A (fun _ h => .inl h) (fun _ h => h) (fun _ _ h => h) (fun a ha => .inr ha) g.rep⟩
        have hs : StR X.prog X.w X.K V1.nm (W1.fz A) H1 st1 (W1.fz A).M AS1 := g.str.keep (Kp.to_fz A) fun _ _ _ h => h
        obtain ⟨b, c, dx, fs, u, A', e1, hc, hf, e2, e3, e4⟩ := fld_rep F hr hs hv
        refine ⟨b, _, dx, fs, u, e1, e2, F.cls c hc, F.noat c hc f hf, e3, ?_⟩
        have bn : ∀ a ∈ A, a ∉ AS1 ++ AE := fun a ha z => by
          rcases List.mem_append.mp z with z | z
          · exact (g2 a ha).2.2.2 z
          · exact C.live a (List.mem_append_right _ z) (g2 a ha).1
        have ent1 : Ent W H AS (W1.fz A) H1 AS1 := g.ent.fz fun a ha => (g2 a ha).1
        have ff1 : ∀ a ∈ AS1 ++ AE, ¬ (W1.fz A).F a ∧ ¬ (W1.fz A).L a := fun a ha => ⟨fun z => by
          rcases z with z | z
          · exact (g.ff a ha).1 z
          · exact bn a z ha, (g.ff a ha).2⟩
        have tr1 : ∀ a, (W1.fz A).F a ∨ (W1.fz A).L a → H1 a ≠ none := fun a h => by
          rcases h with (h | h) | h
          · exact g.tr a (.inl h)
          · obtain ⟨o, q, _⟩ := RepO.there _ _ _ g.rep a h
            rw [q]; simp
          · exact g.tr a (.inr h)
        have e5 := e4
        rw [RepO] at e5
        refine q (W1.fz A) H1 AS1 u A' ⟨ent1, hs, g.nd, ff1, tr1, e4, fun _ h => (by cases h), fun _ => ?_, fun h => g.pu (by rw [pureE] at h; exact h)⟩
        rw [e5.1]
        exact ⟨List.nodup_nil, fun a ha => (List.not_mem_nil ha).elim⟩
end
end EV

set_option Elab.async false
set_option linter.all false
set_option maxRecDepth 100000
set_option maxHeartbeats 1000000
/-! EV6c: operators, subscripts, built-ins as expressions. -/
namespace EV
open PySem PySem.Spec PyProof.Rows L2
section
variable {V1 : Env1} {X : Cx} {Z : WX} {pos : Pos}
theorem pe_binE {o : Bo} {a b : E} {xa xb : Expr} (ha : PE X xa (tE V1 X.prog X.w X.K Z a)) (hb : PE X xb (tE V1 X.prog X.w X.K Z b)) : PE X (.BinOp xa (opB o) xb pos) (tE V1 X.prog X.w X.K Z (.op (.bop o) [a, b])) :=
  PE.imp (pe_op (opr_bop (V1 := V1) o) ha hb) fun σ H Q q => tL_two (tE_op q)
theorem pe_negE {a : E} {xa : Expr} (ha : PE X xa (tE V1 X.prog X.w X.K Z a)) : PE X (.UnaryOp .USub xa pos) (tE V1 X.prog X.w X.K Z (.op .neg [a])) :=
  PE.imp (pe_un (un_negE (V1 := V1)) ha) fun σ H Q q => tL_one (tE_op q)
theorem pe_notE {a : E} {xa : Expr} (ha : PE X xa (tE V1 X.prog X.w X.K Z a)) : PE X (.UnaryOp .Not xa pos) (tE V1 X.prog X.w X.K Z (.op .not [a])) :=
  PE.imp (pe_notT ha) fun σ H Q q => tE_mono (fun v H1 h => by
    obtain ⟨W, pvs, st, AS, hr, hst, ov, hov, hq⟩ := h
    obtain ⟨p, e, hp⟩ := hr.inv1
    subst e
    obtain ⟨b, hb, eo⟩ := Option.map_eq_some_iff.mp (show (truthy p).map (fun b => OV.sh (.bl (!b))) = some ov from hov)
    subst eo
    exact ⟨b, hp.tru hb, hq _ _ _ OpGot.bl⟩) (tL_one (tE_op q))
/-- what may stand in brackets -/
def ixOk : Expr → Bool
  | .Slice .. => false
  | _ => true
theorem plain_ix {b : Expr} (h : ixOk b = true) : PlainIx b := by
  intro o i
  cases b <;> first
    | rfl
    | cases h
theorem pe_idxE {a b : E} {xa xb : Expr} (hu : X.A.units + 9 < cLine) (ha : PE X xa (tE V1 X.prog X.w X.K Z a)) (hb : PE X xb (tE V1 X.prog X.w X.K Z b)) (hx : ixOk xb = true) : PE X (.Subscript xa xb pos) (tE V1 X.prog X.w X.K Z (.op .idx [a, b])) :=
  PE.imp (pe_ix (ix_ev (V1 := V1) hu) ha hb (plain_ix hx)) fun σ H Q q => tL_two (tE_op q)
/-- a slice's part -/
theorem part_int {W : Wd} {H : Hp} {nm : Nm} {p : PV} {v : V} {o : Option Int} (h : RepV X.prog X.w X.K nm W H p v) (hg : getI (some p) = some o) : ∃ i, v = .int i ∧ o = some i := by
  cases p with
  | int i =>
    cases hg
    exact ⟨i, h.int, rfl⟩
  | _ => cases hg
theorem pe_slcFF {a : E} {xa : Expr} {p2 : Pos} (ha : PE X xa (tE V1 X.prog X.w X.K Z a)) : PE X (.Subscript xa (.Slice none none none p2) pos) (tE V1 X.prog X.w X.K Z (.op (.slc false false false) [a])) :=
  PE.imp (pe_slice (sl_ev (V1 := V1)) ha po_none po_none) fun σ H Q q => tE_mono (fun v H1 h => by
    obtain ⟨W, pvs, st, AS, hr, hst, ov, hov, hq⟩ := h
    obtain ⟨p, e, hp⟩ := hr.inv1
    subst e
    exact ⟨W, p, hp, ov, hov, hq⟩) (tL_one (tE_op q))
theorem pe_slcTF {a l : E} {xa xl : Expr} {p2 : Pos} (ha : PE X xa (tE V1 X.prog X.w X.K Z a)) (hl : PE X xl (tE V1 X.prog X.w X.K Z l)) : PE X (.Subscript xa (.Slice (some xl) none none p2) pos) (tE V1 X.prog X.w X.K Z (.op (.slc true false false) [a, l])) :=
  PE.imp (pe_slice (sl_ev (V1 := V1)) ha (po_some hl) po_none) fun σ H Q q => tE_mono (fun v H1 h1 => tE_mono (fun v2 H2 h => by
    obtain ⟨W, pvs, st, AS, hr, hst, ov, hov, hq⟩ := h
    obtain ⟨p, r, e, hp, hr2⟩ := hr.inv2
    subst e
    replace hov : (match getI (some r), getI none with | some l, some h => slice p l h false | _, _ => none) = some ov := hov
    cases hg : getI (some r) with
    | none => rw [hg] at hov; cases hov
    | some o =>
      rw [hg] at hov
      obtain ⟨i, ei, eo⟩ := part_int hr2 hg
      subst eo
      exact ⟨i, ei, W, p, hp, ov, hov, hq⟩) h1) (tL_two (tE_op q))
theorem pe_slcFT {a l : E} {xa xl : Expr} {p2 : Pos} (ha : PE X xa (tE V1 X.prog X.w X.K Z a)) (hl : PE X xl (tE V1 X.prog X.w X.K Z l)) : PE X (.Subscript xa (.Slice none (some xl) none p2) pos) (tE V1 X.prog X.w X.K Z (.op (.slc false true false) [a, l])) :=
  PE.imp (pe_slice (sl_ev (V1 := V1)) ha po_none (po_some hl)) fun σ H Q q => tE_mono (fun v H1 h1 => tE_mono (fun v2 H2 h => by
    obtain ⟨W, pvs, st, AS, hr, hst, ov, hov, hq⟩ := h
    obtain ⟨p, r, e, hp, hr2⟩ := hr.inv2
    subst e
    replace hov : (match getI none, getI (some r) with | some l, some h => slice p l h false | _, _ => none) = some ov := hov
    cases hg : getI (some r) with
    | none => rw [hg] at hov; cases hov
    | some o =>
      rw [hg] at hov
      obtain ⟨i, ei, eo⟩ := part_int hr2 hg
      subst eo
      exact ⟨i, ei, W, p, hp, ov, hov, hq⟩) h1) (tL_two (tE_op q))
end

/-! ### values that are kept -/
section
variable {P : Program} {w : World} {K : PySem.W.Frag} {nm : Nm} {W W' : Wd} {H H' : Hp} {σ : L2.St} {env : EV.Env} {st st' : St} {AS AE AS' A : List Addr}
theorem Got.fzT {e : E} {ov : OV} {v : V} (C : Cfg P w K nm W H σ env st AS AE) (g : Got P w K nm W H AS AE e ov st' W' H' AS' v A) (hp : isPl e = false) :
    GotT P w K nm W H AS AE st' (W'.fz A) H' AS' ∧ Rep P w K nm (W'.fz A) H' ov.freeze v := by
  obtain ⟨g1, g2⟩ := g.fr hp
  have bn : ∀ a ∈ A, a ∉ AS' ++ AE := fun a ha z => by
    rcases List.mem_append.mp z with z | z
    · exact (g2 a ha).2.2.2 z
    · exact C.live a (List.mem_append_right _ z) (g2 a ha).1
  refine ⟨⟨g.ent.fz fun a ha => (g2 a ha).1, g.str.keep (Kp.to_fz A) fun _ _ _ h => h, g.nd, fun a ha => ⟨fun z => ?_, (g.ff a ha).2⟩, fun a h => ?_⟩, RepO.freeze ov v A (fun _ h => .inl h) (fun _ h => h) (fun _ _ h => h) (fun a ha => .inr ha) g.rep⟩
  · rcases z with z | z
    · exact (g.ff a ha).1 z
    · exact bn a z ha
  · rcases h with (h | h) | h
    · exact g.tr a (.inl h)
    · obtain ⟨o, q, _⟩ := RepO.there _ _ _ g.rep a h
      rw [q]; simp
    · exact g.tr a (.inr h)
theorem Got.takT {e : E} {ov : OV} {v : V} {x : PV} (C : Cfg P w K nm W H σ env st AS AE) (g : Got P w K nm W H AS AE e ov st' W' H' AS' v A) (ht : tak e ov = some x) :
    ∃ W2, GotT P w K nm W H AS AE st' W2 H' AS' ∧ Rep P w K nm W2 H' x v := by
  cases ho : ov.own with
  | false =>
    cases ov with
    | sh y =>
      cases ht
      have := g.rep
      rw [RepO] at this
      exact ⟨W', g.t, this.2⟩
    | _ => cases ho
  | true =>
    cases hp : isPl e with
    | true =>
      cases ov with
      | sh y => cases ho
      | _ => simp [tak, hp] at ht
    | false =>
      have ex : x = ov.freeze := by
        cases ov with
        | sh y => cases ho
        | _ =>
          simp [tak, hp] at ht
          exact ht.symm
      subst ex
      exact ⟨_, g.fzT C hp⟩
end
section
variable (V1 : Env1) (P : Program) (w : World) (K : PySem.W.Frag) (Z : WX)
/-- the reading of a run that gives a value -/
def tV (run : EV.Env → St → R OV) : TE := fun σ H Q => ∃ env st W AS AE, Cfg P w K V1.nm W H σ env st AS AE ∧
  match run env st with
  | .ok ov st' => ∃ x, ov = .sh x ∧ ∀ W' H' AS' v, GotT P w K V1.nm W H AS AE st' W' H' AS' → Rep P w K V1.nm W' H' x v → Q v H'
  | .exc c ns vs st' => XEnd V1 P w K Z W H AS AE σ c ns vs st'
  | .bad => False
end
section
variable {V1 : Env1} {P : Program} {w : World} {K : PySem.W.Frag} {Z : WX} {W W' : Wd} {H H' : Hp} {σ : L2.St} {AS AE AS' A : List Addr} {Q : VK}
/-- an expression whose run always gives a value -/
theorem tV_of {e : E} {run : EV.Env → St → R OV} (he : ∀ env st, ev V1.cl V1.txt V1.call e env st = run env st) (hs : ∀ env st ov st', run env st = .ok ov st' → ∃ x, ov = .sh x) (hpl : isPl e = false) (hpu : pureE e = false)
    (h : tE V1 P w K Z e σ H Q) : tV V1 P w K Z run σ H Q := by
  obtain ⟨env, st, W, AS, AE, C, h⟩ := h
  refine ⟨env, st, W, AS, AE, C, ?_⟩
  rw [he] at h
  cases hr : run env st with
  | bad => rw [hr] at h; exact h
  | exc c ns vs st1 => rw [hr] at h; exact h
  | ok ov st1 =>
    rw [hr] at h
    obtain ⟨x, ex⟩ := hs _ _ _ _ hr
    subst ex
    refine ⟨x, rfl, fun W1 H1 AS1 v g hx => h W1 H1 AS1 v [] ⟨g.ent, g.str, g.nd, g.ff, g.tr, by rw [RepO]; exact ⟨rfl, hx⟩, fun z => (by rw [hpl] at z; cases z), fun _ => ⟨List.nodup_nil, fun a ha => (List.not_mem_nil ha).elim⟩, fun z => (by rw [hpu] at z; cases z)⟩⟩
/-- at last, an expression that is kept -/
theorem tV_tak {e : E} {run : EV.Env → St → R OV} (hr : ∀ env st, run env st = (ev V1.cl V1.txt V1.call e env st).bind fun x st => lift ((tak e x).map .sh) st) (h : tV V1 P w K Z run σ H Q) : tE V1 P w K Z e σ H Q := by
  obtain ⟨env, st, W, AS, AE, C, h⟩ := h
  refine ⟨env, st, W, AS, AE, C, ?_⟩
  rw [hr] at h
  cases he : ev V1.cl V1.txt V1.call e env st with
  | bad => rw [he] at h; exact h
  | exc c ns vs st1 => rw [he] at h; exact h
  | ok ov st1 =>
    rw [he] at h
    simp only [R.bind, lift] at h
    cases ht : tak e ov with
    | none => rw [ht] at h; exact h.elim
    | some x =>
      rw [ht] at h
      obtain ⟨y, ey, h⟩ := h
      cases ey
      intro W1 H1 AS1 v A g
      obtain ⟨W2, g2, hx⟩ := g.takT C ht
      exact h W2 H1 AS1 v g2 hx
/-- an expression, then a run that leans on its value -/
theorem tV_bind {e : E} {run : EV.Env → St → R OV} {f : OV → EV.Env → St → R OV} (hr : ∀ env st, run env st = (ev V1.cl V1.txt V1.call e env st).bind fun x st => f x env st) (h : tV V1 P w K Z run σ H Q) :
    tE V1 P w K Z e σ H fun v H1 => ∃ W x A, RepO P w K V1.nm W H1 x v A ∧ tV V1 P w K Z (f x) σ H1 Q := by
  obtain ⟨env, st, W, AS, AE, C, h⟩ := h
  refine ⟨env, st, W, AS, AE, C, ?_⟩
  rw [hr] at h
  cases he : ev V1.cl V1.txt V1.call e env st with
  | bad => rw [he] at h; exact h
  | exc c ns vs st1 => rw [he] at h; exact h
  | ok ov st1 =>
    rw [he] at h
    intro W1 H1 AS1 v A g
    refine ⟨W1, ov, A, g.rep, env, st1, W1, AS1, AE, g.cfg C, ?_⟩
    simp only [R.bind] at h
    cases hf : f ov env st1 with
    | bad => rw [hf] at h; exact h
    | exc c ns vs st2 => rw [hf] at h; exact XEnd.after g.ent h
    | ok o2 st2 =>
      rw [hf] at h
      obtain ⟨x, ex, h⟩ := h
      exact ⟨x, ex, fun W2 H2 AS2 v2 g2 hx => h W2 H2 AS2 v2 (g.t.trans g2) hx⟩
/-- a test, then a run -/
theorem tV_test {r1 : EV.Env → St → R Bool} {run : EV.Env → St → R OV} {f : Bool → EV.Env → St → R OV} (hr : ∀ env st, run env st = (r1 env st).bind fun b st => f b env st) (h : tV V1 P w K Z run σ H Q) :
    tR V1 P w K Z r1 σ H fun b H1 => tV V1 P w K Z (f b) σ H1 Q := by
  obtain ⟨env, st, W, AS, AE, C, h⟩ := h
  refine ⟨env, st, W, AS, AE, C, ?_⟩
  rw [hr] at h
  cases he : r1 env st with
  | bad => rw [he] at h; exact h
  | exc c ns vs st1 => rw [he] at h; exact h
  | ok b st1 =>
    rw [he] at h
    intro W1 H1 AS1 g
    refine ⟨env, st1, W1, AS1, AE, g.cfg C, ?_⟩
    simp only [R.bind] at h
    cases hf : f b env st1 with
    | bad => rw [hf] at h; exact h
    | exc c ns vs st2 => rw [hf] at h; exact XEnd.after g.ent h
    | ok o2 st2 =>
      rw [hf] at h
      obtain ⟨x, ex, h⟩ := h
      exact ⟨x, ex, fun W2 H2 AS2 v2 g2 hx => h W2 H2 AS2 v2 (g.trans g2) hx⟩
theorem tV_ok {x : PV} {run : EV.Env → St → R OV} (hr : ∀ env st, run env st = .ok (.sh x) st) (h : tV V1 P w K Z run σ H Q) (v : V) (hx : ∀ W H, Rep P w K V1.nm W H x v) : Q v H := by
  obtain ⟨env, st, W, AS, AE, C, h⟩ := h
  rw [hr] at h
  obtain ⟨y, ey, h⟩ := h
  cases ey
  exact h W H AS v (GotT.refl C) (hx W H)
theorem tV_bad {run : EV.Env → St → R OV} (hr : ∀ env st, run env st = .bad) (h : tV V1 P w K Z run σ H Q) : False := by
  obtain ⟨env, st, W, AS, AE, C, h⟩ := h
  rw [hr] at h
  exact h
end
section
variable {V1 : Env1} {X : Cx} {Z : WX} {pos : Pos}
theorem lift_sh {e : E} {x : OV} {ov : OV} {st st' : St} (h : lift ((tak e x).map OV.sh) st = .ok ov st') : ∃ y, ov = .sh y := by
  unfold lift at h
  split at h
  · rename_i o e1
    obtain ⟨y, _, ey⟩ := Option.map_eq_some_iff.mp e1
    cases h
    exact ⟨y, ey.symm⟩
  · cases h
theorem bind_ok {α β : Type} {r : R α} {f : α → St → R β} {b : β} {st : St} (h : r.bind f = .ok b st) : ∃ a s1, r = .ok a s1 ∧ f a s1 = .ok b st := by
  cases r with
  | ok a s1 => exact ⟨a, s1, rfl, h⟩
  | exc c ns vs s1 => cases h
  | bad => cases h
def stepAnd (k : EV.Env → St → R OV) (x : OV) (env : EV.Env) (st : St) : R OV :=
  match x with
  | .sh (.bl true) => k env st
  | .sh (.bl false) => .ok (.sh (.bl false)) st
  | _ => .bad
def stepOr (k : EV.Env → St → R OV) (x : OV) (env : EV.Env) (st : St) : R OV :=
  match x with
  | .sh (.bl false) => k env st
  | .sh (.bl true) => .ok (.sh (.bl true)) st
  | _ => .bad
theorem evAnd2 {e e2 : E} {es : List E} (env : EV.Env) (st : St) : evAnd V1.cl V1.txt V1.call (e :: e2 :: es) env st = (ev V1.cl V1.txt V1.call e env st).bind fun x st => stepAnd (evAnd V1.cl V1.txt V1.call (e2 :: es)) x env st := by
  rw [evAnd] <;> first
    | rfl
    | simp
theorem evOr2 {e e2 : E} {es : List E} (env : EV.Env) (st : St) : evOr V1.cl V1.txt V1.call (e :: e2 :: es) env st = (ev V1.cl V1.txt V1.call e env st).bind fun x st => stepOr (evOr V1.cl V1.txt V1.call (e2 :: es)) x env st := by
  rw [evOr] <;> first
    | rfl
    | simp
theorem evAnd_sh : ∀ (es : List E) (env : EV.Env) (st : St) (ov : OV) (st' : St), evAnd V1.cl V1.txt V1.call es env st = .ok ov st' → ∃ x, ov = .sh x
  | [], env, st, ov, st', h => by rw [evAnd] at h; cases h
  | [e], env, st, ov, st', h => by
    rw [evAnd] at h
    obtain ⟨x, s1, h1, h2⟩ := bind_ok h
    exact lift_sh h2
  | e :: e2 :: es, env, st, ov, st', h => by
    rw [evAnd2] at h
    obtain ⟨x, s1, h1, h2⟩ := bind_ok h
    unfold stepAnd at h2
    split at h2
    · exact evAnd_sh (e2 :: es) env s1 ov st' h2
    · cases h2
      exact ⟨_, rfl⟩
    · cases h2
theorem evOr_sh : ∀ (es : List E) (env : EV.Env) (st : St) (ov : OV) (st' : St), evOr V1.cl V1.txt V1.call es env st = .ok ov st' → ∃ x, ov = .sh x
  | [], env, st, ov, st', h => by rw [evOr] at h; cases h
  | [e], env, st, ov, st', h => by
    rw [evOr] at h
    obtain ⟨x, s1, h1, h2⟩ := bind_ok h
    exact lift_sh h2
  | e :: e2 :: es, env, st, ov, st', h => by
    rw [evOr2] at h
    obtain ⟨x, s1, h1, h2⟩ := bind_ok h
    unfold stepOr at h2
    split at h2
    · exact evOr_sh (e2 :: es) env s1 ov st' h2
    · cases h2
      exact ⟨_, rfl⟩
    · cases h2
theorem pe_andL : ∀ {es : List E} {xs : List Expr}, PEs V1 Z X es xs → es ≠ [] → PE X (.BoolOp .And xs pos) (tV V1 X.prog X.w X.K Z (evAnd V1.cl V1.txt V1.call es))
  | [], _, _, hn => absurd rfl hn
  | [e], xs, h, _ => by
    obtain ⟨x, ex, _, h1⟩ := h.one
    subst ex
    exact PE.imp (pe_one h1) fun σ H Q q => tV_tak (fun env st => by rw [evAnd]) q
  | e :: e2 :: es, xs, h, _ => by
    obtain ⟨x, r, ex, _, h1, h2⟩ := h
    obtain ⟨x2, r2, ex2, hh⟩ := id h2
    subst ex
    subst ex2
    refine PE.imp (pe_and h1 (pe_andL h2 (by simp))) fun σ H Q q => ?_
    refine tE_mono (fun v H1 h => ?_) (tV_bind (f := stepAnd (evAnd V1.cl V1.txt V1.call (e2 :: es))) (fun env st => evAnd2 env st) q)
    obtain ⟨W, x, A, hr, hq⟩ := h
    by_cases ht : x = .sh (.bl true)
    · subst ht
      rw [RepO] at hr
      exact ⟨true, hr.2, by rw [if_pos rfl]; exact hq⟩
    · by_cases hf : x = .sh (.bl false)
      · subst hf
        rw [RepO] at hr
        exact ⟨false, hr.2, by rw [if_neg (by simp)]; exact tV_ok (fun _ _ => rfl) hq (.bl false) fun _ _ => rfl⟩
      · refine (tV_bad (fun env st => ?_) hq).elim
        unfold stepAnd
        split
        · exact absurd rfl ht
        · exact absurd rfl hf
        · rfl
theorem pe_orL : ∀ {es : List E} {xs : List Expr}, PEs V1 Z X es xs → es ≠ [] → PE X (.BoolOp .Or xs pos) (tV V1 X.prog X.w X.K Z (evOr V1.cl V1.txt V1.call es))
  | [], _, _, hn => absurd rfl hn
  | [e], xs, h, _ => by
    obtain ⟨x, ex, _, h1⟩ := h.one
    subst ex
    exact PE.imp (pe_one h1) fun σ H Q q => tV_tak (fun env st => by rw [evOr]) q
  | e :: e2 :: es, xs, h, _ => by
    obtain ⟨x, r, ex, _, h1, h2⟩ := h
    obtain ⟨x2, r2, ex2, hh⟩ := id h2
    subst ex
    subst ex2
    refine PE.imp (pe_or h1 (pe_orL h2 (by simp))) fun σ H Q q => ?_
    refine tE_mono (fun v H1 h => ?_) (tV_bind (f := stepOr (evOr V1.cl V1.txt V1.call (e2 :: es))) (fun env st => evOr2 env st) q)
    obtain ⟨W, x, A, hr, hq⟩ := h
    by_cases ht : x = .sh (.bl true)
    · subst ht
      rw [RepO] at hr
      exact ⟨true, hr.2, by rw [if_pos rfl]; exact tV_ok (fun _ _ => rfl) hq (.bl true) fun _ _ => rfl⟩
    · by_cases hf : x = .sh (.bl false)
      · subst hf
        rw [RepO] at hr
        exact ⟨false, hr.2, by rw [if_neg (by simp)]; exact hq⟩
      · refine (tV_bad (fun env st => ?_) hq).elim
        unfold stepOr
        split
        · exact absurd rfl hf
        · exact absurd rfl ht
        · rfl
theorem pe_andE {es : List E} {xs : List Expr} (h : PEs V1 Z X es xs) (hn : es ≠ []) : PE X (.BoolOp .And xs pos) (tE V1 X.prog X.w X.K Z (.and es)) :=
  PE.imp (pe_andL h hn) fun σ H Q q => tV_of (fun env st => by rw [ev]) (evAnd_sh es) rfl rfl q
theorem pe_orE {es : List E} {xs : List Expr} (h : PEs V1 Z X es xs) (hn : es ≠ []) : PE X (.BoolOp .Or xs pos) (tE V1 X.prog X.w X.K Z (.or es)) :=
  PE.imp (pe_orL h hn) fun σ H Q q => tV_of (fun env st => by rw [ev]) (evOr_sh es) rfl rfl q
theorem pe_ifxE {c : T} {a b : E} {xc xa xb : Expr} (hc : PT X xc (tT V1 X.prog X.w X.K Z c)) (ha : PE X xa (tE V1 X.prog X.w X.K Z a)) (hb : PE X xb (tE V1 X.prog X.w X.K Z b)) : PE X (.IfExp xc xa xb pos) (tE V1 X.prog X.w X.K Z (.ifx c a b)) := by
  refine PE.imp (pe_ifExp hc ha hb) fun σ H Q q => ?_
  have q1 := tV_of (fun env st => by rw [ev]) (fun env st ov st' h => by
    obtain ⟨t, s1, h1, h2⟩ := bind_ok h
    split at h2
    · obtain ⟨x, s2, h3, h4⟩ := bind_ok h2
      exact lift_sh h4
    · obtain ⟨x, s2, h3, h4⟩ := bind_ok h2
      exact lift_sh h4) rfl rfl q
  refine tR_mono (fun t H1 h => ?_) (tV_test (f := fun t env st => (match t with
    | true => (ev V1.cl V1.txt V1.call a env st).bind fun x st => lift ((tak a x).map .sh) st
    | false => (ev V1.cl V1.txt V1.call b env st).bind fun x st => lift ((tak b x).map .sh) st)) (fun _ _ => rfl) q1)
  cases t with
  | true => rw [if_pos rfl]; exact tV_tak (fun _ _ => rfl) h
  | false => rw [if_neg (by simp)]; exact tV_tak (fun _ _ => rfl) h
end
end EV

set_option Elab.async false
set_option linter.all false
set_option maxRecDepth 100000
set_option maxHeartbeats 1000000
/-! EV6d: built-ins called, isinstance, {}. -/
namespace EV
open PySem PySem.Spec PyProof.Rows L2
section
variable {V1 : Env1} {X : Cx} {Z : WX} {pos : Pos}
theorem PEs.split {e : E} {es : List E} {xs : List Expr} (h : PEs V1 Z X (e :: es) xs) : ∃ x r, xs = x :: r ∧ noStar x = true ∧ PEs V1 Z X es r := by
  obtain ⟨x, r, e1, n, h1, h2⟩ := h
  exact ⟨x, r, e1, n, h2⟩
theorem pe_biB {o : Op} {n : Str} {id : String} {e : E} {es : List E} {xs : List Expr} {p : Pos} (hc : CallR X (.builtin id) (fun vs H Q => OpQ V1 X.prog X.w X.K o vs H Q)) (hg : Gl X n) (hm : X.mg n = none) (hv : bootBuiltins n = some (.builtin id)) (h : PEs V1 Z X (e :: es) xs)
    (hn : n ≠ "__name__") (hdb : (n == ("__debug__" : Str)) = false) : PE X (.Call (.Name n p) xs [] pos) (tE V1 X.prog X.w X.K Z (.op o (e :: es))) := by
  obtain ⟨x, r, ex, ns, h2⟩ := h.split
  have ha := pa_of h
  subst ex
  exact PE.imp (pe_callB hc hg hm hv ha hn hdb (starEach_cons ns) (h2.stars pos X.env)) fun σ H Q q => tE_op q
theorem pe_biT {o : Op} {n : Str} {id : String} {e : E} {es : List E} {xs : List Expr} {p : Pos} (hc : CallR X (.type id) (fun vs H Q => OpQ V1 X.prog X.w X.K o vs H Q)) (hg : Gl X n) (hm : X.mg n = none) (hv : bootBuiltins n = some (.type id)) (h : PEs V1 Z X (e :: es) xs)
    (hn : n ≠ "__name__") (hdb : (n == ("__debug__" : Str)) = false) : PE X (.Call (.Name n p) xs [] pos) (tE V1 X.prog X.w X.K Z (.op o (e :: es))) := by
  obtain ⟨x, r, ex, ns, h2⟩ := h.split
  have ha := pa_of h
  subst ex
  exact PE.imp (pe_callTy hc hg hm hv ha hn hdb (starEach_cons ns) (h2.stars pos X.env)) fun σ H Q q => tE_op q
/-! ### isinstance -/
section
variable {pins : List (Addr × Obj)} {s : Shared} {σ : L2.St} {H : Hp} {W : Wd}
theorem kit_rep {nm : Nm} (F : Facts nm X.K) (I : Inv X pins σ H s) {p : PV} {x : V} {u : Value} (rx : RelV x u) (h : RepV X.prog X.w X.K nm W H p x) (hi : (∀ c ns vs, p ≠ .exc c ns vs) ∧ (∀ k, p ≠ .ref k) ∧ ∀ is, p ≠ .scr is) :
    ∃ P : Heap → Prop, PySem.W.KitX X.K u (tyV X.K nm p) P ∧ P s.heap ∧ u ≠ .builtin "__main__.__loader__#opaque" := by
  cases p with
  | non =>
    rw [h.non] at rx
    exact kit_of I rx (.base .non)
  | bl b =>
    rw [h.bl] at rx
    exact kit_of I rx (.base (.bl b))
  | int i =>
    rw [h.int] at rx
    exact kit_of I rx (.base (.int i))
  | str z =>
    rw [h.str] at rx
    exact kit_of I rx (.base (.str z))
  | tup xs =>
    obtain ⟨a, vs, e, h1, _⟩ := h.tup
    rw [e] at rx
    exact kit_of I rx (.base (.tup h1))
  | lst f xs =>
    obtain ⟨a, vs, e, h1, _⟩ := h.lst
    rw [e] at rx
    exact kit_of I rx (.base (.lst h1))
  | dct f ks vs =>
    obtain ⟨a, e, hD⟩ := h.dct
    rw [e] at rx
    rcases hD with ⟨xs, vvs, h1, _⟩ | ⟨kvs, _, h1, _⟩
    · cases (show u = Value.ref a from rx)
      obtain ⟨⟨o, es, ep, ho, hx, _⟩, _⟩ := I.hok a _ h1
      exact ⟨_, PySem.W.kitx_dict, ⟨o, ho, hx.1⟩, fun z => nomatch z⟩
    · exact kit_of I rx (.base (.dK h1))
  | ins f c ns vs =>
    obtain ⟨a, dx, fs, e, h1, hc⟩ := h.ins
    rw [e] at rx
    exact kit_of I rx (.base (.ins h1 (F.cls c hc) (F.ccl c hc).1 F.oget F.otk (F.ccl c hc).2))
  | ref k => exact absurd rfl (hi.2.1 k)
  | exc c ns vs => exact absurd rfl (hi.1 c ns vs)
  | scr is => exact absurd rfl (hi.2.2 is)
end
theorem isi_kind {p : PV} {t : Ty} {b : Bool} (h : isiOne p t = some b) : (∀ k, p ≠ .ref k) ∧ ∀ is, p ≠ .scr is := by
  refine ⟨fun k e => ?_, fun is e => ?_⟩
  · subst e; cases h
  · subst e; cases h
theorem isiAny_kit {nm : Nm} (F : Facts nm X.K) {p : PV} (hp : ∀ f c ns vs, p = .ins f c ns vs → c ∈ nm.cs) : ∀ {ts : List Ty} {b : Bool}, (∀ t ∈ ts, t ∈ nm.tys) → isiAny p ts = some b → PySem.W.kitAny X.K (tyV X.K nm p) (ts.map (tyU X.K nm)) = some b
  | [], b, _, h => h
  | t :: ts, b, ht, h => by
    rw [isiAny] at h
    rw [List.map_cons, PySem.W.kitAny]
    cases h1 : isiOne p t with
    | none => rw [h1] at h; cases h
    | some k =>
      rw [h1] at h
      rw [F.isi p t k hp (ht t List.mem_cons_self) h1]
      cases k with
      | true => exact h
      | false => exact isiAny_kit F hp (fun t' h' => ht t' (List.mem_cons_of_mem _ h')) h
/-- the classes as they stand in a call of isinstance -/
def TysP (X : Cx) (nm : Nm) : List Ty → List Expr → Prop
  | [], xs => xs = []
  | t :: ts, xs => ∃ x r, xs = x :: r ∧ noStar x = true ∧ PE X x (tC (tyC X.K nm t)) ∧ TysP X nm ts r
def tCs (K : PySem.W.Frag) (nm : Nm) (ts : List Ty) : TA := fun _ H Q => Q (ts.map (tyC K nm)) H
theorem pa_tys {nm : Nm} : ∀ {ts : List Ty} {xs : List Expr}, TysP X nm ts xs → PA X xs (tCs X.K nm ts)
  | [], xs, h => by
    rw [show xs = [] from h]
    exact PA.imp pa_nil fun σ H Q q => q
  | t :: ts, xs, h => by
    obtain ⟨x, r, e, n, h1, h2⟩ := h
    subst e
    exact PA.imp (pa_cons h1 (pa_tys h2) (starEach_cons n)) fun σ H Q q => q
/-- the second argument: one class, or a tuple of classes -/
inductive TyArg (X : Cx) (nm : Nm) : List Ty → Expr → Prop where
  | one {t : Ty} {x : Expr} (n : noStar x = true) (h : PE X x (tC (tyC X.K nm t))) : TyArg X nm [t] x
  | many {ts : List Ty} {xs : List Expr} {k : Nat} {p : Pos} (hz : ts.length ≤ 1000) (h : TysP X nm ts xs) : TyArg X nm ts (.Tuple xs k p)
theorem tysV {K : PySem.W.Frag} {nm : Nm} : ∀ ts : List Ty, Paired ClsV (ts.map (tyC K nm)) (ts.map (tyU K nm))
  | [] => .nil
  | t :: ts => .cons (tyC_cls K nm t) (tysV ts)
theorem RepV.ext {P : Program} {w : World} {K : PySem.W.Frag} {nm : Nm} {W : Wd} {H H' : Hp} (k : ∀ a o, H a = some o → H' a = some o) {p : PV} {x : V} (h : RepV P w K nm W H p x) : RepV P w K nm W H' p x := by
  have kp : Kp W W H H' := ⟨fun _ h => h, fun _ h => h, fun _ _ h => h, fun a xs e => k a _ e, fun a o u e => k a _ e, fun a o _ e => k a o e⟩
  rcases h with h | h
  · exact .inl (Rep.keep kp p x h)
  · right
    cases p with
    | lst f xs =>
      cases f with
      | false => exact h
      | true =>
        obtain ⟨a, vs, e, h1, h2⟩ := h
        exact ⟨a, vs, e, k _ _ h1, Reps.keep kp xs vs h2⟩
    | dct f ks vs =>
      cases f with
      | false => exact h
      | true =>
        obtain ⟨a, e, h1⟩ := h
        exact ⟨a, e, h1.keep kp (k a)⟩
    | ins f c ns vs =>
      cases f with
      | false => exact h
      | true =>
        obtain ⟨a, dx, fs, e, h1, h2⟩ := h
        exact ⟨a, dx, fs, e, k _ _ h1, h2⟩
    | _ => exact h
/-- isinstance, by values -/
theorem ci_isi (F : Facts V1.nm X.K) (ts : List Ty) : CallR X (.builtin "isinstance") (fun vs H Q => ∃ W p x c b, vs = [x, c] ∧ RepV X.prog X.w X.K V1.nm W H p x ∧ ((∀ c ns vs, p ≠ .exc c ns vs) ∧ (∀ k, p ≠ .ref k) ∧ ∀ is, p ≠ .scr is) ∧
    ((∃ t, c = tyC X.K V1.nm t ∧ PySem.W.kitOne X.K (tyV X.K V1.nm p) (tyU X.K V1.nm t) = some b) ∨ (∃ tp, c = .ref tp ∧ H tp = some (.tup (ts.map (tyC X.K V1.nm))) ∧ PySem.W.kitAny X.K (tyV X.K V1.nm p) (ts.map (tyU X.K V1.nm)) = some b)) ∧ Q (.bl b) H) := by
  intro pins s σ H xs us Q I r h
  obtain ⟨W, p, x, c, b, rfl, hp, hi, hc, q⟩ := h
  cases r with
  | cons r1 r =>
    cases r with
    | cons r2 r =>
      cases r
      obtain ⟨P, Z, pp, hx⟩ := kit_rep F I r1 hp hi
      rcases hc with ⟨t, e, hk⟩ | ⟨tp, e, hT, hk⟩
      · subst e
        have e2 := (tyC_cls X.K V1.nm t).eq r2
        subst e2
        exact PySem.W.kia_one Z I.kIn pp hk hx fun tk => ⟨.bl b, H, I.tok tk, rfl, q⟩
      · subst e
        cases (show _ = Value.ref tp from r2)
        obtain ⟨_, its, rv, ⟨oc, od, dt, sl⟩, h1, h2, n, h3⟩ := (show ObjOk X.prog X.w H s.heap tp (.tup (ts.map (tyC X.K V1.nm))) from I.hok tp _ hT)
        have e3 := ClsV.all (tysV ts) rv
        subst e3
        simp only at h2 h3
        subst h2 h3
        exact PySem.W.kia_tup Z I.kIn pp h1 hk hx fun tk => ⟨.bl b, H, I.tok tk, rfl, q⟩
theorem pe_isiE {a : E} {xa xt : Expr} {ts : List Ty} {p : Pos} (F : Facts V1.nm X.K) (hg : Gl X "isinstance") (hm : X.mg "isinstance" = none) (ha : PE X xa (tE V1 X.prog X.w X.K Z a)) (hn : noStar xa = true) (ht : TyArg X V1.nm ts xt) (hts : ∀ t ∈ ts, t ∈ V1.nm.tys) (hne : ts ≠ []) :
    PE X (.Call (.Name "isinstance" p) [xa, xt] [] pos) (tE V1 X.prog X.w X.K Z (.op (.isi ts) [a])) := by
  have key : ∀ {vs : List V} {H : Hp} {Q : VK}, OpQ V1 X.prog X.w X.K (.isi ts) vs H Q → ∃ W p b x, vs = [x] ∧ RepV X.prog X.w X.K V1.nm W H p x ∧ ((∀ c ns vs, p ≠ .exc c ns vs) ∧ (∀ k, p ≠ .ref k) ∧ ∀ is, p ≠ .scr is) ∧
      PySem.W.kitAny X.K (tyV X.K V1.nm p) (ts.map (tyU X.K V1.nm)) = some b ∧ (∀ t, ts = [t] → PySem.W.kitOne X.K (tyV X.K V1.nm p) (tyU X.K V1.nm t) = some b) ∧ ∀ H', (∀ a o, H a = some o → H' a = some o) → Q (.bl b) H' := by
    intro vs H Q h
    obtain ⟨W, pvs, st, AS, hr, hst, ov, hov, hq⟩ := h
    cases pvs with
    | nil => cases hov
    | cons p r =>
      cases r with
      | nil =>
        obtain ⟨x, e, hp⟩ := hr.one
        obtain ⟨b, hb, eo⟩ := Option.map_eq_some_iff.mp (show (isiAny p ts).map (fun b => OV.sh (.bl b)) = some ov from hov)
        subst eo
        have hcs : ∀ f c ns vs, p = .ins f c ns vs → c ∈ V1.nm.cs := fun f c ns vs e => by
          subst e
          obtain ⟨_, _, _, _, _, hc⟩ := hp.ins
          exact hc
        refine ⟨W, p, b, x, e, hp, ⟨fun c ns vs e => ?_, ?_⟩, isiAny_kit F hcs hts hb, fun t et => ?_, fun H' k => hq _ _ [] ⟨k, by rw [RepO]; exact ⟨rfl, rfl⟩, List.nodup_nil, fun _ h => (List.not_mem_nil h).elim⟩⟩
        · subst e
          rcases hp with h | h
          · rw [Rep] at h
            exact h
          · exact h
        · cases ts with
          | nil => exact absurd rfl hne
          | cons t ts =>
            rw [isiAny] at hb
            split at hb
            · rename_i e; exact isi_kind e
            · rename_i e; exact isi_kind e
            · cases hb
        · subst et
          rw [isiAny] at hb
          cases h1 : isiOne p t with
          | none => rw [h1] at hb; cases hb
          | some k =>
            rw [h1] at hb
            have : k = b := by
              cases k
              · exact Option.some.inj hb
              · exact Option.some.inj hb
            subst this
            exact F.isi p t k hcs (hts t List.mem_cons_self) h1
      | cons q r => cases hov
  cases ht with
  | @one t x n h =>
    have pa : PA X [xa, xt] (tCons (tE V1 X.prog X.w X.K Z a) (tCons (tC (tyC X.K V1.nm t)) tNil)) := pa_cons ha (pa_cons h pa_nil (starEach_cons n)) (starEach_cons hn)
    refine PE.imp (pe_callB (ci_isi F [t]) hg hm rfl pa (by decide) (by decide) (starEach_cons hn) (by rw [starEach_cons n]; rfl)) fun σ H Q q => ?_
    refine tE_mono (fun v H1 h1 => ?_) (tL_one (tE_op q))
    obtain ⟨W, p, b, x, e, hp, hi, _, hk, hq⟩ := key h1
    cases e
    exact ⟨W, p, v, _, b, rfl, hp, hi, .inl ⟨t, rfl, hk t rfl⟩, hq H1 fun _ _ h => h⟩
  | @many _ xs k pt hz h =>
    have pt : PE X (.Tuple xs k pt) (tTup (tCs X.K V1.nm ts)) := pe_tup (pa_tys h)
    have pa : PA X [xa, .Tuple xs k _] (tCons (tE V1 X.prog X.w X.K Z a) (tCons (tTup (tCs X.K V1.nm ts)) tNil)) := pa_cons ha (pa_cons pt pa_nil (starEach_cons rfl)) (starEach_cons hn)
    refine PE.imp (pe_callB (ci_isi F ts) hg hm rfl pa (by decide) (by decide) (starEach_cons hn) (by rw [starEach_cons rfl]; rfl)) fun σ H Q q => ?_
    refine tE_mono (fun v H1 h1 => ?_) (tL_one (tE_op q))
    obtain ⟨W, p, b, x, e, hp, hi, hk, _, hq⟩ := key h1
    cases e
    refine ⟨by rw [List.length_map, sizeLine_eq]; omega, fun tp htp => ?_⟩
    exact ⟨W, p, v, _, b, rfl, hp.ext (keep_upd htp), hi, .inr ⟨tp, rfl, upd_same, hk⟩, hq _ (keep_upd htp)⟩
/-- {} -/
theorem pe_dct0E : PE X (.Dict [] [] pos) (tE V1 X.prog X.w X.K Z .dct0) := by
  refine ⟨fun pins s σ H Q I h => ?_⟩
  obtain ⟨env, st, W, AS, AE, C, h⟩ := h
  rw [ev] at h
  have hn := I.hok.fresh (Nat.le_refl s.heap.objs.size)
  have new : ObjOk X.prog X.w (upd H s.heap.objs.size (dctO X.prog X.w s.heap.objs.size [])) (s.heap.push { cls := .type "dict", data := .dict #[] }) s.heap.objs.size (dctO X.prog X.w s.heap.objs.size []) := by
    refine ⟨⟨_, #[], 0, Heap.get?_push_size _ rfl, ⟨rfl, rfl, rfl⟩, rfl, rfl, List.nodup_nil, beq_eq_false_iff_ne.mpr (Ne.symm (Nat.ne_of_lt I.big)), Nat.zero_le _⟩, ⟨_, Heap.get?_push_size _ rfl⟩, fun h1 h2 p k => ?_⟩
    obtain ⟨o, es, ep, e1, e2⟩ := p
    exact ⟨o, es, ep, k o e1, e2⟩
  have J := I.laid (a := s.heap.objs.size) (o := dctO X.prog X.w s.heap.objs.size []) (t' := s.toks) (fun _ _ q => Heap.get?_push_of_some _ q) (Nat.le_refl _) new
  refine wpAny_Dict_empty ⟨.ref s.heap.objs.size, _, J, rfl, ?_⟩
  have g : OpGot X.prog X.w X.K V1.nm W H (.od [] []) (.ref s.heap.objs.size) [s.heap.objs.size] (upd H s.heap.objs.size (dctO X.prog X.w s.heap.objs.size [])) :=
    ⟨keep_upd hn, by rw [RepO]; exact ⟨_, rfl, rfl, .inl ⟨[], [], upd_same, rfl, fun _ h => (List.not_mem_nil h).elim, Reps.nil, Reps.nil, .nil⟩⟩, by simp, fun a ha => by rw [show a = s.heap.objs.size by simpa using ha]; exact hn⟩
  have gs := Gots.nil C
  have g' : OpGot X.prog X.w X.K V1.nm (W.fz []) H (.od [] []) (.ref s.heap.objs.size) [s.heap.objs.size] (upd H s.heap.objs.size (dctO X.prog X.w s.heap.objs.size [])) :=
    ⟨g.keep, RepO.keep (Kp.to_fz []) _ _ _ (fun _ _ _ h => h) g.rep, g.nd, g.fr⟩
  exact h _ _ AS _ _ (Gots.op (e := .dct0) C gs g' rfl fun _ => rfl)
end
end EV

set_option Elab.async false
set_option linter.all false
set_option maxRecDepth 100000
set_option maxHeartbeats 1000000
/-! EV5i: sorting, the plain part. -/
namespace EV
open PySem PySem.Spec PyProof.Rows L2
section
variable {α : Type} {le le' : α → α → Bool}
theorem ins_mem {x y : α} : ∀ {l : List α}, y ∈ insSort le x l → y = x ∨ y ∈ l
  | [], h => by
    rw [insSort] at h
    exact .inl (by simpa using h)
  | z :: l, h => by
    rw [insSort] at h
    split at h
    · rcases List.mem_cons.mp h with e | e
      · exact .inl e
      · exact .inr e
    · rcases List.mem_cons.mp h with e | e
      · exact .inr (by rw [e]; exact List.mem_cons_self)
      · exact (ins_mem e).imp id fun h => List.mem_cons_of_mem _ h
theorem sortBy_mem {y : α} : ∀ {l : List α}, y ∈ sortBy le l → y ∈ l
  | [], h => h
  | x :: l, h => by
    rw [sortBy] at h
    rcases ins_mem h with e | e
    · rw [e]; exact List.mem_cons_self
    · exact List.mem_cons_of_mem _ (sortBy_mem e)
theorem ins_congr {x : α} : ∀ {l : List α}, (∀ y ∈ l, le x y = le' x y) → insSort le x l = insSort le' x l
  | [], _ => rfl
  | y :: l, h => by
    rw [insSort, insSort, h y List.mem_cons_self, ins_congr fun z hz => h z (List.mem_cons_of_mem _ hz)]
theorem sortBy_congr : ∀ {l : List α}, (∀ x ∈ l, ∀ y ∈ l, le x y = le' x y) → sortBy le l = sortBy le' l
  | [], _ => rfl
  | x :: l, h => by
    rw [sortBy, sortBy, sortBy_congr fun y hy z hz => h y (List.mem_cons_of_mem _ hy) z (List.mem_cons_of_mem _ hz)]
    exact ins_congr fun y hy => h x List.mem_cons_self y (List.mem_cons_of_mem _ (sortBy_mem hy))
theorem ins_sorted (t : PySem.W.TotalLe le) {x : α} : ∀ {l : List α}, l.Pairwise (fun a b => le a b = true) → (insSort le x l).Pairwise (fun a b => le a b = true)
  | [], _ => by
    rw [insSort]
    simp
  | y :: l, h => by
    rw [insSort]
    obtain ⟨h1, h2⟩ := List.pairwise_cons.mp h
    split
    · rename_i hxy
      refine List.pairwise_cons.mpr ⟨fun z hz => ?_, h⟩
      rcases List.mem_cons.mp hz with e | e
      · rw [e]; exact hxy
      · exact t.trans _ _ _ hxy (h1 z e)
    · rename_i hxy
      refine List.pairwise_cons.mpr ⟨fun z hz => ?_, ins_sorted t h2⟩
      rcases ins_mem hz with e | e
      · subst e
        exact (t.total z y).resolve_left (by simpa using hxy)
      · exact h1 z e
theorem sortBy_sorted (t : PySem.W.TotalLe le) : ∀ l : List α, (sortBy le l).Pairwise (fun a b => le a b = true)
  | [] => by rw [sortBy]; exact List.Pairwise.nil
  | x :: l => by
    rw [sortBy]
    exact ins_sorted t (sortBy_sorted t l)
theorem ins_filter (t : PySem.W.TotalLe le) {x c : α} : ∀ l : List α, (insSort le x l).filter (PySem.W.sameRank le c) = (x :: l).filter (PySem.W.sameRank le c)
  | [] => rfl
  | y :: l => by
    rw [insSort]
    split
    · rfl
    · rename_i hxy
      rw [List.filter_cons, ins_filter t l]
      cases hy : PySem.W.sameRank le c y with
      | false =>
        simp only [Bool.false_eq_true, if_false]
        rw [List.filter_cons, List.filter_cons, List.filter_cons, hy]
        simp
      | true =>
        cases hx : PySem.W.sameRank le c x with
        | false =>
          rw [List.filter_cons, hx]
          simp [List.filter_cons, hx, hy]
        | true =>
          exfalso
          unfold PySem.W.sameRank at hx hy
          rw [Bool.and_eq_true] at hx hy
          exact hxy (t.trans _ _ _ hx.2 hy.1)
theorem sortBy_filter (t : PySem.W.TotalLe le) {c : α} : ∀ l : List α, (sortBy le l).filter (PySem.W.sameRank le c) = l.filter (PySem.W.sameRank le c)
  | [] => rfl
  | x :: l => by
    rw [sortBy, ins_filter t, List.filter_cons, List.filter_cons, sortBy_filter t l]
theorem sortBy_eq (t : PySem.W.TotalLe le) (l : List α) : sortBy le l = l.mergeSort le := PySem.W.sort_unique t (sortBy_sorted t l) fun c => sortBy_filter t l
end
mutual
theorem alike_data : ∀ (x y : PV), EV.alike x y = true → PySem.W.alike (toData x) (toData y) = true
  | .non, y, h => by cases y <;> first | rfl | simp [EV.alike] at h
  | .int i, y, h => by cases y <;> first | rfl | simp [EV.alike] at h
  | .bl b, y, h => by cases y <;> first | rfl | simp [EV.alike] at h
  | .str s, y, h => by cases y <;> first | rfl | simp [EV.alike] at h
  | .tup xs, y, h => by
    cases y with
    | tup ys =>
      rw [EV.alike] at h
      simp only [toData, PySem.W.alike]
      exact alikes_data xs ys h
    | _ => simp [EV.alike] at h
  | .lst _ _, y, h => by simp [EV.alike] at h
  | .dct _ _ _, y, h => by simp [EV.alike] at h
  | .ins _ _ _ _, y, h => by simp [EV.alike] at h
  | .ref _, y, h => by simp [EV.alike] at h
  | .exc _ _ _, y, h => by simp [EV.alike] at h
  | .scr _, y, h => by simp [EV.alike] at h
theorem alikes_data : ∀ (xs ys : List PV), alikes xs ys = true → PySem.W.alikeAll (toDatas xs) (toDatas ys) = true
  | [], ys, _ => by cases ys <;> simp [toDatas, PySem.W.alikeAll]
  | x :: xs, [], _ => by simp [toDatas, PySem.W.alikeAll]
  | x :: xs, y :: ys, h => by
    rw [alikes, Bool.and_eq_true] at h
    simp only [toDatas, PySem.W.alikeAll]
    rw [alike_data x y h.1, alikes_data xs ys h.2]
    rfl
end
theorem listLt_eq : ∀ xs ys : List Nat, listLt xs ys = decide (xs < ys)
  | xs, [] => by cases xs <;> simp [listLt]
  | [], y :: ys => by simp [listLt]
  | x :: xs, y :: ys => by
    rw [listLt]
    by_cases h : x = y
    · subst h
      rw [if_pos rfl, listLt_eq xs ys]
      simp
    · rw [if_neg h]
      simp [List.cons_lt_cons_iff, h]
mutual
theorem pvLt_data {n m : Nat} : ∀ (x y : PV), dataD n x = true → dataD m y = true → EV.alike x y = true → pvLt x y = PySem.W.dataLt (toData x) (toData y)
  | .non, y, hx, hy, h => by
    cases y with
    | non => exact (lex_irrefl _).symm
    | _ => simp [EV.alike] at h
  | .int i, y, hx, hy, h => by
    cases y with
    | int j => simp only [toData, PySem.W.dataLt_int, pvLt]
    | _ => simp [EV.alike] at h
  | .bl b, y, hx, hy, h => by
    cases y with
    | bl c =>
      simp only [toData, PySem.W.dataLt_bool, pvLt]
      cases b <;> cases c <;> rfl
    | _ => simp [EV.alike] at h
  | .str s, y, hx, hy, h => by
    cases y with
    | str z => simp only [toData, PySem.W.dataLt_str, pvLt, listLt_eq]
    | _ => simp [EV.alike] at h
  | .tup xs, y, hx, hy, h => by
    cases y with
    | tup ys =>
      cases n with
      | zero => simp [dataD] at hx
      | succ n =>
        cases m with
        | zero => simp [dataD] at hy
        | succ m =>
          rw [dataD] at hx hy
          rw [EV.alike] at h
          rw [pvLt, toData, toData, PySem.W.dataLt_tuple]
          exact pvLts_data xs ys hx hy h
    | _ => simp [EV.alike] at h
  | .lst _ _, y, _, _, h => by simp [EV.alike] at h
  | .dct _ _ _, y, _, _, h => by simp [EV.alike] at h
  | .ins _ _ _ _, y, _, _, h => by simp [EV.alike] at h
  | .ref _, y, _, _, h => by simp [EV.alike] at h
  | .exc _ _ _, y, _, _, h => by simp [EV.alike] at h
  | .scr _, y, _, _, h => by simp [EV.alike] at h
theorem pvLts_data {n m : Nat} : ∀ (xs ys : List PV), dataDs n xs = true → dataDs m ys = true → alikes xs ys = true → pvLts xs ys = PyProof.Rows.lexLt itemOrd (PySem.W.keyToksAll (toDatas xs)) (PySem.W.keyToksAll (toDatas ys))
  | [], [], _, _, _ => (lex_irrefl _).symm
  | x :: xs, [], _, _, _ => by
    rw [pvLts]
    simp only [toDatas, PySem.W.keyToksAll]
    rfl
  | [], y :: ys, _, _, _ => by
    rw [pvLts]
    simp only [toDatas, PySem.W.keyToksAll]
    rfl
  | x :: xs, y :: ys, hx, hy, h => by
    rw [dataDs, Bool.and_eq_true] at hx hy
    rw [alikes, Bool.and_eq_true] at h
    simp only [toDatas]
    rw [PySem.W.dataLt_cons (alike_data x y h.1), pvLts, pvEq_data x y hx.1 hy.1]
    cases e : PyData.eqv (toData x) (toData y) with
    | true =>
      rw [if_pos rfl]
      exact pvLts_data xs ys hx.2 hy.2 h.2
    | false =>
      rw [if_neg Bool.false_ne_true]
      exact pvLt_data x y hx.1 hy.1 h.1
end
/-- the evaluator's sorting is the kit's -/
theorem sortPV_eq {xs : List PV} (h : sortOk xs = true) : sortPV xs = xs.mergeSort (PySem.W.dataLe false toData) := by
  unfold sortOk at h
  rw [Bool.and_eq_true, Bool.and_eq_true] at h
  have hd := dataDs_iff.mp h.1
  have ha : ∀ x ∈ xs, ∀ y ∈ xs, EV.alike x y = true := fun x hx y hy => List.all_eq_true.mp (List.all_eq_true.mp h.2.1 x hx) y hy
  unfold sortPV
  rw [← sortBy_eq (le := PySem.W.dataLe false toData) (PySem.W.sortLe_total _ _ _)]
  refine sortBy_congr fun x hx y hy => ?_
  rw [PySem.W.dataLe_eq]
  rw [pvLt_data y x (hd y hy) (hd x hx) (ha y hy x hx)]
  rfl
theorem sortOk_all {xs : List PV} (h : sortOk xs = true) : PySem.W.AllAlike (toDatas xs) ∧ PySem.W.Sortable (toDatas xs) ∧ dataDs 60 xs = true := by
  unfold sortOk at h
  rw [Bool.and_eq_true, Bool.and_eq_true, Bool.or_eq_true] at h
  have ha : ∀ x ∈ xs, ∀ y ∈ xs, EV.alike x y = true := fun x hx y hy => List.all_eq_true.mp (List.all_eq_true.mp h.2.1 x hx) y hy
  rw [toDatas_map]
  refine ⟨fun d hd d' hd' => ?_, ?_, h.1⟩
  · obtain ⟨x, hx, e⟩ := List.mem_map.mp hd
    obtain ⟨y, hy, e'⟩ := List.mem_map.mp hd'
    rw [← e, ← e']
    exact alike_data x y (ha x hx y hy)
  · rcases h.2.2 with h3 | h3
    · left
      intro d hd
      obtain ⟨x, hx, e⟩ := List.mem_map.mp hd
      have := List.all_eq_true.mp h3 x hx
      unfold sortKind at this
      split at this <;> first
        | (exfalso; revert this; decide)
        | skip
      rename_i z zs
      exact ⟨toData z, toDatas zs, by rw [← e]; rfl⟩
    · right
      intro d hd
      obtain ⟨x, hx, e⟩ := List.mem_map.mp hd
      have := List.all_eq_true.mp h3 x hx
      rw [← e]
      cases x <;> first
        | (exfalso; revert this; simp [sortKind]; done)
        | (constructor <;> simp [toData]; done)
        | skip
      · rename_i ys
        cases ys <;> simp [sortKind] at this
end EV

set_option Elab.async false
set_option linter.all false
set_option maxRecDepth 100000
set_option maxHeartbeats 1000000
/-! EV5j: sorted(..). -/
namespace EV
open PySem PySem.Spec PySem.Calls PyProof.Rows L2
section
variable {V1 : Env1} {X : Cx} {Z : WX} {pos : Pos}
section
variable {nm : Nm} {pins : List (Addr × Obj)} {s : Shared} {σ : L2.St} {H : Hp} {W : Wd} {Q : VK} {u : Value}
theorem each_zip {R : Value → PV × V → Prop} : ∀ {xs : List PV} {vs : List V} {us : List Value}, Reps X.prog X.w X.K nm W H xs vs → Vals vs us → (∀ x v u, x ∈ xs → Rep X.prog X.w X.K nm W H x v → RelV v u → R u (x, v)) → PySem.W.EachIs R us (xs.zip vs)
  | [], vs, us, h, r, _ => by
    rw [h.nil_inv] at r ⊢
    cases r
    exact .nil
  | x :: xs, vs, us, h, r, f => by
    obtain ⟨v, rest, e, h1, h2⟩ := h.uncons
    subst e
    cases r with
    | cons r1 r2 => exact .cons (f x v _ List.mem_cons_self h1 r1) (each_zip h2 r2 fun y w z hy => f y w z (List.mem_cons_of_mem _ hy))
theorem zip_fst : ∀ {xs : List PV} {vs : List V}, xs.length = vs.length → (xs.zip vs).map Prod.fst = xs
  | [], _, _ => rfl
  | x :: xs, [], h => by simp at h
  | x :: xs, v :: vs, h => by
    rw [List.zip_cons_cons, List.map_cons, zip_fst (by simpa using h)]
theorem each_back : ∀ {bs : List (PV × V)} {us : List Value}, PySem.W.EachIs (fun u (b : PV × V) => RelV b.2 u ∧ Rep X.prog X.w X.K nm W H b.1 b.2) us bs → Reps X.prog X.w X.K nm W H (bs.map Prod.fst) (bs.map Prod.snd) ∧ Vals (bs.map Prod.snd) us
  | _, _, .nil => ⟨Reps.nil, .nil⟩
  | _, _, .cons h t => by
    obtain ⟨h1, h2⟩ := each_back t
    exact ⟨Reps.cons h.2 h1, .cons h.1 h2⟩
/-- sorted(u), the items of u laid bare -/
theorem wp_sorted {xs : List PV} {vs : List V} {us : List Value} (hu : X.A.units + 70 < cLine) (I : Inv X pins σ H s) (hr : Reps X.prog X.w X.K nm W H xs vs) (rv : Vals vs us) (ho : sortOk xs = true) (hz : us.length ≤ sizeLine)
    (col : ∀ (R : List Value → Shared → Prop), (∀ h' tk, (∀ b o, s.heap.get? b = some o → h'.get? b = some o) → R us { s with heap := h', toks := tk }) → wpAny (model X.prog X.w) X.A.in1 (collect u) R X.xe s)
    (q : ∀ p vs', H p = none → Reps X.prog X.w X.K nm W H (sortPV xs) vs' → Q (.ref p) (upd H p (.lst vs'))) : wpAny (model X.prog X.w) X.A (call (.builtin "sorted") [u]) (EP X pins σ Q) X.xe s := by
  obtain ⟨hal, hk, hd⟩ := sortOk_all ho
  have hl := hr.length
  refine call_function_entry kind_sorted plain_sorted entry_sorted (args_sorted1 _) ?_
  unfold Builtin.«sorted»
  refine wpAny_bind (m := checkCount "sorted" 1 1 _) (wpAny_pure ?_)
  refine wpAny_bind (col _ fun h' tk hkeep => ?_)
  refine wpAny_bind (wpAny_newList ?_ hz)
  have hat : (h'.push { cls := .type "list", data := .seq us.toArray }).get? h'.objs.size = some (seqObj "list" us.toArray 0) := Heap.get?_push_size _ rfl
  have hkeep2 : ∀ b o, s.heap.get? b = some o → b ≠ h'.objs.size ∧ (h'.push { cls := .type "list", data := .seq us.toArray }).get? b = some o := fun b o e => by
    have e2 := hkeep b o e
    exact ⟨Nat.ne_of_lt (Heap.lt_size e2), Heap.get?_push_of_some _ e2⟩
  let bs := xs.zip vs
  let enc : PV × V → PyData := fun b => toData b.1
  have er0 : PySem.W.EachIs (fun v b => ∃ as, Reads s.heap v (enc b) as) us bs := each_zip hr rv fun x v u' hx hrep r => Dp.reads I _ v u' (Rep.dp x v (dataDs_iff.mp hd x hx) hrep) r
  have e0 : PySem.W.EachIs (fun u' (b : PV × V) => RelV b.2 u' ∧ Rep X.prog X.w X.K nm W H b.1 b.2) us bs := each_zip hr rv fun x v u' _ hrep r => ⟨r, hrep⟩
  have hmap : bs.map enc = toDatas xs := by
    rw [toDatas_map, ← zip_fst hl, List.map_map]
    rfl
  have sold : ∀ b o, s.heap.get? b = some o → (PySem.W.sortingHeap (h'.push { cls := .type "list", data := .seq us.toArray }) h'.objs.size us).get? b = some o := fun b o e => PySem.W.sortingHeap_old (hkeep2 b o e).1 (hkeep2 b o e).2
  have er : PySem.W.EachIs (fun v b => ∃ as, Reads (PySem.W.sortingHeap (h'.push { cls := .type "list", data := .seq us.toArray }) h'.objs.size us) v (enc b) as) us bs := er0.mono fun _ _ ⟨as, r⟩ => ⟨as, PyProof.Rows.Reads.keeps sold r⟩
  have hal' : PySem.W.AllAlike (bs.map enc) := by rw [hmap]; exact hal
  have hk' : PySem.W.Sortable (bs.map enc) := by rw [hmap]; exact hk
  have hdep : ∀ b ∈ bs, (enc b).depth ≤ 60 := fun b hb => (dataD_lay b.1 (dataDs_iff.mp hd b.1 (by
    have := List.mem_map_of_mem (f := Prod.fst) hb
    rw [zip_fst hl] at this
    exact this))).2
  refine wpAny_bind (wpAny_holding (wpAny_call_entry slot_list_sort ⟨_, hat, rfl⟩ entry_list_sort ?_ (args_list_sort _)))
  refine PySem.W.list_sort_vals (κ := PySem.W.dataKind (PySem.W.sortingHeap (h'.push { cls := .type "list", data := .seq us.toArray }) h'.objs.size us) (bs.map enc)) hat
    (PySem.W.SortsAt.data (PySem.W.each_map (R := fun v d => ∃ as, Reads (PySem.W.sortingHeap (h'.push { cls := .type "list", data := .seq us.toArray }) h'.objs.size us) v d as) enc er) hal' hk' (PySem.W.bound_map fun b hb => ?_)) hz ⟨_, rfl, wpAny_pure ⟨_, rfl, ?_⟩⟩
  · have := hdep b hb
    show X.A.units + 1 + 1 + (enc b).depth < cLine
    omega
  have eo := PySem.W.sortVals_data false e0 er hal'
  obtain ⟨h1, h2⟩ := each_back eo
  have efst : (bs.mergeSort (PySem.W.dataLe false enc)).map Prod.fst = sortPV xs := by
    rw [sortPV_eq ho]
    have := PySem.W.sort_maps (r := PySem.W.dataLe false enc) (s := PySem.W.dataLe false toData) Prod.fst (l := bs) fun a _ b _ => rfl
    rw [this, zip_fst hl]
  rw [efst] at h1
  obtain ⟨c, hat2⟩ := sortedHeap_at (out := (PySem.W.sortVals (PySem.W.dataKind (PySem.W.sortingHeap (h'.push { cls := .type "list", data := .seq us.toArray }) h'.objs.size us) (bs.map enc)) false us us).toArray) hat
  have hnone : s.heap.get? h'.objs.size = none := by
    cases e : s.heap.get? h'.objs.size with
    | none => rfl
    | some o => exact absurd rfl (hkeep2 _ _ e).1
  have hHn := I.hok.gone hnone
  have hlen : ((bs.mergeSort (PySem.W.dataLe false enc)).map Prod.snd).length ≤ sizeLine := by
    rw [List.length_map, List.length_mergeSort]
    show (xs.zip vs).length ≤ sizeLine
    rw [List.length_zip, ← hl, Nat.min_self, hl, rv.length]
    exact hz
  refine ⟨.ref h'.objs.size, _, I.laidN (a := h'.objs.size) (o := .lst ((bs.mergeSort (PySem.W.dataLe false enc)).map Prod.snd)) (fun b o e => ?_) hnone hHn ⟨hlen, _, c, h2, hat2⟩, rfl, q _ _ hHn h1⟩
  rw [sortedHeap_old (hkeep2 b o e).1 (Heap.lt_size (hkeep2 b o e).2)]
  exact (hkeep2 b o e).2
/-- sorted(u) of one item, or none: whatever it is -/
theorem wp_sorted1 {xs : List PV} {vs : List V} {us : List Value} (I : Inv X pins σ H s) (hr : Reps X.prog X.w X.K nm W H xs vs) (rv : Vals vs us) (ho : xs.length ≤ 1) (hz : us.length ≤ sizeLine)
    (col : ∀ (R : List Value → Shared → Prop), (∀ h' tk, (∀ b o, s.heap.get? b = some o → h'.get? b = some o) → R us { s with heap := h', toks := tk }) → wpAny (model X.prog X.w) X.A.in1 (collect u) R X.xe s)
    (q : ∀ p vs', H p = none → Reps X.prog X.w X.K nm W H (sortPV xs) vs' → Q (.ref p) (upd H p (.lst vs'))) : wpAny (model X.prog X.w) X.A (call (.builtin "sorted") [u]) (EP X pins σ Q) X.xe s := by
  have hl := hr.length
  have hul : us.length ≤ 1 := by rw [← rv.length, ← hl]; exact ho
  have esort : sortPV xs = xs := by
    match xs, ho with
    | [], _ => rfl
    | [x], _ => rfl
    | _ :: _ :: _, h => simp at h
  refine call_function_entry kind_sorted plain_sorted entry_sorted (args_sorted1 _) ?_
  unfold Builtin.«sorted»
  refine wpAny_bind (m := checkCount "sorted" 1 1 _) (wpAny_pure ?_)
  refine wpAny_bind (col _ fun h' tk hkeep => ?_)
  refine wpAny_bind (wpAny_newList ?_ hz)
  have hat : (h'.push { cls := .type "list", data := .seq us.toArray }).get? h'.objs.size = some (seqObj "list" us.toArray 0) := Heap.get?_push_size _ rfl
  have hkeep2 : ∀ b o, s.heap.get? b = some o → b ≠ h'.objs.size ∧ (h'.push { cls := .type "list", data := .seq us.toArray }).get? b = some o := fun b o e => by
    have e2 := hkeep b o e
    exact ⟨Nat.ne_of_lt (Heap.lt_size e2), Heap.get?_push_of_some _ e2⟩
  refine wpAny_bind (wpAny_holding (wpAny_call_entry slot_list_sort ⟨_, hat, rfl⟩ entry_list_sort ?_ (args_list_sort _)))
  refine Srt.list_sort_any hat hz (fun h2 => absurd h2 (by omega)) fun out hp => ⟨_, rfl, wpAny_pure ⟨_, rfl, ?_⟩⟩
  have eout : out = us := by
    match us, hul, hp with
    | [], _, hp => exact hp.eq_nil
    | [v], _, hp => exact hp.eq_singleton
    | _ :: _ :: _, h, _ => simp at h
  subst eout
  obtain ⟨c, hat2⟩ := sortedHeap_at (out := out.toArray) hat
  have hnone : s.heap.get? h'.objs.size = none := by
    cases e : s.heap.get? h'.objs.size with
    | none => rfl
    | some o => exact absurd rfl (hkeep2 _ _ e).1
  have hHn := I.hok.gone hnone
  have hlen : vs.length ≤ sizeLine := by rw [rv.length]; exact hz
  refine ⟨.ref h'.objs.size, _, I.laidN (a := h'.objs.size) (o := .lst vs) (fun b o e => ?_) hnone hHn ⟨hlen, _, c, rv, hat2⟩, rfl, q _ _ hHn (by rw [esort]; exact hr)⟩
  rw [sortedHeap_old (hkeep2 b o e).1 (Heap.lt_size (hkeep2 b o e).2)]
  exact (hkeep2 b o e).2
end
theorem keys_vals : ∀ {es : List DictEntry} {kvs : List (Key × V)} {ps : List (Key × Value)}, KV kvs ps → Pairs (mixKind X.prog X.w) es ps → Vals (kvs.map fun q => kV q.1) (es.map (·.key))
  | [], kvs, ps, hk, hp => by
    cases hp
    cases hk
    exact .nil
  | e :: es, kvs, ps, hk, hp => by
    cases hp with
    | @cons _ kv _ _ h1 _ h2 =>
      cases hk with
      | @cons q _ _ _ g1 g2 =>
        refine .cons ?_ (keys_vals g2 h2)
        obtain ⟨e1, _⟩ := g1
        show RelV (kV q.1) e.key
        rw [e1]
        rcases keyIs_shape (show keyIs kv.1 e.key = true from h1) with ⟨i, t, ek, ev⟩ | ⟨x, t, ek, ev⟩
        · rw [ek, ev]
          exact ⟨t, rfl⟩
        · rw [ek, ev]
          exact ⟨t, rfl⟩
theorem items_of {P : Nat → Value → Prop} {us : List Value} {acc : Array Value} {n : Nat} (h : ItemsOf P acc n) (hn : n = us.length) (hP : ∀ i v, P i v → us[i]? = some v) : acc.toList = us := by
  have hl : acc.toList.length = us.length := by rw [Array.length_toList, h.1, hn]
  refine List.ext_getElem? fun i => ?_
  rcases Nat.lt_or_ge i acc.size with hi | hi
  · have e1 : acc[i]? = some acc[i] := by simp [hi]
    have := hP i acc[i] (h.2 i _ e1)
    rw [this, Array.getElem?_toList]
    exact e1
  · rw [List.getElem?_eq_none (by rw [Array.length_toList]; exact hi), List.getElem?_eq_none (by rw [← hl, Array.length_toList]; exact hi)]
theorem cb_sorted (hcalm : X.calm = true) (hu : X.A.units + 70 < cLine) : CallR X (.builtin "sorted") (BQ V1 X .sorted) := by
  intro pins s σ H ws us Q I r h
  obtain ⟨W, pvs, st, AS, hr, hst, ov, hov, hq⟩ := h
  replace hov : biV .sorted pvs = some ov := hov
  unfold biV at hov
  split at hov <;> first
    | contradiction
    | skip
  split at hov
  · rename_i xs hx
    split at hov
    · rename_i ho
      cases hov
      obtain ⟨v, e, hv⟩ := hr.one
      subst e
      cases r with
      | @cons _ b _ _ r1 r2 =>
        cases r2
        have fin : ∀ {vs : List V} {its : List Value}, Reps X.prog X.w X.K V1.nm W H xs vs → Vals vs its → its.length ≤ sizeLine →
            (∀ (R : List Value → Shared → Prop), (∀ h' tk, (∀ b o, s.heap.get? b = some o → h'.get? b = some o) → R its { s with heap := h', toks := tk }) → wpAny (model X.prog X.w) X.A.in1 (collect b) R X.xe s) → wpAny (model X.prog X.w) X.A (call (.builtin "sorted") [b]) (EP X pins σ Q) X.xe s :=
          fun {vs its} hrs hvs hz col => by
            unfold sortOk1 at ho
            rw [Bool.or_eq_true, decide_eq_true_eq] at ho
            rcases ho with ho | ho
            · exact wp_sorted1 (Q := Q) I hrs hvs ho hz col fun p vs' hp hs => hq _ _ _ (OpGot.lst hs hp)
            · exact wp_sorted (Q := Q) hu I hrs hvs ho hz col fun p vs' hp hs => hq _ _ _ (OpGot.lst hs hp)
        unfold items? at hx
        split at hx
        · cases hx
          obtain ⟨a, vs, ea, ha, hrs⟩ := hv.tup
          subst ea
          cases (show _ = Value.ref a from r1)
          obtain ⟨its, rr, ⟨o, ho', hc, n, hd⟩, hz⟩ := I.tuple (.inl (.inl ha))
          have hz' : its.length ≤ sizeLine := by rw [← rr.length]; exact hz
          refine fin hrs rr hz' fun R hR => wpAny_collect_seq a (T := "tuple") (.inr rfl) ho' hc hd (fun h' k => ?_) (by simpa using hz')
          have := hR h' s.toks k
          simpa using this
        · cases hx
          obtain ⟨a, vs, ea, ha, hrs⟩ := hv.lst
          subst ea
          cases (show _ = Value.ref a from r1)
          obtain ⟨hz, its, n, rr, ho'⟩ := (show ObjOk X.prog X.w H s.heap a (.lst vs) from I.hok a _ ha)
          have hz' : its.length ≤ sizeLine := by rw [← rr.length]; exact hz
          refine fin hrs rr hz' fun R hR => wpAny_collect_seq a (T := "list") (.inl rfl) ho' rfl rfl (fun h' k => ?_) (by simpa using hz')
          have := hR h' s.toks k
          simpa using this
        · cases hx
          obtain ⟨a, ea, hD⟩ := hv.dct
          subst ea
          cases (show _ = Value.ref a from r1)
          have hh : X.A.in1.handled = none := I.ok.hd hcalm
          rcases hD with ⟨ys, vvs, h1, h2, h3, h4, h5, h6⟩ | ⟨kvs, hne, h1, h2, h3⟩
          · obtain ⟨hm, hs, hz⟩ := dict_of I h1 h2 h3 h4
            obtain ⟨o, es, ep, ho', hex, hdat, hes, hall, hnd⟩ := hm
            have hsz : es.size = (ys.map fun x => Value.ref x.2.1).length := by
              have := congrArg List.length hes
              simpa using this
            have hsz2 : es.size ≤ sizeLine := by
              rw [hsz, List.length_map]
              exact hz
            refine fin h4 (vals_refs ys) (by rw [List.length_map]; exact hz) fun R hR => PySem.W.kdu_collect (KdlSrc.rawDict (es := es) (ep := ep) hs) hh ⟨o, ho', hex, hdat⟩ hsz2 fun h' tk acc hk hit => ?_
            rw [items_of hit hsz fun i v hv => ?_]
            · exact hR h' tk hk
            · obtain ⟨hi, ev⟩ := hv
              have e2 : es.toList[i]? = (ys.map (entryOfKey (nestedKind X.prog X.w)))[i]? := by rw [hes]
              rw [Array.getElem?_toList, List.getElem?_map] at e2
              rw [List.getElem?_map]
              cases ey : ys[i]? with
              | none =>
                rw [ey] at e2
                simp [hi] at e2
              | some y =>
                rw [ey] at e2
                have e3 : es[i] = entryOfKey (nestedKind X.prog X.w) y := by
                  simpa [hi] using e2
                rw [ev, e3]
                rfl
          · obtain ⟨hz, hs, ps, hKV, o, es, ep, ho', hex, hdat, _, hp, _⟩ := (show ObjOk X.prog X.w H s.heap a (.dK kvs) from I.hok a _ h1)
            have hkv := keys_vals hKV hp
            have hsz : es.size = (es.toList.map (·.key)).length := by simp
            have hz2 : (es.toList.map (·.key)).length ≤ sizeLine := by
              rw [← hkv.length, List.length_map]
              exact hz
            refine fin h2 hkv hz2 fun R hR => PySem.W.kdu_collect (KdlSrc.rawDict (es := es) (ep := ep) hs) hh ⟨o, ho', hex, hdat⟩ (by rw [hsz]; exact hz2) fun h' tk acc hk hit => ?_
            rw [items_of hit hsz fun i v hv => ?_]
            · exact hR h' tk hk
            · obtain ⟨hi, ev⟩ := hv
              rw [List.getElem?_map, Array.getElem?_toList, ev]
              simp [hi]
        · cases hx
    · cases hov
  · cases hov
end
end EV

set_option Elab.async false
set_option linter.all false
set_option maxRecDepth 100000
set_option maxHeartbeats 1000000
/-! EV7a: the promise of a def, with the guards known. -/
namespace EV
open PySem PySem.Spec PyProof.Rows L2
/-- a def that keeps sp, with no object's repr under way -/
structure FnG (P : Program) (w : World) (K : PySem.W.Frag) (mg : Str → Option Value) (base : Heap) (CT : CXT) (k : Nat) (f : Addr) (fd : FuncData) (ps : List Str) (sp : Sp) : Prop where
  size : ∀ vs H Q E, sp vs H Q E → vs.length = ps.length
  go : ∀ (A : Around) (out : List PySem.Env) (s : Shared) (H : Hp) (ar : Args) (us : List Value) (vs : List V) (Q : VK) (E : XK), Room k A → A.guards = some [] → Env0 P w K mg base A out s H →
    BindsTo s fd ar (ps.zip us) → Vals vs us → sp vs H Q E → codeAny (model P w) A (.call (.ref f) ar) (CR CT out P w H s Q E) s
theorem FnG.mono {P : Program} {w : World} {K : PySem.W.Frag} {mg : Str → Option Value} {base : Heap} {CT : CXT} {j k : Nat} {f : Addr} {fd : FuncData} {ps : List Str} {sp : Sp} (F : FnG P w K mg base CT j f fd ps sp) (h : j ≤ k) : FnG P w K mg base CT k f fd ps sp :=
  ⟨F.size, fun A out s H ar us vs Q E room => F.go A out s H ar us vs Q E (room.mono h)⟩
theorem guards_deeper {A : Around} {env : PySem.Env} (h : A.guards = some []) : (A.deeper env).guards = some [] := h
section
variable {X : Cx} {CT : CXT} {k : Nat} {f C : Addr} {fd : FuncData} {ps ks : List Str} {sp : Sp} {E : XK}
/-- a call's end, in the caller -/
theorem end_call {pins : List (Addr × Obj)} {σ : L2.St} {H : Hp} {s : Shared} {Q : VK} (pass : Passes CT X E) (I : Inv X pins σ H s) {r : Result} {s' : Shared} (h : CR CT X.stack X.prog X.w H s Q E r s') :
    (match r with | .ok (.ret u) => EP X pins σ Q u s' | .ok _ => False | .error e => X.xe e s') := by
  match r, h with
  | .ok (.ret u), h => exact I.after h
  | .ok .next, h => exact h
  | .ok .brk, h => exact h
  | .ok .cont, h => exact h
  | .error e, h => exact pass pins σ H s e s' I h
/-- the def is run on bound values -/
theorem run_g {pins : List (Addr × Obj)} {σ : L2.St} {H : Hp} {s : Shared} {Q : VK} {us : List Value} {kw : List (Str × Value)} {bs : List Value} {vs : List V} (F : FnG X.prog X.w X.K X.mg X.base CT k f fd ps sp) (room : Room k X.A) (gd : X.A.guards = some [])
    (hb : BindsTo s fd ⟨us, kw⟩ (ps.zip bs)) (pass : Passes CT X E) (I : Inv X pins σ H s) (rv : Vals vs bs) (hsp : sp vs H Q E) : wpAny (model X.prog X.w) X.A (call (.ref f) us kw) (EP X pins σ Q) X.xe s := by
  refine wpAny_call (codeAny_mono (F.go _ _ s H _ bs vs Q E room gd I.env0 hb rv hsp) fun r s' hr => ?_)
  have done := end_call pass I hr
  cases r with
  | error e => exact done
  | ok fl =>
    cases fl with
    | ret u => exact done
    | _ => exact (show False from done).elim
end
/-- THE RULE: a def of the text keeps its promise if its body does -/
theorem fng_of {CT : CXT} {P : Program} {w : World} {K : PySem.W.Frag} {mg : Str → Option Value} {base : Heap} {k : Nat} {f : Addr} {name qual : Str} {params : Arguments} {body : List Stmt} {scope : Scope} {dV kV doc pm cdv ct oc : Value} {an od : Option Addr}
    {osl : Array (Option Value)} {N ps : List Str} {sp : Sp} (stands : K.lookup f = some ⟨oc, od, .func (PySem.W.fnOf name qual params body scope dV kV doc pm an cdv ct), osl⟩) (code : PySem.W.codeIn K cdv qual = true) (FS : FnScope N ps scope)
    (size : ∀ vs H Q E, sp vs H Q E → vs.length = ps.length)
    (bodyOk : ∀ (A : Around) (out : List PySem.Env) (s : Shared) (H : Hp) (vs : List V) (Q : VK) (E : XK), Room k (A.deeper (envOfC qual scope s.heap.objs.size f cdv)) → A.guards = some [] → A.handled = none → sp vs H Q E →
      ∃ t, PSs (cxOf CT P w K mg base N qual scope f cdv A out s H E) body t ∧ t { nx := fun _ H' => Q .non H', rt := Q } (L2.start N vs) H) :
    FnG P w K mg base CT (k + 1) f (PySem.W.fnOf name qual params body scope dV kV doc pm an cdv ct) ps sp := by
  refine ⟨size, fun A out s H ar us vs Q E room gd env0 bind rv hsp => ?_⟩
  have kin0 : K.In s.heap := env0.mod.kin.keeps fun b o q => (env0.bs b o q).1
  have lim0 : s.heap.NoLimit := env0.mod.nolimit.keeps fun b o q => (env0.bs b o q).1
  have kinds : ∀ y ∈ ps.zip us, scope.names.lookup y.1 = some .local ∨ (scope.names.lookup y.1 = some .cell ∧ ((cellsFrom (s.heap.objs.size + 1) scope.names []).lookup y.1).isSome = true) := by
    rintro ⟨n, v⟩ hy
    exact (FS.par n (List.of_mem_zip hy).1).imp id fun q => ⟨q, PySem.W.cellsFrom_some _ _ _ (.inl q)⟩
  refine codeAny_call_function room.depth (kin0 _ _ stands) rfl FS.co FS.gen rfl (PySem.W.codeRec_of kin0 code) (bind _ _ _ _ ?_)
  refine wpAny_newFunctionEnv_cells FS.kind kinds fun env henv s1 begun => ?_
  subst henv
  refine ⟨lim0.keeps begun.toInCall.keep, codeAny_func ?_⟩
  obtain ⟨t, runs, holds⟩ := bodyOk A out s H vs Q E (room.deeper _) gd room.hd hsp
  have J := inv_start (CX := CT) (E := E) FS room.hd env0 (size _ _ _ _ hsp) rv begun
  refine wpAny_mono (runs.run [] s1 (L2.start N vs) H _ J holds) (fun fl s' z => ?_) fun e s' z => z
  match fl, z with
  | .ret u, ⟨v, σ', H', J', rv', q⟩ => exact ⟨v, H', J'.os, J'.bare, J'.base, J'.hok, rv', q⟩
  | .next, ⟨σ', H', J', q⟩ => exact ⟨.non, H', J'.os, J'.bare, J'.base, J'.hok, rfl, q⟩
  | .brk, ⟨_, _, _, q⟩ => exact q.elim
  | .cont, ⟨_, _, _, q⟩ => exact q.elim
end EV

set_option Elab.async false
set_option linter.all false
set_option maxRecDepth 100000
set_option maxHeartbeats 1000000
/-! EV7b: calls by values. -/
namespace EV
open PySem PySem.Spec PyProof.Rows L2
section
variable (P : Program) (w : World) (K : PySem.W.Frag) (nm : Nm)
/-- a call's run, told from its entry -/
def CallEnd (call : Call) (f : Nat) (W : Wd) (H : Hp) (AS : List Addr) (pvs : List PV) (st : St) (Q : VK) (E : XK) : Prop :=
  match call f pvs st with
  | .ok ov st' => ∀ W' H' AS' v A, Got P w K nm W H AS [] .dct0 ov st' W' H' AS' v A → Q v H'
  | .exc c ns xs st' => ∀ W' H' AS' cls d, GotX P w K nm W H AS [] c ns xs st' W' H' AS' cls d → E cls d H'
  | .bad => False
structure ArgsR (W : Wd) (H : Hp) (AS : List Addr) (pvs : List PV) (st : St) (vs : List V) : Prop where
  rep : Reps P w K nm W H pvs vs
  str : StR P w K nm W H st W.M AS
  nd : AS.Nodup
  ff : ∀ a ∈ AS, ¬ W.F a ∧ ¬ W.L a
  tr : ∀ a, W.F a ∨ W.L a → H a ≠ none
/-- the promise of the def f -/
def spC (call : Call) (f np : Nat) : Sp := fun vs H Q E => vs.length = np ∧ ∃ W pvs st AS, ArgsR P w K nm W H AS pvs st vs ∧ CallEnd P w K nm call f W H AS pvs st Q E
end
section
variable {P : Program} {w : World} {K : PySem.W.Frag} {nm : Nm} {W W' : Wd} {H H' : Hp} {σ : L2.St} {env : EV.Env} {st st' : St} {AS AE AS' A B : List Addr}
-- without stored objects within, the store's places don't matter
mutual
theorem Rep.noM (hF : W'.F = W.F) (hL : W'.L = W.L) : ∀ (x : PV) (v : V), x.noRef = true → Rep P w K nm W H x v → Rep P w K nm W' H x v
  | .non, _, _, h => h
  | .bl _, _, _, h => h
  | .int _, _, _, h => h
  | .str _, _, _, h => h
  | .tup xs, v, c, h => by
    rw [Rep] at h ⊢
    rw [PV.noRef] at c
    obtain ⟨a, vs, e, ht, hr⟩ := h
    exact ⟨a, vs, e, ht, Reps.noM hF hL xs vs c hr⟩
  | .lst f xs, v, c, h => by
    rw [Rep] at h ⊢
    rw [PV.noRef] at c
    obtain ⟨a, vs, e, hs, ht, hr⟩ := h
    exact ⟨a, vs, e, by unfold Wd.seen at hs ⊢; rw [hF, hL]; exact hs, ht, Reps.noM hF hL xs vs c hr⟩
  | .dct f ks vs, v, c, h => by
    rw [Rep] at h ⊢
    rw [PV.noRef, Bool.and_eq_true] at c
    obtain ⟨a, e, hs, h⟩ := h
    refine ⟨a, e, by unfold Wd.seen at hs ⊢; rw [hF, hL]; exact hs, ?_⟩
    rcases h with ⟨xs, vvs, h1, h2, h3, h4, h5, h6⟩ | ⟨kvs, hne, h1, h2, h3⟩
    · exact .inl ⟨xs, vvs, h1, h2, h3, Reps.noM hF hL ks _ c.1 h4, Reps.noM hF hL vs _ c.2 h5, h6⟩
    · exact .inr ⟨kvs, hne, h1, Reps.noM hF hL ks _ c.1 h2, Reps.noM hF hL vs _ c.2 h3⟩
  | .ins f c ns vs, v, cc, h => by
    rw [Rep] at h ⊢
    rw [PV.noRef] at cc
    obtain ⟨a, dx, fs, e, hs, h1, h2, h3⟩ := h
    exact ⟨a, dx, fs, e, by unfold Wd.seen at hs ⊢; rw [hF, hL]; exact hs, h1, h2, Reps.noM hF hL vs _ cc h3⟩
  | .ref n, v, c, h => by simp [PV.noRef] at c
  | .exc _ _ _, _, _, h => by
    rw [Rep] at h
    exact h.elim
  | .scr is, v, _, h => by
    rw [Rep] at h ⊢
    exact h
theorem Reps.noM (hF : W'.F = W.F) (hL : W'.L = W.L) : ∀ (xs : List PV) (vs : List V), PV.noRefs xs = true → Reps P w K nm W H xs vs → Reps P w K nm W' H xs vs
  | [], _, _, h => by
    rw [Reps] at h ⊢
    exact h
  | x :: xs, vs, c, h => by
    rw [Reps] at h ⊢
    rw [PV.noRefs, Bool.and_eq_true] at c
    obtain ⟨v, r, e, h1, h2⟩ := h
    exact ⟨v, r, e, Rep.noM hF hL x v c.1 h1, Reps.noM hF hL xs r c.2 h2⟩
end
/-- the operands as a callee gets them: what is new frozen, what stands at a place lent -/
theorem opns_args : ∀ {es : List E} {ovs : List OV} {vs : List V} {B B1 : List Addr}, RepEs P w K nm W H AE es ovs vs B → (∀ a ∈ B, a ∈ B1) →
    ∃ Lt, Reps P w K nm ((W.fz B1).ln Lt) H (opns es ovs) vs ∧ (lents es ovs = false → Lt = []) ∧ ∀ a ∈ Lt, H a ≠ none
  | [], ovs, vs, B, B1, h, _ => by
    obtain ⟨h1, h2, h3⟩ := h
    rw [h1, h2]
    exact ⟨[], Reps.nil, fun _ => rfl, fun _ h => (List.not_mem_nil h).elim⟩
  | e :: es, ovs, vs, B, B1, h, hB => by
    obtain ⟨ov, r, v, rv, A, B', e1, e2, h1, h2, h3, h4⟩ := h
    have hB' : ∀ a ∈ B', a ∈ B1 := fun a ha => hB a (by
      rw [h3]
      split
      · exact ha
      · exact List.mem_append_right _ ha)
    obtain ⟨Lt, q1, q2, q3⟩ := opns_args h4 hB'
    rw [e1, e2]
    show ∃ Lt, Reps P w K nm ((W.fz B1).ln Lt) H (opn e ov :: opns es r) (v :: rv) ∧ _
    cases hp : isPl e with
    | false =>
      refine ⟨Lt, Reps.cons ?_ q1, fun hl => q2 (by rw [lents, hp] at hl; simpa using hl), q3⟩
      unfold opn
      rw [hp, if_neg (by simp)]
      refine RepO.freeze ov v A (fun _ h => .inl h) (fun _ h => .inl h) (fun _ _ h => h) (fun a ha => .inr (hB a ?_)) h1
      rw [h3, hp, if_neg (by simp)]
      exact List.mem_append_left _ ha
    | true =>
      cases ho : ov.own with
      | false =>
        cases ov with
        | sh x =>
          refine ⟨Lt, Reps.cons ?_ q1, fun hl => q2 (by rw [lents, hp, ho] at hl; simpa using hl), q3⟩
          unfold opn
          rw [hp, if_pos rfl]
          rw [RepO] at h1
          exact Rep.keep (W := W) (W' := (W.fz B1).ln Lt) (Kp.wd (fun _ h => .inl h) (fun _ h => .inl h) fun _ _ h => h) x v h1.2
        | _ => cases ho
      | true =>
        refine ⟨A ++ Lt, Reps.cons ?_ (Reps.keep (W := (W.fz B1).ln Lt) (W' := (W.fz B1).ln (A ++ Lt)) (Kp.wd (fun _ h => h) (fun a q => q.imp id fun z => List.mem_append_right _ z) fun _ _ h => h) _ _ q1), fun hl => ?_, fun a ha => ?_⟩
        · unfold opn
          rw [hp, if_pos rfl]
          exact RepO.lend ov v A (fun _ h => .inl h) (fun _ h => .inl h) (fun _ _ h => h) (fun a ha => .inr (List.mem_append_left _ ha)) h1
        · rw [lents, hp, ho] at hl
          simp at hl
        · rcases List.mem_append.mp ha with z | z
          · obtain ⟨o, q, _⟩ := RepO.there _ _ _ h1 a z
            rw [q]; simp
          · exact q3 a z
/-- a run over an empty store leaves an empty one -/
theorem StR.nil_inv {M A : List Addr} (h : StR P w K nm W H [] M A) : M = [] ∧ A = [] := h
-- a value told where no object is stored has none within
mutual
theorem Rep.noRef_of (hM : W.M = []) : ∀ (x : PV) (v : V), Rep P w K nm W H x v → x.noRef = true
  | .non, _, _ => rfl
  | .bl _, _, _ => rfl
  | .int _, _, _ => rfl
  | .str _, _, _ => rfl
  | .tup xs, v, h => by
    rw [Rep] at h
    obtain ⟨a, vs, e, ht, hr⟩ := h
    rw [PV.noRef]
    exact Reps.noRef_of hM xs vs hr
  | .lst f xs, v, h => by
    rw [Rep] at h
    obtain ⟨a, vs, e, hs, ht, hr⟩ := h
    rw [PV.noRef]
    exact Reps.noRef_of hM xs vs hr
  | .dct f ks vs, v, h => by
    rw [Rep] at h
    obtain ⟨a, e, hs, h⟩ := h
    rw [PV.noRef, Bool.and_eq_true]
    rcases h with ⟨xs, vvs, h1, h2, h3, h4, h5, h6⟩ | ⟨kvs, hne, h1, h2, h3⟩
    · exact ⟨Reps.noRef_of hM ks _ h4, Reps.noRef_of hM vs _ h5⟩
    · exact ⟨Reps.noRef_of hM ks _ h2, Reps.noRef_of hM vs _ h3⟩
  | .ins f c ns vs, v, h => by
    rw [Rep] at h
    obtain ⟨a, dx, fs, e, hs, h1, h2, h3⟩ := h
    rw [PV.noRef]
    exact Reps.noRef_of hM vs _ h3
  | .ref n, v, h => by
    rw [Rep] at h
    obtain ⟨a, h1, h2⟩ := h
    rw [hM] at h1
    simp at h1
  | .exc _ _ _, _, h => by
    rw [Rep] at h
    exact h.elim
  | .scr is, v, _ => rfl
theorem Reps.noRef_of (hM : W.M = []) : ∀ (xs : List PV) (vs : List V), Reps P w K nm W H xs vs → PV.noRefs xs = true
  | [], _, _ => rfl
  | x :: xs, vs, h => by
    rw [Reps] at h
    obtain ⟨v, r, e, h1, h2⟩ := h
    rw [PV.noRefs, Bool.and_eq_true]
    exact ⟨Rep.noRef_of hM x v h1, Reps.noRef_of hM xs r h2⟩
end
end
end EV

set_option Elab.async false
set_option linter.all false
set_option maxRecDepth 100000
set_option maxHeartbeats 1000000
/-! EV7c: a call in an expression. -/
namespace EV
open PySem PySem.Spec PyProof.Rows L2
section
variable {P : Program} {w : World} {K : PySem.W.Frag} {nm : Nm} {W W1 W' : Wd} {H H1 H' : Hp} {σ : L2.St} {env : EV.Env} {st st1 st' : St} {AS AS1 AE AS' A B : List Addr} {es : List E} {ovs : List OV} {vs : List V}
/-- behind the operands, what is new among them frozen -/
structure Froz (P : Program) (w : World) (K : PySem.W.Frag) (nm : Nm) (W : Wd) (H : Hp) (AS AE : List Addr) (W1 : Wd) (H1 : Hp) (AS1 B : List Addr) (st1 : St) : Prop where
  ent : Ent W H AS (W1.fz B) H1 AS1
  nd : (AS1 ++ AE).Nodup
  ff : ∀ a ∈ AS1 ++ AE, ¬ (W1.fz B).F a ∧ ¬ (W1.fz B).L a
  tr : ∀ a, (W1.fz B).F a ∨ (W1.fz B).L a → H1 a ≠ none
  str : StR P w K nm (W1.fz B) H1 st1 (W1.fz B).M AS1
  liv : ∀ a ∈ AS1 ++ AE, H1 a ≠ none
theorem Gots.froz (C : Cfg P w K nm W H σ env st AS AE) (gs : Gots P w K nm W H AS AE es ovs st1 W1 H1 AS1 vs B) : Froz P w K nm W H AS AE W1 H1 AS1 B st1 := by
  have C1 := gs.cfg C
  have bn : ∀ a ∈ B, a ∉ AS1 ++ AE := fun a ha q => by
    rcases List.mem_append.mp q with z | z
    · exact (gs.fr a ha).2.2.2 z
    · exact C.live a (List.mem_append_right _ z) (gs.fr a ha).1
  refine ⟨gs.ent.fz fun a ha => (gs.fr a ha).1, gs.nd, fun a ha => ⟨fun z => ?_, (gs.ff a ha).2⟩, fun a h => ?_, gs.str.keep (Kp.to_fz B) fun _ _ _ h => h, C1.live⟩
  · rcases z with z | z
    · exact (gs.ff a ha).1 z
    · exact bn a z ha
  · rcases h with (h | h) | h
    · exact gs.tr a (.inl h)
    · obtain ⟨o, q, _⟩ := gs.rep.sub a h
      rw [q]; simp
    · exact gs.tr a (.inr h)
/-- behind a call over an empty store: the caller's world -/
def Wd.back (W3 W1 : Wd) : Wd := ⟨W3.F, W1.L, W1.M⟩
theorem Froz.apart (F : Froz P w K nm W H AS AE W1 H1 AS1 B st1) {W2 W3 : Wd} {H3 : Hp} {AS3 : List Addr} (e : Ent W2 H1 [] W3 H3 AS3) (h2 : W2.F = (W1.fz B).F) (htr : ∀ a, W3.F a → H3 a ≠ none) :
    Ent W H AS (W3.back W1) H3 AS1 ∧ StR P w K nm (W3.back W1) H3 st1 (W3.back W1).M AS1 ∧ (∀ a ∈ AS1 ++ AE, ¬ (W3.back W1).F a ∧ ¬ (W3.back W1).L a) ∧ (∀ a, (W3.back W1).F a ∨ (W3.back W1).L a → H3 a ≠ none) := by
  have hF : ∀ a, (W1.fz B).F a → W3.F a := fun a h => e.F a (by rw [h2]; exact h)
  have kept : ∀ a o, H1 a = some o → H3 a = some o := fun a o h => e.keep a o h (List.not_mem_nil)
  have hfr : ∀ a, W3.F a → (W1.fz B).F a ∨ H1 a = none := fun a h => by
    have := e.fr a h
    rw [h2] at this
    exact this
  refine ⟨F.ent.trans ⟨hF, rfl, fun _ _ h => h, fun a o h _ => kept a o h, e.live, hfr, fun a h => .inl h⟩, ?_, fun a ha => ⟨fun z => ?_, (F.ff a ha).2⟩, fun a h => ?_⟩
  · exact F.str.keep (show Kp (W1.fz B) (W3.back W1) H1 H3 from ⟨hF, fun _ h => h, fun _ _ h => h, fun a xs h => kept a _ h, fun a o u h => kept a _ h, fun a o _ h => kept a o h⟩) fun a _ o h => kept a o h
  · rcases hfr a z with q | q
    · exact (F.ff a ha).1 q
    · exact F.liv a ha q
  · rcases h with h | h
    · exact htr a h
    · exact e.live a (F.tr a (.inr h))
/-- a callee run over the caller's store -/
theorem Froz.whole (F : Froz P w K nm W H AS AE W1 H1 AS1 B st1) {W3 : Wd} {H3 : Hp} {AS3 : List Addr} (e : Ent (W1.fz B) H1 AS1 W3 H3 AS3) (hnd : (AS3 ++ []).Nodup) (hff : ∀ a ∈ AS3 ++ [], ¬ W3.F a ∧ ¬ W3.L a) :
    Ent W H AS W3 H3 AS3 ∧ (AS3 ++ AE).Nodup ∧ ∀ a ∈ AS3 ++ AE, ¬ W3.F a ∧ ¬ W3.L a := by
  rw [List.append_nil] at hnd hff
  have nd1 := List.nodup_append.mp F.nd
  refine ⟨F.ent.trans e, List.nodup_append.mpr ⟨hnd, nd1.2.1, fun a ha b hb z => ?_⟩, fun a ha => ?_⟩
  · subst z
    rcases e.st a ha with q | q
    · exact nd1.2.2 a q a hb rfl
    · exact F.liv a (List.mem_append_right _ hb) q
  · rcases List.mem_append.mp ha with q | q
    · exact hff a q
    · refine ⟨fun z => ?_, fun z => ?_⟩
      · rcases e.fr a z with y | y
        · exact (F.ff a (List.mem_append_right _ q)).1 y
        · exact F.liv a (List.mem_append_right _ q) y
      · rw [e.L] at z
        exact (F.ff a (List.mem_append_right _ q)).2 z
end
section
variable {V1 : Env1} {P : Program} {w : World} {K : PySem.W.Frag} {Z : WX} {W W1 : Wd} {H H1 : Hp} {σ : L2.St} {env : EV.Env} {st st1 : St} {AS AS1 AE A B : List Addr} {es : List E} {ovs : List OV} {vs : List V} {Q : VK}
/-- what comes of a call in an expression -/
def After (V1 : Env1) (P : Program) (w : World) (K : PySem.W.Frag) (Z : WX) (W : Wd) (H : Hp) (σ : L2.St) (AS AE : List Addr) (e : E) (r : R OV) (Q : VK) : Prop :=
  match r with
  | .ok ov st' => ∀ W' H' AS' v A, Got P w K V1.nm W H AS AE e ov st' W' H' AS' v A → Q v H'
  | .exc c ns xs st' => XEnd V1 P w K Z W H AS AE σ c ns xs st'
  | .bad => False
/-- over the caller's own store -/
theorem call_whole (F : Froz P w K V1.nm W H AS AE W1 H1 AS1 B st1) {e : E} (hpl : isPl e = false) (hpu : pureE e = false) {f np : Nat} {pvs : List PV} {us : List V} (hr : Reps P w K V1.nm (W1.fz B) H1 pvs us) (hl : us.length = np)
    (h : After V1 P w K Z W H σ AS AE e (V1.call f pvs st1) Q) : spC P w K V1.nm V1.call f np us H1 Q (fun cls d H' => Z cls d σ H') := by
  refine ⟨hl, W1.fz B, pvs, st1, AS1, ⟨hr, F.str, (List.nodup_append.mp F.nd).1, fun a ha => F.ff a (List.mem_append_left _ ha), F.tr⟩, ?_⟩
  unfold CallEnd
  cases hc : V1.call f pvs st1 with
  | bad => rw [hc] at h; exact h
  | ok ov st' =>
    rw [hc] at h
    intro W3 H3 AS3 v A g
    obtain ⟨q1, q2, q3⟩ := F.whole g.ent g.nd g.ff
    obtain ⟨g1, g2⟩ := g.fr rfl
    refine h W3 H3 AS3 v A ⟨q1, g.str, q2, q3, g.tr, g.rep, fun z => (by rw [hpl] at z; cases z), fun _ => ⟨g1, fun a ha => ⟨?_, (g2 a ha).2⟩⟩, fun z => (by rw [hpu] at z; cases z)⟩
    cases q : H a with
    | none => rfl
    | some o => exact absurd (g2 a ha).1 (F.ent.live a (by rw [q]; simp))
  | exc c ns xs st' =>
    rw [hc] at h
    intro W3 H3 AS3 cls d g
    obtain ⟨q1, q2, q3⟩ := F.whole g.ent g.nd g.ff
    exact h W3 H3 AS3 cls d ⟨q1, g.str, q2, q3, g.tr, g.exc⟩
theorem ExcR.wd {W2 : Wd} {c : Nat} {ns : List Nat} {xs : List PV} {cls : Value} {d : Option Addr} (h : ExcR P w K V1.nm W H c ns xs cls d) (k : ∀ vs, Reps P w K V1.nm W H xs vs → Reps P w K V1.nm W2 H xs vs) : ExcR P w K V1.nm W2 H c ns xs cls d := by
  obtain ⟨h1, h0, h2⟩ := h
  refine ⟨h1, h0, h2.imp id fun ⟨dd, fs, e1, e2, e3, e4⟩ => ⟨dd, fs, e1, e2, e3, k _ e4⟩⟩
/-- a call -/
theorem call_ok (C : Cfg P w K V1.nm W H σ env st AS AE) (gs : Gots P w K V1.nm W H AS AE es ovs st1 W1 H1 AS1 vs B) {e : E} (hpl : isPl e = false) (hpu : pureE e = false) {f np : Nat} {pvs : List PV} {us : List V}
    (conv : ∀ W2, Reps P w K V1.nm W2 H1 (opns es ovs) vs → Reps P w K V1.nm W2 H1 pvs us) (hl : us.length = np) (h : After V1 P w K Z W H σ AS AE e (callB V1.call es ovs f pvs st1) Q) :
    spC P w K V1.nm V1.call f np us H1 Q (fun cls d H' => Z cls d σ H') := by
  have F := gs.froz C
  obtain ⟨Lt, r, hlt, hlive⟩ := opns_args gs.rep (fun _ h => h)
  have whole : lents es ovs = false → After V1 P w K Z W H σ AS AE e (V1.call f pvs st1) Q → spC P w K V1.nm V1.call f np us H1 Q (fun cls d H' => Z cls d σ H') := fun hn h => by
    have e0 := hlt hn
    subst e0
    refine call_whole F hpl hpu (conv _ (Reps.keep (W := (W1.fz B).ln []) (W' := W1.fz B) (Kp.wd (fun _ h => h) (fun a h => ?_) fun _ _ h => h) _ _ r)) hl h
    rcases h with h | h
    · exact h
    · exact (List.not_mem_nil h).elim
  unfold callB at h
  cases hn : PV.noRefs pvs with
  | false =>
    rw [hn] at h
    simp only at h
    split at h
    · exact h.elim
    · rename_i hx
      exact whole (by
        cases e1 : lents es ovs with
        | false => rfl
        | true => rw [e1] at hx; simp at hx) h
  | true =>
    rw [hn] at h
    simp only at h
    -- the callee's world
    let W2 : Wd := ⟨(W1.fz B).F, ((W1.fz B).ln Lt).L, []⟩
    have hargs : ArgsR P w K V1.nm W2 H1 [] pvs [] us := by
      refine ⟨Reps.noM (W := (W1.fz B).ln Lt) (W' := W2) rfl rfl pvs us hn (conv _ r), ⟨rfl, rfl⟩, List.nodup_nil, fun _ h => (List.not_mem_nil h).elim, fun a h => ?_⟩
      rcases h with h | h | h
      · exact F.tr a (.inl h)
      · exact F.tr a (.inr h)
      · exact hlive a h
    -- back in the caller's
    have wdL : lents es ovs = false → ∀ {W3 : Wd}, W3.L = W2.L → ∀ a, W3.L a → W1.L a := fun hn W3 eL a h => by
      rw [eL] at h
      have e0 := hlt hn
      subst e0
      rcases h with h | h
      · exact h
      · exact (List.not_mem_nil h).elim
    cases hc : V1.call f pvs [] with
    | bad =>
      rw [hc] at h
      exact h.elim
    | ok ov st' =>
      rw [hc] at h
      cases st' with
      | nil =>
        simp only at h
        refine ⟨hl, W2, pvs, [], [], hargs, ?_⟩
        unfold CallEnd
        rw [hc]
        intro W3 H3 AS3 v A g
        obtain ⟨hM, eA⟩ := StR.nil_inv g.str
        subst eA
        obtain ⟨q1, q2, q3, q4⟩ := F.apart g.ent rfl fun a h => g.tr a (.inl h)
        obtain ⟨g1, g2⟩ := g.fr rfl
        have hrep : RepO P w K V1.nm (W3.back W1) H3 ov v A ∨ (lents es ovs && !ov.clean) = true := by
          have r1 : RepO P w K V1.nm ⟨W3.F, W3.L, W1.M⟩ H3 ov v A := RepO.keep (W := W3) (W' := ⟨W3.F, W3.L, W1.M⟩) (Kp.wd (fun _ h => h) (fun _ h => h) fun k a h => by rw [hM] at h; simp at h) _ _ _ (fun _ _ _ h => h) g.rep
          cases e1 : lents es ovs with
          | false =>
            left
            exact RepO.keep (W := ⟨W3.F, W3.L, W1.M⟩) (W' := W3.back W1) (Kp.wd (fun _ h => h) (wdL e1 g.ent.L) fun _ _ h => h) _ _ _ (fun _ _ _ h => h) r1
          | true =>
            cases e2 : ov.clean with
            | true =>
              left
              exact RepO.clean (W := ⟨W3.F, W3.L, W1.M⟩) (W' := W3.back W1) (fun _ h => h) rfl _ _ _ e2 r1
            | false => exact .inr rfl
        rcases hrep with hrep | hrep
        · have h' : ∀ W' H' AS' v A, Got P w K V1.nm W H AS AE e ov st1 W' H' AS' v A → Q v H' := by
            split at h
            · exact h.elim
            · exact h
          refine h' (W3.back W1) H3 AS1 v A ⟨q1, q2, F.nd, q3, q4, hrep, fun z => (by rw [hpl] at z; cases z), fun _ => ⟨g1, fun a ha => ?_⟩, fun z => (by rw [hpu] at z; cases z)⟩
          have hn1 := (g2 a ha).1
          refine ⟨?_, (g2 a ha).2.1, fun z => F.tr a (.inr z) hn1, fun z => F.liv a (List.mem_append_left _ z) hn1⟩
          cases q : H a with
          | none => rfl
          | some o => exact absurd hn1 (F.ent.live a (by rw [q]; simp))
        · rw [if_pos hrep] at h
          exact h.elim
      | cons o st' =>
        simp only at h
        split at h
        · exact h.elim
        · rename_i hx
          exact whole (by
            cases e1 : lents es ovs with
            | false => rfl
            | true => rw [e1] at hx; simp at hx) h
    | exc c ns xs st' =>
      rw [hc] at h
      cases st' with
      | nil =>
        simp only at h
        refine ⟨hl, W2, pvs, [], [], hargs, ?_⟩
        unfold CallEnd
        rw [hc]
        intro W3 H3 AS3 cls d g
        obtain ⟨hM, eA⟩ := StR.nil_inv g.str
        subst eA
        obtain ⟨q1, q2, q3, q4⟩ := F.apart g.ent rfl fun a h => g.tr a (.inl h)
        have hrep : ExcR P w K V1.nm (W3.back W1) H3 c ns xs cls d ∨ (lents es ovs && !PV.cleans xs) = true := by
          have r1 : ExcR P w K V1.nm ⟨W3.F, W3.L, W1.M⟩ H3 c ns xs cls d := g.exc.wd fun vs hv => Reps.keep (W := W3) (W' := ⟨W3.F, W3.L, W1.M⟩) (Kp.wd (fun _ h => h) (fun _ h => h) fun k a h => by rw [hM] at h; simp at h) _ _ hv
          cases e1 : lents es ovs with
          | false =>
            left
            exact r1.wd fun vs hv => Reps.keep (W := ⟨W3.F, W3.L, W1.M⟩) (W' := W3.back W1) (Kp.wd (fun _ h => h) (wdL e1 g.ent.L) fun _ _ h => h) _ _ hv
          | true =>
            cases e2 : PV.cleans xs with
            | true =>
              left
              exact r1.wd fun vs hv => Reps.clean (W := ⟨W3.F, W3.L, W1.M⟩) (W' := W3.back W1) (fun _ h => h) rfl _ _ e2 hv
            | false => exact .inr rfl
        rcases hrep with hrep | hrep
        · have h' : XEnd V1 P w K Z W H AS AE σ c ns xs st1 := by
            split at h
            · exact h.elim
            · exact h
          exact h' (W3.back W1) H3 AS1 cls d ⟨q1, q2, F.nd, q3, q4, hrep⟩
        · rw [if_pos hrep] at h
          exact h.elim
      | cons o st' => exact h.elim
end
end EV

set_option Elab.async false
set_option linter.all false
set_option maxRecDepth 100000
set_option maxHeartbeats 1000000
/-! EV7d: f(..) in the text. -/
namespace EV
open PySem PySem.Spec PyProof.Rows L2
section
variable {V1 : Env1} {X : Cx} {Z : WX} {pos : Pos} {k : Nat} {fa : Addr} {fd : FuncData} {ps : List Str} {sp : Sp}
/-- a def is run; its exceptions are ours -/
theorem run_z {pins : List (Addr × Obj)} {σ : L2.St} {H : Hp} {s : Shared} {Q : VK} {us : List Value} {kw : List (Str × Value)} {bs : List Value} {vs : List V} (F : FnG X.prog X.w X.K X.mg X.base (L2.CX X.prog X.w) k fa fd ps sp) (room : Room k X.A) (gd : X.A.guards = some [])
    (hb : BindsTo s fd ⟨us, kw⟩ (ps.zip bs)) (tk : L2.Takes X Z) (I : Inv X pins σ H s) (rv : Vals vs bs) (hsp : sp vs H Q (fun cls d H' => Z cls d σ H')) : wpAny (model X.prog X.w) X.A (call (.ref fa) us kw) (EP X pins σ Q) X.xe s := by
  refine wpAny_call (codeAny_mono (F.go _ _ s H _ bs vs Q _ room gd I.env0 hb rv hsp) fun r s' hr => ?_)
  cases r with
  | error e => exact tk e s' (L2.XE.of_call I (fun _ _ _ h => h) hr)
  | ok fl =>
    cases fl with
    | ret u => exact I.after hr
    | _ => exact (show False from hr).elim
theorem tE_call {f np : Nat} {es : List E} {σ : L2.St} {H : Hp} {Q : VK} (hl : es.length = np) (h : tE V1 X.prog X.w X.K Z (.call f es) σ H Q) :
    tL V1 X.prog X.w X.K Z es σ H fun vs H1 => spC X.prog X.w X.K V1.nm V1.call f np vs H1 Q (fun cls d H' => Z cls d σ H') := by
  obtain ⟨env, st, W, AS, AE, C, h⟩ := h
  refine ⟨env, st, W, AS, AE, C, ?_⟩
  rw [ev] at h
  cases he : evs V1.cl V1.txt V1.call es env st with
  | bad => rw [he] at h; exact h
  | exc c ns vs st1 => rw [he] at h; exact h
  | ok ovs st1 =>
    rw [he] at h
    intro W1 H1 AS1 vs B gs
    exact call_ok C gs rfl rfl (fun _ r => r) (by rw [gs.rep.length.1]; exact hl) h
theorem tE_callK {f np : Nat} {es : List E} {pm : List Arg} {gV : List V → List V} {σ : L2.St} {H : Hp} {Q : VK} (hg : ∀ vs, vs.length = es.length → (gV vs).length = np)
    (conv : ∀ W H (xs ys : List PV) (vs : List V), argsOf pm xs = some ys → Reps X.prog X.w X.K V1.nm W H xs vs → Reps X.prog X.w X.K V1.nm W H ys (gV vs)) (h : tE V1 X.prog X.w X.K Z (.callK f es pm) σ H Q) :
    tL V1 X.prog X.w X.K Z es σ H fun vs H1 => spC X.prog X.w X.K V1.nm V1.call f np (gV vs) H1 Q (fun cls d H' => Z cls d σ H') := by
  obtain ⟨env, st, W, AS, AE, C, h⟩ := h
  refine ⟨env, st, W, AS, AE, C, ?_⟩
  rw [ev] at h
  cases he : evs V1.cl V1.txt V1.call es env st with
  | bad => rw [he] at h; exact h
  | exc c ns vs st1 => rw [he] at h; exact h
  | ok ovs st1 =>
    rw [he] at h
    simp only [R.bind] at h
    intro W1 H1 AS1 vs B gs
    cases hp : argsOf pm (opns es ovs) with
    | none => rw [hp] at h; exact h.elim
    | some ys =>
      rw [hp] at h
      exact call_ok C gs rfl rfl (fun W2 r => conv W2 H1 _ _ _ hp r) (hg vs (gs.rep.length.1)) h
/-- f(e, ..) -/
theorem pe_callE {f np : Nat} {n : Str} {es : List E} {xs : List Expr} {p : Pos} (F : FnG X.prog X.w X.K X.mg X.base (L2.CX X.prog X.w) k fa fd ps (spC X.prog X.w X.K V1.nm V1.call f np)) (room : Room k X.A) (gd : X.A.guards = some [])
    (hg : Gl X n) (hm : X.mg n = some (.ref fa)) (kp : PySem.W.keepIn X.K (.ref fa) = true) (bd : ∀ (s : Shared) (us : List Value), us.length = np → BindsTo s fd ⟨us, []⟩ (ps.zip us)) (tk : L2.Takes X Z)
    (h : PEs V1 Z X es xs) (hl : es.length = np) (hdb : (n == ("__debug__" : Str)) = false) : PE X (.Call (.Name n p) xs [] pos) (tE V1 X.prog X.w X.K Z (.call f es)) := by
  have ha := pa_of h
  refine PE.imp (t := fun σ H Q => tL V1 X.prog X.w X.K Z es σ H fun vs H1 => spC X.prog X.w X.K V1.nm V1.call f np vs H1 Q (fun cls d H' => Z cls d σ H')) ⟨fun pins s σ H Q I q => ?_⟩ fun σ H Q q => tE_call hl q
  refine wpAny_Call_Name_kw (ld_glob I hg hm ?_ hdb)
  cases es with
  | nil =>
    rw [show xs = [] from h]
    have q0 := tL_nil q
    refine PySem.W.callWith_K0 I.kIn kp ?_
    exact run_z (us := []) (kw := []) F room gd (bd s [] (by simpa using hl)) tk I .nil q0
  | cons e es =>
    obtain ⟨x, r, ex, ns, h2⟩ := h.split
    subst ex
    refine PySem.W.callWith_K (h₀ := X.base) I.ok.mod.kin kp (thn (ha.run pos pins s σ H _ I q) ?_) (starEach_cons ns) (h2.stars pos X.env)
    intro us s1 hh
    obtain ⟨vs, H1, I1, rv, q1⟩ := hh
    refine ⟨I1.kIn, ?_⟩
    exact run_z (kw := []) F room gd (bd s1 us (by rw [← rv.length]; exact q1.1)) tk I1 rv q1
end
end EV

set_option Elab.async false
set_option linter.all false
set_option maxRecDepth 100000
set_option maxHeartbeats 1000000
/-! EV7e: o.m(..) in the text. -/
namespace EV
open PySem PySem.Spec PyProof.Rows L2
theorem noStars_all : ∀ {xs : List Expr} (env : PySem.Env), xs.all noStar = true → (starEach xs env).all (!·.1) = true
  | [], _, _ => rfl
  | x :: xs, env, h => by
    rw [List.all_cons, Bool.and_eq_true] at h
    rw [starEach_cons h.1, List.all_cons, noStars_all env h.2]
    rfl
theorem back_all {pos : Pos} {env : PySem.Env} {xs : List Expr} (h : (starEach xs env).all (!·.1) = true) : (backTo pos (starEach xs env)).all (!·.1) = true := by
  unfold backTo
  rw [List.all_map]
  exact h
/-- the text of a method's call -/
theorem meth_text {o : Expr} {m : Str} {apos pos : Pos} {xs : List Expr} {kws : List Keyword} {env : PySem.Env} (hd : dotOk o = true) (hs : xs.all noStar = true) (hk : (backToKw pos (keywordEach kws env)).all (·.1.isSome) = true) (hn : xs.length + kws.length < 20) (hp : (apos.endLine == pos.line) = true) :
    eval (.Call (.Attribute o m apos) xs kws pos) env = (do
      let ov ← eval o env
      standAt apos.atName
      let (f, first) ← holding [ov] (getMethod ov m (do return (← importBound o env).getD true))
      callWith pos f first (backTo pos (starEach xs env)) (backToKw pos (keywordEach kws env))) := by
  have form : methodCallForm (xs.length + kws.length) (backTo pos (starEach xs env)) (backToKw pos (keywordEach kws env)) = true := by
    unfold methodCallForm
    rw [back_all (noStars_all env hs), hk, Bool.true_and, Bool.true_and, decide_eq_true_eq]
    split <;> omega
  show (do
    let ov ← attributeBase o m env (eval o env)
    standAt apos.atName
    methodCall o m apos pos env ov (xs.length + kws.length) (backTo pos (starEach xs env)) (backToKw pos (keywordEach kws env))) = _
  rw [dot_base hd]
  unfold methodCall
  rw [form]
  unfold calleeOf methodCallPos
  rw [hp]
  rfl
section
variable {V1 : Env1} {X : Cx} {Z : WX} {pos apos : Pos} {k : Nat}
/-- the class of a receiver, in the heap -/
theorem cls_rep {W : Wd} {H : Hp} {st : St} {AS A : List Addr} {ov : OV} {v : V} {c : Nat} (hr : RepO X.prog X.w X.K V1.nm W H ov v A) (hs : StR X.prog X.w X.K V1.nm W H st W.M AS) (hc : clsOf st ov = some c) :
    ∃ a dx fs, v = .ref a ∧ c ∈ V1.nm.cs ∧ H a = some (.ins (ca X.K V1.nm c) dx fs) ∧ ∀ n ∈ fs.map (·.1), ∃ g ∈ V1.nm.fs, V1.nm.fld g = n := by
  have names : ∀ {ns : List Nat} {fs : List (Str × V)}, (∀ n ∈ ns, n ∈ V1.nm.fs) → fs.map (·.1) = ns.map V1.nm.fld → ∀ n ∈ fs.map (·.1), ∃ g ∈ V1.nm.fs, V1.nm.fld g = n := fun h1 h2 n hn => by
    rw [h2] at hn
    obtain ⟨g, hg, eg⟩ := List.mem_map.mp hn
    exact ⟨g, h1 g hg, eg⟩
  unfold clsOf at hc
  split at hc
  · cases hc
    rw [RepO, Rep] at hr
    obtain ⟨_, a, dx, fs, ev, _, q1, ⟨q2, q3, q4⟩, _⟩ := hr
    exact ⟨a, dx, fs, ev, q2, q1, names q3 q4⟩
  · cases hc
    rw [RepO] at hr
    obtain ⟨a, dx, fs, B2, ev, _, q1, ⟨q2, q3, q4⟩, _⟩ := hr
    exact ⟨a, dx, fs, ev, q2, q1, names q3 q4⟩
  · split at hc
    · cases hc
      rename_i es'
      rw [RepO, Rep] at hr
      obtain ⟨_, a, z1, z2⟩ := hr
      obtain ⟨b, A1, B2, C2, y1, y2, y3, y4, y5⟩ := hs.at es'
      rw [z1] at y1
      cases y1
      rw [RepO] at y3
      obtain ⟨a', dx, fs, B3, ev, _, q1, ⟨q2, q3, q4⟩, _⟩ := y3
      cases ev
      exact ⟨a, dx, fs, z2, q2, q1, names q3 q4⟩
    · cases hc
  · cases hc
/-- the reading of a method's call: the receiver, its method, the arguments, the run -/
def tMe (V1 : Env1) (X : Cx) (Z : WX) (m np : Nat) (e : E) (es : List E) (g : List V → List V) : TE := fun σ H Q => tE V1 X.prog X.w X.K Z e σ H fun v H1 => ∃ a c f dx fs, v = .ref a ∧ c ∈ V1.nm.cs ∧ V1.cl.meth c m = some f ∧ H1 a = some (.ins (ca X.K V1.nm c) dx fs) ∧
  (∀ n ∈ fs.map (·.1), ∃ g ∈ V1.nm.fs, V1.nm.fld g = n) ∧ tL V1 X.prog X.w X.K Z es σ H1 fun vs H2 => spC X.prog X.w X.K V1.nm V1.call f np (v :: g vs) H2 Q (fun cls d H' => Z cls d σ H')
theorem tE_mcall {m : Nat} {e : E} {es : List E} {σ : L2.St} {H : Hp} {Q : VK} (h : tE V1 X.prog X.w X.K Z (.mcall m (e :: es)) σ H Q) : tMe V1 X Z m (es.length + 1) e es id σ H Q := by
  obtain ⟨env, st, W, AS, AE, C, h⟩ := h
  refine ⟨env, st, W, AS, AE, C, ?_⟩
  rw [ev] at h
  cases he : ev V1.cl V1.txt V1.call e env st with
  | bad => rw [he] at h; exact h
  | exc c ns vs st1 => rw [he] at h; exact h
  | ok ov s1 =>
    rw [he] at h
    simp only [R.bind] at h
    intro W1 H1 AS1 v A g
    cases hc : clsOf s1 ov with
    | none => rw [hc] at h; exact h.elim
    | some c =>
      rw [hc] at h
      simp only [Option.bind_some] at h
      cases hm : V1.cl.meth c m with
      | none => rw [hm] at h; exact h.elim
      | some f =>
        rw [hm] at h
        simp only at h
        obtain ⟨a, dx, fs, ev, q1, q2, q3⟩ := cls_rep g.rep g.str hc
        refine ⟨a, c, f, dx, fs, ev, q1, hm, q2, q3, env, s1, W1, AS1, AE, g.cfg C, ?_⟩
        cases hs : evs V1.cl V1.txt V1.call es env s1 with
        | bad => rw [hs] at h; exact h
        | exc c ns vs st2 => rw [hs] at h; exact XEnd.after g.ent h
        | ok ovs s2 =>
          rw [hs] at h
          simp only at h
          intro W2 H2 AS2 vs B gs
          by_cases hp : (isFld e && ov.own && !pureEs es) = true
          · simp only [hp, if_true] at h
          · rw [if_neg hp] at h
            have gall := Gots.cons C g gs fun x y => by
              rw [x, y] at hp
              simpa using hp
            exact call_ok C gall rfl rfl (fun _ r => r) (by rw [List.length_cons]; show vs.length + 1 = _; rw [gs.rep.length.1]) h
theorem tE_mcallK {m np : Nat} {e : E} {es : List E} {pm : List Arg} {gV : List V → List V} {σ : L2.St} {H : Hp} {Q : VK} (hg : ∀ vs, vs.length = es.length → (gV vs).length + 1 = np)
    (conv : ∀ W H (xs ys : List PV) (vs : List V), argsOf pm xs = some ys → Reps X.prog X.w X.K V1.nm W H xs vs → Reps X.prog X.w X.K V1.nm W H ys (gV vs)) (h : tE V1 X.prog X.w X.K Z (.mcallK m (e :: es) pm) σ H Q) : tMe V1 X Z m np e es gV σ H Q := by
  obtain ⟨env, st, W, AS, AE, C, h⟩ := h
  refine ⟨env, st, W, AS, AE, C, ?_⟩
  rw [ev] at h
  cases he : ev V1.cl V1.txt V1.call e env st with
  | bad => rw [he] at h; exact h
  | exc c ns vs st1 => rw [he] at h; exact h
  | ok ov s1 =>
    rw [he] at h
    simp only [R.bind] at h
    intro W1 H1 AS1 v A g
    cases hc : clsOf s1 ov with
    | none => rw [hc] at h; exact h.elim
    | some c =>
      rw [hc] at h
      simp only [Option.bind_some] at h
      cases hm : V1.cl.meth c m with
      | none => rw [hm] at h; exact h.elim
      | some f =>
        rw [hm] at h
        simp only at h
        obtain ⟨a, dx, fs, ev, q1, q2, q3⟩ := cls_rep g.rep g.str hc
        refine ⟨a, c, f, dx, fs, ev, q1, hm, q2, q3, env, s1, W1, AS1, AE, g.cfg C, ?_⟩
        cases hs : evs V1.cl V1.txt V1.call es env s1 with
        | bad => rw [hs] at h; exact h
        | exc c ns vs st2 => rw [hs] at h; exact XEnd.after g.ent h
        | ok ovs s2 =>
          rw [hs] at h
          simp only at h
          intro W2 H2 AS2 vs B gs
          by_cases hp : (isFld e && ov.own && !pureEs es) = true
          · simp only [hp, if_true] at h
          · rw [if_neg hp] at h
            cases hpm : argsOf pm (opns es ovs) with
            | none => rw [hpm] at h; exact h.elim
            | some ys =>
              rw [hpm] at h
              have gall := Gots.cons C g gs fun x y => by
                rw [x, y] at hp
                simpa using hp
              refine call_ok C gall rfl rfl (fun W2 r => ?_) (hg vs gs.rep.length.1) h
              obtain ⟨v', r', e1, r1, r2⟩ := Reps.uncons (show Reps _ _ _ _ W2 H2 (opn e ov :: opns es ovs) (v :: vs) from r)
              cases e1
              exact Reps.cons r1 (conv W2 H2 _ _ _ hpm r2)
/-- a method of any of the classes -/
def MethG (V1 : Env1) (X : Cx) (m : Nat) (mn : Str) (n : Nat) : Prop := ∀ c ∈ V1.nm.cs, ∀ f, V1.cl.meth c m = some f → ∃ k fa fd ps, L2.Meth X.K (ca X.K V1.nm c) mn fa ∧ Room k X.A ∧
  FnG X.prog X.w X.K X.mg X.base (L2.CX X.prog X.w) k fa fd ps (spC X.prog X.w X.K V1.nm V1.call f n) ∧ ∀ (s : Shared) (us : List Value), us.length = n → BindsTo s fd ⟨us, []⟩ (ps.zip us)
theorem pe_mcallE {m : Nat} {mn : Str} {e : E} {es : List E} {xo : Expr} {xs : List Expr} (Fc : Facts V1.nm X.K) (M : MethG V1 X m mn (es.length + 1)) (hno : ∀ g ∈ V1.nm.fs, V1.nm.fld g ≠ mn) (gd : X.A.guards = some []) (tk : L2.Takes X Z)
    (ho : PE X xo (tE V1 X.prog X.w X.K Z e)) (hd : dotOk xo = true) (h : PEs V1 Z X es xs) (hs : xs.all noStar = true) (hn : xs.length < 20) (hp : (apos.endLine == pos.line) = true) : PE X (.Call (.Attribute xo mn apos) xs [] pos) (tE V1 X.prog X.w X.K Z (.mcall m (e :: es))) := by
  have ha := pa_of h
  refine PE.imp (t := tMe V1 X Z m (es.length + 1) e es id) ⟨fun pins s σ H Q I q => ?_⟩ fun σ H Q q => tE_mcall q
  refine PySem.W.methodCall_KW (thn (ho.run pins s σ H _ I q) ?_) (meth_text hd hs rfl (by simpa using hn) hp)
  intro u s1 hh
  obtain ⟨x, H1, I1, rx, a, c, f, dx, fs, ex, hc, hm, hH, hnm, q1⟩ := hh
  subst ex
  cases (show u = Value.ref a from rx)
  obtain ⟨k, fa, fd, ps, mt, room, F, bd⟩ := M c hc f hm
  have hlk : fs.lookup mn = none := by
    cases hl : fs.lookup mn with
    | none => rfl
    | some z =>
      exfalso
      have : (mn, z) ∈ fs := PySem.mem_of_lookup hl
      obtain ⟨g, hg, eg⟩ := hnm mn (List.mem_map.mpr ⟨_, this, rfl⟩)
      exact hno g hg eg
  refine getmeth_ok I1 hH (Fc.cls c hc) mt hlk ?_
  cases es with
  | nil =>
    rw [show xs = [] from h]
    have q0 := tL_nil q1
    refine PySem.W.callWith_K0 (first := [.ref a]) I1.kIn mt.kp ?_
    exact run_z (us := [.ref a]) (kw := []) F room gd (bd s1 [.ref a] rfl) tk I1 (show Vals [V.ref a] [Value.ref a] from .cons rfl .nil) q0
  | cons e2 es =>
    obtain ⟨x2, r, ex, ns, h2⟩ := h.split
    subst ex
    refine PySem.W.callWith_K (first := [.ref a]) (h₀ := X.base) I.ok.mod.kin mt.kp (thn (ha.run pos pins s1 σ H1 _ I1 q1) ?_) (starEach_cons ns) (h2.stars pos X.env)
    intro us s2 hh
    obtain ⟨vs, H2, I2, rv, q2⟩ := hh
    refine ⟨I2.kIn, ?_⟩
    exact run_z (us := .ref a :: us) (kw := []) F room gd (bd s2 (.ref a :: us) (by
      have := q2.1
      rw [List.length_cons] at this ⊢
      rw [← rv.length]
      exact this)) tk I2 (show Vals (V.ref a :: vs) (Value.ref a :: us) from .cons rfl rv) q2
end
end EV

set_option Elab.async false
set_option linter.all false
set_option maxRecDepth 100000
set_option maxHeartbeats 1000000
/-! EV8a: readings of statements; names set. -/
namespace EV
open PySem PySem.Spec PyProof.Rows L2
/-- where a def was entered; fx: its slot 0 is kept -/
structure Ety where
  W0 : Wd
  H0 : Hp
  A0 : List Addr
  fx : Option V
  phi : Wd → Hp → Prop
  cl : ∀ {W W' : Wd} {H H' : Hp}, phi W H → Kp W W' H H' → phi W' H'
section
variable (V1 : Env1) (P : Program) (w : World) (K : PySem.W.Frag) (E : XK) (T : Ety)
/-- the state within a def -/
structure CfgE (W : Wd) (H : Hp) (σ : L2.St) (env : Env) (st : St) (AS AE : List Addr) : Prop where
  cfg : Cfg P w K V1.nm W H σ env st AS AE
  ent : Ent T.W0 T.H0 T.A0 W H AS
  own : ∀ a ∈ AE, T.H0 a = none
  x0 : ∀ v, T.fx = some v → σ[0]? = some (some v)
  ph : T.phi W H
def EndS (D : Ends) : R Out → Prop
  | .ok (.next env') st' => ∀ σ' W' H' AS' AE', CfgE V1 P w K T W' H' σ' env' st' AS' AE' → D.nx σ' H'
  | .ok (.ret ov) st' => ∀ W' H' AS' v A, Got P w K V1.nm T.W0 T.H0 T.A0 [] .dct0 ov st' W' H' AS' v A → D.rt v H'
  | .exc c ns vs st' => ∀ W' H' AS' cls d, GotX P w K V1.nm T.W0 T.H0 T.A0 [] c ns vs st' W' H' AS' cls d → E cls d H'
  | .bad => False
/-- a statement's reading by its run -/
def tSt (run : EV.Env → EV.St → R Out) : TS := fun D σ H => ∃ env st W AS AE, CfgE V1 P w K T W H σ env st AS AE ∧ EndS V1 P w K E T D (run env st)
abbrev tS (s : S) : TS := tSt V1 P w K E T (exs V1.cl V1.txt V1.call s)
abbrev tSs (ss : List S) : TS := tSt V1 P w K E T (exss V1.cl V1.txt V1.call ss)
end
/-- the wish about exceptions -/
abbrev wxE (E : XK) : WX := fun cls d _ H => E cls d H
section
variable {V1 : Env1} {P : Program} {w : World} {K : PySem.W.Frag} {E : XK} {T : Ety} {W W1 W' : Wd} {H H1 H' : Hp} {σ : L2.St} {env : EV.Env} {st st1 st' : St} {AS AS1 AE AS' A B : List Addr} {D : Ends}
theorem CfgE.after (C : CfgE V1 P w K T W H σ env st AS AE) (g : GotT P w K V1.nm W H AS AE st1 W1 H1 AS1) : CfgE V1 P w K T W1 H1 σ env st1 AS1 AE := ⟨g.cfg C.cfg, C.ent.trans g.ent, C.own, C.x0, T.cl C.ph (C.cfg.kp g.ent)⟩
theorem EndS.exc {c : Nat} {ns : List Nat} {vs : List PV} (C : CfgE V1 P w K T W H σ env st AS AE) (h : EndS V1 P w K E T D (.exc c ns vs st')) : XEnd V1 P w K (wxE E) W H AS AE σ c ns vs st' :=
  fun W' H' AS' cls d g => h W' H' AS' cls d ⟨C.ent.trans g.ent, g.str, by rw [List.append_nil]; exact (List.nodup_append.mp g.nd).1, fun a ha => g.ff a (by rw [List.append_nil] at ha; exact List.mem_append_left _ ha), g.tr, g.exc⟩
/-- an expression first -/
theorem tSt_ev {run : EV.Env → EV.St → R Out} {e : EV.E} {f : OV → EV.Env → EV.St → R Out} (h : tSt V1 P w K E T run D σ H) (hr : ∀ env st, run env st = (ev V1.cl V1.txt V1.call e env st).bind fun x st => f x env st) :
    tE V1 P w K (wxE E) e σ H fun v H1 => ∃ env W AS AE st W1 AS1 A ov st1, CfgE V1 P w K T W H σ env st AS AE ∧ Got P w K V1.nm W H AS AE e ov st1 W1 H1 AS1 v A ∧ EndS V1 P w K E T D (f ov env st1) := by
  obtain ⟨env, st, W, AS, AE, C, h⟩ := h
  refine ⟨env, st, W, AS, AE, C.cfg, ?_⟩
  rw [hr] at h
  cases he : ev V1.cl V1.txt V1.call e env st with
  | bad => rw [he] at h; exact h
  | exc c ns vs st1 => rw [he] at h; exact EndS.exc C h
  | ok ov st1 =>
    rw [he] at h
    exact fun W1 H1 AS1 v A g => ⟨env, W, AS, AE, st, W1, AS1, A, ov, st1, C, g, h⟩
theorem tSt_evs {run : EV.Env → EV.St → R Out} {es : List EV.E} {f : List OV → EV.Env → EV.St → R Out} (h : tSt V1 P w K E T run D σ H) (hr : ∀ env st, run env st = (evs V1.cl V1.txt V1.call es env st).bind fun x st => f x env st) :
    tL V1 P w K (wxE E) es σ H fun vs H1 => ∃ env W AS AE st W1 AS1 B ovs st1, CfgE V1 P w K T W H σ env st AS AE ∧ Gots P w K V1.nm W H AS AE es ovs st1 W1 H1 AS1 vs B ∧ EndS V1 P w K E T D (f ovs env st1) := by
  obtain ⟨env, st, W, AS, AE, C, h⟩ := h
  refine ⟨env, st, W, AS, AE, C.cfg, ?_⟩
  rw [hr] at h
  cases he : evs V1.cl V1.txt V1.call es env st with
  | bad => rw [he] at h; exact h
  | exc c ns vs st1 => rw [he] at h; exact EndS.exc C h
  | ok ov st1 =>
    rw [he] at h
    exact fun W1 H1 AS1 v A g => ⟨env, W, AS, AE, st, W1, AS1, A, ov, st1, C, g, h⟩
theorem tSt_t {run : EV.Env → EV.St → R Out} {r1 : EV.Env → EV.St → R Bool} {f : Bool → EV.Env → EV.St → R Out} (h : tSt V1 P w K E T run D σ H) (hr : ∀ env st, run env st = (r1 env st).bind fun x st => f x env st) :
    tR V1 P w K (wxE E) r1 σ H fun b H1 => tSt V1 P w K E T (f b) D σ H1 := by
  obtain ⟨env, st, W, AS, AE, C, h⟩ := h
  refine ⟨env, st, W, AS, AE, C.cfg, ?_⟩
  rw [hr] at h
  cases he : r1 env st with
  | bad => rw [he] at h; exact h
  | exc c ns vs st1 => rw [he] at h; exact EndS.exc C h
  | ok b st1 =>
    rw [he] at h
    exact fun W1 H1 AS1 g => ⟨env, st1, W1, AS1, AE, C.after g, h⟩
/-- one statement behind another -/
theorem tSs_cons {s : S} {ss : List S} (h : tSs V1 P w K E T (s :: ss) D σ H) : tS V1 P w K E T s { D with nx := fun σ H => tSs V1 P w K E T ss D σ H } σ H := by
  obtain ⟨env, st, W, AS, AE, C, h⟩ := h
  refine ⟨env, st, W, AS, AE, C, ?_⟩
  rw [exss] at h
  cases he : exs V1.cl V1.txt V1.call s env st with
  | bad => rw [he] at h; exact h
  | exc c ns vs st1 => rw [he] at h; exact h
  | ok o st1 =>
    rw [he] at h
    cases o with
    | next env' => exact fun σ' W' H' AS' AE' C' => ⟨env', st1, W', AS', AE', C', h⟩
    | ret v => exact h
theorem tSs_nil (h : tSs V1 P w K E T [] D σ H) : D.nx σ H := by
  obtain ⟨env, st, W, AS, AE, C, h⟩ := h
  rw [exss] at h
  exact h σ W H AS AE C
/-- the reading of a run under another wish -/
theorem EndS.mono {D' : Ends} {r : R Out} (h : EndS V1 P w K E T D r) (hn : ∀ σ H, D.nx σ H → D'.nx σ H) (hr : ∀ v H, D.rt v H → D'.rt v H) : EndS V1 P w K E T D' r := by
  cases r with
  | ok o st' =>
    cases o with
    | next env' => exact fun σ' W' H' AS' AE' C => hn _ _ (h σ' W' H' AS' AE' C)
    | ret v => exact fun W' H' AS' v A g => hr _ _ (h W' H' AS' v A g)
  | exc c ns vs st' => exact h
  | bad => exact h
/-- a slot is set -/
theorem CfgE.setS {i : Nat} {o : Option OV} {y : Option V} {A2 : List Addr} (C : CfgE V1 P w K T W H σ env st AS AE) (hs : SlotR P w K V1.nm W H o y A2) (hn : A2.Nodup) (hf : ∀ a ∈ A2, a ∉ AS ∧ a ∉ AE ∧ ¬ W.F a ∧ ¬ W.L a ∧ T.H0 a = none) (h0 : T.fx ≠ none → i ≠ 0) :
    ∃ AE', CfgE V1 P w K T W H (σ.set i y) (env.set i o) st AS AE' ∧ ∀ a ∈ AE', a ∈ A2 ∨ a ∈ AE := by
  by_cases hi : i < env.length
  · obtain ⟨x, A1, B, D, e1, e2, e3, e4⟩ := C.cfg.env.at hi
    have sub : ∀ a, a ∈ B ++ (A2 ++ D) → a ∈ A2 ∨ a ∈ AE := fun a ha => by
      rw [e2]
      rcases List.mem_append.mp ha with z | z
      · exact .inr (List.mem_append_left _ z)
      · rcases List.mem_append.mp z with z | z
        · exact .inl z
        · exact .inr (List.mem_append_right _ (List.mem_append_right _ z))
    have nd := C.cfg.nd
    rw [e2] at nd
    obtain ⟨n1, n2, n3⟩ := List.nodup_append.mp nd
    obtain ⟨m1, m2, m3⟩ := List.nodup_append.mp n2
    obtain ⟨k1, k2, k3⟩ := List.nodup_append.mp m2
    refine ⟨B ++ (A2 ++ D), ⟨⟨e4 o y A2 hs, C.cfg.str, ?_, fun a ha => ?_, C.cfg.tr⟩, C.ent, fun a ha => ?_, fun v hv => ?_, C.ph⟩, sub⟩
    · refine List.nodup_append.mpr ⟨n1, List.nodup_append.mpr ⟨m1, List.nodup_append.mpr ⟨hn, k2, fun a ha b hb z => ?_⟩, fun a ha b hb z => ?_⟩, fun a ha b hb z => ?_⟩
      · subst z
        exact (hf a ha).2.1 (by rw [e2]; exact List.mem_append_right _ (List.mem_append_right _ hb))
      · subst z
        rcases List.mem_append.mp hb with q | q
        · exact (hf a q).2.1 (by rw [e2]; exact List.mem_append_left _ ha)
        · exact m3 a ha a (List.mem_append_right _ q) rfl
      · subst z
        rcases sub a hb with q | q
        · exact (hf a q).1 ha
        · exact n3 a ha a (by rw [← e2]; exact q) rfl
    · rcases List.mem_append.mp ha with z | z
      · exact C.cfg.ff a (List.mem_append_left _ z)
      · rcases sub a z with q | q
        · exact ⟨(hf a q).2.2.1, (hf a q).2.2.2.1⟩
        · exact C.cfg.ff a (List.mem_append_right _ q)
    · rcases sub a ha with q | q
      · exact (hf a q).2.2.2.2
      · exact C.own a q
    · have := h0 (by rw [hv]; simp)
      rw [List.getElem?_set_ne this]
      exact C.x0 v hv
  · have hl := C.cfg.env.length
    rw [List.set_eq_of_length_le (by omega), List.set_eq_of_length_le (by omega)]
    exact ⟨AE, C, fun _ h => .inr h⟩
theorem CfgE.set {i : Nat} {o : Option OV} {y : Option V} {A2 : List Addr} (C : CfgE V1 P w K T W H σ env st AS AE) (hs : SlotR P w K V1.nm W H o y A2) (hn : A2.Nodup) (hf : ∀ a ∈ A2, a ∉ AS ∧ a ∉ AE ∧ ¬ W.F a ∧ ¬ W.L a ∧ T.H0 a = none) (h0 : T.fx ≠ none → i ≠ 0) :
    ∃ AE', CfgE V1 P w K T W H (σ.set i y) (env.set i o) st AS AE' := let ⟨AE', h, _⟩ := C.setS hs hn hf h0; ⟨AE', h⟩
/-- something new is frozen -/
theorem CfgE.fzN {A2 : List Addr} (C : CfgE V1 P w K T W H σ env st AS AE) (hf : ∀ a ∈ A2, a ∉ AS ∧ a ∉ AE ∧ T.H0 a = none ∧ H a ≠ none) : CfgE V1 P w K T (W.fz A2) H σ env st AS AE := by
  refine ⟨⟨C.cfg.env.keep (Kp.to_fz A2) fun _ _ _ h => h, C.cfg.str.keep (Kp.to_fz A2) fun _ _ _ h => h, C.cfg.nd, fun a ha => ⟨fun z => ?_, (C.cfg.ff a ha).2⟩, fun a h => ?_⟩, C.ent.fz fun a ha => (hf a ha).2.2.1, C.own, C.x0, T.cl C.ph (Kp.to_fz A2)⟩
  · rcases z with z | z
    · exact (C.cfg.ff a ha).1 z
    · rcases List.mem_append.mp ha with q | q
      · exact (hf a z).1 q
      · exact (hf a z).2.1 q
  · rcases h with (h | h) | h
    · exact C.cfg.tr a (.inl h)
    · exact (hf a h).2.2.2
    · exact C.cfg.tr a (.inr h)
/-- the heap grows -/
theorem CfgE.grow (C : CfgE V1 P w K T W H σ env st AS AE) (h : ∀ a o, H a = some o → H' a = some o) : CfgE V1 P w K T W H' σ env st AS AE := by
  have kp : Kp W W H H' := ⟨fun _ h => h, fun _ h => h, fun _ _ h => h, fun a xs q => h a _ q, fun a o u q => h a _ q, fun a o _ q => h a o q⟩
  refine ⟨⟨C.cfg.env.keep kp fun a _ o q => h a o q, C.cfg.str.keep kp fun a _ o q => h a o q, C.cfg.nd, C.cfg.ff, fun a q => ?_⟩, C.ent.trans (Ent.grow h), C.own, C.x0, T.cl C.ph kp⟩
  have := C.cfg.tr a q
  cases e : H a with
  | none => exact absurd e this
  | some o => rw [h a o e]; simp
/-- what a tak has frozen -/
theorem CfgE.tak {e : EV.E} {ov : OV} {v : V} {x : PV} (C : CfgE V1 P w K T W H σ env st AS AE) (g : Got P w K V1.nm W H AS AE e ov st1 W1 H1 AS1 v A) (ht : tak e ov = some x) :
    ∃ W2, CfgE V1 P w K T W2 H1 σ env st1 AS1 AE ∧ Rep P w K V1.nm W2 H1 x v := by
  obtain ⟨W2, g2, r⟩ := g.takT C.cfg ht
  exact ⟨W2, C.after g2, r⟩
/-- .. of a list of expressions -/
theorem CfgE.taks {es : List EV.E} {ovs : List OV} {vs : List V} {xs : List PV} (C : CfgE V1 P w K T W H σ env st AS AE) (g : Gots P w K V1.nm W H AS AE es ovs st1 W1 H1 AS1 vs B) (ht : taks es ovs = some xs) :
    ∃ W2, CfgE V1 P w K T W2 H1 σ env st1 AS1 AE ∧ Reps P w K V1.nm W2 H1 xs vs := by
  have F := g.froz C.cfg
  exact ⟨W1.fz B, C.after ⟨F.ent, F.str, F.nd, F.ff, F.tr⟩, taks_rep g.rep (fun _ h => h) ht⟩
/-- a value into a slot -/
theorem CfgE.setSh {i : Nat} {x : PV} {v : V} (C : CfgE V1 P w K T W H σ env st AS AE) (r : Rep P w K V1.nm W H x v) (h0 : T.fx ≠ none → i ≠ 0) :
    ∃ AE', CfgE V1 P w K T W H (σ.set i (some v)) (env.set i (some (.sh x))) st AS AE' :=
  C.set (o := some (.sh x)) (y := some v) (A2 := []) (show RepO P w K V1.nm W H (.sh x) v [] by rw [RepO]; exact ⟨rfl, r⟩) List.nodup_nil (fun _ h => (List.not_mem_nil h).elim) h0
/-- what an expression has made, into a slot -/
theorem CfgE.setO {i : Nat} {e : EV.E} {ov : OV} {v : V} (C : CfgE V1 P w K T W H σ env st AS AE) (g : Got P w K V1.nm W H AS AE e ov st1 W1 H1 AS1 v A) (hp : (isPl e && ov.own) = false) (h0 : T.fx ≠ none → i ≠ 0) :
    ∃ AE', CfgE V1 P w K T W1 H1 (σ.set i (some v)) (env.set i (some ov)) st1 AS1 AE' := by
  have C1 := C.after g.t
  cases ho : ov.own with
  | false =>
    cases ov with
    | sh x =>
      have r := g.rep
      rw [RepO] at r
      exact C1.setSh r.2 h0
    | _ => cases ho
  | true =>
    have hpl : isPl e = false := by
      rw [ho, Bool.and_true] at hp
      exact hp
    obtain ⟨f1, f2⟩ := g.fr hpl
    refine C1.set (o := some ov) (y := some v) (A2 := A) g.rep f1 (fun a ha => ?_) h0
    obtain ⟨q1, q2, q3, q4⟩ := f2 a ha
    refine ⟨q4, fun z => C.cfg.live a (List.mem_append_right _ z) q1, q2, q3, ?_⟩
    cases q : T.H0 a with
    | none => rfl
    | some o => exact absurd q1 (C.ent.live a (by rw [q]; simp))
/-- a value returned -/
theorem CfgE.ret {e : EV.E} {ov : OV} {v : V} (C : CfgE V1 P w K T W H σ env st AS AE) (g : Got P w K V1.nm W H AS AE e ov st1 W1 H1 AS1 v A) (hp : (isPl e && ov.own) = false) :
    Got P w K V1.nm T.W0 T.H0 T.A0 [] .dct0 ov st1 W1 H1 AS1 v A := by
  have C1 := C.after g.t
  have key : A.Nodup ∧ ∀ a ∈ A, T.H0 a = none ∧ ¬ W1.F a ∧ ¬ W1.L a ∧ a ∉ AS1 := by
    cases ho : ov.own with
    | false =>
      cases ov with
      | sh x =>
        have r := g.rep
        rw [RepO] at r
        rw [r.1]
        exact ⟨List.nodup_nil, fun _ h => (List.not_mem_nil h).elim⟩
      | _ => cases ho
    | true =>
      have hpl : isPl e = false := by
        rw [ho, Bool.and_true] at hp
        exact hp
      obtain ⟨f1, f2⟩ := g.fr hpl
      refine ⟨f1, fun a ha => ?_⟩
      obtain ⟨q1, q2, q3, q4⟩ := f2 a ha
      refine ⟨?_, q2, q3, q4⟩
      cases q : T.H0 a with
      | none => rfl
      | some o => exact absurd q1 (C.ent.live a (by rw [q]; simp))
  exact ⟨C1.ent, C1.cfg.str, by rw [List.append_nil]; exact (List.nodup_append.mp g.nd).1, fun a ha => g.ff a (by rw [List.append_nil] at ha; exact List.mem_append_left _ ha), g.tr, g.rep, fun q => by simp [isPl] at q, fun _ => key, fun q => by simp [pureE] at q⟩
/-- one's own object returned by its name -/
theorem CfgE.retOwn {i : Nat} {ov : OV} (C : CfgE V1 P w K T W H σ env st AS AE) (he : env[i]?.join = some ov) :
    ∃ v A, σ[i]? = some (some v) ∧ Got P w K V1.nm T.W0 T.H0 T.A0 [] .dct0 ov st W H AS v A := by
  have hi : i < env.length := by
    rcases Nat.lt_or_ge i env.length with q | q
    · exact q
    · rw [List.getElem?_eq_none q] at he
      cases he
  obtain ⟨y, A1, B, D, e1, e2, e3, _⟩ := C.cfg.env.at hi
  rw [he] at e3
  cases y with
  | none => exact False.elim e3
  | some v =>
    obtain ⟨n1, n2, n3⟩ := List.nodup_append.mp C.cfg.nd
    rw [e2] at n2 n3
    obtain ⟨m1, m2, m3⟩ := List.nodup_append.mp n2
    obtain ⟨k1, k2, k3⟩ := List.nodup_append.mp m2
    have hA : ∀ a ∈ A1, a ∈ AE := fun a ha => by rw [e2]; exact mem_mid ha
    refine ⟨v, A1, e1, C.ent, C.cfg.str, by rw [List.append_nil]; exact n1, fun a ha => C.cfg.ff a (by rw [List.append_nil] at ha; exact List.mem_append_left _ ha), C.cfg.tr, e3, fun q => by simp [isPl] at q, fun _ => ⟨k1, fun a ha => ?_⟩, fun q => by simp [pureE] at q⟩
    exact ⟨C.own a (hA a ha), (C.cfg.ff a (List.mem_append_right _ (hA a ha))).1, (C.cfg.ff a (List.mem_append_right _ (hA a ha))).2, fun z => n3 a z a (mem_mid ha) rfl⟩
/-- a slot by its name -/
theorem CfgE.slot {i : Nat} {ov : OV} (C : CfgE V1 P w K T W H σ env st AS AE) (he : env[i]?.join = some ov) : ∃ v A1 B D, σ[i]? = some (some v) ∧ AE = B ++ (A1 ++ D) ∧ RepO P w K V1.nm W H ov v A1 := by
  have hi : i < env.length := by
    rcases Nat.lt_or_ge i env.length with q | q
    · exact q
    · rw [List.getElem?_eq_none q] at he
      cases he
  obtain ⟨y, A1, B, D, e1, e2, e3, _⟩ := C.cfg.env.at hi
  rw [he] at e3
  cases y with
  | none => exact False.elim e3
  | some v => exact ⟨v, A1, B, D, e1, e2, e3⟩
end
/-! ### the statements -/
section
variable {V1 : Env1} {X : Cx} {E : XK} {T : Ety} {pos : Pos}
theorem PS.imp {st : Stmt} {t t' : TS} (h : PS X st t) (i : ∀ D σ H, t' D σ H → t D σ H) : PS X st t' := ⟨fun pins s σ H D I q => h.run pins s σ H D I (i D σ H q)⟩
theorem PSs.imp {st : List Stmt} {t t' : TS} (h : PSs X st t) (i : ∀ D σ H, t' D σ H → t D σ H) : PSs X st t' := ⟨fun pins s σ H D I q => h.run pins s σ H D I (i D σ H q)⟩
theorem pss_nilE : PSs X [] (tSs V1 X.prog X.w X.K E T []) := PSs.imp pss_nil fun _ _ _ h => tSs_nil h
theorem pss_consE {s : S} {ss : List S} {x : Stmt} {xs : List Stmt} (h1 : PS X x (tS V1 X.prog X.w X.K E T s)) (h2 : PSs X xs (tSs V1 X.prog X.w X.K E T ss)) : PSs X (x :: xs) (tSs V1 X.prog X.w X.K E T (s :: ss)) :=
  PSs.imp (pss_cons h1 h2) fun _ _ _ h => tSs_cons h
/-- i = e, whatever way the store goes -/
theorem set_asg {i : Nat} {fz : Bool} {e : EV.E} {D : Ends} {σ : L2.St} {H : Hp} (h0 : T.fx ≠ none → i ≠ 0) (h : tS V1 X.prog X.w X.K E T (.set i fz e) D σ H) : tAsg (tE V1 X.prog X.w X.K (wxE E) e) (gName i) D σ H := by
  refine tE_mono ?_ (tSt_ev h (f := fun x env st => (match (generalizing := false) fz with
    | true => lift ((EV.tak e x).map fun v => .next (env.set i (some (.sh v)))) st
    | false => if isPl e && x.own then .bad else .ok (.next (env.set i (some x))) st)) fun env st => by rw [exs] <;> rfl)
  rintro v H1 ⟨env, W, AS, AE, st, W1, AS1, A, ov, st1, C, g, q⟩
  show D.nx _ _
  cases fz with
  | true =>
    simp only [lift] at q
    cases ht : EV.tak e ov with
    | none => rw [ht] at q; exact q.elim
    | some x =>
      rw [ht] at q
      obtain ⟨W2, C2, r⟩ := C.tak g ht
      obtain ⟨AE', C3⟩ := C2.setSh (i := i) r h0
      exact q _ _ _ _ _ C3
  | false =>
    simp only at q
    cases hp : (isPl e && ov.own) with
    | true => rw [hp] at q; exact q.elim
    | false =>
      rw [hp] at q
      obtain ⟨AE', C3⟩ := C.setO (i := i) g hp h0
      exact q _ _ _ _ _ C3
theorem ps_setE {i : Nat} {fz : Bool} {e : EV.E} {y : Str} {xe : Expr} {pos' : Pos} (hN : X.N.Nodup) (hi : X.N[i]? = some y) (hx : Loc X.env.scope y) (hf : X.fn y = true ∨ X.env.scope.names.lookup y = some .local) (he : PE X xe (tE V1 X.prog X.w X.K (wxE E) e))
    (hs : swapsWith xe (some (.Name y pos')) pos.line X.env = pure false) (h0 : T.fx ≠ none → i ≠ 0) : PS X (.Assign [.Name y pos'] xe pos) (tS V1 X.prog X.w X.K E T (.set i fz e)) :=
  PS.imp (ps_set hN hi hx he hs hf) fun _ _ _ h => set_asg h0 h
/-- i = j, j is not one's own any more -/
theorem ps_mvE {i j : Nat} {fz : Bool} {y z : Str} {p1 p2 : Pos} (hN : X.N.Nodup) (hi : X.N[i]? = some y) (hx : Loc X.env.scope y) (hf : X.fn y = true ∨ X.env.scope.names.lookup y = some .local) (hj : X.N[j]? = some z) (hv : Vis X.env.scope z)
    (hd : (z == ("__debug__" : Str)) = false) (hcd : (z == ("__classdict__" : Str)) = false) (h0 : T.fx ≠ none → i ≠ 0 ∧ j ≠ 0) (hij : i ≠ j) : PS X (.Assign [.Name y p1] (.Name z p2) pos) (tS V1 X.prog X.w X.K E T (.mv i j fz)) := by
  refine PS.imp (ps_set hN hi hx (pe_var hj hv hd hcd) rfl hf) fun D σ H h => ?_
  obtain ⟨env, st, W, AS, AE, C, h⟩ := h
  rw [exs] at h
  cases he : env[j]?.join with
  | none => rw [he] at h; exact h.elim
  | some ov =>
    rw [he] at h
    obtain ⟨v, A1, B, D', e1, e2, r⟩ := C.slot he
    refine ⟨v, e1, ?_⟩
    show D.nx _ _
    have nd := C.cfg.nd
    have hA : ∀ a ∈ A1, a ∈ AE := fun a ha => by rw [e2]; exact mem_mid ha
    -- the old name is given up
    have hjl : j < env.length := by
      rcases Nat.lt_or_ge j env.length with q | q
      · exact q
      · rw [List.getElem?_eq_none q] at he
        cases he
    obtain ⟨y0, A2, B2, D2, f1, f2, f3, f4⟩ := C.cfg.env.at hjl
    rw [he] at f3
    rw [e1] at f1
    cases f1
    have hA2 : ∀ a ∈ A2, a ∈ AE := fun a ha => by rw [f2]; exact mem_mid ha
    have ex : σ.set j (some v) = σ := by
      obtain ⟨hl, hv'⟩ := List.getElem?_eq_some_iff.mp e1
      rw [← hv']
      exact List.set_getElem_self hl
    have C1e := f4 none (some v) [] rfl
    rw [ex] at C1e
    obtain ⟨n1, n2, n3⟩ := List.nodup_append.mp C.cfg.nd
    rw [f2] at n2 n3
    obtain ⟨m1, m2, m3⟩ := List.nodup_append.mp n2
    obtain ⟨k1, k2, k3⟩ := List.nodup_append.mp m2
    have hsub : ∀ a, a ∈ B2 ++ ([] ++ D2) → a ∈ AE ∧ a ∉ A2 := fun a ha => by
      rw [List.nil_append] at ha
      rcases List.mem_append.mp ha with q | q
      · exact ⟨by rw [f2]; exact List.mem_append_left _ q, fun z => m3 a q a (List.mem_append_left _ z) rfl⟩
      · exact ⟨by rw [f2]; exact List.mem_append_right _ (List.mem_append_right _ q), fun z => k3 a z a q rfl⟩
    have C1 : CfgE V1 X.prog X.w X.K T W H σ (env.set j none) st AS (B2 ++ ([] ++ D2)) := by
      refine ⟨⟨C1e, C.cfg.str, ?_, fun a ha => ?_, C.cfg.tr⟩, C.ent, fun a ha => C.own a (hsub a ha).1, C.x0, C.ph⟩
      · rw [List.nil_append]
        exact List.nodup_append.mpr ⟨n1, List.nodup_append.mpr ⟨m1, k2, fun a ha b hb => m3 a ha b (List.mem_append_right _ hb)⟩, fun a ha b hb z => by
          subst z
          exact n3 a ha a (by rw [← f2]; exact (hsub a (by rw [List.nil_append]; exact hb)).1) rfl⟩
      · rcases List.mem_append.mp ha with q | q
        · exact C.cfg.ff a (List.mem_append_left _ q)
        · exact C.cfg.ff a (List.mem_append_right _ (hsub a q).1)
    cases fz with
    | true =>
      -- frozen
      have C2 : CfgE V1 X.prog X.w X.K T (W.fz A2) H σ (env.set j none) st AS (B2 ++ ([] ++ D2)) := by
        refine ⟨⟨C1.cfg.env.keep (Kp.to_fz A2) fun _ _ _ h => h, C1.cfg.str.keep (Kp.to_fz A2) fun _ _ _ h => h, C1.cfg.nd, fun a ha => ⟨fun z => ?_, (C1.cfg.ff a ha).2⟩, fun a q => ?_⟩, C1.ent.fz fun a ha => C.own a (hA2 a ha), C1.own, C1.x0, T.cl C1.ph (Kp.to_fz A2)⟩
        · rcases z with z | z
          · exact (C1.cfg.ff a ha).1 z
          · rcases List.mem_append.mp ha with q | q
            · exact n3 a q a (mem_mid z) rfl
            · exact (hsub a q).2 z
        · rcases q with (q | q) | q
          · exact C.cfg.tr a (.inl q)
          · exact C.cfg.live a (List.mem_append_right _ (hA2 a q))
          · exact C.cfg.tr a (.inr q)
      have r2 : Rep X.prog X.w X.K V1.nm (W.fz A2) H ov.freeze v := RepO.freeze ov v A2 (fun _ h => .inl h) (fun _ h => h) (fun _ _ h => h) (fun a ha => .inr ha) f3
      obtain ⟨AE', C3⟩ := C2.setSh (i := i) r2 fun q => (h0 q).1
      exact h _ _ _ _ _ C3
    | false =>
      obtain ⟨AE', C3⟩ := C1.set (i := i) (o := some ov) (y := some v) (A2 := A2) f3 k1 (fun a ha => ⟨fun z => n3 a z a (mem_mid ha) rfl, fun z => (hsub a z).2 ha, (C.cfg.ff a (List.mem_append_right _ (hA2 a ha))).1, (C.cfg.ff a (List.mem_append_right _ (hA2 a ha))).2, C.own a (hA2 a ha)⟩) fun q => (h0 q).1
      exact h _ _ _ _ _ C3
/-- e -/
theorem ps_exE {e : EV.E} {xe : Expr} (he : PE X xe (tE V1 X.prog X.w X.K (wxE E) e)) (hs : swapsWith xe none pos.line X.env = pure false) : PS X (.Expr xe pos) (tS V1 X.prog X.w X.K E T (.ex e)) := by
  refine PS.imp (ps_expr he hs) fun D σ H h => ?_
  refine tE_mono ?_ (tSt_ev h (f := fun _ env st => .ok (.next env) st) fun env st => by rw [exs])
  rintro v H1 ⟨env, W, AS, AE, st, W1, AS1, A, ov, st1, C, g, q⟩
  exact q _ _ _ _ _ (C.after g.t)
theorem ps_retE {e : EV.E} {xe : Expr} (he : PE X xe (tE V1 X.prog X.w X.K (wxE E) e)) : PS X (.Return (some xe) pos) (tS V1 X.prog X.w X.K E T (.ret e)) := by
  refine PS.imp (ps_ret he) fun D σ H h => ?_
  refine tE_mono ?_ (tSt_ev h (f := fun x env st => if isPl e && x.own then .bad else .ok (.ret x) st) fun env st => by rw [exs])
  rintro v H1 ⟨env, W, AS, AE, st, W1, AS1, A, ov, st1, C, g, q⟩
  cases hp : (isPl e && ov.own) with
  | true => rw [hp] at q; exact q.elim
  | false =>
    rw [hp] at q
    exact q _ _ _ _ _ (C.ret g hp)
theorem ps_retOwnE {i : Nat} {y : Str} {p : Pos} (hi : X.N[i]? = some y) (hv : Vis X.env.scope y) (hd : (y == ("__debug__" : Str)) = false) (hcd : (y == ("__classdict__" : Str)) = false) : PS X (.Return (some (.Name y p)) pos) (tS V1 X.prog X.w X.K E T (.retOwn i)) := by
  refine PS.imp (ps_ret (pe_var hi hv hd hcd)) fun D σ H h => ?_
  obtain ⟨env, st, W, AS, AE, C, h⟩ := h
  rw [exs] at h
  cases he : env[i]?.join with
  | none => rw [he] at h; exact h.elim
  | some ov =>
    rw [he] at h
    obtain ⟨v, A, e1, g⟩ := C.retOwn he
    exact ⟨v, e1, h _ _ _ _ _ g⟩
theorem CfgE.retV {P : Program} {w : World} {K : PySem.W.Frag} {x : PV} {v : V} {W : Wd} {H : Hp} {σ : L2.St} {env : EV.Env} {st : EV.St} {AS AE : List Addr} (C : CfgE V1 P w K T W H σ env st AS AE) (r : Rep P w K V1.nm W H x v) : Got P w K V1.nm T.W0 T.H0 T.A0 [] .dct0 (.sh x) st W H AS v [] :=
  ⟨C.ent, C.cfg.str, by rw [List.append_nil]; exact (List.nodup_append.mp C.cfg.nd).1, fun a ha => C.cfg.ff a (by rw [List.append_nil] at ha; exact List.mem_append_left _ ha), C.cfg.tr, by rw [RepO]; exact ⟨rfl, r⟩, fun q => by simp [isPl] at q, fun _ => ⟨List.nodup_nil, fun _ h => (List.not_mem_nil h).elim⟩, fun q => by simp [pureE] at q⟩
theorem ps_retNE : PS X (.Return none pos) (tS V1 X.prog X.w X.K E T .retN) := by
  refine PS.imp ps_retN fun D σ H h => ?_
  obtain ⟨env, st, W, AS, AE, C, h⟩ := h
  rw [exs] at h
  exact h _ _ _ _ _ (C.retV (x := .non) rfl)
theorem ps_passE : PS X (.Pass pos) (tS V1 X.prog X.w X.K E T .pass) := by
  refine PS.imp ps_pass fun D σ H h => ?_
  obtain ⟨env, st, W, AS, AE, C, h⟩ := h
  rw [exs] at h
  exact h _ _ _ _ _ C
theorem ps_ifE {c : EV.T} {a b : List S} {xc : Expr} {xa xb : List Stmt} (hc : PT X xc (tT V1 X.prog X.w X.K (wxE E) c)) (ha : PSs X xa (tSs V1 X.prog X.w X.K E T a)) (hb : PSs X xb (tSs V1 X.prog X.w X.K E T b)) : PS X (.If xc xa xb pos) (tS V1 X.prog X.w X.K E T (.ifs c a b)) := by
  refine PS.imp (ps_if hc ha hb) fun D σ H h => ?_
  refine tR_mono ?_ (tSt_t h (r1 := evT V1.cl V1.txt V1.call c) (f := fun t env st => (match t with
    | true => exss V1.cl V1.txt V1.call a env st
    | false => exss V1.cl V1.txt V1.call b env st)) fun env st => by rw [exs] <;> rfl)
  rintro k H1 q
  cases k <;> exact q
/-- a name's object is frozen: no statement of the text -/
theorem pss_frzE {i : Nat} {ss : List S} {xs : List Stmt} (h : PSs X xs (tSs V1 X.prog X.w X.K E T ss)) (h0 : T.fx ≠ none → i ≠ 0) : PSs X xs (tSs V1 X.prog X.w X.K E T (.frz i :: ss)) := by
  refine PSs.imp h fun D σ H q => ?_
  have q := tSs_cons q
  obtain ⟨env, st, W, AS, AE, C, q⟩ := q
  rw [exs] at q
  cases he : env[i]?.join with
  | none => rw [he] at q; exact q.elim
  | some ov =>
    rw [he] at q
    have hil : i < env.length := by
      rcases Nat.lt_or_ge i env.length with q | q
      · exact q
      · rw [List.getElem?_eq_none q] at he
        cases he
    obtain ⟨y0, A2, B2, D2, f1, f2, f3, f4⟩ := C.cfg.env.at hil
    rw [he] at f3
    cases y0 with
    | none => exact False.elim f3
    | some v =>
      have hA2 : ∀ a ∈ A2, a ∈ AE := fun a ha => by rw [f2]; exact mem_mid ha
      have ex : σ.set i (some v) = σ := by
        obtain ⟨hl, hv'⟩ := List.getElem?_eq_some_iff.mp f1
        rw [← hv']
        exact List.set_getElem_self hl
      obtain ⟨n1, n2, n3⟩ := List.nodup_append.mp C.cfg.nd
      rw [f2] at n2 n3
      obtain ⟨m1, m2, m3⟩ := List.nodup_append.mp n2
      obtain ⟨k1, k2, k3⟩ := List.nodup_append.mp m2
      have r2 : Rep X.prog X.w X.K V1.nm (W.fz A2) H ov.freeze v := RepO.freeze ov v A2 (fun _ h => .inl h) (fun _ h => h) (fun _ _ h => h) (fun a ha => .inr ha) f3
      have e2 := EnvR.keep (Kp.to_fz A2) (fun _ _ _ h => h) (f4 none (some v) [] rfl)
      rw [ex] at e2
      have hsub : ∀ a, a ∈ B2 ++ ([] ++ D2) → a ∈ AE ∧ a ∉ A2 := fun a ha => by
        rw [List.nil_append] at ha
        rcases List.mem_append.mp ha with q | q
        · exact ⟨by rw [f2]; exact List.mem_append_left _ q, fun z => m3 a q a (List.mem_append_left _ z) rfl⟩
        · exact ⟨by rw [f2]; exact List.mem_append_right _ (List.mem_append_right _ q), fun z => k3 a z a q rfl⟩
      have C2 : CfgE V1 X.prog X.w X.K T (W.fz A2) H σ (env.set i none) st AS (B2 ++ ([] ++ D2)) := by
        refine ⟨⟨e2, C.cfg.str.keep (Kp.to_fz A2) fun _ _ _ h => h, ?_, fun a ha => ⟨fun z => ?_, ?_⟩, fun a q => ?_⟩, C.ent.fz fun a ha => C.own a (hA2 a ha), fun a ha => C.own a (hsub a ha).1, C.x0, T.cl C.ph (Kp.to_fz A2)⟩
        · rw [List.nil_append]
          exact List.nodup_append.mpr ⟨n1, List.nodup_append.mpr ⟨m1, k2, fun a ha b hb => m3 a ha b (List.mem_append_right _ hb)⟩, fun a ha b hb z => by
            subst z
            exact n3 a ha a (by rw [← f2]; exact (hsub a (by rw [List.nil_append]; exact hb)).1) rfl⟩
        · rcases z with z | z
          · rcases List.mem_append.mp ha with q | q
            · exact (C.cfg.ff a (List.mem_append_left _ q)).1 z
            · exact (C.cfg.ff a (List.mem_append_right _ (hsub a q).1)).1 z
          · rcases List.mem_append.mp ha with q | q
            · exact n3 a q a (mem_mid z) rfl
            · exact (hsub a q).2 z
        · rcases List.mem_append.mp ha with q | q
          · exact (C.cfg.ff a (List.mem_append_left _ q)).2
          · exact (C.cfg.ff a (List.mem_append_right _ (hsub a q).1)).2
        · rcases q with (q | q) | q
          · exact C.cfg.tr a (.inl q)
          · exact C.cfg.live a (List.mem_append_right _ (hA2 a q))
          · exact C.cfg.tr a (.inr q)
      obtain ⟨AE', C3⟩ := C2.setSh (i := i) r2 h0
      rw [ex, List.set_set] at C3
      exact q _ _ _ _ _ C3
end
end EV

set_option Elab.async false
set_option linter.all false
set_option maxRecDepth 100000
set_option maxHeartbeats 1000000
/-! EV8b: places; append, extend, pop, setdefault, o[i] = e. -/
namespace EV
open PySem PySem.Spec PyProof.Rows L2
section
variable {P : Program} {w : World} {K : PySem.W.Frag} {nm : Nm} {W W' : Wd} {H H' : Hp} {σ : L2.St} {env : EV.Env} {st : EV.St} {AS AE A : List Addr}
/-- a slot and all others, when the heap changes -/
theorem EnvR.atK : ∀ {env : EV.Env} {σ : L2.St} {A : List Addr} {i : Nat}, EnvR P w K nm W H env σ A → i < env.length →
    ∃ x A1 B C, σ[i]? = some x ∧ A = B ++ (A1 ++ C) ∧ SlotR P w K nm W H (env[i]?.join) x A1 ∧
      ∀ W' H' o y A2, Kp W W' H H' → (∀ b ∈ B ++ C, ∀ u, H b = some u → H' b = some u) → SlotR P w K nm W' H' o y A2 → EnvR P w K nm W' H' (env.set i o) (σ.set i y) (B ++ (A2 ++ C))
  | [], _, _, _, _, hi => absurd hi (Nat.not_lt_zero _)
  | o :: env, σ, A, i, h, hi => by
    obtain ⟨x, r, A1, A2, e, eA, h1, h2⟩ := h
    subst e
    cases i with
    | zero =>
      exact ⟨x, A1, [], A2, rfl, by rw [eA]; rfl, h1, fun W' H' o' y A3 k hb q => ⟨y, r, A3, A2, rfl, rfl, q, h2.keep k fun a ha => hb a (by simpa using ha)⟩⟩
    | succ n =>
      obtain ⟨x', A1', B, C, e1, e2, e3, e4⟩ := EnvR.atK (i := n) h2 (by simpa using hi)
      refine ⟨x', A1', A1 ++ B, C, by simpa using e1, by rw [eA, e2, List.append_assoc], by simpa using e3, fun W' H' o' y A3 k hb q => ⟨x, _, A1, B ++ (A3 ++ C), rfl, by rw [List.append_assoc], h1.keep k fun a ha => hb a ?_, e4 W' H' o' y A3 k (fun b hb' => hb b ?_) q⟩⟩
      · exact List.mem_append_left _ (List.mem_append_left _ ha)
      · rw [List.append_assoc]
        exact List.mem_append_right _ hb'
theorem StR.atK : ∀ {st : EV.St} {M A : List Addr} {k : Nat} {o : OV}, StR P w K nm W H st M A → st[k]? = some o →
    ∃ a A1 B C, M[k]? = some a ∧ A = B ++ (A1 ++ C) ∧ RepO P w K nm W H o (.ref a) A1 ∧ o.own = true ∧
      ∀ W' H' o' A2, Kp W W' H H' → (∀ b ∈ B ++ C, ∀ u, H b = some u → H' b = some u) → RepO P w K nm W' H' o' (.ref a) A2 → o'.own = true → StR P w K nm W' H' (st.set k o') M (B ++ (A2 ++ C))
  | [], _, _, _, _, _, hk => by simp at hk
  | o :: st, M, A, k, o1, h, hk => by
    obtain ⟨x, r, A1, A2, e, eA, h1, h2, h3⟩ := h
    subst e
    cases k with
    | zero =>
      simp at hk
      subst hk
      exact ⟨x, A1, [], A2, rfl, by rw [eA]; rfl, h1, h2, fun W' H' o' A3 k hb q z => ⟨x, r, A3, A2, rfl, rfl, q, z, h3.keep k fun a ha => hb a (by simpa using ha)⟩⟩
    | succ n =>
      obtain ⟨x', A1', B, C, e1, e2, e3, e4, e5⟩ := StR.atK (k := n) h3 (by simpa using hk)
      refine ⟨x', A1', A1 ++ B, C, by simpa using e1, by rw [eA, e2, List.append_assoc], e3, e4, fun W' H' o' A3 k hb q z => ⟨x, r, A1, B ++ (A3 ++ C), rfl, by rw [List.append_assoc], RepO.keep k o _ A1 (fun a ha => hb a ?_) h1, h2, e5 W' H' o' A3 k (fun b hb' => hb b ?_) q z⟩⟩
      · exact List.mem_append_left _ (List.mem_append_left _ ha)
      · rw [List.append_assoc]
        exact List.mem_append_right _ hb'
/-- one's own object changes -/
theorem kp_own {a : Addr} {u : HO} (hf : ¬ W.F a ∧ ¬ W.L a) (hm : ∃ o, H a = some o ∧ Mut (some o)) : Kp W W H (upd H a u) := by
  obtain ⟨o, h1, h2⟩ := hm
  have ne : ∀ b v, H b = some v → ¬ Mut (some v) → b ≠ a := fun b v q n e => by
    subst e
    rw [h1] at q
    cases q
    exact n h2
  exact ⟨fun _ h => h, fun _ h => h, fun _ _ h => h, fun b xs e => by rw [upd_ne (ne b _ e fun h => h)]; exact e, fun b ob v e => by rw [upd_ne (ne b _ e fun h => h)]; exact e, fun b v q e => by
    rw [upd_ne (fun e' => by subst e'; exact q.elim hf.1 hf.2)]
    exact e⟩
end
section
variable (V1 : Env1) (P : Program) (w : World) (K : PySem.W.Frag) (T : Ety)
/-- a place, read in the text -/
def PlRd (nm : Nm) : Pl → L2.St → Hp → Addr → Prop
  | .var i, σ, _, a => σ[i]? = some (some (.ref a))
  | .fld i f, σ, H, a => ∃ x c dx fs, σ[i]? = some (some (.ref x)) ∧ H x = some (.ins (ca K nm c) dx fs) ∧ c ∈ nm.cs ∧ f ∈ nm.fs ∧ fs.lookup (nm.fld f) = some (.ref a)
/-- the object o stands at a place, at a -/
structure PlG (p : Pl) (W : Wd) (H : Hp) (σ : L2.St) (env : EV.Env) (st : EV.St) (AS AE : List Addr) (o : OV) (a : Addr) : Prop where
  rep : RepO P w K V1.nm W H o (.ref a) [a]
  rd : PlRd K V1.nm p σ H a
  up : ∀ o' u, o'.own = true → RepO P w K V1.nm W (upd H a u) o' (.ref a) [a] → CfgE V1 P w K T W (upd H a u) σ (setPl p o' env st).1 (setPl p o' env st).2 AS AE
end
theorem repO_one {P : Program} {w : World} {K : PySem.W.Frag} {nm : Nm} {W : Wd} {H : Hp} {o : OV} {v : V} {A : List Addr} (h : RepO P w K nm W H o v A) (ho : isOlOd o = true) : ∃ a, v = .ref a ∧ A = [a] := by
  cases o with
  | ol xs =>
    rw [RepO] at h
    obtain ⟨a, vs, e1, e2, _⟩ := h
    exact ⟨a, e1, e2⟩
  | od ks vs =>
    rw [RepO] at h
    obtain ⟨a, e1, e2, _⟩ := h
    exact ⟨a, e1, e2⟩
  | _ => cases ho
section
variable {V1 : Env1} {P : Program} {w : World} {K : PySem.W.Frag} {T : Ety} {W W1 W' : Wd} {H H1 H' : Hp} {σ : L2.St} {env : EV.Env} {st st1 : EV.St} {AS AS1 AE : List Addr}
theorem Ent.own {W0 : Wd} {H0 : Hp} {A0 : List Addr} {a : Addr} {u : HO} (e : Ent W0 H0 A0 W H AS) (h : a ∈ A0 ∨ H0 a = none) : Ent W0 H0 A0 W (upd H a u) AS :=
  ⟨e.F, e.L, e.M, fun b o q n => by
    rw [upd_ne (fun z => by
      subst z
      rcases h with h | h
      · exact n h
      · rw [h] at q; cases q)]
    exact e.keep b o q n, fun b q => by
      unfold upd
      split
      · simp
      · exact e.live b q, e.fr, e.st⟩
theorem tr_upd {a : Addr} {u : HO} (h : ∀ b, W.F b ∨ W.L b → H b ≠ none) : ∀ b, W.F b ∨ W.L b → upd H a u b ≠ none := fun b q => by
  unfold upd
  split
  · simp
  · exact h b q
theorem plG_var {i : Nat} {o : OV} (C : CfgE V1 P w K T W H σ env st AS AE) (hg : getPl (.var i) env st = some o) (ho : isOlOd o = true) : ∃ a, PlG V1 P w K T (.var i) W H σ env st AS AE o a := by
  unfold getPl at hg
  simp only at hg
  have hi : i < env.length := by
    rcases Nat.lt_or_ge i env.length with q | q
    · exact q
    · rw [List.getElem?_eq_none q] at hg
      cases hg
  obtain ⟨y, A1, B, D, e1, e2, e3, e4⟩ := C.cfg.env.atK hi
  obtain ⟨n1, n2, n3⟩ := List.nodup_append.mp C.cfg.nd
  rw [e2] at n2 n3
  obtain ⟨m1, m2, m3⟩ := List.nodup_append.mp n2
  obtain ⟨k1, k2, k3⟩ := List.nodup_append.mp m2
  split at hg
  · -- stored
    rename_i k hk
    rw [hk] at e3
    cases y with
    | none => exact False.elim e3
    | some v =>
      have e3' : RepO P w K V1.nm W H (.sh (.ref k)) v A1 := e3
      rw [RepO, Rep] at e3'
      obtain ⟨_, x, z1, z2⟩ := e3'
      subst z2
      obtain ⟨a, A2, B2, D2, f1, f2, f3, f4, f5⟩ := C.cfg.str.atK hg
      rw [z1] at f1
      cases f1
      obtain ⟨a', q1, q2⟩ := repO_one f3 ho
      cases q1
      subst q2
      have haS : x ∈ AS := by rw [f2]; exact mem_mid (List.mem_singleton.mpr rfl)
      obtain ⟨nn1, nn2, nn3⟩ := List.nodup_append.mp (f2 ▸ n1)
      obtain ⟨mm1, mm2, mm3⟩ := List.nodup_append.mp nn2
      refine ⟨x, f3, e1, fun o' u hO r => ?_⟩
      have hm := C.cfg.str.there x haS
      have hff := C.cfg.ff x (List.mem_append_left _ haS)
      have kp := kp_own (u := u) hff hm
      have es : setPl (.var i) o' env st = (env, st.set k o') := by
        unfold setPl
        simp only
        rw [hk]
      rw [es]
      refine ⟨⟨C.cfg.env.keep kp fun b hb v q => ?_, ?_, C.cfg.nd, C.cfg.ff, tr_upd C.cfg.tr⟩, C.ent.own (C.ent.st x haS), C.own, C.x0, T.cl C.ph kp⟩
      · rw [upd_ne (fun z => by subst z; exact (List.nodup_append.mp C.cfg.nd).2.2 b haS b hb rfl)]
        exact q
      · have := f5 W (upd H x u) o' [x] kp (fun b hb v q => by
          rw [upd_ne (fun z => by
            subst z
            rcases List.mem_append.mp hb with hb | hb
            · exact nn3 b hb b (List.mem_append_left _ (List.mem_singleton.mpr rfl)) rfl
            · exact mm3 b (List.mem_singleton.mpr rfl) b hb rfl)]
          exact q) r hO
        rw [← f2] at this
        exact this
  · -- one's own
    rename_i hne
    rw [hg] at e3
    cases y with
    | none => exact False.elim e3
    | some v =>
      have e3' : RepO P w K V1.nm W H o v A1 := e3
      obtain ⟨a, q1, q2⟩ := repO_one e3' ho
      subst q1
      subst q2
      have haE : a ∈ AE := by rw [e2]; exact mem_mid (List.mem_singleton.mpr rfl)
      refine ⟨a, e3', e1, fun o' u hO r => ?_⟩
      have hm := C.cfg.env.there a haE
      have hff := C.cfg.ff a (List.mem_append_right _ haE)
      have kp := kp_own (u := u) hff hm
      have es : setPl (.var i) o' env st = (env.set i (some o'), st) := by
        unfold setPl
        simp only
      rw [es]
      have ex : σ.set i (some (.ref a)) = σ := by
        obtain ⟨hl, hv'⟩ := List.getElem?_eq_some_iff.mp e1
        rw [← hv']
        exact List.set_getElem_self hl
      refine ⟨⟨?_, C.cfg.str.keep kp fun b hb v q => ?_, C.cfg.nd, C.cfg.ff, tr_upd C.cfg.tr⟩, C.ent.own (.inr (C.own a haE)), C.own, C.x0, T.cl C.ph kp⟩
      · have := e4 W (upd H a u) (some o') (some (.ref a)) [a] kp (fun b hb v q => by
          rw [upd_ne (fun z => by
            subst z
            rcases List.mem_append.mp hb with hb | hb
            · exact m3 b hb b (List.mem_append_left _ (List.mem_singleton.mpr rfl)) rfl
            · exact k3 b (List.mem_singleton.mpr rfl) b hb rfl)]
          exact q) r
        rw [ex, ← e2] at this
        exact this
      · rw [upd_ne (fun z => by subst z; exact (List.nodup_append.mp C.cfg.nd).2.2 b hb b haE rfl)]
        exact q
/-- a field of one's own instance -/
theorem fldAt (F : Facts V1.nm K) {f : Nat} {o : OV} (ho : isOlOd o = true) : ∀ {ns : List Nat} {vs : List OV} {fs : List (Str × V)} {A : List Addr}, (∀ n ∈ ns, n ∈ V1.nm.fs) → fs.map (·.1) = ns.map V1.nm.fld → RepOs P w K V1.nm W H vs (fs.map (·.2)) A → assocN f ns vs = some o →
    ∃ a B D, fs.lookup (V1.nm.fld f) = some (.ref a) ∧ A = B ++ ([a] ++ D) ∧ RepO P w K V1.nm W H o (.ref a) [a] ∧ f ∈ V1.nm.fs ∧ ∀ o', (setN f o' ns vs).1 = ns ∧ ∀ W' H', Kp W W' H H' → (∀ b ∈ B ++ D, ∀ u, H b = some u → H' b = some u) → RepO P w K V1.nm W' H' o' (.ref a) [a] →
      RepOs P w K V1.nm W' H' (setN f o' ns vs).2 (fs.map (·.2)) A
  | [], vs, fs, A, _, _, _, h => by simp [assocN] at h
  | n :: ns, [], fs, A, _, _, _, h => by simp [assocN] at h
  | n :: ns, z :: vs, fs, A, hm, he, hr, h => by
    cases fs with
    | nil => simp at he
    | cons p fs =>
      rw [List.map_cons, List.map_cons] at he
      injection he with e1 e2
      rw [List.map_cons, RepOs] at hr
      obtain ⟨v, r, A1, A2, ev, eA, h1, h2⟩ := hr
      cases ev
      obtain ⟨pf, pv⟩ := p
      simp only at e1 h1
      subst e1
      have hfm : f ∈ V1.nm.fs := hm f (assoc_mem h)
      rw [assocN] at h
      by_cases hn : n = f
      · rw [if_pos hn] at h
        cases h
        subst hn
        obtain ⟨a, q1, q2⟩ := repO_one h1 ho
        subst q1
        subst q2
        refine ⟨a, [], A2, by simp, by rw [eA]; rfl, h1, hfm, fun o' => ⟨by rw [setN, if_pos rfl], fun W' H' k hb ro => ?_⟩⟩
        rw [setN, if_pos rfl, List.map_cons, RepOs]
        exact ⟨.ref a, _, [a], A2, rfl, eA, ro, RepOs.keep k vs _ A2 (fun b hb' => hb b (by simpa using hb')) h2⟩
      · rw [if_neg hn] at h
        obtain ⟨a, B, D, q1, q2, q3, q4, q5⟩ := fldAt F ho (fun k hk => hm k (List.mem_cons_of_mem _ hk)) e2 h2 h
        refine ⟨a, A1 ++ B, D, ?_, by rw [eA, q2, List.append_assoc], q3, q4, fun o' => ⟨by rw [setN, if_neg hn]; show n :: _ = _; rw [(q5 o').1], fun W' H' k hb ro => ?_⟩⟩
        · have : (V1.nm.fld f == V1.nm.fld n) = false := by
            refine beq_eq_false_iff_ne.mpr fun e => hn ?_
            exact (F.inj f hfm n (hm n List.mem_cons_self) e).symm
          rw [List.lookup, this]
          exact q1
        · rw [setN, if_neg hn, List.map_cons, RepOs]
          refine ⟨pv, _, A1, A2, rfl, eA, RepO.keep k z pv A1 (fun b hb' => hb b (by rw [List.append_assoc]; exact List.mem_append_left _ hb')) h1, (q5 o').2 W' H' k (fun b hb' => hb b (by rw [List.append_assoc]; exact List.mem_append_right _ hb')) ro⟩
theorem oiAt (F : Facts V1.nm K) {f c : Nat} {o : OV} {ns : List Nat} {vs : List OV} {v : V} {A : List Addr} (h : RepO P w K V1.nm W H (.oi c ns vs) v A) (hf : assocN f ns vs = some o) (ho : isOlOd o = true) :
    ∃ x dx fs a B D, v = .ref x ∧ H x = some (.ins (ca K V1.nm c) dx fs) ∧ c ∈ V1.nm.cs ∧ f ∈ V1.nm.fs ∧ fs.lookup (V1.nm.fld f) = some (.ref a) ∧ RepO P w K V1.nm W H o (.ref a) [a] ∧ A = x :: (B ++ ([a] ++ D)) ∧
      ∀ W' H' o', Kp W W' H H' → (∀ b ∈ x :: (B ++ D), ∀ u, H b = some u → H' b = some u) → RepO P w K V1.nm W' H' o' (.ref a) [a] → RepO P w K V1.nm W' H' (.oi c (setN f o' ns vs).1 (setN f o' ns vs).2) v A := by
  rw [RepO] at h
  obtain ⟨x, dx, fs, B0, e1, e2, h1, ⟨h2, h3, h4⟩, h5⟩ := h
  obtain ⟨a, B, D, q1, q2, q3, q4, q5⟩ := fldAt F ho h3 h4 h5 hf
  refine ⟨x, dx, fs, a, B, D, e1, h1, h2, q4, q1, q3, by rw [e2, q2], fun W' H' o' k hb ro => ?_⟩
  rw [RepO]
  refine ⟨x, dx, fs, B0, e1, e2, hb x List.mem_cons_self _ h1, ⟨h2, ?_, ?_⟩, (q5 o').2 W' H' k (fun b hb' => hb b (List.mem_cons_of_mem _ hb')) ro⟩
  · rw [(q5 o').1]; exact h3
  · rw [(q5 o').1]; exact h4
theorem nodup_oi {x a : Addr} {A AE B D B2 D2 : List Addr} (e : AE = B2 ++ (A ++ D2)) (eA : A = x :: (B ++ ([a] ++ D))) (nd : AE.Nodup) : x ∈ AE ∧ a ∈ AE ∧ (∀ b ∈ x :: (B ++ D), b ≠ a) ∧ ∀ b ∈ B2 ++ D2, b ∉ A := by
  subst e
  obtain ⟨m1, m2, m3⟩ := List.nodup_append.mp nd
  obtain ⟨k1, k2, k3⟩ := List.nodup_append.mp m2
  refine ⟨mem_mid (by rw [eA]; exact List.mem_cons_self), mem_mid (by rw [eA]; simp), fun b hb z => ?_, fun b hb z => ?_⟩
  · subst z
    rw [eA] at k1
    have h1 := List.nodup_cons.mp k1
    obtain ⟨p1, p2, p3⟩ := List.nodup_append.mp h1.2
    rcases List.mem_cons.mp hb with q | q
    · subst q
      exact h1.1 (by simp)
    · rcases List.mem_append.mp q with q | q
      · exact p3 b q b (by simp) rfl
      · exact (List.nodup_append.mp p2).2.2 b (by simp) b q rfl
  · rcases List.mem_append.mp hb with q | q
    · exact m3 b q b (List.mem_append_left _ z) rfl
    · exact k3 b z b q rfl
theorem plG_fld (F : Facts V1.nm K) {i f : Nat} {o : OV} (C : CfgE V1 P w K T W H σ env st AS AE) (hg : getPl (.fld i f) env st = some o) (ho : isOlOd o = true) : ∃ a, PlG V1 P w K T (.fld i f) W H σ env st AS AE o a := by
  unfold getPl at hg
  simp only at hg
  have hi : i < env.length := by
    rcases Nat.lt_or_ge i env.length with q | q
    · exact q
    · rw [List.getElem?_eq_none q] at hg
      cases hg
  obtain ⟨y, A1, B1, D1, e1, e2, e3, e4⟩ := C.cfg.env.atK hi
  obtain ⟨n1, n2, n3⟩ := List.nodup_append.mp C.cfg.nd
  split at hg
  · -- one's own instance
    rename_i c ns vs hk
    rw [hk] at e3
    cases y with
    | none => exact False.elim e3
    | some v =>
      have e3' : RepO P w K V1.nm W H (.oi c ns vs) v A1 := e3
      obtain ⟨x, dx, fs, a, B, D, q1, q2, q3, q4, q5, q6, q7, q8⟩ := oiAt F e3' hg ho
      subst q1
      obtain ⟨hx, ha, hne, hout⟩ := nodup_oi e2 q7 n2
      refine ⟨a, q6, ⟨x, c, dx, fs, e1, q2, q3, q4, q5⟩, fun o' u hO r => ?_⟩
      have hm := C.cfg.env.there a ha
      have hff := C.cfg.ff a (List.mem_append_right _ ha)
      have kp := kp_own (u := u) hff hm
      have es : setPl (.fld i f) o' env st = (env.set i (some (.oi c (setN f o' ns vs).1 (setN f o' ns vs).2)), st) := by
        unfold setPl
        simp only
        rw [hk]
      rw [es]
      have ex : σ.set i (some (.ref x)) = σ := by
        obtain ⟨hl, hv'⟩ := List.getElem?_eq_some_iff.mp e1
        rw [← hv']
        exact List.set_getElem_self hl
      have inA : a ∈ A1 := by rw [q7]; simp
      refine ⟨⟨?_, C.cfg.str.keep kp fun b hb v q => ?_, C.cfg.nd, C.cfg.ff, tr_upd C.cfg.tr⟩, C.ent.own (.inr (C.own a ha)), C.own, C.x0, T.cl C.ph kp⟩
      · have := e4 W (upd H a u) (some (.oi c (setN f o' ns vs).1 (setN f o' ns vs).2)) (some (.ref x)) A1 kp (fun b hb v q => by
          rw [upd_ne (fun z => by
            subst z
            exact hout b hb inA)]
          exact q) (q8 W (upd H a u) o' kp (fun b hb v q => by
          rw [upd_ne (hne b hb)]
          exact q) r)
        rw [ex, ← e2] at this
        exact this
      · rw [upd_ne (fun z => by subst z; exact n3 b hb b ha rfl)]
        exact q
  · -- a stored one
    rename_i k hk
    rw [hk] at e3
    split at hg
    · rename_i c ns vs hst
      cases y with
      | none => exact False.elim e3
      | some v =>
        have e3' : RepO P w K V1.nm W H (.sh (.ref k)) v A1 := e3
        rw [RepO, Rep] at e3'
        obtain ⟨_, x0, z1, z2⟩ := e3'
        subst z2
        obtain ⟨x', A2, B2, D2, f1, f2, f3, f4, f5⟩ := C.cfg.str.atK hst
        rw [z1] at f1
        cases f1
        obtain ⟨x, dx, fs, a, B, D, q1, q2, q3, q4, q5, q6, q7, q8⟩ := oiAt F f3 hg ho
        cases q1
        obtain ⟨hx, ha, hne, hout⟩ := nodup_oi f2 q7 n1
        refine ⟨a, q6, ⟨x0, c, dx, fs, e1, q2, q3, q4, q5⟩, fun o' u hO r => ?_⟩
        have hm := C.cfg.str.there a ha
        have hff := C.cfg.ff a (List.mem_append_left _ ha)
        have kp := kp_own (u := u) hff hm
        have es : setPl (.fld i f) o' env st = (env, st.set k (.oi c (setN f o' ns vs).1 (setN f o' ns vs).2)) := by
          unfold setPl
          simp only
          rw [hk]
          simp only
          rw [hst]
        rw [es]
        have inA : a ∈ A2 := by rw [q7]; simp
        refine ⟨⟨C.cfg.env.keep kp fun b hb v q => ?_, ?_, C.cfg.nd, C.cfg.ff, tr_upd C.cfg.tr⟩, C.ent.own (C.ent.st a ha), C.own, C.x0, T.cl C.ph kp⟩
        · rw [upd_ne (fun z => by subst z; exact n3 b ha b hb rfl)]
          exact q
        · have := f5 W (upd H a u) (.oi c (setN f o' ns vs).1 (setN f o' ns vs).2) A2 kp (fun b hb v q => by
            rw [upd_ne (fun z => by
              subst z
              exact hout b hb inA)]
            exact q) (q8 W (upd H a u) o' kp (fun b hb v q => by
            rw [upd_ne (hne b hb)]
            exact q) r) rfl
          rw [← f2] at this
          exact this
    · cases hg
  · cases hg
theorem plG_of (F : Facts V1.nm K) {p : Pl} {o : OV} (C : CfgE V1 P w K T W H σ env st AS AE) (hg : getPl p env st = some o) (ho : isOlOd o = true) : ∃ a, PlG V1 P w K T p W H σ env st AS AE o a := by
  cases p with
  | var i => exact plG_var C hg ho
  | fld i f => exact plG_fld F C hg ho
/-- a place read twice -/
theorem PlRd.same {nm : Nm} {p : Pl} {a b : Addr} (h : PlRd K nm p σ H a) (h' : PlRd K nm p σ H1 b) (k : ∀ i f, p = .fld i f → ∀ x, σ[i]? = some (some (.ref x)) → ∀ o, H x = some o → H1 x = some o) : a = b := by
  cases p with
  | var i =>
    have h : σ[i]? = some (some (.ref a)) := h
    have h' : σ[i]? = some (some (.ref b)) := h'
    rw [h] at h'
    cases h'
    rfl
  | fld i f =>
    obtain ⟨x, c, dx, fs, e1, e2, _, _, e5⟩ := h
    obtain ⟨x', c', dx', fs', e1', e2', _, _, e5'⟩ := h'
    rw [e1] at e1'
    cases e1'
    rw [k i f rfl x e1 _ e2] at e2'
    injection e2' with e2'
    injection e2' with z1 z2 z3
    rw [← z3, e5] at e5'
    cases e5'
    rfl
/-- the object of a place's field, behind a run that is pure or changes stored objects alone -/
theorem viaFld_own {p : Pl} {e : Bool} (C : CfgE V1 P w K T W H σ env st AS AE) {W1 : Wd} {H1 : Hp} {st1 : EV.St} {AS1 : List Addr} (g : GotT P w K V1.nm W H AS AE st1 W1 H1 AS1) (hv : (e || !viaFld p env) = true) (pu : e = true → ∀ a o, H a = some o → H1 a = some o)
    (hg : ∃ o, getPl p env st = some o) : ∀ i f, p = .fld i f → ∀ x, σ[i]? = some (some (.ref x)) → ∀ o, H x = some o → H1 x = some o := by
  intro i f ep x hx o ho
  subst ep
  cases he : e with
  | true => exact pu he x o ho
  | false =>
    rw [he] at hv
    simp only [Bool.false_or] at hv
    obtain ⟨o', hg⟩ := hg
    unfold getPl at hg
    simp only at hg
    split at hg
    · rename_i c ns vs hk
      obtain ⟨v, A1, B, D, e1, e2, r⟩ := C.slot hk
      rw [hx] at e1
      cases e1
      rw [RepO] at r
      obtain ⟨x', dx, fs, B0, z1, z2, _⟩ := r
      cases z1
      exact C.cfg.ownE g.ent x (by rw [e2]; exact mem_mid (by rw [z2]; exact List.mem_cons_self)) o ho
    · rename_i k hk
      unfold viaFld at hv
      simp only at hv
      rw [hk] at hv
      cases hv
    · cases hg
theorem up_ok (F : Facts V1.nm K) {E : XK} {D : Ends} {p : Pl} {f : OV → Option OV} (C : CfgE V1 P w K T W H σ env st AS AE) (hf : ∀ o o', f o = some o' → isOlOd o = true ∧ o'.own = true) (h : EndS V1 P w K E T D (upPl p f env st)) :
    ∃ o o' a, getPl p env st = some o ∧ f o = some o' ∧ PlG V1 P w K T p W H σ env st AS AE o a ∧ ∀ u, RepO P w K V1.nm W (upd H a u) o' (.ref a) [a] → D.nx σ (upd H a u) := by
  unfold upPl at h
  cases hg : getPl p env st with
  | none => rw [hg] at h; exact h.elim
  | some o =>
    rw [hg] at h
    simp only at h
    cases ho : f o with
    | none => rw [ho] at h; exact h.elim
    | some o' =>
      rw [ho] at h
      obtain ⟨h1, h2⟩ := hf o o' ho
      obtain ⟨a, G⟩ := plG_of F C hg h1
      exact ⟨o, o', a, rfl, ho, G, fun u r => h _ _ _ _ _ (G.up o' u h2 r)⟩
/-- an expression first, at a known state -/
theorem CfgE.run_ev {E : XK} {D : Ends} {e : EV.E} {f : OV → EV.Env → EV.St → R Out} (C : CfgE V1 P w K T W H σ env st AS AE) (h : EndS V1 P w K E T D ((ev V1.cl V1.txt V1.call e env st).bind fun x st => f x env st)) :
    tE V1 P w K (wxE E) e σ H fun v H1 => ∃ W1 AS1 A ov st1, Got P w K V1.nm W H AS AE e ov st1 W1 H1 AS1 v A ∧ EndS V1 P w K E T D (f ov env st1) := by
  refine ⟨env, st, W, AS, AE, C.cfg, ?_⟩
  cases he : ev V1.cl V1.txt V1.call e env st with
  | bad => rw [he] at h; exact h
  | exc c ns vs st1 => rw [he] at h; exact EndS.exc C h
  | ok ov st1 =>
    rw [he] at h
    exact fun W1 H1 AS1 v A g => ⟨W1, AS1, A, ov, st1, g, h⟩
theorem CfgE.run_evs {E : XK} {D : Ends} {es : List EV.E} {f : List OV → EV.Env → EV.St → R Out} (C : CfgE V1 P w K T W H σ env st AS AE) (h : EndS V1 P w K E T D ((evs V1.cl V1.txt V1.call es env st).bind fun x st => f x env st)) :
    tL V1 P w K (wxE E) es σ H fun vs H1 => ∃ W1 AS1 B ovs st1, Gots P w K V1.nm W H AS AE es ovs st1 W1 H1 AS1 vs B ∧ EndS V1 P w K E T D (f ovs env st1) := by
  refine ⟨env, st, W, AS, AE, C.cfg, ?_⟩
  cases he : evs V1.cl V1.txt V1.call es env st with
  | bad => rw [he] at h; exact h
  | exc c ns vs st1 => rw [he] at h; exact EndS.exc C h
  | ok ov st1 =>
    rw [he] at h
    exact fun W1 H1 AS1 v A g => ⟨W1, AS1, A, ov, st1, g, h⟩
end
end EV

set_option Elab.async false
set_option linter.all false
set_option maxRecDepth 100000
set_option maxHeartbeats 1000000
/-! EV8c: statements that change an object. -/
namespace EV
open PySem PySem.Spec PyProof.Rows L2
section
variable {V1 : Env1} {X : Cx} {E : XK} {T : Ety} {pos apos cpos : Pos}
/-- a place in the text -/
def tPl (X : Cx) (nm : Nm) (p : Pl) : TE := fun σ H Q => ∃ a, PlRd X.K nm p σ H a ∧ Q (.ref a) H
structure PlText (V1 : Env1) (X : Cx) (p : Pl) (xp : Expr) : Prop where
  pe : PE X xp (tPl X V1.nm p)
  dot : dotOk xp = true
theorem plText_var {i : Nat} {y : Str} {p : Pos} (hi : X.N[i]? = some y) (hv : Vis X.env.scope y) (hd : (y == ("__debug__" : Str)) = false) (hcd : (y == ("__classdict__" : Str)) = false) : PlText V1 X (.var i) (.Name y p) :=
  ⟨PE.imp (pe_var hi hv hd hcd) fun σ H Q ⟨a, h, q⟩ => ⟨.ref a, h, q⟩, rfl⟩
theorem plText_fld (F : Facts V1.nm X.K) {i f : Nat} {y z : Str} {p p2 : Pos} (hi : X.N[i]? = some y) (hv : Vis X.env.scope y) (hd : (y == ("__debug__" : Str)) = false) (hcd : (y == ("__classdict__" : Str)) = false) (hz : V1.nm.fld f = z) : PlText V1 X (.fld i f) (.Attribute (.Name y p) z p2) := by
  subst hz
  refine ⟨PE.imp (pe_fld (pe_var hi hv hd hcd) (dot_base rfl X.env _)) fun σ H Q ⟨a, ⟨x, c, dx, fs, e1, e2, e3, e4, e5⟩, q⟩ => ?_, rfl⟩
  exact ⟨.ref x, e1, x, _, dx, fs, _, rfl, e2, F.cls c e3, F.noat c e3 f e4, e5, q⟩
/-- o.m(e, ..), m a built-in method -/
theorem pe_bmE {m : Str} {tyn id : String} {xp x : Expr} {xs : List Expr} {to : TE} {t : TA} {r : V → List V → Hp → VK → Prop} (pa : PlainAttrs tyn) (slot : Slot tyn m id) (hty : typeOf (.builtin id) = pure (.type "method_descriptor")) (hm : MtR X id r) (ho : PE X xp to) (hd : dotOk xp = true)
    (ha : PA X (x :: xs) t) (hs : (x :: xs).all noStar = true) (hn : (x :: xs).length < 20) (hl : (apos.endLine == cpos.line) = true) : PE X (.Call (.Attribute xp m apos) (x :: xs) [] cpos) (tBM X.K tyn r to t) := by
  have h1 := noStars_all X.env hs
  have hs2 := hs
  rw [List.all_cons, Bool.and_eq_true] at hs2
  have h3 := noStars_all X.env hs2.2
  refine pe_bm pa slot hty hm ho ha (dot_base hd X.env _) ?_ hl (starEach_cons hs2.1) ?_
  · rw [back_all h1, Bool.true_and]
    show (true && decide _) = true
    rw [Bool.true_and, decide_eq_true_eq]
    show (x :: xs).length + 0 + 0 < 30
    omega
  · have : ∀ l : List (Bool × Sem Value), l.all (!·.1) = true → l.any (·.1) = false := fun l => by
      induction l with
      | nil => intro _; rfl
      | cons a l ih =>
        intro h
        rw [List.all_cons, Bool.and_eq_true] at h
        rw [List.any_cons, ih h.2]
        simpa using h.1
    have h4 := back_all (pos := cpos) h3
    exact this _ h4
theorem plOk_inv {k : OV → Bool} {p : Pl} {env : EV.Env} {st : EV.St} {pu : Bool} (h : plOk k p env st pu = true) : ∃ o, getPl p env st = some o ∧ k o = true ∧ (pu || !viaFld p env) = true := by
  unfold plOk at h
  split at h
  · rename_i o hg
    rw [Bool.and_eq_true] at h
    exact ⟨o, hg, h.1, h.2⟩
  · cases h
theorem isOl_od {o : OV} (h : isOl o = true) : isOlOd o = true ∧ ∃ xs, o = .ol xs := by
  cases o with
  | ol xs => exact ⟨rfl, xs, rfl⟩
  | _ => cases h
theorem reps_own {P : Program} {w : World} {K : PySem.W.Frag} {nm : Nm} {W : Wd} {H : Hp} {a : Addr} {u : HO} {xs : List PV} {vs : List V} (k : Kp W W H (upd H a u)) (h : Reps P w K nm W H xs vs) : Reps P w K nm W (upd H a u) xs vs := Reps.keep k xs vs h
/-- what stands at the place is one's own -/
theorem PlG.kp {P : Program} {w : World} {K : PySem.W.Frag} {p : Pl} {W : Wd} {H : Hp} {σ : L2.St} {env : EV.Env} {st : EV.St} {AS AE : List Addr} {o : OV} {a : Addr} (G : PlG V1 P w K T p W H σ env st AS AE o a) (hf : ¬ W.F a ∧ ¬ W.L a) (u : HO) : Kp W W H (upd H a u) :=
  kp_own hf (RepO.there _ _ _ G.rep a (List.mem_singleton.mpr rfl))
end
section
variable {V1 : Env1} {P : Program} {w : World} {K : PySem.W.Frag} {T : Ety} {W W1 W' : Wd} {H H1 H' : Hp} {σ : L2.St} {env : EV.Env} {st st1 : EV.St} {AS AS1 AE : List Addr}
theorem plG_ff (F : Facts V1.nm K) {p : Pl} {o : OV} (C : CfgE V1 P w K T W H σ env st AS AE) (hg : getPl p env st = some o) (ho : isOlOd o = true) : ∃ a, PlG V1 P w K T p W H σ env st AS AE o a ∧ ¬ W.F a ∧ ¬ W.L a := by
  cases p with
  | var i =>
    have hg' := hg
    unfold getPl at hg
    simp only at hg
    obtain ⟨a, G⟩ := plG_var C hg' ho
    refine ⟨a, G, ?_⟩
    split at hg
    · rename_i k hk
      obtain ⟨v, A1, B, D, e1, e2, r⟩ := C.slot hk
      rw [RepO, Rep] at r
      obtain ⟨_, x, z1, z2⟩ := r
      have rd : σ[i]? = some (some (.ref a)) := G.rd
      rw [rd] at e1
      cases e1
      cases z2
      obtain ⟨x', A2, B2, D2, f1, f2, f3, _⟩ := C.cfg.str.at hg
      rw [z1] at f1
      cases f1
      obtain ⟨b, q1, q2⟩ := repO_one f3 ho
      cases q1
      exact C.cfg.ff a (List.mem_append_left _ (by rw [f2, q2]; simp))
    · obtain ⟨v, A1, B, D, e1, e2, r⟩ := C.slot hg
      have rd : σ[i]? = some (some (.ref a)) := G.rd
      rw [rd] at e1
      cases e1
      obtain ⟨b, q1, q2⟩ := repO_one r ho
      cases q1
      exact C.cfg.ff a (List.mem_append_right _ (by rw [e2, q2]; simp))
  | fld i f =>
    have hg' := hg
    unfold getPl at hg
    simp only at hg
    obtain ⟨a, G⟩ := plG_fld F C hg' ho
    refine ⟨a, G, ?_⟩
    obtain ⟨x, c, dx, fs, rd1, rd2, rd3, rd4, rd5⟩ := G.rd
    split at hg
    · rename_i c' ns vs hk
      obtain ⟨v, A1, B, D, e1, e2, r⟩ := C.slot hk
      rw [rd1] at e1
      cases e1
      obtain ⟨x', dx', fs', a', B', D', q1, q2, q3, q4, q5, q6, q7, q8⟩ := oiAt F r hg ho
      cases q1
      rw [rd2] at q2
      injection q2 with q2
      injection q2 with z1 z2 z3
      subst z3
      rw [rd5] at q5
      cases q5
      exact C.cfg.ff a (List.mem_append_right _ (by rw [e2, q7]; simp))
    · rename_i k hk
      split at hg
      · rename_i c' ns vs hst
        obtain ⟨v, A1, B, D, e1, e2, r⟩ := C.slot hk
        rw [rd1] at e1
        cases e1
        rw [RepO, Rep] at r
        obtain ⟨_, x', z1, z2⟩ := r
        cases z2
        obtain ⟨x', A2, B2, D2, f1, f2, f3, _⟩ := C.cfg.str.at hst
        rw [z1] at f1
        cases f1
        obtain ⟨x', dx', fs', a', B', D', q1, q2, q3, q4, q5, q6, q7, q8⟩ := oiAt F f3 hg ho
        cases q1
        rw [rd2] at q2
        injection q2 with q2
        injection q2 with z1 z2 z3
        subst z3
        rw [rd5] at q5
        cases q5
        exact C.cfg.ff a (List.mem_append_left _ (by rw [f2, q7]; simp))
      · cases hg
    · cases hg
theorem up_ff (F : Facts V1.nm K) {E : XK} {D : Ends} {p : Pl} {f : OV → Option OV} (C : CfgE V1 P w K T W H σ env st AS AE) (hf : ∀ o o', f o = some o' → isOlOd o = true ∧ o'.own = true) (h : EndS V1 P w K E T D (upPl p f env st)) :
    ∃ o o' a, getPl p env st = some o ∧ f o = some o' ∧ PlRd K V1.nm p σ H a ∧ RepO P w K V1.nm W H o (.ref a) [a] ∧ (∀ u, Kp W W H (upd H a u)) ∧ ∀ u, RepO P w K V1.nm W (upd H a u) o' (.ref a) [a] → D.nx σ (upd H a u) := by
  unfold upPl at h
  cases hg : getPl p env st with
  | none => rw [hg] at h; exact h.elim
  | some o =>
    rw [hg] at h
    simp only at h
    cases ho : f o with
    | none => rw [ho] at h; exact h.elim
    | some o' =>
      rw [ho] at h
      obtain ⟨h1, h2⟩ := hf o o' ho
      obtain ⟨a, G, hff⟩ := plG_ff F C hg h1
      exact ⟨o, o', a, rfl, ho, G.rd, G.rep, fun u => G.kp hff u, fun u r => h _ _ _ _ _ (G.up o' u h2 r)⟩
end
section
variable {V1 : Env1} {X : Cx} {E : XK} {T : Ety} {pos apos cpos : Pos}
theorem tL_intro1 {e : EV.E} {Z : WX} {σ : L2.St} {H : Hp} {Q : VK} {R' : List V → Hp → Prop} (h : tE V1 X.prog X.w X.K Z e σ H Q) (hR : ∀ v H, Q v H → R' [v] H) : tL V1 X.prog X.w X.K Z [e] σ H R' := by
  obtain ⟨env, st, W, AS, AE, C, h⟩ := h
  refine ⟨env, st, W, AS, AE, C, ?_⟩
  rw [evs]
  cases he : ev V1.cl V1.txt V1.call e env st with
  | bad => rw [he] at h; exact h
  | exc c ns vs st1 => rw [he] at h; exact h
  | ok ov st1 =>
    rw [he] at h
    simp only [EV.R.bind]
    rw [evs]
    have : (isFld e && ov.own && !pureEs []) = false := by simp [pureEs]
    rw [this]
    simp only [Bool.false_eq_true, if_false]
    intro W1 H1 AS1 vs B gs
    obtain ⟨ov', r, v, rv, A, B', e1, e2, h1, h2, h3, h4⟩ := gs.rep
    cases e1
    obtain ⟨_, e3, e4⟩ := h4
    subst e3
    subst e4
    rw [e2]
    rw [List.append_nil] at h3
    refine hR v H1 (h W1 H1 AS1 v A ⟨gs.ent, gs.str, gs.nd, gs.ff, gs.tr, h1, h2, fun hp => ?_, fun hp => gs.pu (by rw [pureEs, hp]; rfl)⟩)
    rw [hp] at h3
    simp only [Bool.false_eq_true, if_false] at h3
    rw [h3] at gs
    exact ⟨gs.ndB, gs.fr⟩
/-- o.append(e) -/
theorem ps_appE (F : Facts V1.nm X.K) {p : Pl} {e : EV.E} {xp xe : Expr} (hp : PlText V1 X p xp) (he : PE X xe (tE V1 X.prog X.w X.K (wxE E) e)) (hn : noStar xe = true) (hl : (apos.endLine == cpos.line) = true) :
    PS X (.Expr (.Call (.Attribute xp "append" apos) [xe] [] cpos) pos) (tS V1 X.prog X.w X.K E T (.app p e)) := by
  have ha : PA X [xe] (tL V1 X.prog X.w X.K (wxE E) [e]) := pa_of ⟨xe, [], rfl, hn, he, rfl⟩
  refine PS.imp (ps_expr (pe_bmE PySem.F.plainAttrs_list PySem.F.slot_list_append PySem.F.type_list_append mt_append hp.pe hp.dot ha (by rw [List.all_cons, hn]; rfl) (by simp) hl) rfl) fun D σ H h => ?_
  obtain ⟨env, st, W, AS, AE, C, h⟩ := h
  rw [exs] at h
  cases hk : plOk isOl p env st (pureE e) with
  | false => rw [hk] at h; exact h.elim
  | true =>
    rw [hk] at h
    simp only [Bool.not_true, Bool.false_eq_true, if_false] at h
    obtain ⟨o, hg, ho, hv⟩ := plOk_inv hk
    obtain ⟨ho1, xs0, ex0⟩ := isOl_od ho
    obtain ⟨a, G⟩ := plG_of F C hg ho1
    refine ⟨a, G.rd, ?_, ?_⟩
    · subst ex0
      have r := G.rep
      rw [RepO] at r
      obtain ⟨b, vs, e1, e2, e3, _⟩ := r
      cases e1
      exact .inl ⟨rfl, vs, .of e3⟩
    · have hrun := C.run_ev (f := fun x env st => (match EV.tak e x with
        | some v => upPl p (appV v) env st
        | none => .bad)) h
      refine tL_intro1 hrun ?_
      rintro v H1 ⟨W1, AS1, A, ov, st1, g, q⟩
      cases ht : EV.tak e ov with
      | none => simp only [ht] at q; exact q.elim
      | some x =>
        simp only [ht] at q
        obtain ⟨W2, C2, rx⟩ := C.tak g ht
        obtain ⟨o1, o', a1, hg1, hf1, rd1, rep1, kp1, nx⟩ := up_ff F C2 (fun o o' h => by
          unfold appV at h
          split at h
          · split at h
            · cases h; exact ⟨rfl, rfl⟩
            · cases h
          · cases h) q
        have ea : a = a1 := PlRd.same G.rd rd1 (viaFld_own C g.t hv (fun z => g.pu z) ⟨o, hg⟩)
        subst ea
        unfold appV at hf1
        split at hf1
        · rename_i xs
          split at hf1
          · rename_i hz
            cases hf1
            rw [RepO] at rep1
            obtain ⟨b, vs, e1, e2, e3, e4⟩ := rep1
            cases e1
            refine ⟨a, vs, v, rfl, rfl, e3, by rw [← e4.length, sizeLine_eq]; exact hz, nx _ ?_⟩
            rw [RepO]
            exact ⟨a, vs ++ [v], rfl, rfl, upd_same, Reps.append (Reps.keep (kp1 _) _ _ e4) (Reps.cons (Rep.keep (kp1 _) _ _ rx) Reps.nil)⟩
          · cases hf1
        · cases hf1
/-- o.extend(e) -/
theorem ps_extE (F : Facts V1.nm X.K) {p : Pl} {e : EV.E} {xp xe : Expr} (hp : PlText V1 X p xp) (he : PE X xe (tE V1 X.prog X.w X.K (wxE E) e)) (hn : noStar xe = true) (hl : (apos.endLine == cpos.line) = true) :
    PS X (.Expr (.Call (.Attribute xp "extend" apos) [xe] [] cpos) pos) (tS V1 X.prog X.w X.K E T (.ext p e)) := by
  have ha : PA X [xe] (tL V1 X.prog X.w X.K (wxE E) [e]) := pa_of ⟨xe, [], rfl, hn, he, rfl⟩
  refine PS.imp (ps_expr (pe_bmE PySem.F.plainAttrs_list PySem.F.slot_list_extend PySem.F.type_list_extend mt_extend hp.pe hp.dot ha (by rw [List.all_cons, hn]; rfl) (by simp) hl) rfl) fun D σ H h => ?_
  obtain ⟨env, st, W, AS, AE, C, h⟩ := h
  rw [exs] at h
  cases hk : plOk isOl p env st (pureE e) with
  | false => rw [hk] at h; exact h.elim
  | true =>
    rw [hk] at h
    simp only [Bool.not_true, Bool.false_eq_true, if_false] at h
    obtain ⟨o, hg, ho, hv⟩ := plOk_inv hk
    obtain ⟨ho1, xs0, ex0⟩ := isOl_od ho
    obtain ⟨a, G⟩ := plG_of F C hg ho1
    refine ⟨a, G.rd, ?_, ?_⟩
    · subst ex0
      have r := G.rep
      rw [RepO] at r
      obtain ⟨b, vs, e1, e2, e3, _⟩ := r
      cases e1
      exact .inl ⟨rfl, vs, .of e3⟩
    · have hrun := C.run_ev (f := fun x env st => (match EV.tak e x with
        | some (.lst _ ys) => upPl p (extV ys) env st
        | _ => .bad)) h
      refine tL_intro1 hrun ?_
      rintro v H1 ⟨W1, AS1, A, ov, st1, g, q⟩
      have hq : ∃ fl ys, EV.tak e ov = some (.lst fl ys) ∧ EndS V1 X.prog X.w X.K E T D (upPl p (extV ys) env st1) := by
        split at q
        · rename_i fl ys ht
          exact ⟨fl, ys, ht, q⟩
        · exact q.elim
      obtain ⟨fl, ys, ht, q⟩ := hq
      obtain ⟨W2, C2, rx⟩ := C.tak g ht
      obtain ⟨o1, o', a1, hg1, hf1, rd1, rep1, kp1, nx⟩ := up_ff F C2 (fun o o' h => by
        unfold extV at h
        split at h
        · split at h
          · cases h; exact ⟨rfl, rfl⟩
          · cases h
        · cases h) q
      have ea : a = a1 := PlRd.same G.rd rd1 (viaFld_own C g.t hv (fun z => g.pu z) ⟨o, hg⟩)
      subst ea
      rw [Rep] at rx
      obtain ⟨b, us, ev, _, hb, ru⟩ := rx
      subst ev
      unfold extV at hf1
      split at hf1
      · rename_i xs
        split at hf1
        · rename_i hz
          cases hf1
          rw [RepO] at rep1
          obtain ⟨b', vs, e1, e2, e3, e4⟩ := rep1
          cases e1
          refine ⟨a, b, vs, us, rfl, rfl, e3, hb, by rw [← e4.length, ← ru.length, sizeLine_eq]; exact hz, nx _ ?_⟩
          rw [RepO]
          exact ⟨a, vs ++ us, rfl, rfl, upd_same, Reps.append (Reps.keep (kp1 _) _ _ e4) (Reps.keep (kp1 _) _ _ ru)⟩
        · cases hf1
      · cases hf1
/-! ### o[k] = v -/
def tPutE (V1 : Env1) (X : Cx) : TSet := fun o i v H Q => rSetL o i v H Q ∨
  ∃ W a ks vs k x ks' vs', o = .ref a ∧ DictAt X.prog X.w X.K V1.nm W H a ks vs ∧ Rep X.prog X.w X.K V1.nm W H k i ∧ Rep X.prog X.w X.K V1.nm W H x v ∧ keyT k = true ∧ store k x ks vs = some (ks', vs') ∧ ks.length < cap ∧ (∃ u, H a = some u ∧ Mut (some u)) ∧ (∀ u, Kp W W H (upd H a u)) ∧
    ∀ u, DictAt X.prog X.w X.K V1.nm W (upd H a u) a ks' vs' → Q (upd H a u)
theorem storedH_len {xs : List (NestedKey × Addr × Value)} {κ : NestedKey} {ka : Addr} {v : Value} : (storedH xs κ ka v).length ≤ xs.length + 1 := by
  unfold storedH
  split
  · simp
  · simp
theorem storedH_mem {xs : List (NestedKey × Addr × Value)} {κ : NestedKey} {ka : Addr} {v : Value} : ∀ x ∈ storedH xs κ ka v, x.1 = κ ∨ ∃ y ∈ xs, x.1 = y.1 := by
  intro x hx
  unfold storedH at hx
  split at hx
  · obtain ⟨y, hy, e⟩ := List.mem_map.mp hx
    right
    refine ⟨y, hy, ?_⟩
    rw [← e]
    unfold putAt
    split <;> rfl
  · rcases List.mem_append.mp hx with q | q
    · exact .inr ⟨x, q, rfl⟩
    · left
      rw [List.mem_singleton.mp q]
theorem pset_E (hu : X.A.units + 9 < cLine) : PSet X (tPutE V1 X) := by
  intro pins s σ H o i v ov iv u Q I ro ri rv h
  rcases h with h | ⟨W, a, ks, vs, k, x, ks', vs', eo, hD, hk, hx, ht, hs, hz, hm, kp, q⟩
  · exact set_list pins s σ H o i v ov iv u Q I ro ri rv h
  · subst eo
    cases (show ov = Value.ref a from ro)
    have hlen : ks.length = vs.length := by
      rcases hD with ⟨xs, vvs, h1, h2, h3, h4, h5, h6⟩ | ⟨kvs, hne, h1, h2, h3⟩
      · have a1 := h4.length
        have a2 := h5.length
        have a3 := Paired.length h6
        simp only [List.length_map] at a1 a3
        omega
      · have a1 := h2.length
        have a2 := h3.length
        simp only [List.length_map] at a1 a2
        omega
    obtain ⟨ol, hl⟩ := store_look hs hlen
    obtain ⟨xs, vvs, h1, h2, h3, h4, h5, h6⟩ := dictT_at ht hl hD
    obtain ⟨hdd, hsys, hzz⟩ := dict_of I h1 h2 h3 h4
    obtain ⟨κ, ka, ek, ev, eu, his, hdp, hy⟩ := key_of I ht hk ri
    subst ev eu
    obtain ⟨vvs', w1, w2, w3, w4⟩ := store_ext ek hy hk hx rv ks vs xs vvs ks' vs' hs h2 (by
      obtain ⟨_, _, _, _, _, _, _, _, hn⟩ := hdd
      exact hn) h4 h5 h6
    refine wpAny_setItem_heap (hsz := hzz) (show (nestedKind X.prog X.w).room X.A.in1 from by show X.A.in1.units + 8 < cLine; show X.A.units + 1 + 8 < cLine; omega) his hdd fun h' dd' sb => ?_
    obtain ⟨q1, es, ep, hq1, hex, hdat, hes, hkeys, hn⟩ := dd'
    have hlen2 : (storedH xs κ ka u).length ≤ sizeLine := by
      have := storedH_len (xs := xs) (κ := κ) (ka := ka) (v := u)
      have a1 := h4.length
      simp only [List.length_map] at a1
      rw [sizeLine_eq]
      unfold cap at hz
      omega
    have new : ObjOk X.prog X.w (upd H a (dctO X.prog X.w a (storedH xs κ ka u))) h' a (dctO X.prog X.w a (storedH xs κ ka u)) := by
      refine ⟨⟨q1, es, ep, hq1, hex, hdat, hes, hn, hsys, hlen2⟩, ⟨q1, hq1⟩, fun h1 h2 p k => ?_⟩
      obtain ⟨o, es, ep, e1, e2⟩ := p
      exact ⟨o, es, ep, k o e1, e2⟩
    have hM : Mut (H a) := by
      obtain ⟨u0, e0, e1⟩ := hm
      rw [e0]
      exact e1
    refine ⟨_, d_write (t' := s.toks + (nestedKind X.prog X.w).draws κ) I hM sb ⟨q1, hq1⟩ new, q _ (.inl ⟨storedH xs κ ka u, vvs', upd_same, w1, fun y hy => ?_, Reps.keep (kp _) _ _ w2, Reps.keep (kp _) _ _ w3, w4⟩)⟩
    rcases storedH_mem y hy with e | ⟨z, hz, e⟩
    · rw [e]; exact hdp
    · rw [e]; exact h3 z hz
theorem place_ix {n : Nat} {i : Int} {j : Nat} (h : EV.place n i = some j) : ixN n i = some j := by
  unfold EV.place at h
  unfold ixN
  by_cases h0 : 0 ≤ i
  · rw [if_pos h0] at h ⊢
    by_cases h1 : i.toNat < n
    · rw [if_pos h1] at h
      rw [if_pos (show i < (n : Int) by omega)]
      exact h
    · rw [if_neg h1] at h
      cases h
  · rw [if_neg h0] at h ⊢
    by_cases h1 : 0 ≤ i + (n : Int)
    · rw [if_pos h1] at h
      rw [if_pos (show -(n : Int) ≤ i by omega)]
      exact h
    · rw [if_neg h1] at h
      cases h
theorem assign_ix {xo xk : Expr} {tpos : Pos} {env : PySem.Env} (h : ixOk xk = true) : ∀ v, assign (.Subscript xo xk tpos) env v = (do
      let ov ← holding [v] (eval xo env)
      let iv ← holding [v, ov] (eval xk env)
      standAt tpos
      holding [v, ov, iv] (setItem ov iv v)
      release [v, ov, iv] []) := by
  intro v
  cases xk <;> first
    | rfl
    | cases h
theorem ps_putE (F : Facts V1.nm X.K) {i : Nat} {ev ek : EV.E} {y : Str} {pn tpos : Pos} {xv xk : Expr} (hu : X.A.units + 9 < cLine) (hi : X.N[i]? = some y) (hvis : Vis X.env.scope y) (hd : (y == ("__debug__" : Str)) = false) (hcd : (y == ("__classdict__" : Str)) = false)
    (hv : PE X xv (tE V1 X.prog X.w X.K (wxE E) ev)) (hk : PE X xk (tE V1 X.prog X.w X.K (wxE E) ek)) (hx : ixOk xk = true) (hs : swapsWith xv (some (.Subscript (.Name y pn) xk tpos)) pos.line X.env = pure false) :
    PS X (.Assign [.Subscript (.Name y pn) xk tpos] xv pos) (tS V1 X.prog X.w X.K E T (.put (.var i) [ev, ek])) := by
  have hp := plText_var (V1 := V1) (X := X) (p := pn) hi hvis hd hcd
  have hix := plain_ix hx
  refine PS.imp (ps_asg hv (pg_sub hp.pe hk (pset_E (V1 := V1) hu) (assign_ix hx)) hs rfl rfl) fun D σ H h => ?_
  obtain ⟨env, st, W, AS, AE, C, h⟩ := h
  rw [exs] at h
  cases hko : plOk isOlOd (.var i) env st (pureEs (List.drop 1 [ev, ek])) with
  | false => rw [hko] at h; exact h.elim
  | true =>
  rw [hko] at h
  simp only [Bool.not_true, Bool.false_eq_true, if_false] at h
  obtain ⟨o0, hg0, ho0, _⟩ := plOk_inv hko
  obtain ⟨a0, G0⟩ := plG_var C hg0 ho0
  have hrun := C.run_evs (f := fun ovs env st => (match taks [ev, ek] ovs with
    | some [x, k] => upPl (.var i) (putV k x) env st
    | _ => .bad)) h
  refine tE_mono (fun xval H1 hh => ⟨a0, G0.rd, tE_mono (fun yv H2 hz => ?_) hh⟩) (tL_two hrun)
  obtain ⟨W1, AS1, B, ovs, st1, gs, q⟩ := hz
  have hq : ∃ x k, taks [ev, ek] ovs = some [x, k] ∧ EndS V1 X.prog X.w X.K E T D (upPl (.var i) (putV k x) env st1) := by
    split at q
    · rename_i x k ht
      exact ⟨x, k, ht, q⟩
    · exact q.elim
  obtain ⟨x, k, ht, q⟩ := hq
  obtain ⟨W2, C2, rr⟩ := C.taks gs ht
  obtain ⟨v1, r1, e1, rx, r2⟩ := rr.uncons
  cases e1
  obtain ⟨v2, r3, e2, rk, r4⟩ := r2.uncons
  cases e2
  obtain ⟨o1, o', a1, hg1, hf1, rd1, rep1, kp1, nx⟩ := up_ff F C2 (fun o o' h => by
    unfold putV at h
    split at h
    · split at h
      · obtain ⟨n, hn, e⟩ := Option.map_eq_some_iff.mp h
        subst e
        exact ⟨rfl, rfl⟩
      · cases h
    · split at h
      · obtain ⟨n, hn, e⟩ := Option.map_eq_some_iff.mp h
        subst e
        exact ⟨rfl, rfl⟩
      · cases h
    · cases h) q
  have ea : a0 = a1 := PlRd.same (H1 := H2) G0.rd rd1 (fun i f e => by cases e)
  subst ea
  unfold putV at hf1
  split at hf1
  · rename_i xs
    split at hf1
    · rename_i j
      obtain ⟨n, hn, e⟩ := Option.map_eq_some_iff.mp hf1
      subst e
      rw [RepO] at rep1
      obtain ⟨b, vs, e1, e2, e3, e4⟩ := rep1
      cases e1
      have ek : yv = .int j := by rw [Rep] at rk; exact rk
      subst ek
      left
      refine ⟨a0, vs, j, n, rfl, rfl, e3, by rw [← e4.length]; exact place_ix hn, nx _ ?_⟩
      rw [RepO]
      exact ⟨a0, vs.set n xval, rfl, rfl, upd_same, Reps.set n (Reps.keep (kp1 _) _ _ e4) (Rep.keep (kp1 _) _ _ rx)⟩
    · cases hf1
  · rename_i ks vs
    split at hf1
    · rename_i hc
      obtain ⟨p, hp', e⟩ := Option.map_eq_some_iff.mp hf1
      subst e
      rw [Bool.and_eq_true, decide_eq_true_eq] at hc
      rw [RepO] at rep1
      obtain ⟨b, e1, e2, e3⟩ := rep1
      cases e1
      right
      refine ⟨W2, a0, ks, vs, k, x, p.1, p.2, rfl, e3, rk, rx, hc.1, by rw [hp'], hc.2, ?_, kp1, fun u hD => nx u ?_⟩
      · rcases e3 with ⟨xs, vvs, h1, _⟩ | ⟨kvs, hne, h1, _⟩
        · exact ⟨_, h1, trivial⟩
        · exact ⟨_, h1, trivial⟩
      · rw [RepO]
        exact ⟨a0, rfl, rfl, hD⟩
    · cases hf1
  · cases hf1
end
end EV

set_option Elab.async false
set_option linter.all false
set_option maxRecDepth 100000
set_option maxHeartbeats 1000000
/-! EV8d: o.f = e; several names at once. -/
namespace EV
open PySem PySem.Spec PyProof.Rows L2
theorem setN_new {α : Type} {f : Nat} {x : α} : ∀ {ns : List Nat} {vs : List α}, assocN f ns vs = none → ns.length = vs.length → setN f x ns vs = (ns ++ [f], vs ++ [x])
  | [], [], _, _ => rfl
  | [], _ :: _, _, h => by simp at h
  | _ :: _, [], _, h => by simp at h
  | n :: ns, v :: vs, ha, h => by
    rw [assocN] at ha
    by_cases hn : n = f
    · rw [if_pos hn] at ha
      cases ha
    · rw [if_neg hn] at ha
      rw [setN, if_neg hn, setN_new ha (by simpa using h)]
      rfl
theorem putF_new {nm : Nm} {f : Nat} {y : V} : ∀ {ns : List Nat} {fs : List (Str × V)}, fs.map (·.1) = ns.map nm.fld → (∀ n ∈ ns, nm.fld n ≠ nm.fld f) → putF (nm.fld f) y fs = fs ++ [(nm.fld f, y)]
  | [], fs, h, _ => by
    have : fs = [] := by simpa using h
    rw [this]
    rfl
  | n :: ns, fs, h, hn => by
    cases fs with
    | nil => simp at h
    | cons p fs =>
      obtain ⟨g, x⟩ := p
      rw [List.map_cons, List.map_cons] at h
      injection h with e1 e2
      simp only at e1
      rw [putF, if_neg (by rw [e1]; exact hn n List.mem_cons_self), putF_new e2 fun m hm => hn m (List.mem_cons_of_mem _ hm)]
      rfl
theorem assocN_none {α : Type} {f : Nat} : ∀ {ns : List Nat} {vs : List α}, assocN f ns vs = none → ns.length = vs.length → f ∉ ns
  | [], _, _, _ => by simp
  | _ :: _, [], _, h => by simp at h
  | n :: ns, v :: vs, ha, h => by
    rw [assocN] at ha
    by_cases hn : n = f
    · rw [if_pos hn] at ha
      cases ha
    · rw [if_neg hn] at ha
      intro hm
      rcases List.mem_cons.mp hm with e | e
      · exact hn e.symm
      · exact assocN_none ha (by simpa using h) e
section
variable {P : Program} {w : World} {K : PySem.W.Frag} {nm : Nm} {W W' : Wd} {H H' : Hp}
theorem RepOs.length : ∀ {xs : List OV} {vs : List V} {A : List Addr}, RepOs P w K nm W H xs vs A → xs.length = vs.length
  | [], _, _, h => by
    rw [RepOs] at h
    rw [h.1]
    rfl
  | x :: xs, vs, A, h => by
    rw [RepOs] at h
    obtain ⟨v, r, A1, A2, e, _, _, h2⟩ := h
    rw [e, List.length_cons, List.length_cons, RepOs.length h2]
theorem RepOs.snoc {o : OV} {u : V} {A1 : List Addr} (ho : RepO P w K nm W H o u A1) : ∀ {xs : List OV} {vs : List V} {A : List Addr}, RepOs P w K nm W H xs vs A → RepOs P w K nm W H (xs ++ [o]) (vs ++ [u]) (A ++ A1)
  | [], vs, A, h => by
    rw [RepOs] at h
    rw [h.1, h.2]
    show RepOs P w K nm W H [o] [u] A1
    rw [RepOs]
    exact ⟨u, [], A1, [], rfl, by simp, ho, by rw [RepOs]; exact ⟨rfl, rfl⟩⟩
  | x :: xs, vs, A, h => by
    rw [RepOs] at h
    obtain ⟨v, r, B1, B2, e, eA, h1, h2⟩ := h
    rw [e, eA]
    show RepOs P w K nm W H (x :: (xs ++ [o])) (v :: (r ++ [u])) _
    rw [RepOs]
    exact ⟨v, _, B1, B2 ++ A1, rfl, by rw [List.append_assoc], h1, RepOs.snoc ho h2⟩
end
section
variable {V1 : Env1} {X : Cx} {E : XK} {T : Ety} {pos apos cpos : Pos}
/-- self.f = e, in __init__ -/
theorem ps_sfldE (F : Facts V1.nm X.K) {i f : Nat} {e : EV.E} {y z : Str} {pn tpos : Pos} {xe : Expr} (hi : X.N[i]? = some y) (hvis : Vis X.env.scope y) (hd : (y == ("__debug__" : Str)) = false) (hcd : (y == ("__classdict__" : Str)) = false)
    (he : PE X xe (tE V1 X.prog X.w X.K (wxE E) e)) (hf : f ∈ V1.nm.fs) (hz : V1.nm.fld f = z) (hs : swapsWith xe (some (.Attribute (.Name y pn) z tpos)) pos.line X.env = pure false) :
    PS X (.Assign [.Attribute (.Name y pn) z tpos] xe pos) (tS V1 X.prog X.w X.K E T (.sfld i f e)) := by
  subst hz
  refine PS.imp (ps_fld (pe_var hi hvis hd hcd) he hs) fun D σ H h => ?_
  refine tE_mono ?_ (tSt_ev h (f := fun x env st => if isPl e && x.own then .bad else (match env[i]?.join with
    | some (.oi c ns vs) => if (assocN f ns vs).isSome || !decide (ns.length < 100) then .bad else .ok (.next (env.set i (some (.oi c (setN f x ns vs).1 (setN f x ns vs).2)))) st
    | _ => .bad)) fun env st => by rw [exs] <;> rfl)
  rintro v H1 ⟨env, W, AS, AE, st, W1, AS1, A, ov, st1, C, g, q⟩
  cases hp : (isPl e && ov.own) with
  | true => rw [hp] at q; exact q.elim
  | false =>
    rw [hp] at q
    simp only [Bool.false_eq_true, if_false] at q
    have C1 := C.after g.t
    have hq : ∃ c ns vs, env[i]?.join = some (.oi c ns vs) ∧ assocN f ns vs = none ∧ ns.length < 100 ∧ EndS V1 X.prog X.w X.K E T D (.ok (.next (env.set i (some (.oi c (setN f ov ns vs).1 (setN f ov ns vs).2)))) st1) := by
      split at q
      · rename_i c ns vs hk
        split at q
        · exact q.elim
        · rename_i hc
          rw [Bool.or_eq_true, not_or] at hc
          refine ⟨c, ns, vs, hk, ?_, by simpa using hc.2, q⟩
          cases ha : assocN f ns vs with
          | none => rfl
          | some x => rw [ha] at hc; exact absurd rfl hc.1
      · exact q.elim
    obtain ⟨c, ns, vs, hk, hno, hlen, q⟩ := hq
    have hil : i < env.length := by
      rcases Nat.lt_or_ge i env.length with q | q
      · exact q
      · rw [List.getElem?_eq_none q] at hk
        cases hk
    obtain ⟨y0, A1, B1, D1, e1, e2, e3, e4⟩ := C1.cfg.env.atK hil
    rw [hk] at e3
    cases y0 with
    | none => exact False.elim e3
    | some sv =>
      have e3' : RepO X.prog X.w X.K V1.nm W1 H1 (.oi c ns vs) sv A1 := e3
      rw [RepO] at e3'
      obtain ⟨a, dx, fs, B, q1, q2, q3, ⟨q4, q5, q6⟩, q7⟩ := e3'
      subst q1
      have hvl : ns.length = vs.length := by
        have a1 := congrArg List.length q6
        have a2 := q7.length
        simp only [List.length_map] at a1 a2
        omega
      have hfl : fs.length = ns.length := by
        have a1 := congrArg List.length q6
        simpa using a1
      have hnot := assocN_none hno hvl
      refine ⟨.ref a, e1, a, _, dx, fs, rfl, q3, F.cls c q4, F.noat c q4 f hf, by omega, ?_⟩
      have hput : putF (V1.nm.fld f) v fs = fs ++ [(V1.nm.fld f, v)] := putF_new q6 fun n hn e => hnot (by
        have := F.inj n (q5 n hn) f hf e
        rw [← this]
        exact hn)
      rw [hput]
      rw [setN_new hno hvl] at q
      have haE : a ∈ AE := by rw [e2, q2]; simp
      have hff := C1.cfg.ff a (List.mem_append_right _ haE)
      have hm := C1.cfg.env.there a haE
      have kp := kp_own (u := .ins (ca X.K V1.nm c) dx (fs ++ [(V1.nm.fld f, v)])) hff hm
      obtain ⟨n1, n2, n3⟩ := List.nodup_append.mp C1.cfg.nd
      have n2' := n2
      rw [e2] at n2'
      obtain ⟨m1, m2, m3⟩ := List.nodup_append.mp n2'
      obtain ⟨k1, k2, k3⟩ := List.nodup_append.mp m2
      have k1' := k1
      rw [q2] at k1'
      have hka := List.nodup_cons.mp k1'
      -- what is new
      have hA : A.Nodup ∧ ∀ b ∈ A, H b = none ∧ ¬ W1.F b ∧ ¬ W1.L b ∧ b ∉ AS1 := by
        cases ho : ov.own with
        | false =>
          cases ov with
          | sh x =>
            have r := g.rep
            rw [RepO] at r
            rw [r.1]
            exact ⟨List.nodup_nil, fun _ h => (List.not_mem_nil h).elim⟩
          | _ => cases ho
        | true =>
          exact g.fr (by rw [ho, Bool.and_true] at hp; exact hp)
      have hAE : ∀ b ∈ A, b ∉ AE := fun b hb z => C.cfg.live b (List.mem_append_right _ z) (hA.2 b hb).1
      have haA : a ∉ A := fun z => hAE a z haE
      have ex : σ.set i (some (.ref a)) = σ := by
        obtain ⟨hl, hv'⟩ := List.getElem?_eq_some_iff.mp e1
        rw [← hv']
        exact List.set_getElem_self hl
      have hne : ∀ b, b ≠ a → ∀ u, H1 b = some u → upd H1 a (.ins (ca X.K V1.nm c) dx (fs ++ [(V1.nm.fld f, v)])) b = some u := fun b hb u q => by rw [upd_ne hb]; exact q
      have hrep : RepO X.prog X.w X.K V1.nm W1 (upd H1 a (.ins (ca X.K V1.nm c) dx (fs ++ [(V1.nm.fld f, v)]))) (.oi c (ns ++ [f]) (vs ++ [ov])) (.ref a) (A1 ++ A) := by
        rw [RepO]
        refine ⟨a, dx, _, B ++ A, rfl, by rw [q2]; rfl, upd_same, ⟨q4, fun n hn => ?_, ?_⟩, ?_⟩
        · rcases List.mem_append.mp hn with z | z
          · exact q5 n z
          · rw [List.mem_singleton.mp z]; exact hf
        · rw [List.map_append, List.map_append, q6]
          rfl
        · rw [List.map_append]
          refine RepOs.snoc (RepO.keep kp ov v A (fun b hb => hne b fun z => haA (z ▸ hb)) g.rep) (RepOs.keep kp vs _ B (fun b hb => hne b fun z => hka.1 (z ▸ hb)) q7)
      have hE := e4 W1 _ (some (.oi c (ns ++ [f]) (vs ++ [ov]))) (some (.ref a)) (A1 ++ A) kp (fun b hb => hne b fun z => by
        subst z
        rcases List.mem_append.mp hb with w1 | w1
        · exact m3 b w1 b (List.mem_append_left _ (by rw [q2]; simp)) rfl
        · exact k3 b (by rw [q2]; simp) b w1 rfl) hrep
      rw [ex] at hE
      have sub : ∀ b, b ∈ B1 ++ ((A1 ++ A) ++ D1) → b ∈ AE ∨ b ∈ A := fun b hb => by
        rw [e2]
        simp only [List.mem_append] at hb ⊢
        rcases hb with z | (z | z) | z
        · exact .inl (.inl z)
        · exact .inl (.inr (.inl z))
        · exact .inr z
        · exact .inl (.inr (.inr z))
      refine q σ W1 _ AS1 (B1 ++ ((A1 ++ A) ++ D1)) ⟨⟨hE, C1.cfg.str.keep kp fun b hb => hne b fun z => n3 b hb a haE z, ?_, fun b hb => ?_, tr_upd C1.cfg.tr⟩, C1.ent.own (.inr (C1.own a haE)), fun b hb => ?_, C1.x0, T.cl C1.ph kp⟩
      · refine List.nodup_append.mpr ⟨n1, List.nodup_append.mpr ⟨m1, List.nodup_append.mpr ⟨List.nodup_append.mpr ⟨k1, hA.1, fun b hb b' hb' z => ?_⟩, k2, fun b hb b' hb' z => ?_⟩, fun b hb b' hb' z => ?_⟩, fun b hb b' hb' z => ?_⟩
        · subst z
          exact hAE b hb' (by rw [e2]; exact mem_mid hb)
        · subst z
          rcases List.mem_append.mp hb with w1 | w1
          · exact k3 b w1 b hb' rfl
          · exact hAE b w1 (by rw [e2]; exact List.mem_append_right _ (List.mem_append_right _ hb'))
        · subst z
          rcases List.mem_append.mp hb' with w1 | w1
          · rcases List.mem_append.mp w1 with w1 | w1
            · exact m3 b hb b (List.mem_append_left _ w1) rfl
            · exact hAE b w1 (by rw [e2]; exact List.mem_append_left _ hb)
          · exact m3 b hb b (List.mem_append_right _ w1) rfl
        · subst z
          rcases sub b hb' with w1 | w1
          · exact n3 b hb b w1 rfl
          · exact (hA.2 b w1).2.2.2 hb
      · rcases List.mem_append.mp hb with z | z
        · exact C1.cfg.ff b (List.mem_append_left _ z)
        · rcases sub b z with w1 | w1
          · exact C1.cfg.ff b (List.mem_append_right _ w1)
          · exact ⟨(hA.2 b w1).2.1, (hA.2 b w1).2.2.1⟩
      · rcases sub b hb with w1 | w1
        · exact C1.own b w1
        · cases hq : T.H0 b with
          | none => rfl
          | some o => exact absurd (hA.2 b w1).1 (C.ent.live b (by rw [hq]; simp))
/-! ### a, b = e -/
def gNs : List Nat → TGs
  | [] => gNil
  | i :: is => gCons (gName i) (gNs is)
theorem gNs_bind {P : Program} {w : World} {K : PySem.W.Frag} {D : Ends} {W : Wd} {H : Hp} {st : EV.St} {AS : List Addr} (h0 : T.fx ≠ none → 0 ∉ ([] : List Nat)) : ∀ {is : List Nat} {xs : List PV} {vs : List V} {σ : L2.St} {env env' : EV.Env} {AE : List Addr}, (T.fx ≠ none → 0 ∉ is) → CfgE V1 P w K T W H σ env st AS AE → bindMany is xs env = some env' → Reps P w K V1.nm W H xs vs →
    (∀ σ' AE', CfgE V1 P w K T W H σ' env' st AS AE' → D.nx σ' H) → gNs is vs σ H D.nx
  | [], xs, vs, σ, env, env', AE, hz, C, hb, hr, hq => by
    cases xs with
    | nil =>
      rw [bindMany] at hb
      cases hb
      exact ⟨hr.nil_inv, hq σ AE C⟩
    | cons x xs => simp [bindMany] at hb
  | i :: is, xs, vs, σ, env, env', AE, hz, C, hb, hr, hq => by
    cases xs with
    | nil => simp [bindMany] at hb
    | cons x xs =>
      rw [bindMany] at hb
      obtain ⟨v, r, e, r1, r2⟩ := hr.uncons
      subst e
      obtain ⟨AE', C'⟩ := C.setSh (i := i) r1 fun q e => hz q (by rw [e]; exact List.mem_cons_self)
      exact ⟨v, r, rfl, gNs_bind h0 (fun q z => hz q (List.mem_cons_of_mem _ z)) C' hb r2 hq⟩
/-- the names in the text -/
def NamesT (X : Cx) : List Nat → List Expr → Prop
  | [], xs => xs = []
  | i :: is, xs => ∃ y p r, xs = .Name y p :: r ∧ X.N[i]? = some y ∧ Loc X.env.scope y ∧ (X.fn y = true ∨ X.env.scope.names.lookup y = some .local) ∧ NamesT X is r
theorem pgs_names (hN : X.N.Nodup) : ∀ {is : List Nat} {xs : List Expr}, NamesT X is xs → PGs X xs (gNs is)
  | [], xs, h => by
    rw [show xs = [] from h]
    exact pgs_nil
  | i :: is, xs, h => by
    obtain ⟨y, p, r, e, h1, h2, h3, h4⟩ := h
    subst e
    exact pgs_cons (pg_name hN h1 h2 h3) (pgs_names hN h4) rfl
theorem names_each : ∀ {is : List Nat} {xs : List Expr}, NamesT X is xs → (assignEach xs X.env).length = is.length ∧ (assignEach xs X.env).findIdx? (·.1) = none
  | [], xs, h => by
    rw [show xs = [] from h]
    exact ⟨rfl, rfl⟩
  | i :: is, xs, h => by
    obtain ⟨y, p, r, e, h1, h2, h3, h4⟩ := h
    subst e
    obtain ⟨q1, q2⟩ := names_each h4
    have e2 : assignEach (.Name y p :: r) X.env = (false, assign (.Name y p) X.env) :: assignEach r X.env := rfl
    rw [e2]
    refine ⟨by rw [List.length_cons, q1]; rfl, ?_⟩
    rw [List.findIdx?_cons]
    simp [q2]
def notTup : Expr → Bool
  | .Tuple .. => false
  | _ => true
theorem sw_none {ts : List Expr} {k : Nat} {p : Pos} {e : Expr} {env : PySem.Env} (h : notTup e = true) : swappedStores [.Tuple ts k p] e env = pure none := by
  cases e <;> first
    | rfl
    | cases h
theorem sws_tup {ts : List Expr} {k l : Nat} {p : Pos} {e : Expr} {env : PySem.Env} : swapsWithSole [.Tuple ts k p] e l env = pure false := by
  cases e <;> rfl
theorem gNs_tup {D : Ends} {σ : L2.St} {H : Hp} {p : Addr} {vs : List V} {is : List Nat} {n : Nat} (hn : is.length = n) (hl : vs.length = n) (hp : H p = some (.tup vs)) (h : gNs is vs σ H D.nx) : gTup X.K n (gNs is) (.ref p) σ H D.nx :=
  ⟨p, vs, rfl, .of hp, hl, h⟩
theorem bindMany_len : ∀ {is : List Nat} {xs : List PV} {env env' : EV.Env}, bindMany is xs env = some env' → is.length = xs.length
  | [], [], _, _, _ => rfl
  | [], _ :: _, _, _, h => by simp [bindMany] at h
  | _ :: _, [], _, _, h => by simp [bindMany] at h
  | _ :: is, _ :: xs, _, _, h => by
    rw [bindMany] at h
    rw [List.length_cons, List.length_cons, bindMany_len h]
theorem ps_setTE (hc : X.calm = true) (hN : X.N.Nodup) {is : List Nat} {e : EV.E} {xs : List Expr} {k : Nat} {tp : Pos} {xe : Expr} (hn : NamesT X is xs) (he : PE X xe (tE V1 X.prog X.w X.K (wxE E) e)) (ht : notTup xe = true) (h0 : T.fx ≠ none → 0 ∉ is) :
    PS X (.Assign [.Tuple xs k tp] xe pos) (tS V1 X.prog X.w X.K E T (.setT is e)) := by
  obtain ⟨n1, n2⟩ := names_each hn
  refine PS.imp (ps_asg he (pg_tup hc (pgs_names hN hn) n1 n2) sws_tup (sw_none ht) rfl) fun D σ H h => ?_
  refine tE_mono ?_ (tSt_ev h (f := fun x env st => (match EV.tak e x with
    | some (.tup vs) => lift ((bindMany is vs env).map .next) st
    | _ => .bad)) fun env st => by rw [exs] <;> rfl)
  rintro v H1 ⟨env, W, AS, AE, st, W1, AS1, A, ov, st1, C, g, q⟩
  have hq : ∃ xs env', EV.tak e ov = some (.tup xs) ∧ bindMany is xs env = some env' ∧ EndS V1 X.prog X.w X.K E T D (.ok (.next env') st1) := by
    split at q
    · rename_i xs hk
      unfold lift at q
      cases hb : bindMany is xs env with
      | none => rw [hb] at q; exact q.elim
      | some env' =>
        rw [hb] at q
        exact ⟨xs, env', hk, hb, q⟩
    · exact q.elim
  obtain ⟨xs, env', hk, hb, q⟩ := hq
  obtain ⟨W2, C2, r⟩ := C.tak g hk
  rw [Rep] at r
  obtain ⟨a, vs, ev, ha, hr⟩ := r
  subst ev
  refine gNs_tup rfl (by rw [← hr.length, bindMany_len hb]) ha ?_
  exact gNs_bind (fun _ h => (List.not_mem_nil h).elim) h0 C2 hb hr fun σ' AE' C' => q _ _ _ _ _ C'
theorem RepEs.keepW {P : Program} {w : World} {K : PySem.W.Frag} {nm : Nm} {W : Wd} {H : Hp} {AE A : List Addr} : ∀ {es : List EV.E} {ovs : List OV} {vs : List V} {B : List Addr}, RepEs P w K nm W H AE es ovs vs B → RepEs P w K nm (W.fz A) H AE es ovs vs B
  | [], _, _, _, h => h
  | e :: es, ovs, vs, B, h => by
    obtain ⟨ov, r, v, rv, A', B', e1, e2, h1, h2, h3, h4⟩ := h
    exact ⟨ov, r, v, rv, A', B', e1, e2, RepO.keep (Kp.to_fz A) _ _ _ (fun _ _ _ h => h) h1, h2, h3, RepEs.keepW h4⟩
theorem tL_mono {es : List EV.E} {Z : WX} {σ : L2.St} {H : Hp} {Q Q' : List V → Hp → Prop} (i : ∀ vs H, Q vs H → Q' vs H) (h : tL V1 X.prog X.w X.K Z es σ H Q) : tL V1 X.prog X.w X.K Z es σ H Q' := by
  obtain ⟨env, st, W, AS, AE, C, h⟩ := h
  refine ⟨env, st, W, AS, AE, C, ?_⟩
  cases he : evs V1.cl V1.txt V1.call es env st with
  | bad => rw [he] at h; exact h
  | exc c ns vs st1 => rw [he] at h; exact h
  | ok ov st1 =>
    rw [he] at h
    exact fun W1 H1 AS1 vs B gs => i _ _ (h W1 H1 AS1 vs B gs)
/-! ### a, b = x, y -/
def setV : List Nat → List V → L2.St → L2.St
  | i :: is, v :: vs, σ => setV is vs (σ.set i (some v))
  | _, _, σ => σ
theorem setMany_ok {P : Program} {w : World} {K : PySem.W.Frag} {H : Hp} {st : EV.St} {AS AE0 : List Addr} : ∀ {is : List Nat} {zs : List Bool} {es : List EV.E} {ovs : List OV} {env env' : EV.Env} {vs : List V} {B : List Addr} {σ : L2.St} {W : Wd} {AE : List Addr}, (T.fx ≠ none → 0 ∉ is) →
    CfgE V1 P w K T W H σ env st AS AE → RepEs P w K V1.nm W H AE0 es ovs vs B → B.Nodup → (∀ a ∈ B, a ∉ AS ∧ a ∉ AE ∧ ¬ W.F a ∧ ¬ W.L a ∧ T.H0 a = none) → setMany is zs es ovs env = some env' → ∃ W' AE', CfgE V1 P w K T W' H (setV is vs σ) env' st AS AE'
  | [], zs, es, ovs, env, env', vs, B, σ, W, AE, h0, C, hr, hB, hf, hs => by
    cases zs with
    | nil =>
      cases es with
      | nil =>
        cases ovs with
        | nil =>
          rw [setMany] at hs
          cases hs
          exact ⟨W, AE, C⟩
        | cons _ _ => simp [setMany] at hs
      | cons _ _ => simp [setMany] at hs
    | cons _ _ => simp [setMany] at hs
  | i :: is, zs, es, ovs, env, env', vs, B, σ, W, AE, h0, C, hr, hB, hf, hs => by
    cases zs with
    | nil => simp [setMany] at hs
    | cons z zs =>
      cases es with
      | nil => simp [setMany] at hs
      | cons e es =>
        cases ovs with
        | nil => simp [setMany] at hs
        | cons ov ovs =>
          obtain ⟨ov', r, v, rv, A, B', e1, e2, h1, h2, h3, h4⟩ := hr
          cases e1
          subst e2
          show ∃ W' AE', CfgE V1 P w K T W' H (setV is rv (σ.set i (some v))) env' st AS AE'
          have hi0 : T.fx ≠ none → i ≠ 0 := fun q e => h0 q (by rw [e]; exact List.mem_cons_self)
          have hi1 : T.fx ≠ none → 0 ∉ is := fun q z => h0 q (List.mem_cons_of_mem _ z)
          have hB' : B'.Nodup ∧ ∀ a ∈ B', a ∈ B := by
            rw [h3] at hB ⊢
            split at hB
            · rename_i hp
              rw [if_pos hp]
              exact ⟨hB, fun _ h => h⟩
            · rename_i hp
              rw [if_neg hp]
              exact ⟨(List.nodup_append.mp hB).2.1, fun a h => List.mem_append_right _ h⟩
          cases z with
          | true =>
            rw [setMany] at hs
            cases ht : EV.tak e ov with
            | none => rw [ht] at hs; cases hs
            | some x =>
              rw [ht] at hs
              cases ho : ov.own with
              | false =>
                cases ov with
                | sh y =>
                  cases ht
                  rw [RepO] at h1
                  obtain ⟨AE', C', sub⟩ := C.setS (i := i) (o := some (.sh x)) (y := some v) (A2 := []) (show RepO P w K V1.nm W H (.sh x) v [] by rw [RepO]; exact ⟨rfl, h1.2⟩) List.nodup_nil (fun _ h => (List.not_mem_nil h).elim) hi0
                  refine setMany_ok hi1 C' h4 hB'.1 (fun a ha => ?_) hs
                  obtain ⟨q1, q2, q3, q4, q5⟩ := hf a (hB'.2 a ha)
                  exact ⟨q1, fun z => (sub a z).elim (fun h => (List.not_mem_nil h).elim) q2, q3, q4, q5⟩
                | _ => cases ho
              | true =>
                have hp : isPl e = false := by
                  cases hp : isPl e with
                  | false => rfl
                  | true =>
                    cases ov with
                    | sh y => cases ho
                    | _ => simp [EV.tak, hp] at ht
                have ex : x = ov.freeze := by
                  cases ov with
                  | sh y => cases ho
                  | _ =>
                    simp [EV.tak, hp] at ht
                    exact ht.symm
                subst ex
                rw [hp] at h3
                simp only [Bool.false_eq_true, if_false] at h3
                subst h3
                obtain ⟨d1, d2, d3⟩ := List.nodup_append.mp hB
                have C2 := C.fzN (A2 := A) fun a ha => by
                  obtain ⟨q1, q2, q3, q4, q5⟩ := hf a (List.mem_append_left _ ha)
                  obtain ⟨o, ho, _⟩ := RepO.there _ _ _ h1 a ha
                  exact ⟨q1, q2, q5, by rw [ho]; simp⟩
                have r2 : Rep P w K V1.nm (W.fz A) H ov.freeze v := RepO.freeze ov v A (fun _ h => .inl h) (fun _ h => h) (fun _ _ h => h) (fun a ha => .inr ha) h1
                obtain ⟨AE', C', sub⟩ := C2.setS (i := i) (o := some (.sh ov.freeze)) (y := some v) (A2 := []) (show RepO P w K V1.nm (W.fz A) H (.sh ov.freeze) v [] by rw [RepO]; exact ⟨rfl, r2⟩) List.nodup_nil (fun _ h => (List.not_mem_nil h).elim) hi0
                refine setMany_ok hi1 C' (RepEs.keepW h4) hB'.1 (fun a ha => ?_) hs
                obtain ⟨q1, q2, q3, q4, q5⟩ := hf a (hB'.2 a ha)
                exact ⟨q1, fun z => (sub a z).elim (fun h => (List.not_mem_nil h).elim) q2, fun z => z.elim q3 fun z => d3 a z a ha rfl, q4, q5⟩
          | false =>
            rw [setMany] at hs
            cases hp : (isPl e && ov.own) with
            | true => rw [hp] at hs; simp at hs
            | false =>
              rw [hp] at hs
              simp only [Bool.false_eq_true, if_false] at hs
              have key : A.Nodup ∧ (∀ a ∈ A, a ∈ B) ∧ ∀ a ∈ A, a ∉ B' := by
                cases ho : ov.own with
                | false =>
                  cases ov with
                  | sh y =>
                    rw [RepO] at h1
                    rw [h1.1]
                    exact ⟨List.nodup_nil, fun _ h => (List.not_mem_nil h).elim, fun _ h => (List.not_mem_nil h).elim⟩
                  | _ => cases ho
                | true =>
                  rw [ho, Bool.and_true] at hp
                  rw [hp] at h3
                  simp only [Bool.false_eq_true, if_false] at h3
                  subst h3
                  obtain ⟨d1, d2, d3⟩ := List.nodup_append.mp hB
                  exact ⟨d1, fun a ha => List.mem_append_left _ ha, fun a ha z => d3 a ha a z rfl⟩
              obtain ⟨AE', C', sub⟩ := C.setS (i := i) (o := some ov) (y := some v) (A2 := A) h1 key.1 (fun a ha => hf a (key.2.1 a ha)) hi0
              refine setMany_ok hi1 C' h4 hB'.1 (fun a ha => ?_) hs
              obtain ⟨q1, q2, q3, q4, q5⟩ := hf a (hB'.2 a ha)
              exact ⟨q1, fun z => (sub a z).elim (fun h => key.2.2 a h ha) q2, q3, q4, q5⟩
/-- the names are set, by the reading of the operands -/
theorem setP_reads {is : List Nat} {zs : List Bool} {es : List EV.E} {D : Ends} {σ : L2.St} {H : Hp} (h0 : T.fx ≠ none → 0 ∉ is) (h : tS V1 X.prog X.w X.K E T (.setP is zs es) D σ H) :
    tL V1 X.prog X.w X.K (wxE E) es σ H fun vs H1 => vs.length = es.length ∧ D.nx (setV is vs σ) H1 ∧ ∀ H2, (∀ a o, H1 a = some o → H2 a = some o) → D.nx (setV is vs σ) H2 := by
  refine tL_mono ?_ (tSt_evs h (f := fun ovs env st => lift ((setMany is zs es ovs env).map .next) st) fun env st => by rw [exs])
  rintro vs H1 ⟨env, W, AS, AE, st, W1, AS1, B, ovs, st1, C, gs, q⟩
  unfold lift at q
  cases hs : setMany is zs es ovs env with
  | none => rw [hs] at q; exact q.elim
  | some env' =>
    rw [hs] at q
    have C1 := C.after ⟨gs.ent, gs.str, gs.nd, gs.ff, gs.tr⟩
    obtain ⟨W', AE', C'⟩ := setMany_ok h0 C1 gs.rep gs.ndB (fun a ha => by
      obtain ⟨q1, q2, q3, q4⟩ := gs.fr a ha
      refine ⟨q4, fun z => C.cfg.live a (List.mem_append_right _ z) q1, q2, q3, ?_⟩
      cases hq : T.H0 a with
      | none => rfl
      | some o => exact absurd q1 (C.ent.live a (by rw [hq]; simp))) hs
    exact ⟨gs.rep.length.1, q _ _ _ _ _ C', fun H2 k => q _ _ _ _ _ (C'.grow k)⟩
end
end EV

set_option Elab.async false
set_option linter.all false
set_option maxRecDepth 100000
set_option maxHeartbeats 1000000
/-! EV8e: a, b = x, y in the text; raise. -/
namespace EV
open PySem PySem.Spec PyProof.Rows L2
/-- whether the stores go from the right -/
def swNames (ts : List Expr) (sc : Scope) : List Str :=
  let line := (ts.head?.map (·.pos.line)).getD 0
  ts.filterMap fun
    | .Name id pos => if sc.names.lookup id == some .local && pos.line == line then some id else none
    | _ => none
def swR (ts vs : List Expr) (sc : Scope) : Option (Option (List Str)) :=
  if !(ts.length == 2 || ts.length == 3) || vs.length != ts.length then some none
  else if (vs.any fun | .Starred .. => true | _ => false) then some none
  else if (swNames ts sc).length != ts.length || (swNames ts sc).eraseDups.length != (swNames ts sc).length then some none
  else if vs.all (foldedForSure 8) then some none
  else if vs.all (constantsAlone 8) then none
  else some (some (swNames ts sc))
theorem sw_reads {ts vs : List Expr} {k k2 : Nat} {p p2 : Pos} {env : PySem.Env} {r : Option (List Str)} (hk : env.scope.kind = .function) (h : swR ts vs env.scope = some r) : swappedStores [.Tuple ts k p] (.Tuple vs k2 p2) env = pure r := by
  have hb : (env.blockKind != .function) = false := by unfold Env.blockKind; rw [hk]; rfl
  unfold swappedStores
  simp only [hb, Bool.or_false, bind_pure_comp, pure_bind]
  unfold swR at h
  split at h
  · rename_i c
    cases h
    exact if_pos c
  · rename_i c
    refine Eq.trans (if_neg c) ?_
    split at h
    · rename_i c2
      cases h
      exact if_pos c2
    · rename_i c2
      refine Eq.trans (if_neg c2) ?_
      split at h
      · rename_i c3
        cases h
        exact if_pos c3
      · rename_i c3
        refine Eq.trans (if_neg c3) ?_
        split at h
        · rename_i c4
          cases h
          exact if_pos c4
        · rename_i c4
          refine Eq.trans (if_neg c4) ?_
          split at h
          · cases h
          · rename_i c5
            cases h
            rw [if_neg c5]
            rfl
section
variable {V1 : Env1} {X : Cx} {E : XK} {T : Ety} {pos apos cpos : Pos}
theorem PEs.length {Z : WX} : ∀ {es : List EV.E} {xs : List Expr}, PEs V1 Z X es xs → es.length = xs.length
  | [], xs, h => by rw [show xs = [] from h]; rfl
  | e :: es, xs, h => by
    obtain ⟨x, r, ex, ns, _, h2⟩ := h
    rw [ex, List.length_cons, List.length_cons, PEs.length h2]
theorem ps_setP2 (hc : X.calm = true) (hN : X.N.Nodup) {i j : Nat} {zs : List Bool} {es : List EV.E} {x y : Str} {a b : Expr} {px py pt pt2 : Pos} {kt k2 : Nat} (hi : X.N[i]? = some x) (hj : X.N[j]? = some y) (hij : i ≠ j)
    (hx : X.env.scope.names.lookup x = some .local) (hy : X.env.scope.names.lookup y = some .local) (hk : X.env.scope.kind = .function) (he : PEs V1 (wxE E) X es [a, b]) (hw : swR [.Name x px, .Name y py] [a, b] X.env.scope = some (some [x, y])) (h0 : T.fx ≠ none → 0 ∉ [i, j]) :
    PS X (.Assign [.Tuple [.Name x px, .Name y py] kt pt] (.Tuple [a, b] k2 pt2) pos) (tS V1 X.prog X.w X.K E T (.setP [i, j] zs es)) := by
  have hel : es.length = 2 := PEs.length he
  refine PS.imp (ps_par hc hN hi hj hij hx hy (pa_of he) (sw_reads hk hw) rfl) fun D σ H h => ?_
  refine tL_mono ?_ (setP_reads h0 h)
  rintro vs H1 ⟨hl, q, _⟩
  rw [hel] at hl
  match vs, hl with
  | [v, w], _ => exact ⟨v, w, rfl, q⟩
theorem ps_setP3 (hc : X.calm = true) (hN : X.N.Nodup) {i j l : Nat} {zs : List Bool} {es : List EV.E} {x y z : Str} {a b c : Expr} {px py pz pt pt2 : Pos} {kt k2 : Nat} (hi : X.N[i]? = some x) (hj : X.N[j]? = some y) (hl : X.N[l]? = some z) (hij : i ≠ j) (hil : i ≠ l) (hjl : j ≠ l)
    (hx : X.env.scope.names.lookup x = some .local) (hy : X.env.scope.names.lookup y = some .local) (hz : X.env.scope.names.lookup z = some .local) (hk : X.env.scope.kind = .function) (he : PEs V1 (wxE E) X es [a, b, c]) (hw : swR [.Name x px, .Name y py, .Name z pz] [a, b, c] X.env.scope = some (some [x, y, z])) (h0 : T.fx ≠ none → 0 ∉ [i, j, l]) :
    PS X (.Assign [.Tuple [.Name x px, .Name y py, .Name z pz] kt pt] (.Tuple [a, b, c] k2 pt2) pos) (tS V1 X.prog X.w X.K E T (.setP [i, j, l] zs es)) := by
  have hel : es.length = 3 := PEs.length he
  refine PS.imp (ps_par3 hc hN hi hj hl hij hil hjl hx hy hz (pa_of he) (sw_reads hk hw) rfl) fun D σ H h => ?_
  refine tL_mono ?_ (setP_reads h0 h)
  rintro vs H1 ⟨hl, q, _⟩
  rw [hel] at hl
  match vs, hl with
  | [v, w, u], _ => exact ⟨v, w, u, rfl, q⟩
theorem gNs_setV {D : Ends} {H : Hp} : ∀ {is : List Nat} {vs : List V} {σ : L2.St}, is.length = vs.length → D.nx (setV is vs σ) H → gNs is vs σ H D.nx
  | [], [], _, _, h => ⟨rfl, h⟩
  | [], _ :: _, _, hl, _ => by simp at hl
  | _ :: _, [], _, hl, _ => by simp at hl
  | i :: is, v :: vs, σ, hl, h => ⟨v, vs, rfl, gNs_setV (by simpa using hl) h⟩
theorem ps_setPN (hc : X.calm = true) (hN : X.N.Nodup) {is : List Nat} {zs : List Bool} {es : List EV.E} {xs ys : List Expr} {pt pt2 : Pos} {kt k2 : Nat} (hn : NamesT X is xs) (hk : X.env.scope.kind = .function) (he : PEs V1 (wxE E) X es ys) (hlen : is.length = es.length) (hz : es.length ≤ 1000) (hw : swR xs ys X.env.scope = some none) (h0 : T.fx ≠ none → 0 ∉ is) :
    PS X (.Assign [.Tuple xs kt pt] (.Tuple ys k2 pt2) pos) (tS V1 X.prog X.w X.K E T (.setP is zs es)) := by
  obtain ⟨n1, n2⟩ := names_each hn
  refine PS.imp (ps_asg (pe_tup (pa_of he)) (pg_tup hc (pgs_names hN hn) n1 n2) sws_tup (sw_reads hk hw) rfl) fun D σ H h => ?_
  refine tL_mono ?_ (setP_reads h0 h)
  rintro vs H1 ⟨hl, _, q⟩
  refine ⟨by rw [hl, sizeLine_eq]; omega, fun p hp => ?_⟩
  exact gNs_tup rfl (by rw [hl, hlen]) upd_same (gNs_setV (by rw [hl, hlen]) (q _ (keep_upd hp)))
end
end EV

set_option Elab.async false
set_option linter.all false
set_option maxRecDepth 100000
set_option maxHeartbeats 1000000
/-! EV8f: raise. -/
namespace EV
open PySem PySem.Spec PyProof.Rows L2
/-- the class of an exception -/
def xa (K : PySem.W.Frag) (nm : Nm) (c : Nat) : Addr := He.ga K (nm.exc c)
/-- the promise of an exception's __init__ -/
def spX (K : PySem.W.Frag) (nm : Nm) (c : Nat) (ns : List Nat) : Sp := fun vs H Q _ => ∃ a ys, vs = .ref a :: ys ∧ ys.length = ns.length ∧ H a = some (exo a (xa K nm c) none) ∧
  ∀ H' d, H' a = some (exo a (xa K nm c) (some d)) → H' d = some (exd d ((ns.map nm.fld).zip ys).reverse) → H d = none → d ≠ a → (∀ b u, b ≠ a → H b = some u → H' b = some u) → Q .non H'
/-- what is known of an exception's class -/
structure ExcF (P : Program) (w : World) (K : PySem.W.Frag) (mg : Str → Option Value) (base : Heap) (nm : Nm) (c : Nat) (ns : List Nat) : Prop where
  oex : OexC K (xa K nm c)
  inx : c ∈ nm.xs
  nod : (ns.map nm.fld).Nodup
  nof : ∀ f ∈ ns, PySem.W.findIn K (.ref (xa K nm c)) (nm.fld f) = some none
  ini : ∃ fI fd ps, PySem.W.findIn K (.ref (xa K nm c)) "__init__" = some (some (.ref fI)) ∧ PySem.W.typeIn K (.ref fI) = some (.type "function") ∧ FnOk P w K mg base (L2.CX P w) 1 fI fd ps (spX K nm c ns) ∧ Binds K fd ps []
section
variable {V1 : Env1} {X : Cx} {E : XK} {T : Ety} {pos apos cpos : Pos}
theorem raise_reads {c : Nat} {es : List EV.E} {D : Ends} {σ : L2.St} {H : Hp} (hx : c ∈ V1.nm.xs) (hnd : ((V1.cl.excF c).map V1.nm.fld).Nodup) (hz : es.length ≤ 1000) (hne : es ≠ []) (h : tS V1 X.prog X.w X.K E T (.rais c es) D σ H) :
    tMkO (xa X.K V1.nm c) (spX X.K V1.nm c (V1.cl.excF c)) [] (tL V1 X.prog X.w X.K (wxE E) es) σ H fun cls d H' => E cls d H' := by
  refine tL_mono ?_ (tSt_evs h (f := fun ovs env st => (match taks es ovs with
    | some vs => if (V1.cl.excF c).length = vs.length then .exc c (V1.cl.excF c) vs st else .bad
    | none => .bad)) fun env st => by rw [exs] <;> rfl)
  rintro vs H1 ⟨env, W, AS, AE, st, W1, AS1, B, ovs, st1, C, gs, q⟩
  have hlen := gs.rep.length.1
  refine ⟨by rw [hlen]; exact hz, fun a ha => ?_⟩
  cases ht : taks es ovs with
  | none => simp only [ht] at q; exact q.elim
  | some xs =>
    simp only [ht] at q
    obtain ⟨W2, C2, rr⟩ := C.taks gs ht
    have hxl := rr.length
    by_cases hl : (V1.cl.excF c).length = xs.length
    · rw [if_pos hl] at q
      refine ⟨a, vs ++ [], by rw [List.append_nil], by rw [List.append_nil]; omega, upd_same, fun H2 d e1 e2 e3 e4 k => ⟨rfl, d, _, e1, e2, ?_, ?_⟩⟩
      · rw [← e3, upd_ne e4]
      · have hd1 : H1 d = none := by rw [← e3, upd_ne e4]
        have grow : ∀ b u, H1 b = some u → upd (del H2 a) d (.xd ((((V1.cl.excF c).map V1.nm.fld).zip (vs ++ [])).reverse)) b = some u := fun b u hb => by
          rw [upd_ne (ne_of_none hb hd1), del_ne (ne_of_none hb ha)]
          exact k b u (ne_of_none hb ha) (by rw [upd_ne (ne_of_none hb ha)]; exact hb)
        have C3 := C2.grow grow
        have hz2 : ((V1.cl.excF c).map V1.nm.fld).length = vs.length := by rw [List.length_map]; omega
        refine q W2 _ _ _ _ ⟨C3.ent, C3.cfg.str, by rw [List.append_nil]; exact (List.nodup_append.mp C3.cfg.nd).1, fun b hb => C3.cfg.ff b (by rw [List.append_nil] at hb; exact List.mem_append_left _ hb), C3.cfg.tr, rfl, ⟨hx, hnd⟩, .inr ⟨d, ((V1.cl.excF c).map V1.nm.fld).zip vs, rfl, ?_, ?_, ?_⟩⟩
        · rw [upd_same, List.append_nil]
        · exact List.map_fst_zip (by omega)
        · rw [List.map_snd_zip (by omega)]
          exact Reps.keep ⟨fun _ h => h, fun _ h => h, fun _ _ h => h, fun b ys h => grow b _ h, fun b o u h => grow b _ h, fun b o _ h => grow b o h⟩ _ _ rr
    · rw [if_neg hl] at q
      exact q.elim
/-- raise C(e, ..) -/
theorem ps_raisE {c : Nat} {es : List EV.E} {xs : List Expr} {x : Str} {p : Pos} (hc : X.calm = true) (tk : L2.Takes X (wxE E)) (F : ExcF X.prog X.w X.K X.mg X.base V1.nm c (V1.cl.excF c)) (hr : Room 2 X.A) (hg : Gl X x) (hm : X.mg x = some (.ref (xa X.K V1.nm c)))
    (h : PEs V1 (wxE E) X es xs) (hne : es ≠ []) (hz : es.length ≤ 1000) (hdb : (x == ("__debug__" : Str)) = false) :
    PS X (.Raise (some (.Call (.Name x p) xs [] cpos)) none pos) (tS V1 X.prog X.w X.K E T (.rais c es)) := by
  obtain ⟨fI, fd, ps, i1, i2, i3, i4⟩ := F.ini
  cases es with
  | nil => exact absurd rfl hne
  | cons e es =>
    have hs := h.stars cpos X.env
    have ha := pa_of h
    obtain ⟨y, r, ex, ns, h2⟩ := h.split
    subst ex
    refine PS.imp (ps_raise hc tk (pmk_oex F.oex i1 i2 i3 hr i4 .nil (L2.passes_call tk fun _ _ _ _ h => h.elim) hg hm ha hdb (starEach_cons ns) (h2.stars cpos X.env))) fun D σ H h => raise_reads F.inx F.nod hz hne h
end
end EV

set_option Elab.async false
set_option linter.all false
set_option maxRecDepth 100000
set_option maxHeartbeats 1000000
/-! EV8g: what a loop walks. -/
namespace EVI
open PySem PySem.Spec PyProof.Rows L2
/-! ### enumerate(v) -/
theorem new_enumB {v : Value} {o : Obj} {H : Heap → Prop} (B : Begins v o H) :
    Meets (Builtin.«enumerate.__new__» ⟨[.type "enumerate", v], []⟩) (fun _ R s => H s.heap ∧ R (.ok (.ret (.ref (s.heap.push o).objs.size)))
        { s with heap := (s.heap.push o).push { cls := .type "enumerate", data := .fields #[.none, .bool false, .ref s.heap.objs.size, rawInt 0, .none, .none] } }) :=
  .of_wp fun prog w A R s h => by
    obtain ⟨hp, g, d, tk, os⟩ := s
    obtain ⟨h1, h⟩ := h
    have hsub := sub_enumerate
    have qi : ∀ {A' : Around} {E : Value → Shared → Prop} {Q : Value → Shared → Prop}, Q (.ref hp.objs.size) ⟨hp.push o, g, d, tk, os⟩ → wpAny (model prog w) A' (pyIter v) Q E ⟨hp, g, d, tk, os⟩ := fun q => B.iter prog w _ _ ⟨hp, g, d, tk, os⟩ _ h1 q
    wp_walk using qi
    refine wpAny_stack_any fun st => wpAny_pure ?_
    split
    · rename_i c _ _ _ _ _
      cases (c == Value.type "enumerate") <;> (wp_walk using qi; exact ⟨_, rfl, h⟩)
    · wp_walk using qi
      exact ⟨_, rfl, h⟩
section
variable {prog : Program} {w : World} {A : Around} {E : Value → Shared → Prop} {s : Shared}
theorem enum_one {v : Value} {o : Obj} {H : Heap → Prop} {Q : Value → Shared → Prop} (B : Begins v o H) (h1 : H s.heap)
    (h : ∀ h', IsEnum h' (s.heap.objs.size + 1) s.heap.objs.size 0 .none → h'.get? s.heap.objs.size = some o → (∀ b o, s.heap.get? b = some o → h'.get? b = some o) → Q (.ref (s.heap.objs.size + 1)) { s with heap := h' }) :
    wpAny (model prog w) A (call (.type "enumerate") [v]) Q E s := by
  refine callType_new F.called_enumerate (by decide) (F.typeCall_enumerate_1 _) (F.newCall_enumerate_1 _) (fun obj => F.args_object_init_2 obj _) F.entry_enumerate_new (new_enumB B) ⟨h1, ?_⟩
  have hz : (s.heap.push o).objs.size = s.heap.objs.size + 1 := Heap.size_push ..
  show _ ∧ _
  rw [hz]
  have he : IsEnum ((s.heap.push o).push { cls := .type "enumerate", data := .fields #[.none, .bool false, .ref s.heap.objs.size, rawInt 0, .none, .none] }) (s.heap.objs.size + 1) s.heap.objs.size 0 .none := by
    have q := Heap.get?_push_size (s.heap.push o) (o := { cls := .type "enumerate", data := .fields #[.none, .bool false, .ref s.heap.objs.size, rawInt 0, .none, .none] }) rfl
    rw [hz] at q
    exact q
  exact ⟨⟨_, he, rfl⟩, h _ he (Heap.get?_push_of_some _ (Heap.get?_push_size _ B.free)) fun b o x => Heap.get?_push_of_some _ (Heap.get?_push_of_some _ x)⟩
end
theorem enum_endT {prog : Program} {w : World} {A : Around} {E : Value → Shared → Prop} {s : Shared} {e it l : Addr} {i : Nat} {items : Array Value} {old : Value} {Q : Option Value → Shared → Prop} (hh : A.handled = none)
    (he : IsEnum s.heap e it i old) (hit : s.heap.IsTupleIter it l i) (hl : s.heap.IsTuple l items) (hx : items[i]? = none) (hQ : ∀ h', Heap.ExtBut it s.heap h' → Q none { s with heap := h' }) : wpAny (model prog w) A (pyNext (.ref e)) Q E s := by
  have hT : s.TypeIs (.ref e) "enumerate" := ⟨_, he, rfl⟩
  unfold pyNext
  refine wpAny_bind (wpAny_attempt (wpAny_callSpecial?_slot (name := Str.ofString "__next__") hT F.slot_enumerate_next (wpAny_call_entry F.slot_enumerate_next hT F.entry_enumerate_next ?_ (F.args_enumerate_next_1 _))))
  show wpAny _ _ (field (.ref e) 2 >>= _) _ _ _
  refine wpAny_bind (wpAny_field he rfl (x := .ref it) rfl (wpAny_bind (wpAny_nextOf_tuple_end hh hit hl hx fun h' x he' hx' => ?_)))
  obtain ⟨o, ho, hc⟩ := hx'
  exact wpAny_bind (wpAny_isInstance (T := "StopIteration") (b := true) ⟨o, ho, hc⟩ isSubtype_stop (wpAny_pure (hQ _ he')))
/-- enumerate of a tuple -/
def Itet (K : PySem.W.Frag) (a : Addr) : It :=
  ⟨fun i H => ∃ (xs : List V) (x : V), SqT K H a xs ∧ xs[i]? = some x,
   fun i H v H' => ∃ T x, v = .ref T ∧ H T = none ∧ H' = upd H T (.tup [.int (i : Nat), x]) ∧ ∀ xs, SqT K H a xs → xs[i]? = some x,
   fun i H => ∃ xs : List V, SqT K H a xs ∧ xs.length ≤ i⟩
theorem turn_enumT {P : Program} {w : World} {K : PySem.W.Frag} {elts : List Expr} {kk : Nat} {tpos : Pos} (a e it : Addr) :
    Turn P w K (.Tuple elts kk tpos) (Itet K a) [e, it] e (fun i h => (∃ old, IsEnum h e it ((i : Nat) : Int) old) ∧ h.IsTupleIter it a i ∧ e ≠ it ∧ e ≠ a ∧ it ≠ a) where
  mem := by simp
  obj := fun i h st b hb => by
    obtain ⟨⟨old, he⟩, ⟨o, ho, hc, hd⟩, _⟩ := st
    have e' : b = e ∨ b = it := by simpa using hb
    rcases e' with z | z
    · subst z
      exact ⟨_, he, fun v q => nomatch q⟩
    · subst z
      exact ⟨o, ho, fun v q => by rw [hd] at q; cases q⟩
  keep := fun i h h' st k => let ⟨⟨old, he⟩, hi, hne⟩ := st; ⟨⟨old, k e (by simp) _ he⟩, hi.at fun o q => k it (by simp) o q, hne⟩
  item := by
    intro X hP hw hK hc i pins s σ H E I hf st hg
    subst hP hw hK
    obtain ⟨⟨old, he⟩, hit, hne, hea, hia⟩ := st
    obtain ⟨xs, x, hq, hx⟩ := hg
    obtain ⟨its, rv, p, hz⟩ := I.tuple hq
    obtain ⟨u, hu, ru⟩ := rv.get hx
    have hel : e < s.heap.objs.size := Heap.lt_size he
    have hil : it < s.heap.objs.size := by
      obtain ⟨_, q, _⟩ := hit
      exact Heap.lt_size q
    have hlt : i < its.toArray.size := by
      have := (List.getElem?_eq_some_iff.mp hu).1
      simpa using this
    have D := Draws.tuple (prog := X.prog) (w := X.w) (A := X.A.in1) (I.ok.hd hc) it a (Ne.symm hia) its.toArray
    refine wpAny_pyNext_enum_itemD D he ⟨hit, p⟩ hlt hne (by simp [hne, hea]) fun x' h' tk hx' ho hst' hT hsz hk => ?_
    have ex : x' = u := by
      have h1 : its.toArray[i]? = some u := by simpa using hu
      rw [h1] at hx'
      cases hx'
      rfl
    subst ex
    refine ⟨_, rfl, wpAny_letOwnedTupleGo_enum (s := { s with heap := h', toks := tk + 1 }) ho fun h'' he' sb => ?_⟩
    have hT2 : h''.get? s.heap.objs.size = some { cls := .type "tuple", data := .seq #[.int i tk, x'] } := (sb.2 _ (Nat.ne_of_gt hel)).trans hT
    have new : ObjOk X.prog X.w (upd H s.heap.objs.size (.tup [.int (i : Nat), x])) h'' s.heap.objs.size (.tup [.int (i : Nat), x]) :=
      ⟨by show 2 ≤ sizeLine; decide, [.int i tk, x'], .cons ⟨_, rfl⟩ (.cons ru .nil), ⟨_, hT2, rfl, _, rfl⟩⟩
    have I1 : Inv X pins σ (upd H s.heap.objs.size (.tup [.int (i : Nat), x])) { s with heap := h'', toks := tk + 1 } :=
      I.turnedNew (ch := [e, it]) (fun b ob hb q => (sb.2 b (fun z => hb (by simp [z]))).trans (hk b ob (fun z => hb (by simp [z])) (fun z => hb (by simp [z])) q)) hf (Nat.le_refl _) new
    refine ⟨.ref s.heap.objs.size, _, I1, rfl, ⟨_, x, rfl, I.hok.fresh (Nat.le_refl _), rfl, fun ys hy => by rw [I.tuple_inj hy hq]; exact hx⟩, ⟨⟨x', ?_⟩, hst'.1.at fun o q => (sb.2 it (Ne.symm hne)).trans q, hne, hea, hia⟩, fun b hb => ?_⟩
    · have e1 : ((i + 1 : Nat) : Int) = (i : Int) + 1 := by omega
      rw [e1]
      exact he'
    · have hb' : b < s.heap.objs.size := by
        have e' : b = e ∨ b = it := by simpa using hb
        rcases e' with z | z
        · rw [z]; exact hel
        · rw [z]; exact hil
      rw [upd_ne (Nat.ne_of_lt hb')]
      exact (hf b hb).1
  done := by
    intro X hP hw hK hc i pins s σ H E I hf st hg
    subst hP hw hK
    obtain ⟨⟨old, he⟩, hit, hne, hea, hia⟩ := st
    obtain ⟨xs, hq, hx⟩ := hg
    obtain ⟨its, rv, p, hz⟩ := I.tuple hq
    obtain ⟨f0, f1, f2, f3, f4, f5⟩ := hf it (by simp)
    have hl := rv.length
    exact enum_endT (I.ok.hd hc) he hit p (by simp; omega) fun h' eb => ⟨rfl, I.turned (t' := s.toks) (fun b o hb q => eb b o hb q) f0 f1 f3 f4 f5⟩
  self := fun A i s Q E st h => let ⟨⟨_, he⟩, _⟩ := st; wpAny_pyIter_enum he h
end EVI
namespace EV
open PySem PySem.Spec PyProof.Rows L2
section
variable {P : Program} {w : World} {K : PySem.W.Frag} {nm : Nm} {W W1 W' : Wd} {H H1 H' : Hp}
theorem Kp.trans {W2 : Wd} {H2 : Hp} (a : Kp W W1 H H1) (b : Kp W1 W2 H1 H2) : Kp W W2 H H2 where
  F := fun x h => b.F x (a.F x h)
  L := fun x h => b.L x (a.L x h)
  M := fun k x h => b.M k x (a.M k x h)
  tup := fun x xs h => b.tup x xs (a.tup x xs h)
  frz := fun x o u h => b.frz x o u (a.frz x o u h)
  see := fun x o h q => b.see x o (h.imp (a.F x) (a.L x)) (a.see x o h q)
/-- J walks the items xs, as they are told at W1, H1 -/
structure WalkE (P : Program) (w : World) (K : PySem.W.Frag) (nm : Nm) (J : L2.It) (W1 : Wd) (H1 : Hp) (xs : List PV) : Prop where
  go : ∀ W H i, Kp W1 W H1 H → i < xs.length → J.go i H
  stop : ∀ W H, Kp W1 W H1 H → J.stop xs.length H
  yld : ∀ W H i x H', Kp W1 W H1 H → i < xs.length → J.yld i H x H' → (∀ a o, H a = some o → H' a = some o) ∧ ∃ p, xs[i]? = some p ∧ Rep P w K nm W H' p x
theorem walkE_list {a : Addr} {vs : List V} {xs : List PV} {f : Bool} (hs : W1.seen f a) (h : H1 a = some (.lst vs)) (hr : Reps P w K nm W1 H1 xs vs) : WalkE P w K nm (Itl K a) W1 H1 xs where
  go := fun W H i k hi => by
    obtain ⟨v, hv, _⟩ := hr.get (show xs[i]? = some xs[i] by simp [hi])
    exact ⟨vs, v, .of (k.see a _ (Wd.seen_or hs) h), hv⟩
  stop := fun W H k => ⟨vs, .of (k.see a _ (Wd.seen_or hs) h), by rw [hr.length]; exact Nat.le_refl _⟩
  yld := fun W H i x H' k hi y => by
    obtain ⟨e, y⟩ := y
    subst e
    obtain ⟨v, hv, r⟩ := hr.get (show xs[i]? = some xs[i] by simp [hi])
    have := y vs (.of (k.see a _ (Wd.seen_or hs) h))
    rw [hv] at this
    cases this
    exact ⟨fun _ _ h => h, xs[i], by simp [hi], Rep.keep k _ _ r⟩
theorem walkE_tup {a : Addr} {vs : List V} {xs : List PV} (h : H1 a = some (.tup vs)) (hr : Reps P w K nm W1 H1 xs vs) : WalkE P w K nm (Itt K a) W1 H1 xs where
  go := fun W H i k hi => by
    obtain ⟨v, hv, _⟩ := hr.get (show xs[i]? = some xs[i] by simp [hi])
    exact ⟨vs, v, .of (k.tup a _ h), hv⟩
  stop := fun W H k => ⟨vs, .of (k.tup a _ h), by rw [hr.length]; exact Nat.le_refl _⟩
  yld := fun W H i x H' k hi y => by
    obtain ⟨e, y⟩ := y
    subst e
    obtain ⟨v, hv, r⟩ := hr.get (show xs[i]? = some xs[i] by simp [hi])
    have := y vs (.of (k.tup a _ h))
    rw [hv] at this
    cases this
    exact ⟨fun _ _ h => h, xs[i], by simp [hi], Rep.keep k _ _ r⟩
theorem enumL_len : ∀ (n : Nat) (xs : List PV), (enumL n xs).length = xs.length
  | _, [] => rfl
  | n, x :: xs => by rw [enumL, List.length_cons, List.length_cons, enumL_len]
theorem enumL_get : ∀ (n : Nat) (xs : List PV) (i : Nat) (x : PV), xs[i]? = some x → (enumL n xs)[i]? = some (.tup [.int ((n + i : Nat) : Int), x])
  | _, [], i, x, h => by simp at h
  | n, y :: xs, 0, x, h => by
    simp at h
    subst h
    rfl
  | n, y :: xs, i + 1, x, h => by
    rw [enumL]
    have := enumL_get (n + 1) xs i x (by simpa using h)
    rw [List.getElem?_cons_succ, this]
    rw [show n + 1 + i = n + (i + 1) by omega]
theorem rep_pair {T : Addr} {u v : V} {x y : PV} (hn : H T = none) (hx : Rep P w K nm W H x u) (hy : Rep P w K nm W H y v) : (∀ a o, H a = some o → upd H T (.tup [u, v]) a = some o) ∧ Rep P w K nm W (upd H T (.tup [u, v])) (.tup [x, y]) (.ref T) := by
  refine ⟨keep_upd hn, ?_⟩
  rw [Rep]
  exact ⟨T, [u, v], rfl, upd_same, Reps.cons (Rep.keep (kp_upd hn) _ _ hx) (Reps.cons (Rep.keep (kp_upd hn) _ _ hy) Reps.nil)⟩
theorem walkE_enum {a : Addr} {vs : List V} {xs : List PV} {f : Bool} (hs : W1.seen f a) (h : H1 a = some (.lst vs)) (hr : Reps P w K nm W1 H1 xs vs) : WalkE P w K nm (Ite K a) W1 H1 (enumL 0 xs) where
  go := fun W H i k hi => by
    rw [enumL_len] at hi
    obtain ⟨v, hv, _⟩ := hr.get (show xs[i]? = some xs[i] by simp [hi])
    exact ⟨vs, v, .of (k.see a _ (Wd.seen_or hs) h), hv⟩
  stop := fun W H k => ⟨vs, .of (k.see a _ (Wd.seen_or hs) h), by rw [enumL_len, hr.length]; exact Nat.le_refl _⟩
  yld := fun W H i x H' k hi y => by
    rw [enumL_len] at hi
    obtain ⟨T, z, e1, e2, e3, y⟩ := y
    subst e1
    subst e3
    obtain ⟨v, hv, r⟩ := hr.get (show xs[i]? = some xs[i] by simp [hi])
    have := y vs (.of (k.see a _ (Wd.seen_or hs) h))
    rw [hv] at this
    cases this
    obtain ⟨q1, q2⟩ := rep_pair (x := .int (i : Nat)) (u := .int (i : Nat)) e2 rfl (Rep.keep k _ _ r)
    exact ⟨q1, _, by rw [enumL_get 0 xs i xs[i] (by simp [hi])], by rw [Nat.zero_add]; exact q2⟩
theorem walkE_enumT {a : Addr} {vs : List V} {xs : List PV} (h : H1 a = some (.tup vs)) (hr : Reps P w K nm W1 H1 xs vs) : WalkE P w K nm (EVI.Itet K a) W1 H1 (enumL 0 xs) where
  go := fun W H i k hi => by
    rw [enumL_len] at hi
    obtain ⟨v, hv, _⟩ := hr.get (show xs[i]? = some xs[i] by simp [hi])
    exact ⟨vs, v, .of (k.tup a _ h), hv⟩
  stop := fun W H k => ⟨vs, .of (k.tup a _ h), by rw [enumL_len, hr.length]; exact Nat.le_refl _⟩
  yld := fun W H i x H' k hi y => by
    rw [enumL_len] at hi
    obtain ⟨T, z, e1, e2, e3, y⟩ := y
    subst e1
    subst e3
    obtain ⟨v, hv, r⟩ := hr.get (show xs[i]? = some xs[i] by simp [hi])
    have := y vs (.of (k.tup a _ h))
    rw [hv] at this
    cases this
    obtain ⟨q1, q2⟩ := rep_pair (x := .int (i : Nat)) (u := .int (i : Nat)) e2 rfl (Rep.keep k _ _ r)
    exact ⟨q1, _, by rw [enumL_get 0 xs i xs[i] (by simp [hi])], by rw [Nat.zero_add]; exact q2⟩
theorem zipL_len : ∀ (xs ys : List PV), (zipL xs ys).length = min xs.length ys.length
  | [], _ => by simp [zipL]
  | _ :: _, [] => by simp [zipL]
  | x :: xs, y :: ys => by
    rw [zipL, List.length_cons, zipL_len, List.length_cons, List.length_cons]
    omega
theorem zipL_get : ∀ (xs ys : List PV) (i : Nat) (x y : PV), xs[i]? = some x → ys[i]? = some y → (zipL xs ys)[i]? = some (.tup [x, y])
  | [], _, i, x, y, h, _ => by simp at h
  | _ :: _, [], i, x, y, _, h => by simp at h
  | a :: xs, b :: ys, 0, x, y, h, h' => by
    simp at h h'
    subst h h'
    rfl
  | a :: xs, b :: ys, i + 1, x, y, h, h' => by
    rw [zipL, List.getElem?_cons_succ]
    exact zipL_get xs ys i x y (by simpa using h) (by simpa using h')
theorem walkE_zip {a b : Addr} {vs us : List V} {xs ys : List PV} {f g : Bool} (hs : W1.seen f a) (h : H1 a = some (.lst vs)) (hr : Reps P w K nm W1 H1 xs vs) (hs2 : W1.seen g b) (h2 : H1 b = some (.lst us)) (hr2 : Reps P w K nm W1 H1 ys us) : WalkE P w K nm (Itz K a b) W1 H1 (zipL xs ys) where
  go := fun W H i k hi => by
    rw [zipL_len] at hi
    obtain ⟨v, hv, _⟩ := hr.get (show xs[i]? = some (xs[i]'(by omega)) by simp [show i < xs.length by omega])
    obtain ⟨u, hu, _⟩ := hr2.get (show ys[i]? = some (ys[i]'(by omega)) by simp [show i < ys.length by omega])
    exact ⟨vs, us, v, u, .of (k.see a _ (Wd.seen_or hs) h), .of (k.see b _ (Wd.seen_or hs2) h2), hv, hu⟩
  stop := fun W H k => ⟨vs, us, .of (k.see a _ (Wd.seen_or hs) h), .of (k.see b _ (Wd.seen_or hs2) h2), by rw [zipL_len, hr.length, hr2.length]; omega⟩
  yld := fun W H i x H' k hi y => by
    rw [zipL_len] at hi
    obtain ⟨T, z, z2, e1, e2, e3, y, y2⟩ := y
    subst e1
    subst e3
    have gx : xs[i]? = some (xs[i]'(by omega)) := by simp [show i < xs.length by omega]
    have gy : ys[i]? = some (ys[i]'(by omega)) := by simp [show i < ys.length by omega]
    obtain ⟨v, hv, r⟩ := hr.get gx
    obtain ⟨u, hu, r2⟩ := hr2.get gy
    have q := y vs (.of (k.see a _ (Wd.seen_or hs) h))
    rw [hv] at q
    cases q
    have q := y2 us (.of (k.see b _ (Wd.seen_or hs2) h2))
    rw [hu] at q
    cases q
    obtain ⟨q1, q2⟩ := rep_pair e2 (Rep.keep k _ _ r) (Rep.keep k _ _ r2)
    exact ⟨q1, _, zipL_get xs ys i _ _ gx gy, q2⟩
theorem walkE_zipT {a b : Addr} {vs us : List V} {xs ys : List PV} (h : H1 a = some (.tup vs)) (hr : Reps P w K nm W1 H1 xs vs) (h2 : H1 b = some (.tup us)) (hr2 : Reps P w K nm W1 H1 ys us) : WalkE P w K nm (RZ.ItzT K a b) W1 H1 (zipL xs ys) where
  go := fun W H i k hi => by
    rw [zipL_len] at hi
    obtain ⟨v, hv, _⟩ := hr.get (show xs[i]? = some (xs[i]'(by omega)) by simp [show i < xs.length by omega])
    obtain ⟨u, hu, _⟩ := hr2.get (show ys[i]? = some (ys[i]'(by omega)) by simp [show i < ys.length by omega])
    exact ⟨vs, us, v, u, .of (k.tup a _ h), .of (k.tup b _ h2), hv, hu⟩
  stop := fun W H k => ⟨vs, us, .of (k.tup a _ h), .of (k.tup b _ h2), by rw [zipL_len, hr.length, hr2.length]; omega⟩
  yld := fun W H i x H' k hi y => by
    rw [zipL_len] at hi
    obtain ⟨T, z, z2, e1, e2, e3, y, y2⟩ := y
    subst e1
    subst e3
    have gx : xs[i]? = some (xs[i]'(by omega)) := by simp [show i < xs.length by omega]
    have gy : ys[i]? = some (ys[i]'(by omega)) := by simp [show i < ys.length by omega]
    obtain ⟨v, hv, r⟩ := hr.get gx
    obtain ⟨u, hu, r2⟩ := hr2.get gy
    have q := y vs (.of (k.tup a _ h))
    rw [hv] at q
    cases q
    have q := y2 us (.of (k.tup b _ h2))
    rw [hu] at q
    cases q
    obtain ⟨q1, q2⟩ := rep_pair e2 (Rep.keep k _ _ r) (Rep.keep k _ _ r2)
    exact ⟨q1, _, zipL_get xs ys i _ _ gx gy, q2⟩
theorem rangeL_len : ∀ (n : Nat) (lo : Int), (rangeL lo n).length = n
  | 0, _ => rfl
  | n + 1, lo => by rw [rangeL, List.length_cons, rangeL_len]
theorem rangeL_get : ∀ (n : Nat) (lo : Int) (i : Nat), i < n → (rangeL lo n)[i]? = some (.int (lo + i))
  | 0, _, _, h => absurd h (Nat.not_lt_zero _)
  | n + 1, lo, 0, _ => by simp [rangeL]
  | n + 1, lo, i + 1, h => by
    rw [rangeL, List.getElem?_cons_succ, rangeL_get n (lo + 1) i (by omega)]
    congr 2
    omega
theorem walkE_rng {lo : Int} {n : Nat} : WalkE P w K nm (Itr lo n) W1 H1 (rangeL lo n) where
  go := fun W H i k hi => by rw [rangeL_len] at hi; exact hi
  stop := fun W H k => by rw [rangeL_len]; exact Nat.le_refl _
  yld := fun W H i x H' k hi y => by
    rw [rangeL_len] at hi
    obtain ⟨e, y⟩ := y
    subst e y
    exact ⟨fun _ _ h => h, _, rangeL_get n lo i hi, by rw [Rep]⟩
end
end EV

set_option Elab.async false
set_option linter.all false
set_option maxRecDepth 100000
set_option maxHeartbeats 1000000
/-! EV8h: for. -/
namespace EV
open PySem PySem.Spec PyProof.Rows L2
section
variable {V1 : Env1} {X : Cx} {Z : WX} {tg : Expr} {pos p tpos : Pos} {elts : List Expr} {kk : Nat}
/-- what is walked, by its run -/
def itTI (V1 : Env1) (X : Cx) (Z : WX) (it : EV.It) (its : List EV.E) : TI := fun σ H R => tL V1 X.prog X.w X.K Z its σ H fun vs H1 => ∃ W pvs xs, Reps X.prog X.w X.K V1.nm W H1 pvs vs ∧ itItems it pvs = some xs ∧ ∀ J, WalkE X.prog X.w X.K V1.nm J W H1 xs → R J H1
theorem itPlain {pvs : List PV} {xs : List PV} (h : itItems .plain pvs = some xs) : ∃ v, pvs = [v] ∧ seq? v = some xs := by
  cases pvs with
  | nil => simp [itItems] at h
  | cons v r =>
    cases r with
    | nil => exact ⟨v, rfl, by simpa [itItems] using h⟩
    | cons u r => simp [itItems] at h
theorem seq_inv {v : PV} {xs : List PV} (h : seq? v = some xs) : v = .tup xs ∨ ∃ f, v = .lst f xs := by
  unfold seq? at h
  split at h
  · cases h
    exact .inl rfl
  · cases h
    exact .inr ⟨_, rfl⟩
  · cases h
/-- x in v -/
theorem pi_plainE {e : EV.E} {xe : Expr} (he : PE X xe (tE V1 X.prog X.w X.K Z e)) (hn : noStar xe = true) : PI X tg xe (itTI V1 X Z .plain [e]) := by
  refine ⟨fun pins s σ H R I h => ?_⟩
  refine thn (he.run pins s σ H _ I (tL_one h)) fun v s1 ⟨x, H1, I1, r1, W, pvs, xs, hr, hi, hR⟩ => ?_
  obtain ⟨pv, ep, hs⟩ := itPlain hi
  subst ep
  obtain ⟨x', r', ex, hx, _⟩ := hr.uncons
  cases ex
  rcases seq_inv hs with e1 | ⟨f, e1⟩
  · subst e1
    rw [Rep] at hx
    obtain ⟨a, vs, ea, ha, hv⟩ := hx
    subst ea
    cases r1
    obtain ⟨its, rv, pt, hz⟩ := I1.tuple (.of ha)
    refine wpAny_pyIter_tuple pt ⟨s1.heap.objs.size, [s1.heap.objs.size], _, _, H1, rfl, I1.kept (t' := s1.toks) fun b o e => Heap.get?_push_of_some _ e, turn_tuple a _, ⟨_, Heap.get?_push_size _ rfl, rfl, rfl⟩, fun b hb => ?_, hR _ (walkE_tup ha hv)⟩
    rw [List.mem_singleton.mp hb]
    exact I1.fpOk (Nat.le_refl _) (I1.hok.fresh (Nat.le_refl _))
  · subst e1
    rw [Rep] at hx
    obtain ⟨a, vs, ea, hse, ha, hv⟩ := hx
    subst ea
    cases r1
    obtain ⟨its, rv, pt, hz⟩ := I1.list (.of ha)
    refine wpAny_pyIter_list pt.isList ⟨s1.heap.objs.size, [s1.heap.objs.size], _, _, H1, rfl, I1.kept (t' := s1.toks) fun b o e => Heap.get?_push_of_some _ e, turn_list a _, ⟨_, Heap.get?_push_size _ rfl, rfl, rfl⟩, fun b hb => ?_, hR _ (walkE_list hse ha hv)⟩
    rw [List.mem_singleton.mp hb]
    exact I1.fpOk (Nat.le_refl _) (I1.hok.fresh (Nat.le_refl _))
theorem itRng1 {pvs : List PV} {xs : List PV} (h : itItems .rng1 pvs = some xs) : ∃ n : Int, pvs = [.int n] ∧ (-16777216 ≤ n ∧ n ≤ 16777216) ∧ xs = rangeL 0 n.toNat := by
  cases pvs with
  | nil => simp [itItems] at h
  | cons v r =>
    cases r with
    | nil =>
      cases v with
      | int n =>
        simp only [itItems] at h
        split at h
        · rename_i hc
          cases h
          exact ⟨n, rfl, hc, rfl⟩
        · cases h
      | _ => simp [itItems] at h
    | cons u r => cases v <;> simp [itItems] at h
theorem itRng2 {pvs : List PV} {xs : List PV} (h : itItems .rng2 pvs = some xs) : ∃ a b : Int, pvs = [.int a, .int b] ∧ ((-16777216 ≤ a ∧ a ≤ 16777216) ∧ -16777216 ≤ b ∧ b ≤ 16777216) ∧ xs = rangeL a (b - a).toNat := by
  cases pvs with
  | nil => simp [itItems] at h
  | cons v r =>
    cases r with
    | nil => cases v <;> simp [itItems] at h
    | cons u r =>
      cases r with
      | cons z r => cases v <;> cases u <;> simp [itItems] at h
      | nil =>
        cases v with
        | int a =>
          cases u with
          | int b =>
            simp only [itItems] at h
            split at h
            · rename_i hc
              cases h
              exact ⟨a, b, rfl, hc, rfl⟩
            · cases h
          | _ => simp [itItems] at h
        | _ => simp [itItems] at h
theorem pi_rng1E {e : EV.E} {xe : Expr} (hg : Gl X "range") (hm : X.mg "range" = none) (h : PEs V1 Z X [e] [xe]) : PI X tg (.Call (.Name "range" p) [xe] [] pos) (itTI V1 X Z .rng1 [e]) := by
  have hs : noStar xe = true := by
    obtain ⟨x, ex, n, _⟩ := h.one
    cases ex
    exact n
  have q := pi_range1 (tg := tg) (p := p) (pos := pos) hg hm (pa_of h) (by rw [starEach_cons hs]; rfl)
  refine ⟨fun pins s σ H R I hh => q.run pins s σ H R I ?_⟩
  refine tL_mono ?_ hh
  rintro vs H1 ⟨W, pvs, xs, hr, hi, hR⟩
  obtain ⟨n, e1, hb, e2⟩ := itRng1 hi
  subst e1 e2
  obtain ⟨v, r, ev, hv, hr2⟩ := hr.uncons
  rw [Rep] at hv
  rw [hr2.nil_inv] at ev
  subst hv
  exact ⟨n, ev, by omega, by omega, hR _ walkE_rng⟩
theorem pi_rng2E {e e2 : EV.E} {xe xe2 : Expr} (hg : Gl X "range") (hm : X.mg "range" = none) (h : PEs V1 Z X [e, e2] [xe, xe2]) : PI X tg (.Call (.Name "range" p) [xe, xe2] [] pos) (itTI V1 X Z .rng2 [e, e2]) := by
  obtain ⟨x, y, ex, n1, n2, _, _⟩ := h.two
  cases ex
  have q := pi_range2 (tg := tg) (p := p) (pos := pos) hg hm (pa_of h) (by rw [starEach_cons n1, starEach_cons n2]; rfl) (by rw [starEach_cons n2]; rfl)
  refine ⟨fun pins s σ H R I hh => q.run pins s σ H R I ?_⟩
  refine tL_mono ?_ hh
  rintro vs H1 ⟨W, pvs, xs, hr, hi, hR⟩
  obtain ⟨a, b, e1, hb, e2⟩ := itRng2 hi
  subst e1 e2
  obtain ⟨v, r, ev, hv, hr2⟩ := hr.uncons
  obtain ⟨u, r', ev2, hu, hr3⟩ := hr2.uncons
  rw [Rep] at hv hu
  rw [hr3.nil_inv] at ev2
  subst hv hu ev2
  exact ⟨a, b, ev, ⟨by omega, by omega, by omega, by omega⟩, hR _ walkE_rng⟩
theorem itEnum {pvs : List PV} {xs : List PV} (h : itItems .enum pvs = some xs) : ∃ v ys, pvs = [v] ∧ seq? v = some ys ∧ xs = enumL 0 ys := by
  cases pvs with
  | nil => simp [itItems] at h
  | cons v r =>
    cases r with
    | nil =>
      simp only [itItems] at h
      obtain ⟨ys, h1, h2⟩ := Option.map_eq_some_iff.mp h
      exact ⟨v, ys, rfl, h1, h2.symm⟩
    | cons u r => simp [itItems] at h
theorem pi_enumE {e : EV.E} {xe : Expr} (hg : Gl X "enumerate") (hm : X.mg "enumerate" = none) (h : PEs V1 Z X [e] [xe]) : PI X (.Tuple elts kk tpos) (.Call (.Name "enumerate" p) [xe] [] pos) (itTI V1 X Z .enum [e]) := by
  obtain ⟨x, ex, n, _⟩ := h.one
  cases ex
  refine ⟨fun pins s σ H R I hh => ?_⟩
  refine Call_ (ld_blt I hg hm boot_enumerate (PyProof.Rows.callWith_type1 (thn ((pa_of h).run pos pins s σ H _ I hh) fun us s1 ⟨vs, H1, I1, r1, W, pvs, xs, hr, hi, hR⟩ => ?_) (starEach_cons n) rfl))
  obtain ⟨pv, ys, ep, hs, exs⟩ := itEnum hi
  subst ep exs
  obtain ⟨v, r', ev, hx, hr2⟩ := hr.uncons
  rw [hr2.nil_inv] at ev
  subst ev
  have fp2 : ∀ b ∈ [s1.heap.objs.size + 1, s1.heap.objs.size], FpOk X pins H1 b := fun b hb => by
    have e' : b = s1.heap.objs.size + 1 ∨ b = s1.heap.objs.size := by simpa using hb
    have hle : s1.heap.objs.size ≤ b := by omega
    exact I1.fpOk hle (I1.hok.fresh hle)
  cases r1 with
  | cons ra rb =>
    cases rb
    rcases seq_inv hs with e1 | ⟨f, e1⟩
    · subst e1
      rw [Rep] at hx
      obtain ⟨a, ws, ea, ha, hv⟩ := hx
      subst ea
      cases ra
      obtain ⟨its, rv, pt, hz⟩ := I1.tuple (.of ha)
      have hlt : a < s1.heap.objs.size := pt.lt
      refine EVI.enum_one (begins_tuple a its.toArray) pt fun h' he hit hk => wpAny_pyIter_enum he ?_
      refine ⟨s1.heap.objs.size + 1, [s1.heap.objs.size + 1, s1.heap.objs.size], _, _, H1, rfl, I1.kept (t' := s1.toks) hk, EVI.turn_enumT a (s1.heap.objs.size + 1) s1.heap.objs.size, ⟨⟨.none, he⟩, ⟨_, hit, rfl, rfl⟩, Nat.succ_ne_self _, Nat.ne_of_gt (Nat.lt_succ_of_lt hlt), Nat.ne_of_gt hlt⟩, fp2, hR _ (walkE_enumT ha hv)⟩
    · subst e1
      rw [Rep] at hx
      obtain ⟨a, ws, ea, hse, ha, hv⟩ := hx
      subst ea
      cases ra
      obtain ⟨its, rv, pt, hz⟩ := I1.list (.of ha)
      refine EVI.enum_one (begins_list a its.toArray) pt.isList fun h' he hit hk => wpAny_pyIter_enum he ?_
      refine ⟨s1.heap.objs.size + 1, [s1.heap.objs.size + 1, s1.heap.objs.size], _, _, H1, rfl, I1.kept (t' := s1.toks) hk, turn_enum a (s1.heap.objs.size + 1) s1.heap.objs.size, ⟨⟨.none, he⟩, ⟨_, hit, rfl, rfl⟩, Nat.succ_ne_self _⟩, fp2, hR _ (walkE_enum hse ha hv)⟩
theorem itZip {pvs : List PV} {zs : List PV} (h : itItems .zip pvs = some zs) : ∃ xs ys, zs = zipL xs ys ∧ (pvs = [.tup xs, .tup ys] ∨ ∃ f g, pvs = [.lst f xs, .lst g ys]) := by
  cases pvs with
  | nil => simp [itItems] at h
  | cons v r =>
    cases r with
    | nil => cases v <;> simp [itItems] at h
    | cons u r =>
      cases r with
      | cons z r => cases v <;> cases u <;> simp [itItems] at h
      | nil =>
        cases v with
        | tup xs =>
          cases u with
          | tup ys =>
            simp only [itItems] at h
            cases h
            exact ⟨xs, ys, rfl, .inl rfl⟩
          | _ => simp [itItems] at h
        | lst f xs =>
          cases u with
          | lst g ys =>
            simp only [itItems] at h
            cases h
            exact ⟨xs, ys, rfl, .inr ⟨f, g, rfl⟩⟩
          | _ => simp [itItems] at h
        | _ => simp [itItems] at h
theorem pi_zipE {e e2 : EV.E} {xe xe2 : Expr} (hg : Gl X "zip") (hm : X.mg "zip" = none) (h : PEs V1 Z X [e, e2] [xe, xe2]) : PI X (.Tuple elts kk tpos) (.Call (.Name "zip" p) [xe, xe2] [] pos) (itTI V1 X Z .zip [e, e2]) := by
  obtain ⟨x, y, ex, n1, n2, _, _⟩ := h.two
  cases ex
  have q := RZ.pi_zipA (elts := elts) (kk := kk) (tpos := tpos) (p := p) (pos := pos) hg hm (pa_of h) (starEach_cons n1) (by rw [starEach_cons n2]; rfl)
  refine ⟨fun pins s σ H R I hh => q.run pins s σ H R I ?_⟩
  refine tL_mono ?_ hh
  rintro vs H1 ⟨W, pvs, zs, hr, hi, hR⟩
  obtain ⟨xs, ys, e1, e2 | ⟨f, g, e2⟩⟩ := itZip hi
  · subst e1 e2
    obtain ⟨v, r, ev, hv, hr2⟩ := hr.uncons
    obtain ⟨u, r', ev2, hu, hr3⟩ := hr2.uncons
    rw [hr3.nil_inv] at ev2
    subst ev2
    rw [Rep] at hv hu
    obtain ⟨a, va, ea, ha, hva⟩ := hv
    obtain ⟨b, vb, eb, hb, hvb⟩ := hu
    subst ea eb
    exact ⟨a, b, va, vb, ev, .inr ⟨.of ha, .of hb, hR _ (walkE_zipT ha hva hb hvb)⟩⟩
  · subst e1 e2
    obtain ⟨v, r, ev, hv, hr2⟩ := hr.uncons
    obtain ⟨u, r', ev2, hu, hr3⟩ := hr2.uncons
    rw [hr3.nil_inv] at ev2
    subst ev2
    rw [Rep] at hv hu
    obtain ⟨a, va, ea, sa, ha, hva⟩ := hv
    obtain ⟨b, vb, eb, sb, hb, hvb⟩ := hu
    subst ea eb
    exact ⟨a, b, va, vb, ev, .inl ⟨.of ha, .of hb, hR _ (walkE_zip sa ha hva sb hb hvb)⟩⟩
end
end EV

set_option Elab.async false
set_option linter.all false
set_option maxRecDepth 100000
set_option maxHeartbeats 1000000
/-! EV8i: for, while. -/
namespace EV
open PySem PySem.Spec PyProof.Rows L2
/-- a target's reading -/
def gTgE (K : PySem.W.Frag) : Tg → TG
  | .one i => gName i
  | .many is => gTup K is.length (gNs is)
def Tg.no0 : Tg → Bool
  | .one i => i != 0
  | .many is => !is.contains 0
def Ety.more (T : Ety) (W1 : Wd) (H1 : Hp) : Ety := { T with phi := fun W H => T.phi W H ∧ Kp W1 W H1 H, cl := fun h k => ⟨T.cl h.1 k, h.2.trans k⟩ }
section
variable {V1 : Env1} {P : Program} {w : World} {K : PySem.W.Frag} {E : XK} {T : Ety} {W W1 W' : Wd} {H H1 H' : Hp} {σ : L2.St} {env : EV.Env} {st st1 st' : EV.St} {AS AS1 AE AS' A B : List Addr} {D : Ends}
theorem CfgE.less {W1 : Wd} {H1 : Hp} (C : CfgE V1 P w K (T.more W1 H1) W H σ env st AS AE) : CfgE V1 P w K T W H σ env st AS AE := ⟨C.cfg, C.ent, C.own, C.x0, C.ph.1⟩
theorem CfgE.more {W1 : Wd} {H1 : Hp} (C : CfgE V1 P w K T W H σ env st AS AE) (k : Kp W1 W H1 H) : CfgE V1 P w K (T.more W1 H1) W H σ env st AS AE := ⟨C.cfg, C.ent, C.own, C.x0, C.ph, k⟩
theorem tg_bind {tg : Tg} {p : PV} {v : V} {env' : EV.Env} {nx : L2.St → Hp → Prop} (h0 : T.fx ≠ none → tg.no0 = true) (C : CfgE V1 P w K T W H σ env st AS AE) (hb : bindTg tg p env = some env') (hr : Rep P w K V1.nm W H p v)
    (h : ∀ σ' AE', CfgE V1 P w K T W H σ' env' st AS AE' → nx σ' H) : gTgE K tg v σ H nx := by
  cases tg with
  | one i =>
    rw [bindTg] at hb
    cases hb
    obtain ⟨AE', C'⟩ := C.setSh (i := i) hr fun q e => by
      have := h0 q
      rw [e] at this
      simp [Tg.no0] at this
    exact h _ _ C'
  | many is =>
    cases p with
    | tup xs =>
      rw [bindTg] at hb
      rw [Rep] at hr
      obtain ⟨a, us, e1, e2, e3⟩ := hr
      subst e1
      refine ⟨a, us, rfl, .of e2, by rw [← e3.length, bindMany_len hb], ?_⟩
      exact gNs_bind (D := { nx := nx, rt := fun _ _ => False }) (fun _ h => (List.not_mem_nil h).elim) (fun q z => by
        have := h0 q
        simp only [Tg.no0, Bool.not_eq_true', List.contains_eq_mem, decide_eq_false_iff_not] at this
        exact this z) C hb e3 h
    | _ => simp [bindTg] at hb
end
section
variable {V1 : Env1} {X : Cx} {E : XK} {T : Ety} {pos : Pos}
/-- a body's reading, whatever else is to be kept -/
def tBd (V1 : Env1) (P : Program) (w : World) (K : PySem.W.Frag) (E : XK) (T : Ety) (ss : List S) : TS := fun D σ H => ∃ W1 H1, tSs V1 P w K E (T.more W1 H1) ss D σ H
theorem pss_bd {xs : List Stmt} {ss : List S} {fx : Bool} (h : ∀ T : Ety, (T.fx ≠ none → fx = true) → PSs X xs (tSs V1 X.prog X.w X.K E T ss)) (h0 : T.fx ≠ none → fx = true) : PSs X xs (tBd V1 X.prog X.w X.K E T ss) :=
  ⟨fun pins s σ H D I ⟨W1, H1, q⟩ => (h (T.more W1 H1) h0).run pins s σ H D I q⟩
theorem ps_forE {fx : Bool} {tg : Tg} {it : EV.It} {its : List EV.E} {body : List S} {xt xi : Expr} {xb : List Stmt} (hp : PassesOwn (model X.prog X.w) X.A X.env X.xe) (hc : X.calm = true) (hi : PI X xt xi (itTI V1 X (wxE E) it its)) (hg : PG X xt (gTgE X.K tg))
    (hb : ∀ T : Ety, (T.fx ≠ none → fx = true) → PSs X xb (tSs V1 X.prog X.w X.K E T body)) (hs : ∀ x, foldedSetIterable xi X.env x = pure x) (h0 : T.fx ≠ none → fx = true ∧ tg.no0 = true) :
    PS X (.For xt xi xb [] pos) (tS V1 X.prog X.w X.K E T (.fors tg it its body)) := by
  refine PS.imp (ps_for hp hc hi hg (pss_bd hb fun q => (h0 q).1) hs) fun D σ H h => ?_
  refine tL_mono ?_ (tSt_evs h (f := fun ovs env st => (match (taks its ovs).bind (itItems it) with
    | some xs => forL (fun env st => exss V1.cl V1.txt V1.call body env st) tg xs env st
    | none => .bad)) fun env st => by rw [exs] <;> rfl)
  rintro vs H1 ⟨env, W, AS, AE, st, W1, AS1, B, ovs, st1, C, gs, q⟩
  cases ht : taks its ovs with
  | none => rw [ht] at q; exact q.elim
  | some pvs =>
    rw [ht] at q
    simp only [Option.bind_some] at q
    cases hx : itItems it pvs with
    | none => rw [hx] at q; exact q.elim
    | some xs =>
      rw [hx] at q
      obtain ⟨W2, C2, rr⟩ := C.taks gs ht
      refine ⟨W2, pvs, xs, rr, hx, fun J hw => ?_⟩
      refine ⟨fun i m σ' H' => m = xs.length - i ∧ i ≤ xs.length ∧ ∃ env' st' Wd AS' AE', CfgE V1 X.prog X.w X.K (T.more W2 H1) Wd H' σ' env' st' AS' AE' ∧ EndS V1 X.prog X.w X.K E T D (forL (fun env st => exss V1.cl V1.txt V1.call body env st) tg (xs.drop i) env' st'),
        ⟨xs.length, by simp, Nat.zero_le _, env, st1, W2, AS1, AE, C2.more Kp.refl, q⟩, ?_⟩
      rintro i m σ' H' ⟨hm, hile, env', st', Wd, AS', AE', C', q'⟩
      by_cases hi : i < xs.length
      · right
        refine ⟨hw.go Wd H' i C'.ph.2 hi, fun σ3 H3 => ∃ env' st' Wd AS' AE', CfgE V1 X.prog X.w X.K (T.more W2 H1) Wd H3 σ3 env' st' AS' AE' ∧ EndS V1 X.prog X.w X.K E T D (forL (fun env st => exss V1.cl V1.txt V1.call body env st) tg (xs.drop (i + 1)) env' st'), fun σ3 H3 h3 => ⟨xs.length - (i + 1), by omega, rfl, hi, h3⟩, fun x H'' y => ?_⟩
        obtain ⟨grow, p, hp', rp⟩ := hw.yld Wd H' i x H'' C'.ph.2 hi y
        have C'' := C'.grow grow
        have hd : xs.drop i = p :: xs.drop (i + 1) := by
          rw [List.drop_eq_getElem_cons hi]
          congr 1
          have : xs[i]? = some xs[i] := by simp [hi]
          rw [this] at hp'
          exact Option.some.inj hp'
        rw [hd, forL] at q'
        cases hbt : bindTg tg p env' with
        | none => rw [hbt] at q'; exact q'.elim
        | some env2 =>
          rw [hbt] at q'
          simp only at q'
          refine tg_bind (T := T.more W2 H1) (fun z => (h0 z).2) C'' hbt rp fun σ2 AE2 C3 => ?_
          refine ⟨W2, H1, env2, st', Wd, AS', AE2, C3, ?_⟩
          cases he : exss V1.cl V1.txt V1.call body env2 st' with
          | bad => rw [he] at q'; exact q'
          | exc c ns vs st3 => rw [he] at q'; exact q'
          | ok o st3 =>
            rw [he] at q'
            cases o with
            | next env3 => exact fun σ4 W4 H4 AS4 AE4 C4 => ⟨env3, st3, W4, AS4, AE4, C4, q'⟩
            | ret v => exact q'
      · left
        have e : i = xs.length := by omega
        subst e
        rw [List.drop_length, forL] at q'
        exact ⟨hw.stop Wd H' C'.ph.2, q' _ _ _ _ _ C'.less⟩
theorem ps_whlE {n : Nat} {c : EV.T} {body : List S} {xc : Expr} {xb : List Stmt} (hp : PassesOwn (model X.prog X.w) X.A X.env X.xe) (hc : PT X xc (tT V1 X.prog X.w X.K (wxE E) c)) (hb : PSs X xb (tSs V1 X.prog X.w X.K E T body)) :
    PS X (.While xc xb [] pos) (tS V1 X.prog X.w X.K E T (.whl n c body)) := by
  refine PS.imp (ps_while hp hc hb) fun D σ H h => ?_
  obtain ⟨env, st, W, AS, AE, C, h⟩ := h
  rw [exs] at h
  refine ⟨fun m σ H => ∃ env st W AS AE, CfgE V1 X.prog X.w X.K T W H σ env st AS AE ∧ EndS V1 X.prog X.w X.K E T D (whileL (fun env st => evT V1.cl V1.txt V1.call c env st) (fun env st => exss V1.cl V1.txt V1.call body env st) m env st), ⟨n, env, st, W, AS, AE, C, h⟩, ?_⟩
  rintro m σ H ⟨env, st, W, AS, AE, C, h⟩
  cases m with
  | zero => rw [whileL] at h; exact h.elim
  | succ m =>
    rw [whileL] at h
    refine ⟨env, st, W, AS, AE, C.cfg, ?_⟩
    cases he : evT V1.cl V1.txt V1.call c env st with
    | bad => rw [he] at h; exact h
    | exc c ns vs st1 => rw [he] at h; exact EndS.exc C h
    | ok b st1 =>
      rw [he] at h
      intro W1 H1 AS1 g
      have C1 := C.after g
      cases b with
      | false =>
        simp only [Bool.false_eq_true, if_false]
        exact h _ _ _ _ _ C1
      | true =>
        simp only [if_true]
        refine ⟨fun σ' H' => ∃ env st W AS AE, CfgE V1 X.prog X.w X.K T W H' σ' env st AS AE ∧ EndS V1 X.prog X.w X.K E T D (whileL (fun env st => evT V1.cl V1.txt V1.call c env st) (fun env st => exss V1.cl V1.txt V1.call body env st) m env st), fun σ' H' q => ⟨m, Nat.lt_succ_self _, q⟩, env, st1, W1, AS1, AE, C1, ?_⟩
        simp only [EV.R.bind] at h
        cases hb2 : exss V1.cl V1.txt V1.call body env st1 with
        | bad => rw [hb2] at h; exact h
        | exc c ns vs st3 => rw [hb2] at h; exact h
        | ok o st3 =>
          rw [hb2] at h
          cases o with
          | next env3 => exact fun σ4 W4 H4 AS4 AE4 C4 => ⟨env3, st3, W4, AS4, AE4, C4, h⟩
          | ret v => exact h
end
end EV

set_option Elab.async false
set_option linter.all false
set_option maxRecDepth 100000
set_option maxHeartbeats 1000000
/-! EV8j: list comprehensions. -/
namespace EV
open PySem PySem.Spec PyProof.Rows L2
def zF : WX := fun _ _ _ _ => False
/-! ### names of the block -/
theorem wipe_in {σ : L2.St} {k : Nat} : ∀ {vs : List Nat}, k ∈ vs → (wipe σ vs)[k]? = (σ[k]?).map fun _ => none
  | [], h => (List.not_mem_nil h).elim
  | v :: vs, h => by
    unfold wipe
    by_cases e : v = k
    · subst e
      rw [List.getElem?_set]
      rw [if_pos rfl, wipe_length]
      by_cases hv : v < σ.length
      · rw [if_pos hv]
        simp [hv]
      · rw [if_neg hv]
        simp [hv]
    · rw [List.getElem?_set_ne e]
      exact wipe_in ((List.mem_cons.mp h).resolve_left fun z => e z.symm)
theorem wipe_same {σ τ : L2.St} {vs : List Nat} (hl : τ.length = σ.length) (h : ∀ k, k ∉ vs → τ[k]? = σ[k]?) : wipe τ vs = wipe σ vs := by
  refine List.ext_getElem? fun k => ?_
  by_cases hk : k ∈ vs
  · rw [wipe_in hk, wipe_in hk]
    by_cases hv : k < σ.length
    · simp [hv, show k < τ.length by omega]
    · simp [hv, show ¬ k < τ.length by omega]
  · rw [wipe_out hk, wipe_out hk, h k hk]
theorem setV_out {k : Nat} : ∀ {is : List Nat} {vs : List V} {σ : L2.St}, k ∉ is → (setV is vs σ)[k]? = σ[k]? ∧ (setV is vs σ).length = σ.length
  | [], vs, σ, _ => by cases vs <;> exact ⟨rfl, rfl⟩
  | i :: is, [], σ, _ => ⟨rfl, rfl⟩
  | i :: is, v :: vs, σ, h => by
    rw [setV]
    obtain ⟨h1, h2⟩ := setV_out (k := k) (vs := vs) (is := is) (σ := σ.set i (some v)) fun z => h (List.mem_cons_of_mem _ z)
    refine ⟨?_, by rw [h2, List.length_set]⟩
    rw [h1, List.getElem?_set_ne fun e => h (by rw [e]; exact List.mem_cons_self)]
theorem setV_len : ∀ {is : List Nat} {vs : List V} {σ : L2.St}, (setV is vs σ).length = σ.length
  | [], vs, σ => by cases vs <;> rfl
  | i :: is, [], σ => rfl
  | i :: is, v :: vs, σ => by
    rw [setV, setV_len, List.length_set]
section
variable {P : Program} {w : World} {K : PySem.W.Frag} {nm : Nm} {W W' : Wd} {H H' : Hp} {σ : L2.St} {env : EV.Env} {st : EV.St} {AS AE A : List Addr}
/-- a slot is given a value, or forgotten -/
theorem Cfg.setN {i : Nat} {o : Option OV} {y : Option V} (C : Cfg P w K nm W H σ env st AS AE) (h : SlotR P w K nm W H o y []) : ∃ AE', Cfg P w K nm W H (σ.set i y) (env.set i o) st AS AE' ∧ ∀ a ∈ AE', a ∈ AE := by
  by_cases hi : i < env.length
  · obtain ⟨x, A1, B, D, e1, e2, e3, e4⟩ := C.env.at hi
    have sub : ∀ a, a ∈ B ++ ([] ++ D) → a ∈ AE := fun a ha => by
      rw [e2]
      rw [List.nil_append] at ha
      rcases List.mem_append.mp ha with z | z
      · exact List.mem_append_left _ z
      · exact List.mem_append_right _ (List.mem_append_right _ z)
    have nd := C.nd
    rw [e2] at nd
    obtain ⟨n1, n2, n3⟩ := List.nodup_append.mp nd
    obtain ⟨m1, m2, m3⟩ := List.nodup_append.mp n2
    obtain ⟨k1, k2, k3⟩ := List.nodup_append.mp m2
    refine ⟨B ++ ([] ++ D), ⟨e4 o y [] h, C.str, ?_, fun a ha => ?_, C.tr⟩, sub⟩
    · rw [List.nil_append]
      exact List.nodup_append.mpr ⟨n1, List.nodup_append.mpr ⟨m1, k2, fun a ha b hb => m3 a ha b (List.mem_append_right _ hb)⟩, fun a ha b hb z => n3 a ha b (by rw [← e2]; exact sub b (by rw [List.nil_append]; exact hb)) z⟩
    · rcases List.mem_append.mp ha with z | z
      · exact C.ff a (List.mem_append_left _ z)
      · exact C.ff a (List.mem_append_right _ (sub a z))
  · have hl := C.env.length
    rw [List.set_eq_of_length_le (by omega), List.set_eq_of_length_le (by omega)]
    exact ⟨AE, C, fun _ h => h⟩
def wipeE (env : EV.Env) : List Nat → EV.Env
  | [] => env
  | v :: vs => (wipeE env vs).set v none
theorem Cfg.wipe (C : Cfg P w K nm W H σ env st AS AE) : ∀ vs : List Nat, ∃ AE', Cfg P w K nm W H (L2.wipe σ vs) (wipeE env vs) st AS AE' ∧ ∀ a ∈ AE', a ∈ AE
  | [] => ⟨AE, C, fun _ h => h⟩
  | v :: vs => by
    obtain ⟨A1, C1, s1⟩ := Cfg.wipe C vs
    obtain ⟨A2, C2, s2⟩ := C1.setN (i := v) (o := none) (y := none) rfl
    exact ⟨A2, C2, fun a h => s1 a (s2 a h)⟩
theorem Cfg.setSh {i : Nat} {x : PV} {v : V} (C : Cfg P w K nm W H σ env st AS AE) (r : Rep P w K nm W H x v) : ∃ AE', Cfg P w K nm W H (σ.set i (some v)) (env.set i (some (.sh x))) st AS AE' ∧ ∀ a ∈ AE', a ∈ AE :=
  C.setN (show RepO P w K nm W H (.sh x) v [] by rw [RepO]; exact ⟨rfl, r⟩)
theorem Cfg.bind : ∀ {is : List Nat} {xs : List PV} {vs : List V} {σ : L2.St} {env env' : EV.Env} {AE : List Addr}, Cfg P w K nm W H σ env st AS AE → bindMany is xs env = some env' → Reps P w K nm W H xs vs → ∃ AE', Cfg P w K nm W H (setV is vs σ) env' st AS AE' ∧ ∀ a ∈ AE', a ∈ AE
  | [], xs, vs, σ, env, env', AE, C, hb, hr => by
    cases xs with
    | nil =>
      rw [bindMany] at hb
      cases hb
      rw [hr.nil_inv]
      exact ⟨AE, C, fun _ h => h⟩
    | cons x xs => simp [bindMany] at hb
  | i :: is, xs, vs, σ, env, env', AE, C, hb, hr => by
    cases xs with
    | nil => simp [bindMany] at hb
    | cons x xs =>
      rw [bindMany] at hb
      obtain ⟨v, r, e, r1, r2⟩ := hr.uncons
      subst e
      obtain ⟨A1, C1, s1⟩ := C.setSh (i := i) r1
      obtain ⟨A2, C2, s2⟩ := Cfg.bind C1 hb r2
      exact ⟨A2, C2, fun a h => s1 a (s2 a h)⟩
theorem wipeE_len (env : EV.Env) : ∀ vs : List Nat, (wipeE env vs).length = env.length
  | [] => rfl
  | v :: vs => by rw [wipeE, List.length_set, wipeE_len]
theorem wipeE_out {k : Nat} : ∀ {vs : List Nat}, k ∉ vs → (wipeE env vs)[k]? = env[k]?
  | [], _ => rfl
  | v :: vs, h => by
    rw [wipeE, List.getElem?_set_ne fun e => h (by rw [e]; exact List.mem_cons_self)]
    exact wipeE_out fun z => h (List.mem_cons_of_mem _ z)
end
/-- envs that are alike but for the names that are set -/
theorem bind_alike : ∀ {is : List Nat} {xs : List PV} {e1 e2 : EV.Env}, e1.length = e2.length → (∀ k, k ∉ is → e1[k]? = e2[k]?) → bindMany is xs e1 = bindMany is xs e2
  | [], [], e1, e2, hl, h => by
    rw [bindMany, bindMany]
    congr 1
    exact List.ext_getElem? fun k => h k (by simp)
  | [], _ :: _, e1, e2, hl, h => by simp [bindMany]
  | _ :: _, [], e1, e2, hl, h => by simp [bindMany]
  | i :: is, x :: xs, e1, e2, hl, h => by
    rw [bindMany, bindMany]
    refine bind_alike (by simpa using hl) fun k hk => ?_
    by_cases e : i = k
    · subst e
      rw [List.getElem?_set, List.getElem?_set, if_pos rfl, if_pos rfl, hl]
    · rw [List.getElem?_set_ne e, List.getElem?_set_ne e]
      exact h k fun z => (List.mem_cons.mp z).elim (fun q => e q.symm) hk
def tgIs : Tg → List Nat
  | .one i => [i]
  | .many is => is
theorem bindTg_alike {tg : Tg} {p : PV} {env : EV.Env} {vs : List Nat} (h : ∀ v ∈ vs, v ∈ tgIs tg) : bindTg tg p (wipeE env vs) = bindTg tg p env := by
  have ha : ∀ k, k ∉ tgIs tg → (wipeE env vs)[k]? = env[k]? := fun k hk => wipeE_out fun z => hk (h k z)
  cases tg with
  | one i =>
    have := bind_alike (is := [i]) (xs := [p]) (e1 := wipeE env vs) (e2 := env) (wipeE_len _ _) ha
    simp only [bindMany] at this
    rw [bindTg, bindTg]
    exact this
  | many is =>
    cases p with
    | tup xs =>
      rw [bindTg, bindTg]
      exact bind_alike (wipeE_len _ _) ha
    | _ => simp [bindTg]
section
variable {P : Program} {w : World} {K : PySem.W.Frag} {nm : Nm} {W W' : Wd} {H H' : Hp} {σ : L2.St} {env env' : EV.Env} {st : EV.St} {AS AE A : List Addr}
/-- the block's names are set -/
theorem tg_blk {tg : Tg} {p : PV} {v : V} {vs : List Nat} {R : L2.St → Hp → Prop} (h1 : ∀ v ∈ vs, v ∈ tgIs tg) (h2 : ∀ v ∈ tgIs tg, v ∈ vs) (C : Cfg P w K nm W H σ env st AS AE) (hb : bindTg tg p env = some env') (hr : Rep P w K nm W H p v)
    (h : ∀ σ' AE', Cfg P w K nm W H σ' env' st AS AE' → (∀ a ∈ AE', a ∈ AE) → L2.wipe σ' vs = L2.wipe σ vs → R σ' H) : gTgE K tg v (L2.wipe σ vs) H R := by
  obtain ⟨A1, C1, s1⟩ := C.wipe vs
  rw [← bindTg_alike h1] at hb
  cases tg with
  | one i =>
    rw [bindTg] at hb
    cases hb
    obtain ⟨A2, C2, s2⟩ := C1.setSh (i := i) hr
    refine h _ A2 C2 (fun a z => s1 a (s2 a z)) (wipe_same (by rw [List.length_set, wipe_length]) fun k hk => ?_)
    rw [List.getElem?_set_ne fun e => hk (h2 k (by rw [← e]; exact List.mem_singleton.mpr rfl))]
    exact wipe_out hk
  | many is =>
    cases p with
    | tup xs =>
      rw [bindTg] at hb
      rw [Rep] at hr
      obtain ⟨a, us, e1, e2, e3⟩ := hr
      subst e1
      refine ⟨a, us, rfl, .of e2, by rw [← e3.length, bindMany_len hb], ?_⟩
      obtain ⟨A2, C2, s2⟩ := Cfg.bind C1 hb e3
      refine gNs_setV (D := { nx := R, rt := fun _ _ => False }) (by rw [← e3.length, bindMany_len hb]) (h _ A2 C2 (fun a z => s1 a (s2 a z)) (wipe_same (by rw [setV_len, wipe_length]) fun k hk => ?_))
      rw [(setV_out (vs := us) (is := is) (σ := L2.wipe σ vs) fun z => hk (h2 k z)).1]
      exact wipe_out hk
    | _ => simp [bindTg] at hb
end
section
variable {V1 : Env1} {X : Cx} {Z : WX} {pos : Pos}
/-- the clause's tests by their run -/
theorem ptsE_nil : PTs X [] (tR V1 X.prog X.w X.K zF (evTs V1.cl V1.txt V1.call [])) :=
  ⟨fun pins s σ H Q I h => pts_nil.run pins s σ H Q I (tR_ok (b := true) h fun _ _ => by rw [evTs])⟩
theorem ptsE_one {t : T} {x : Expr} (h : PT X x (tT V1 X.prog X.w X.K zF t)) : PTs X [x] (tR V1 X.prog X.w X.K zF (evTs V1.cl V1.txt V1.call [t])) := by
  refine ⟨fun pins s σ H Q I q => (pts_one h).run pins s σ H Q I ?_⟩
  have := tR_bind q (r1 := evT V1.cl V1.txt V1.call t) (f := fun b _ st => if b = true then .ok true st else .ok false st) fun env st => by
    rw [evTs]
    congr 1
    funext b st
    cases b
    · rfl
    · rw [evTs]; rfl
  refine tR_mono (fun b H1 q1 => ?_) this
  cases b
  · exact tR_ok (b := false) q1 fun _ _ => rfl
  · exact tR_ok (b := true) q1 fun _ _ => rfl
theorem GotT.wide {P : Program} {w : World} {K : PySem.W.Frag} {nm : Nm} {W W' : Wd} {H H' : Hp} {σ : L2.St} {env : EV.Env} {st st' : EV.St} {AS AE AE2 AS' : List Addr} (C : Cfg P w K nm W H σ env st AS AE) (g : GotT P w K nm W H AS AE2 st' W' H' AS') : GotT P w K nm W H AS AE st' W' H' AS' := by
  have n1 := List.nodup_append.mp C.nd
  have no : ∀ a ∈ AE, a ∉ AS' := fun a ha z => by
    rcases g.ent.st a z with q | q
    · exact n1.2.2 a q a ha rfl
    · exact C.live a (List.mem_append_right _ ha) q
  refine ⟨g.ent, g.str, List.nodup_append.mpr ⟨(List.nodup_append.mp g.nd).1, n1.2.1, fun a ha b hb z => no b hb (z ▸ ha)⟩, fun a ha => ?_, g.tr⟩
  rcases List.mem_append.mp ha with q | q
  · exact g.ff a (List.mem_append_left _ q)
  · refine ⟨fun z => ?_, fun z => ?_⟩
    · rcases g.ent.fr a z with y | y
      · exact (C.ff a (List.mem_append_right _ q)).1 y
      · exact C.live a (List.mem_append_right _ q) y
    · rw [g.ent.L] at z
      exact (C.ff a (List.mem_append_right _ q)).2 z
theorem Cfg.growC {P : Program} {w : World} {K : PySem.W.Frag} {nm : Nm} {W : Wd} {H H' : Hp} {σ : L2.St} {env : EV.Env} {st : EV.St} {AS AE : List Addr} (C : Cfg P w K nm W H σ env st AS AE) (h : ∀ a o, H a = some o → H' a = some o) : GotT P w K nm W H AS AE st W H' AS := by
  have kp : Kp W W H H' := ⟨fun _ h => h, fun _ h => h, fun _ _ h => h, fun a xs q => h a _ q, fun a o u q => h a _ q, fun a o _ q => h a o q⟩
  refine ⟨Ent.grow h, C.str.keep kp fun a _ o q => h a o q, C.nd, C.ff, fun a q => ?_⟩
  have := C.tr a q
  cases e : H a with
  | none => exact absurd e this
  | some o => rw [h a o e]; simp
/-- one turn of a comprehension -/
theorem compL_cons {call : Call} {el : EV.Env → EV.St → R OV} {e : EV.E} {tst : EV.Env → EV.St → R Bool} {tg : Tg} {env : EV.Env} {x : PV} {xs : List PV} {st st2 : EV.St} {res : List PV} (h : compL el e tst tg env (x :: xs) st = .ok res st2) :
    ∃ env' b st3, bindTg tg x env = some env' ∧ tst env' st = .ok b st3 ∧ ((b = false ∧ compL el e tst tg env xs st3 = .ok res st2) ∨ (b = true ∧ ∃ ov st4 v r, el env' st3 = .ok ov st4 ∧ tak e ov = some v ∧ compL el e tst tg env xs st4 = .ok r st2 ∧ res = v :: r)) := by
  rw [compL] at h
  cases hb : bindTg tg x env with
  | none => rw [hb] at h; cases h
  | some env' =>
    rw [hb] at h
    simp only at h
    cases ht : tst env' st with
    | bad => rw [ht] at h; cases h
    | exc c ns vs s => rw [ht] at h; cases h
    | ok b st3 =>
      rw [ht] at h
      refine ⟨env', b, st3, rfl, ht, ?_⟩
      cases b with
      | false => exact .inl ⟨rfl, h⟩
      | true =>
        right
        simp only at h
        cases he : el env' st3 with
        | bad => rw [he] at h; cases h
        | exc c ns vs s => rw [he] at h; cases h
        | ok ov st4 =>
          rw [he] at h
          simp only at h
          cases hk : tak e ov with
          | none => rw [hk] at h; cases h
          | some v =>
            rw [hk] at h
            simp only at h
            cases hr : compL el e tst tg env xs st4 with
            | bad => rw [hr] at h; cases h
            | exc c ns vs s => rw [hr] at h; cases h
            | ok r st5 =>
              rw [hr] at h
              cases h
              exact ⟨rfl, ov, st4, v, r, rfl, hk, hr, rfl⟩
theorem tE_comp {elt : EV.E} {tg : Tg} {it : EV.It} {its : List EV.E} {ifs : List T} {vs : List Nat} {σ : L2.St} {H : Hp} {Q : VK} (h1 : ∀ v ∈ vs, v ∈ tgIs tg) (h2 : ∀ v ∈ tgIs tg, v ∈ vs) (h : tE V1 X.prog X.w X.K Z (.comp elt tg it its ifs) σ H Q) :
    tLc (itTI V1 X Z it its) (gTgE X.K tg) (tR V1 X.prog X.w X.K zF (evTs V1.cl V1.txt V1.call ifs)) (tE V1 X.prog X.w X.K zF elt) vs σ H Q := by
  obtain ⟨env, st, W, AS, AE, C, h⟩ := h
  refine ⟨env, st, W, AS, AE, C, ?_⟩
  rw [ev] at h
  cases he : evs V1.cl V1.txt V1.call its env st with
  | bad => rw [he] at h; exact h
  | exc c ns vs st1 => rw [he] at h; exact h
  | ok ovs st1 =>
    rw [he] at h
    simp only [EV.R.bind] at h
    intro W1 H1 AS1 us B gs
    cases ht : taks its ovs with
    | none => rw [ht] at h; exact h.elim
    | some pvs =>
      rw [ht] at h
      simp only [Option.bind_some] at h
      cases hx : itItems it pvs with
      | none => rw [hx] at h; exact h.elim
      | some xs =>
        rw [hx] at h
        simp only at h
        have F := gs.froz C
        refine ⟨W1.fz B, pvs, xs, taks_rep gs.rep (fun _ h => h) ht, hx, fun J hw D hD => ?_⟩
        cases hc : compL (fun env st => ev V1.cl V1.txt V1.call elt env st) elt (fun env st => evTs V1.cl V1.txt V1.call ifs env st) tg env xs st1 with
        | bad => rw [hc] at h; exact h.elim
        | exc c ns vs st2 => rw [hc] at h; exact h.elim
        | ok res st2 =>
          rw [hc] at h
          simp only at h
          have hsz : res.length ≤ cap := by
            by_cases q : res.length ≤ cap
            · exact q
            · rw [if_neg q] at h
              exact h.elim
          rw [if_pos hsz] at h
          have G1 : GotT X.prog X.w X.K V1.nm W H AS AE st1 (W1.fz B) H1 AS1 := ⟨F.ent, F.str, F.nd, F.ff, F.tr⟩
          have hHD : H D = none := by
            cases q : H D with
            | none => rfl
            | some o => exact absurd hD (F.ent.live D (by rw [q]; simp))
          have nD : ¬ (W1.fz B).F D ∧ ¬ (W1.fz B).L D ∧ D ∉ AS1 ++ AE := ⟨fun z => F.tr D (.inl z) hD, fun z => F.tr D (.inr z) hD, fun z => F.liv D z hD⟩
          refine ⟨fun i m Hc => m = xs.length - i ∧ i ≤ xs.length ∧ ∃ Wd st' AS' accV accP, GotT X.prog X.w X.K V1.nm W H AS AE st' Wd Hc AS' ∧ Kp (W1.fz B) Wd H1 Hc ∧ Hc D = some (.lst accV) ∧ Reps X.prog X.w X.K V1.nm Wd Hc accP accV ∧ (¬ Wd.F D ∧ ¬ Wd.L D ∧ D ∉ AS' ++ AE) ∧
            ∃ rest, compL (fun env st => ev V1.cl V1.txt V1.call elt env st) elt (fun env st => evTs V1.cl V1.txt V1.call ifs env st) tg env (xs.drop i) st' = .ok rest st2 ∧ accP ++ rest = res,
            ⟨xs.length, by simp, Nat.zero_le _, W1.fz B, st1, AS1, [], [], G1.trans ((G1.cfg C).growC (keep_upd hD)), kp_upd hD, upd_same, Reps.nil, nD, res, hc, rfl⟩, ?_⟩
          rintro i m Hc ⟨hm, hile, Wd, st', AS', accV, accP, G, kp, hDc, racc, nDc, rest, hrest, hres⟩
          have Cc := G.cfg C
          by_cases hi : i < xs.length
          · right
            refine ⟨hw.go Wd Hc i kp hi, fun Hn => i + 1 ≤ xs.length ∧ ∃ Wd st' AS' accV accP, GotT X.prog X.w X.K V1.nm W H AS AE st' Wd Hn AS' ∧ Kp (W1.fz B) Wd H1 Hn ∧ Hn D = some (.lst accV) ∧ Reps X.prog X.w X.K V1.nm Wd Hn accP accV ∧ (¬ Wd.F D ∧ ¬ Wd.L D ∧ D ∉ AS' ++ AE) ∧
              ∃ rest, compL (fun env st => ev V1.cl V1.txt V1.call elt env st) elt (fun env st => evTs V1.cl V1.txt V1.call ifs env st) tg env (xs.drop (i + 1)) st' = .ok rest st2 ∧ accP ++ rest = res, fun Hn hn => ⟨xs.length - (i + 1), by omega, rfl, hn.1, hn.2⟩, fun x H' y => ?_⟩
            obtain ⟨grow, p, hp', rp⟩ := hw.yld Wd Hc i x H' kp hi y
            have hd : xs.drop i = p :: xs.drop (i + 1) := by
              rw [List.drop_eq_getElem_cons hi]
              congr 1
              have : xs[i]? = some xs[i] := by simp [hi]
              rw [this] at hp'
              exact Option.some.inj hp'
            rw [hd] at hrest
            obtain ⟨env', b, st3, hb1, hb2, hb3⟩ := compL_cons (call := V1.call) hrest
            have Gg := Cc.growC grow
            have C' := Gg.cfg Cc
            have kp' : Kp (W1.fz B) Wd H1 H' := kp.trans (Cc.kp Gg.ent)
            have hD' : H' D = some (.lst accV) := grow D _ hDc
            refine tg_blk h1 h2 C' hb1 rp fun σ' AE2 C2 sub hwp => ⟨hwp, env', st', Wd, AS', AE2, C2, ?_⟩
            rw [hb2]
            intro W3 H3 AS3 g3
            have g3w := GotT.wide C' g3
            -- what stays of the list
            have stayD : ∀ {W4 : EV.Wd} {H4 : Hp} {AS4 : List Addr} {st4 : EV.St}, GotT X.prog X.w X.K V1.nm Wd H' AS' AE st4 W4 H4 AS4 → H4 D = some (.lst accV) ∧ Reps X.prog X.w X.K V1.nm W4 H4 accP accV ∧ (¬ W4.F D ∧ ¬ W4.L D ∧ D ∉ AS4 ++ AE) := fun {W4 H4 AS4 st4} g => by
              refine ⟨g.ent.keep D _ hD' fun z => nDc.2.2 (List.mem_append_left _ z), Reps.keep (C'.kp g.ent) _ _ (Reps.keep (Cc.kp Gg.ent) _ _ racc), fun z => ?_, fun z => ?_, fun z => ?_⟩
              · rcases g.ent.fr D z with q | q
                · exact nDc.1 q
                · rw [hD'] at q; cases q
              · rw [g.ent.L] at z
                exact nDc.2.1 z
              · rcases List.mem_append.mp z with q | q
                · rcases g.ent.st D q with q | q
                  · exact nDc.2.2 (List.mem_append_left _ q)
                  · rw [hD'] at q; cases q
                · exact nDc.2.2 (List.mem_append_right _ q)
            rcases hb3 with ⟨eb, hb3⟩ | ⟨eb, ov, st4, v, r, hb4, hb5, hb6, hb7⟩
            · subst eb
              simp only [Bool.false_eq_true, if_false]
              obtain ⟨s1, s2, s3⟩ := stayD g3w
              exact ⟨hi, W3, st3, AS3, accV, accP, (G.trans Gg).trans g3w, kp'.trans (C'.kp g3w.ent), s1, s2, s3, rest, hb3, hres⟩
            · subst eb
              simp only [if_true]
              refine ⟨env', st3, W3, AS3, AE2, g3.cfg C2, ?_⟩
              have hb4' : ev V1.cl V1.txt V1.call elt env' st3 = .ok ov st4 := hb4
              rw [hb4']
              intro W4 H4 AS4 yv A4 g4
              obtain ⟨W5, g5, r5⟩ := g4.takT (g3.cfg C2) hb5
              have g5w := GotT.wide C' (g3.trans g5)
              obtain ⟨s1, s2, s3⟩ := stayD g5w
              have kpo := kp_own (W := W5) (H := H4) (a := D) (u := .lst (accV ++ [yv])) ⟨s3.1, s3.2.1⟩ ⟨_, s1, trivial⟩
              have Gn := (G.trans Gg).trans g5w
              have hlen : accP.length < cap := by
                have := congrArg List.length hres
                rw [hb7, List.length_append, List.length_cons] at this
                omega
              refine ⟨accV, s1, by rw [← s2.length, sizeLine_eq]; exact hlen, hi, W5, st4, AS4, accV ++ [yv], accP ++ [v], ⟨Gn.ent.own (.inr hHD), Gn.str.keep kpo fun a ha o q => ?_, Gn.nd, Gn.ff, tr_upd Gn.tr⟩, (kp'.trans (C'.kp g5w.ent)).trans kpo, upd_same, Reps.append (Reps.keep kpo _ _ s2) (Reps.cons (Rep.keep kpo _ _ r5) Reps.nil), s3, r, hb6, ?_⟩
              · rw [upd_ne (fun z => by subst z; exact s3.2.2 (List.mem_append_left _ ha))]
                exact q
              · rw [← hres, hb7, List.append_assoc]
                rfl
          · left
            have e : i = xs.length := by omega
            subst e
            rw [List.drop_length, compL] at hrest
            cases hrest
            rw [List.append_nil] at hres
            subst hres
            refine ⟨hw.stop Wd Hc kp, h Wd Hc AS' (.ref D) [D] ⟨G.ent, G.str, G.nd, G.ff, G.tr, ?_, fun q => by simp [isPl] at q, fun _ => ⟨by simp, fun a ha => ?_⟩, fun q => by simp [pureE] at q⟩⟩
            · rw [RepO]
              exact ⟨D, accV, rfl, rfl, hDc, racc⟩
            · rw [List.mem_singleton.mp ha]
              exact ⟨hHD, nDc.1, nDc.2.1, fun z => nDc.2.2 (List.mem_append_left _ z)⟩
/-- [elt for tg in it if ..] -/
theorem pe_compE {elt : EV.E} {tg : Tg} {it : EV.It} {its : List EV.E} {ifs : List T} {xe xt xi : Expr} {xs : List Expr} {scope : Scope} {own : List (Str × Nat)} (hc : X.calm = true) (hN : X.N.Nodup) (hi : PI X xt xi (itTI V1 X Z it its)) (ok : BlkOk X.N X.env.scope scope own)
    (h1 : ∀ v ∈ own.map (·.2), v ∈ tgIs tg) (h2 : ∀ v ∈ tgIs tg, v ∈ own.map (·.2))
    (hg : ∀ (s : Shared) (H : Hp) (C : Addr) (cl : List (Str × Addr)) (fp : List Addr), PG (X.blk s H scope (compEnvC scope cl C X.env) fp) xt (gTgE X.K tg))
    (ht : ∀ (s : Shared) (H : Hp) (C : Addr) (cl : List (Str × Addr)) (fp : List Addr), PTs (X.blk s H scope (compEnvC scope cl C X.env) fp) xs (tR V1 X.prog X.w X.K zF (evTs V1.cl V1.txt V1.call ifs)))
    (he : ∀ (s : Shared) (H : Hp) (C : Addr) (cl : List (Str × Addr)) (fp : List Addr), PE (X.blk s H scope (compEnvC scope cl C X.env) fp) xe (tE V1 X.prog X.w X.K zF elt)) (hs : ∀ x, foldedSetIterable xi X.env x = pure x) :
    PE X (.ListComp xe [⟨xt, xi, xs, 0⟩] scope pos) (tE V1 X.prog X.w X.K Z (.comp elt tg it its ifs)) :=
  PE.imp (pe_lc hc hN hi ok hg ht he hs) fun σ H Q q => tE_comp h1 h2 q
/-- n = [..] -/
theorem ps_setCE {E : XK} {T : Ety} {i : Nat} {fz : Bool} {y : Str} {py spos : Pos} {elt : EV.E} {tg : Tg} {it : EV.It} {its : List EV.E} {ifs : List EV.T} {xe xt xi : Expr} {xs : List Expr} {scope : Scope} {own : List (Str × Nat)} (hc : X.calm = true) (hN : X.N.Nodup) (hy : X.N[i]? = some y) (hyl : X.env.scope.names.lookup y = some .local)
    (hsw : swapsWith (.ListComp xe [⟨xt, xi, xs, 0⟩] scope pos) (some (.Name y py)) spos.line X.env = pure true) (hi : PI X xt xi (itTI V1 X (wxE E) it its)) (ok : BlkOk X.N X.env.scope scope own)
    (h1 : ∀ v ∈ own.map (·.2), v ∈ tgIs tg) (h2 : ∀ v ∈ tgIs tg, v ∈ own.map (·.2))
    (hg : ∀ (s : Shared) (H : Hp) (C : Addr) (cl : List (Str × Addr)) (fp : List Addr), PG (X.blk s H scope (compEnvC scope cl C X.env) fp) xt (gTgE X.K tg))
    (ht : ∀ (s : Shared) (H : Hp) (C : Addr) (cl : List (Str × Addr)) (fp : List Addr), PTs (X.blk s H scope (compEnvC scope cl C X.env) fp) xs (tR V1 X.prog X.w X.K zF (evTs V1.cl V1.txt V1.call ifs)))
    (he : ∀ (s : Shared) (H : Hp) (C : Addr) (cl : List (Str × Addr)) (fp : List Addr), PE (X.blk s H scope (compEnvC scope cl C X.env) fp) xe (tE V1 X.prog X.w X.K zF elt)) (hs : ∀ x, foldedSetIterable xi X.env x = pure x) (h0 : T.fx ≠ none → i ≠ 0) :
    PS X (.Assign [.Name y py] (.ListComp xe [⟨xt, xi, xs, 0⟩] scope pos) spos) (tS V1 X.prog X.w X.K E T (.set i fz (.comp elt tg it its ifs))) :=
  PS.imp (ps_setLc hc hN hy hyl hsw hi ok hg ht he hs) fun D σ H q => tE_comp h1 h2 (set_asg h0 q)
end
end EV

set_option Elab.async false
set_option linter.all false
set_option maxRecDepth 100000
set_option maxHeartbeats 1000000
/-! EV7f: calls with keywords; new instances. -/
namespace EV
open PySem PySem.Spec PyProof.Rows L2
/-! ### the arguments in the parameters' order -/
def cstV : PV → V
  | .bl b => .bl b
  | .int i => .int i
  | .str s => .str s
  | _ => .non
def permVs : List Arg → List V → List V
  | [], _ => []
  | .at i :: pm, vs => vs.getD i .non :: permVs pm vs
  | .dfl v :: pm, vs => cstV v :: permVs pm vs
def cstOk : PV → Bool
  | .non => true
  | .bl _ => true
  | .int _ => true
  | .str _ => true
  | _ => false
def pmOk : List Arg → Bool
  | [] => true
  | .at _ :: pm => pmOk pm
  | .dfl v :: pm => cstOk v && pmOk pm
theorem permVs_len : ∀ (pm : List Arg) (vs : List V), (permVs pm vs).length = pm.length
  | [], _ => rfl
  | .at _ :: pm, vs => by rw [permVs, List.length_cons, List.length_cons, permVs_len]
  | .dfl _ :: pm, vs => by rw [permVs, List.length_cons, List.length_cons, permVs_len]
theorem args_perm {P : Program} {w : World} {K : PySem.W.Frag} {nm : Nm} {W : Wd} {H : Hp} : ∀ {pm : List Arg} {xs ys : List PV} {vs : List V}, pmOk pm = true → argsOf pm xs = some ys → Reps P w K nm W H xs vs → Reps P w K nm W H ys (permVs pm vs)
  | [], xs, ys, vs, _, h, r => by
    rw [argsOf] at h
    cases h
    exact Reps.nil
  | .dfl v :: pm, xs, ys, vs, hk, h, r => by
    rw [argsOf] at h
    rw [pmOk, Bool.and_eq_true] at hk
    obtain ⟨zs, h1, h2⟩ := Option.map_eq_some_iff.mp h
    subst h2
    refine Reps.cons ?_ (args_perm hk.2 h1 r)
    cases v <;> first
      | rfl
      | (simp [cstOk] at hk)
  | .at i :: pm, xs, ys, vs, hk, h, r => by
    rw [argsOf] at h
    rw [pmOk] at hk
    cases hx : xs[i]? with
    | none => rw [hx] at h; cases h
    | some x =>
      cases hr : argsOf pm xs with
      | none => rw [hx, hr] at h; cases h
      | some zs =>
        rw [hx, hr] at h
        cases h
        obtain ⟨v, hv, rv⟩ := r.get hx
        refine Reps.cons ?_ (args_perm hk hr r)
        rw [List.getD_eq_getElem?_getD, hv]
        exact rv
/-- how a call with n positional arguments and the keywords ks binds -/
def KwB (K : PySem.W.Frag) (fd : FuncData) (ps : List Str) (n : Nat) (ks : List Str) (pm : List Arg) : Prop :=
  ∀ (s : Shared) (vs : List V) (us ws : List Value), K.In s.heap → us.length = n → ws.length = ks.length → Vals vs (us ++ ws) → ∃ bs, BindsTo s fd ⟨us, ks.zip ws⟩ (ps.zip bs) ∧ Vals (permVs pm vs) bs
section
variable {V1 : Env1} {X : Cx} {Z : WX} {pos apos p : Pos} {k : Nat}
/-- the keywords' values -/
def PKs (V1 : Env1) (Z : WX) (X : Cx) : List EV.E → List Str → List Keyword → Prop
  | [], ks, kws => ks = [] ∧ kws = []
  | e :: es, ks, kws => ∃ n x kp kr r, ks = n :: kr ∧ kws = ⟨some n, x, kp⟩ :: r ∧ PE X x (tE V1 X.prog X.w X.K Z e) ∧ PKs V1 Z X es kr r
/-- one behind another -/
def tN (V1 : Env1) (P : Program) (w : World) (K : PySem.W.Frag) (Z : WX) : List EV.E → TA
  | [] => fun _ H Q => Q [] H
  | e :: es => fun σ H Q => tE V1 P w K Z e σ H fun v H1 => tN V1 P w K Z es σ H1 fun vs H2 => Q (v :: vs) H2
theorem tN_mono : ∀ {es : List EV.E} {σ : L2.St} {H : Hp} {Q Q' : List V → Hp → Prop}, (∀ vs H, Q vs H → Q' vs H) → tN V1 X.prog X.w X.K Z es σ H Q → tN V1 X.prog X.w X.K Z es σ H Q'
  | [], _, _, _, _, i, h => i _ _ h
  | e :: es, _, _, _, _, i, h => tE_mono (fun v H1 q => tN_mono (fun vs H2 q => i _ _ q) q) h
theorem tN_of : ∀ {es : List EV.E} {σ : L2.St} {H : Hp} {Q : List V → Hp → Prop}, tL V1 X.prog X.w X.K Z es σ H Q → tN V1 X.prog X.w X.K Z es σ H Q
  | [], _, _, _, h => tL_nil h
  | e :: es, _, _, _, h => tE_mono (fun v H1 q => tN_of q) (tL_cons h)
theorem tN_app : ∀ {es1 es2 : List EV.E} {σ : L2.St} {H : Hp} {Q : List V → Hp → Prop}, tL V1 X.prog X.w X.K Z (es1 ++ es2) σ H Q → tN V1 X.prog X.w X.K Z es1 σ H fun vs H1 => tN V1 X.prog X.w X.K Z es2 σ H1 fun zs H2 => Q (vs ++ zs) H2
  | [], es2, _, _, _, h => tN_of (es := es2) h
  | e :: es1, es2, _, _, _, h => tE_mono (fun v H1 q => tN_mono (fun vs H2 q => tN_mono (fun zs H3 q => q) q) (tN_app q)) (tL_cons (es := es1 ++ es2) h)
theorem tN_len : ∀ {es : List EV.E} {σ : L2.St} {H : Hp} {Q : List V → Hp → Prop}, tN V1 X.prog X.w X.K Z es σ H Q → tN V1 X.prog X.w X.K Z es σ H fun vs H1 => vs.length = es.length ∧ Q vs H1
  | [], _, _, _, h => ⟨rfl, h⟩
  | e :: es, _, _, _, h => tE_mono (fun v H1 q => tN_mono (fun vs H2 q => ⟨by rw [List.length_cons, List.length_cons, q.1], q.2⟩) (tN_len q)) h
theorem pan_of : ∀ {es : List EV.E} {xs : List Expr}, PEs V1 Z X es xs → PA X xs (tN V1 X.prog X.w X.K Z es)
  | [], xs, h => by
    rw [show xs = [] from h]
    exact pa_nil
  | e :: es, xs, h => by
    obtain ⟨x, r, ex, ns, h1, h2⟩ := h
    subst ex
    exact pa_cons h1 (pan_of h2) (starEach_cons ns)
theorem pkn_of : ∀ {es : List EV.E} {ks : List Str} {kws : List Keyword}, PKs V1 Z X es ks kws → PK X kws (tN V1 X.prog X.w X.K Z es)
  | [], ks, kws, h => by
    rw [h.2]
    exact pk_nil
  | e :: es, ks, kws, h => by
    obtain ⟨n, x, kp, kr, r, e1, e2, h1, h2⟩ := h
    subst e2
    exact pk_cons h1 (pkn_of h2)
theorem PKs.names : ∀ {es : List EV.E} {ks : List Str} {kws : List Keyword}, PKs V1 Z X es ks kws → ∀ pos env, (backToKw pos (keywordEach kws env)).all (·.1.isSome) = true ∧ (backToKw pos (keywordEach kws env)).filterMap (·.1) = ks ∧ (backToKw pos (keywordEach kws env)).any (·.1.isNone) = false
  | [], ks, kws, h, pos, env => by
    rw [h.1, h.2]
    exact ⟨rfl, rfl, rfl⟩
  | e :: es, ks, kws, h, pos, env => by
    obtain ⟨n, x, kp, kr, r, e1, e2, h1, h2⟩ := h
    subst e1 e2
    obtain ⟨q1, q2, q3⟩ := PKs.names h2 pos env
    have ee : backToKw pos (keywordEach (⟨some n, x, kp⟩ :: r) env) = (some n, (do let v ← eval x env; standAt pos; pure v)) :: backToKw pos (keywordEach r env) := rfl
    rw [ee]
    refine ⟨by rw [List.all_cons, q1]; rfl, by rw [List.filterMap_cons]; simp [q2], by rw [List.any_cons, q3]; rfl⟩
theorem PKs.length : ∀ {es : List EV.E} {ks : List Str} {kws : List Keyword}, PKs V1 Z X es ks kws → ks.length = es.length ∧ kws.length = es.length
  | [], ks, kws, h => by rw [h.1, h.2]; exact ⟨rfl, rfl⟩
  | e :: es, ks, kws, h => by
    obtain ⟨n, x, kp, kr, r, e1, e2, h1, h2⟩ := h
    obtain ⟨q1, q2⟩ := PKs.length h2
    rw [e1, e2, List.length_cons, List.length_cons, List.length_cons, q1, q2]
    exact ⟨rfl, rfl⟩
/-- a def is run, with keywords; its exceptions are ours -/
theorem run_kw {fa : Addr} {fd : FuncData} {ps ks : List Str} {pm : List Arg} {sp : Sp} {pins : List (Addr × Obj)} {σ : L2.St} {H : Hp} {s : Shared} {Q : VK} {us ws : List Value} {vs zs : List V} {n : Nat} (F : FnG X.prog X.w X.K X.mg X.base (L2.CX X.prog X.w) k fa fd ps sp) (room : Room k X.A) (gd : X.A.guards = some [])
    (hb : KwB X.K fd ps n ks pm) (tk : L2.Takes X Z) (I : Inv X pins σ H s) (rv : Vals vs us) (rz : Vals zs ws) (hn : vs.length = n) (hk : zs.length = ks.length) (hsp : sp (permVs pm (vs ++ zs)) H Q (fun cls d H' => Z cls d σ H')) : wpAny (model X.prog X.w) X.A (call (.ref fa) us (ks.zip ws)) (EP X pins σ Q) X.xe s := by
  obtain ⟨bs, b1, b2⟩ := hb s (vs ++ zs) us ws I.kIn (by rw [← rv.length]; exact hn) (by rw [← rz.length]; exact hk) (rv.append rz)
  exact run_z F room gd b1 tk I b2 hsp
/-- f(e, .., k = e, ..) -/
theorem pe_callKE {f np n : Nat} {nm : Str} {es1 es2 : List EV.E} {xs : List Expr} {ks : List Str} {kws : List Keyword} {pm : List Arg} {fa : Addr} {fd : FuncData} {ps : List Str} (F : FnG X.prog X.w X.K X.mg X.base (L2.CX X.prog X.w) k fa fd ps (spC X.prog X.w X.K V1.nm V1.call f np)) (room : Room k X.A) (gd : X.A.guards = some [])
    (hg : Gl X nm) (hm : X.mg nm = some (.ref fa)) (kp : PySem.W.keepIn X.K (.ref fa) = true) (bd : KwB X.K fd ps n ks pm) (tk : L2.Takes X Z) (h : PEs V1 Z X es1 xs) (h2 : PKs V1 Z X es2 ks kws) (hl : es1.length = n) (hpm : pm.length = np) (hok : pmOk pm = true) (hdb : (nm == ("__debug__" : Str)) = false) :
    PE X (.Call (.Name nm p) xs kws pos) (tE V1 X.prog X.w X.K Z (.callK f (es1 ++ es2) pm)) := by
  obtain ⟨k1, k2, k3⟩ := h2.names pos X.env
  obtain ⟨l1, l2⟩ := h2.length
  refine ⟨fun pins s σ H Q I q => ?_⟩
  have q := tN_app (tE_callK (np := np) (gV := permVs pm) (fun vs _ => by rw [permVs_len, hpm]) (fun W H xs ys vs h r => args_perm hok h r) q)
  refine wpAny_Call_Name_kw (ld_glob I hg hm ?_ hdb)
  cases es1 with
  | nil =>
    rw [show xs = [] from h]
    refine PySem.W.callWith_KW0 (h₀ := X.base) I.ok.mod.kin kp k1 ?_ (by rw [k3]; rfl)
    refine thn ((pkn_of h2).run pos pins s σ H _ I (tN_len q)) fun ws s2 ⟨zs, H2, I2, rz, hz, q2⟩ => ⟨I2.kIn, ?_⟩
    rw [k2]
    exact run_kw (us := []) (vs := []) F room gd bd tk I2 .nil rz (by simpa using hl) (by rw [hz, l1]) q2
  | cons e es =>
    obtain ⟨x, r, ex, ns, h3⟩ := h.split
    subst ex
    refine PySem.W.callWith_KW (h₀ := X.base) I.ok.mod.kin kp k1 (thn ((pan_of h).run pos pins s σ H _ I (tN_len q)) fun us s1 ⟨vs, H1, I1, rv, hv, q1⟩ => ?_) (by rw [h.stars pos X.env, k3]; rfl) (starEach_cons ns)
    refine thn ((pkn_of h2).run pos pins s1 σ H1 _ I1 (tN_len q1)) fun ws s2 ⟨zs, H2, I2, rz, hz, q2⟩ => ⟨I2.kIn, ?_⟩
    rw [k2]
    exact run_kw F room gd bd tk I2 rv rz (hv.trans hl) (by rw [hz, l1]) q2
/-! ### o.m(e, .., k = e, ..) -/
/-- a method of any of the classes, with keywords: n arguments by place, the receiver first -/
def MethK (V1 : Env1) (X : Cx) (m : Nat) (mn : Str) (n : Nat) (ks : List Str) (pm : List Arg) : Prop := ∀ c ∈ V1.nm.cs, ∀ f, V1.cl.meth c m = some f → ∃ k fa fd ps, L2.Meth X.K (ca X.K V1.nm c) mn fa ∧ Room k X.A ∧
  FnG X.prog X.w X.K X.mg X.base (L2.CX X.prog X.w) k fa fd ps (spC X.prog X.w X.K V1.nm V1.call f (pm.length + 1)) ∧ KwB X.K fd ps (n + 1) ks (.at 0 :: pm.map fun a => match a with | .at i => .at (i + 1) | .dfl v => .dfl v)
def shiftPm (pm : List Arg) : List Arg := pm.map fun a => match a with | .at i => .at (i + 1) | .dfl v => .dfl v
theorem permVs_shift (v : V) (vs : List V) : ∀ pm : List Arg, permVs (shiftPm pm) (v :: vs) = permVs pm vs
  | [] => rfl
  | .at i :: pm => by
    show permVs (.at (i + 1) :: shiftPm pm) (v :: vs) = _
    rw [permVs, permVs, permVs_shift v vs pm]
    rfl
  | .dfl x :: pm => by
    show permVs (.dfl x :: shiftPm pm) (v :: vs) = _
    rw [permVs, permVs, permVs_shift v vs pm]
theorem pe_mcallKE {m : Nat} {mn : Str} {e : EV.E} {es1 es2 : List EV.E} {xo : Expr} {xs : List Expr} {ks : List Str} {kws : List Keyword} {pm : List Arg} (Fc : Facts V1.nm X.K) (M : MethK V1 X m mn es1.length ks pm) (hno : ∀ g ∈ V1.nm.fs, V1.nm.fld g ≠ mn) (gd : X.A.guards = some []) (tk : L2.Takes X Z)
    (ho : PE X xo (tE V1 X.prog X.w X.K Z e)) (hd : dotOk xo = true) (h : PEs V1 Z X es1 xs) (h2 : PKs V1 Z X es2 ks kws) (hok : pmOk pm = true) (hs : xs.all noStar = true) (hn : xs.length + kws.length < 20) (hp : (apos.endLine == pos.line) = true) : PE X (.Call (.Attribute xo mn apos) xs kws pos) (tE V1 X.prog X.w X.K Z (.mcallK m (e :: (es1 ++ es2)) pm)) := by
  obtain ⟨k1, k2, k3⟩ := h2.names pos X.env
  obtain ⟨l1, l2⟩ := h2.length
  refine PE.imp (t := tMe V1 X Z m (pm.length + 1) e (es1 ++ es2) (permVs pm)) ⟨fun pins s σ H Q I q => ?_⟩ fun σ H Q q => tE_mcallK (fun vs _ => by rw [permVs_len]) (fun W H xs ys vs h r => args_perm hok h r) q
  refine PySem.W.methodCall_KW (thn (ho.run pins s σ H _ I q) ?_) (meth_text hd hs k1 hn hp)
  intro u s1 hh
  obtain ⟨x, H1, I1, rx, a, c, f, dx, fs, ex, hc, hm, hH, hnm, q1⟩ := hh
  subst ex
  cases (show u = Value.ref a from rx)
  obtain ⟨k, fa, fd, ps, mt, room, F, bd⟩ := M c hc f hm
  have hlk : fs.lookup mn = none := by
    cases hl : fs.lookup mn with
    | none => rfl
    | some z =>
      exfalso
      have : (mn, z) ∈ fs := PySem.mem_of_lookup hl
      obtain ⟨g, hg, eg⟩ := hnm mn (List.mem_map.mpr ⟨_, this, rfl⟩)
      exact hno g hg eg
  refine getmeth_ok I1 hH (Fc.cls c hc) mt hlk ?_
  have q1 := tN_app q1
  have fin : ∀ {s' : Shared} {H' : Hp} {us ws : List Value} {vs zs : List V}, Inv X pins σ H' s' → Vals vs us → Vals zs ws → vs.length = es1.length → zs.length = es2.length → spC X.prog X.w X.K V1.nm V1.call f (pm.length + 1) (V.ref a :: permVs pm (vs ++ zs)) H' Q (fun cls d H' => Z cls d σ H') →
      wpAny (model X.prog X.w) X.A (call (.ref fa) (Value.ref a :: us) (ks.zip ws)) (EP X pins σ Q) X.xe s' := fun {s' H' us ws vs zs} I' rv rz hv hz hsp => by
    refine run_kw (us := Value.ref a :: us) (vs := V.ref a :: vs) (pm := .at 0 :: shiftPm pm) F room gd bd tk I' (.cons rfl rv) rz (by rw [List.length_cons, hv]) (by rw [hz, l1]) ?_
    have : permVs (.at 0 :: shiftPm pm) (V.ref a :: vs ++ zs) = V.ref a :: permVs pm (vs ++ zs) := by
      rw [permVs]
      show (V.ref a) :: permVs (shiftPm pm) (V.ref a :: (vs ++ zs)) = _
      rw [permVs_shift]
    rw [this]
    exact hsp
  cases es1 with
  | nil =>
    rw [show xs = [] from h]
    refine PySem.W.callWith_KW0 (first := [.ref a]) (h₀ := X.base) I.ok.mod.kin mt.kp k1 ?_ (by rw [k3]; rfl)
    refine thn ((pkn_of h2).run pos pins s1 σ H1 _ I1 (tN_len q1)) fun ws s2 ⟨zs, H2, I2, rz, hz, q2⟩ => ⟨I2.kIn, ?_⟩
    rw [k2]
    exact fin (us := []) (vs := []) I2 .nil rz rfl hz q2
  | cons e2 es =>
    obtain ⟨x2, r, ex, ns, h3⟩ := h.split
    subst ex
    refine PySem.W.callWith_KW (first := [.ref a]) (h₀ := X.base) I.ok.mod.kin mt.kp k1 (thn ((pan_of h).run pos pins s1 σ H1 _ I1 (tN_len q1)) fun us s2 ⟨vs, H2, I2, rv, hv, q2⟩ => ?_) (by rw [h.stars pos X.env, k3]; rfl) (starEach_cons ns)
    refine thn ((pkn_of h2).run pos pins s2 σ H2 _ I2 (tN_len q2)) fun ws s3 ⟨zs, H3, I3, rz, hz, q3⟩ => ⟨I3.kIn, ?_⟩
    rw [k2]
    exact fin I3 rv rz hv hz q3
/-! ### a new instance -/
/-- the promise of an __init__: H is the heap ahead, with the new instance of the class c -/
def spI (P : Program) (w : World) (K : PySem.W.Frag) (nm : Nm) (call : Call) (c np : Nat) : Sp := fun vs H Q E => vs.length = np ∧ ∃ x dx us H1 W pvs st AS, vs = .ref x :: us ∧ H1 x = none ∧ H1 dx = none ∧ dx ≠ x ∧
  H = upd (upd H1 dx (.own x)) x (.ins (ca K nm c) dx []) ∧ ArgsR P w K nm W H1 AS pvs st us ∧
  match call (1000 + c) pvs st with
  | .ok ov st' => ∀ W' H' AS' A, Got P w K nm W H1 AS [] .dct0 ov st' W' H' AS' (.ref x) A → Q .non H'
  | .exc c ns xs st' => ∀ W' H' AS' cls d, GotX P w K nm W H1 AS [] c ns xs st' W' H' AS' cls d → E cls d H'
  | .bad => False
theorem spI_of {P : Program} {w : World} {K : PySem.W.Frag} {nm : Nm} {call : Call} {c np : Nat} {us : List V} {H1 : Hp} {Q : VK} {E : XK} (h : spC P w K nm call (1000 + c) np us H1 Q E) {x dx : Addr} (hx : H1 x = none) (hd : H1 dx = none) (hn : dx ≠ x) :
    spI P w K nm call c (np + 1) (.ref x :: us) (upd (upd H1 dx (.own x)) x (.ins (ca K nm c) dx [])) (fun v H2 => v = .non ∧ Q (.ref x) H2) E := by
  obtain ⟨hl, W, pvs, st, AS, ha, hc⟩ := h
  refine ⟨by rw [List.length_cons, hl], x, dx, us, H1, W, pvs, st, AS, rfl, hx, hd, hn, rfl, ha, ?_⟩
  unfold CallEnd at hc
  cases he : call (1000 + c) pvs st with
  | bad => rw [he] at hc; exact hc
  | exc c ns xs st' => rw [he] at hc; exact hc
  | ok ov st' =>
    rw [he] at hc
    exact fun W' H' AS' A g => ⟨rfl, hc W' H' AS' _ A g⟩
/-- C(..) is run -/
theorem run_new {c np : Nat} {fa : Addr} {fd : FuncData} {ps : List Str} {pins : List (Addr × Obj)} {σ : L2.St} {H : Hp} {s : Shared} {Q : VK} {us : List Value} {kw : List (Str × Value)} {bvs : List V} (M : Mk X.K (ca X.K V1.nm c) fa)
    (F : FnG X.prog X.w X.K X.mg X.base (L2.CX X.prog X.w) k fa fd ps (spI X.prog X.w X.K V1.nm V1.call c (np + 1))) (room : Room (k + 1) X.A) (gd : X.A.guards = some []) (tk : L2.Takes X Z) (I : Inv X pins σ H s)
    (hb : ∀ s' : Shared, X.K.In s'.heap → ∀ x : Addr, ∃ bs, BindsTo s' fd ⟨Value.ref x :: us, kw⟩ (ps.zip (Value.ref x :: bs)) ∧ Vals bvs bs) (hsp : spC X.prog X.w X.K V1.nm V1.call (1000 + c) np bvs H Q (fun cls d H' => Z cls d σ H')) :
    wpAny (model X.prog X.w) X.A (call (.ref (ca X.K V1.nm c)) us kw) (EP X pins σ Q) X.xe s := by
  have hq := spI_of hsp (x := s.heap.objs.size + 1) (dx := s.heap.objs.size) (I.hok.fresh (Nat.le_succ _)) (I.hok.fresh (Nat.le_refl _)) (Nat.ne_of_lt (Nat.lt_succ_self _))
  have I2 := Inv.made (C := ca X.K V1.nm c) I
  obtain ⟨bs, b1, b2⟩ := hb _ I2.kIn (s.heap.objs.size + 1)
  have rvs : Vals (V.ref (s.heap.objs.size + 1) :: bvs) (Value.ref (s.heap.objs.size + 1) :: bs) := .cons rfl b2
  refine wpAny_call (make_map (f := fa) I.kIn M.makes M.init (beq_iff_eq.mp M.fn) (codeAny_mono (F.go _ X.stack _ _ ⟨Value.ref (s.heap.objs.size + 1) :: us, kw⟩ (Value.ref (s.heap.objs.size + 1) :: bs) _ _ _ (room.make _ us kw) (by exact gd)
    (I2.env0.make _ us kw) b1 rvs hq) fun r s' hr => ?_))
  cases r with
  | error e => exact tk e s' (L2.XE.of_call I2 (fun _ _ _ h => h) hr)
  | ok fl =>
    cases fl with
    | ret u =>
      obtain ⟨v, H', I3, rv, ev, q3⟩ := I2.after hr
      subst ev
      exact ⟨rv, ⟨V.ref (s.heap.objs.size + 1), H', I3, rfl, q3⟩⟩
    | _ => exact (show False from hr).elim
/-- C(e, ..) -/
theorem pe_newE {c np : Nat} {n : Str} {es : List EV.E} {xs : List Expr} {fa : Addr} {fd : FuncData} {ps : List Str} (M : Mk X.K (ca X.K V1.nm c) fa)
    (F : FnG X.prog X.w X.K X.mg X.base (L2.CX X.prog X.w) k fa fd ps (spI X.prog X.w X.K V1.nm V1.call c (np + 1))) (room : Room (k + 1) X.A) (gd : X.A.guards = some []) (hg : Gl X n) (hm : X.mg n = some (.ref (ca X.K V1.nm c)))
    (bd : ∀ (s : Shared) (us : List Value), us.length = np + 1 → BindsTo s fd ⟨us, []⟩ (ps.zip us)) (tk : L2.Takes X Z) (h : PEs V1 Z X es xs) (hl : es.length = np) (hdb : (n == ("__debug__" : Str)) = false) : PE X (.Call (.Name n p) xs [] pos) (tE V1 X.prog X.w X.K Z (.call (1000 + c) es)) := by
  have ha := pa_of h
  refine PE.imp (t := fun σ H Q => tL V1 X.prog X.w X.K Z es σ H fun vs H1 => spC X.prog X.w X.K V1.nm V1.call (1000 + c) np vs H1 Q (fun cls d H' => Z cls d σ H')) ⟨fun pins s σ H Q I q => ?_⟩ fun σ H Q q => tE_call hl q
  refine wpAny_Call_Name_kw (ld_glob I hg hm ?_ hdb)
  cases es with
  | nil =>
    rw [show xs = [] from h]
    have q0 := tL_nil q
    refine PySem.W.callWith_K0 I.kIn M.kp ?_
    exact run_new (us := []) (kw := []) M F room gd tk I (fun s' _ x => ⟨[], bd s' [.ref x] (by rw [← hl]; rfl), .nil⟩) q0
  | cons e es =>
    obtain ⟨x, r, ex, ns, h2⟩ := h.split
    subst ex
    refine PySem.W.callWith_K (h₀ := X.base) I.ok.mod.kin M.kp (thn (ha.run pos pins s σ H _ I q) ?_) (starEach_cons ns) (h2.stars pos X.env)
    intro us s1 hh
    obtain ⟨vs, H1, I1, rv, q1⟩ := hh
    refine ⟨I1.kIn, ?_⟩
    exact run_new (kw := []) M F room gd tk I1 (fun s' _ x => ⟨us, bd s' (.ref x :: us) (by rw [List.length_cons, ← rv.length, q1.1]), rv⟩) q1
/-- C(e, .., k = e, ..) -/
theorem pe_newKE {c np n : Nat} {nm : Str} {es1 es2 : List EV.E} {xs : List Expr} {ks : List Str} {kws : List Keyword} {pm : List Arg} {fa : Addr} {fd : FuncData} {ps : List Str} (M : Mk X.K (ca X.K V1.nm c) fa)
    (F : FnG X.prog X.w X.K X.mg X.base (L2.CX X.prog X.w) k fa fd ps (spI X.prog X.w X.K V1.nm V1.call c (np + 1))) (room : Room (k + 1) X.A) (gd : X.A.guards = some []) (hg : Gl X nm) (hm : X.mg nm = some (.ref (ca X.K V1.nm c)))
    (bd : KwB X.K fd ps (n + 1) ks (.at 0 :: shiftPm pm)) (tk : L2.Takes X Z) (h : PEs V1 Z X es1 xs) (h2 : PKs V1 Z X es2 ks kws) (hl : es1.length = n) (hpm : pm.length = np) (hok : pmOk pm = true) (hdb : (nm == ("__debug__" : Str)) = false) :
    PE X (.Call (.Name nm p) xs kws pos) (tE V1 X.prog X.w X.K Z (.callK (1000 + c) (es1 ++ es2) pm)) := by
  obtain ⟨k1, k2, k3⟩ := h2.names pos X.env
  obtain ⟨l1, l2⟩ := h2.length
  refine ⟨fun pins s σ H Q I q => ?_⟩
  have q := tN_app (tE_callK (np := np) (gV := permVs pm) (fun vs _ => by rw [permVs_len, hpm]) (fun W H xs ys vs h r => args_perm hok h r) q)
  have fin : ∀ {s' : Shared} {H' : Hp} {us ws : List Value} {vs zs : List V}, Inv X pins σ H' s' → Vals vs us → Vals zs ws → vs.length = es1.length → zs.length = es2.length → spC X.prog X.w X.K V1.nm V1.call (1000 + c) np (permVs pm (vs ++ zs)) H' Q (fun cls d H' => Z cls d σ H') →
      wpAny (model X.prog X.w) X.A (call (.ref (ca X.K V1.nm c)) us (ks.zip ws)) (EP X pins σ Q) X.xe s' := fun {s' H' us ws vs zs} I' rv rz hv hz hsp => by
    refine run_new (bvs := permVs pm (vs ++ zs)) M F room gd tk I' (fun s2 kin x => ?_) hsp
    obtain ⟨bs, b1, b2⟩ := bd s2 (V.ref x :: (vs ++ zs)) (Value.ref x :: us) ws kin (by rw [List.length_cons, ← rv.length, hv, hl]) (by rw [← rz.length, hz, l1]) (.cons rfl (rv.append rz))
    have e : permVs (.at 0 :: shiftPm pm) (V.ref x :: (vs ++ zs)) = V.ref x :: permVs pm (vs ++ zs) := by
      rw [permVs, permVs_shift]
      rfl
    rw [e] at b2
    cases b2 with
    | cons ra rb =>
      cases ra
      exact ⟨_, b1, rb⟩
  refine wpAny_Call_Name_kw (ld_glob I hg hm ?_ hdb)
  cases es1 with
  | nil =>
    rw [show xs = [] from h]
    refine PySem.W.callWith_KW0 (h₀ := X.base) I.ok.mod.kin M.kp k1 ?_ (by rw [k3]; rfl)
    refine thn ((pkn_of h2).run pos pins s σ H _ I (tN_len q)) fun ws s2 ⟨zs, H2, I2, rz, hz, q2⟩ => ⟨I2.kIn, ?_⟩
    rw [k2]
    exact fin (us := []) (vs := []) I2 .nil rz rfl hz q2
  | cons e es =>
    obtain ⟨x, r, ex, ns, h3⟩ := h.split
    subst ex
    refine PySem.W.callWith_KW (h₀ := X.base) I.ok.mod.kin M.kp k1 (thn ((pan_of h).run pos pins s σ H _ I (tN_len q)) fun us s1 ⟨vs, H1, I1, rv, hv, q1⟩ => ?_) (by rw [h.stars pos X.env, k3]; rfl) (starEach_cons ns)
    refine thn ((pkn_of h2).run pos pins s1 σ H1 _ I1 (tN_len q1)) fun ws s2 ⟨zs, H2, I2, rz, hz, q2⟩ => ⟨I2.kIn, ?_⟩
    rw [k2]
    exact fin I2 rv rz hv hz q2
end
end EV

set_option Elab.async false
set_option linter.all false
set_option maxRecDepth 100000
set_option maxHeartbeats 1000000
/-! EV6h: comparisons. -/
namespace EV
open PySem PySem.Spec PyProof.Rows L2
/-- a class with its own __eq__, beneath object alone -/
structure EqC (K : PySem.W.Frag) (C f : Addr) : Prop where
  obj : ∃ nm qn N bs hd sn sub ab col dd k0 k1 k2 k3 k5 nid, K.lookup C = some (excClassObj nm qn C N bs [.type "object"] hd sn sub ab col dd k0 k1 k2 k3 k5 nid) ∧ PySem.W.nsOkIn K N = true ∧
    PySem.W.nsIn K N "__eq__" = some (some (.ref f)) ∧ PySem.W.nsIn K N "__ne__" = some none
  fobj : ∃ o, K.lookup f = some o ∧ o.cls = .type "function"
  find : PySem.W.findIn K (.ref C) "__eq__" = some (some (.ref f))
  fn : PySem.W.isFn K (.ref f) = true
/-- own comparisons -/
structure EqF (V1 : Env1) (X : Cx) : Prop where
  own : ∀ c ∈ V1.nm.cs, ∀ m, V1.cl.meth c 17 = some m → ∃ k fa fd ps, EqC X.K (ca X.K V1.nm c) fa ∧ Room (k + 1) X.A ∧ FnG X.prog X.w X.K X.mg X.base (L2.CX X.prog X.w) k fa fd ps (spC X.prog X.w X.K V1.nm V1.call m 2) ∧
    ∀ (s : Shared) (us : List Value), us.length = 2 → BindsTo s fd ⟨us, []⟩ (ps.zip us)
  nfc : ∀ c ∈ V1.nm.cs, ∀ d ∈ V1.nm.cs, PySem.W.notFirst X.K (ca X.K V1.nm c) (.ref (ca X.K V1.nm d)) = true
  nft : ∀ c ∈ V1.nm.cs, ∀ t ∈ ["NoneType", "bool", "int", "str", "tuple", "list", "dict"], PySem.W.notFirst X.K (ca X.K V1.nm c) (.type t) = true
section
variable {V1 : Env1} {X : Cx} {pins : List (Addr × Obj)} {s : Shared} {σ : L2.St} {H : Hp} {W : Wd}
theorem EqF.nf (F : EqF V1 X) {c : Nat} (hc : c ∈ V1.nm.cs) {p : PV} {v : V} (h : RepV X.prog X.w X.K V1.nm W H p v) (hi : (∀ c ns vs, p ≠ .exc c ns vs) ∧ (∀ k, p ≠ .ref k) ∧ ∀ is, p ≠ .scr is) : PySem.W.notFirst X.K (ca X.K V1.nm c) (tyV X.K V1.nm p) = true := by
  cases p with
  | non => exact F.nft c hc _ (by simp)
  | bl b => exact F.nft c hc _ (by simp)
  | int i => exact F.nft c hc _ (by simp)
  | str z => exact F.nft c hc _ (by simp)
  | tup xs => exact F.nft c hc _ (by simp)
  | lst f xs => exact F.nft c hc _ (by simp)
  | dct f ks vs => exact F.nft c hc _ (by simp)
  | ins f d ns vs =>
    obtain ⟨a, dx, fs, e, h1, hd⟩ := h.ins
    exact F.nfc c hc d hd
  | ref k => exact absurd rfl (hi.2.1 k)
  | exc c ns vs => exact absurd rfl (hi.1 c ns vs)
  | scr is => exact absurd rfl (hi.2.2 is)
/-- the type of a value, looked up -/
theorem typ_rep (I : Inv X pins σ H s) {p : PV} {v : V} {u : Value} (r : RelV v u) (h : RepV X.prog X.w X.K V1.nm W H p v) (hi : (∀ c ns vs, p ≠ .exc c ns vs) ∧ (∀ k, p ≠ .ref k) ∧ ∀ is, p ≠ .scr is) : PySem.W.Looks (model X.prog X.w) s.heap (typeOf u) (tyV X.K V1.nm p) := by
  have obj : ∀ {a : Addr} {o : Obj} {t : Value}, s.heap.get? a = some o → o.cls = t → PySem.W.Looks (model X.prog X.w) s.heap (typeOf (.ref a)) t := fun {a o t} e c A Q E s k q => wpAny_typeOf_ref (k _ _ e) (by rw [c]; exact q)
  cases p with
  | non =>
    rw [h.non] at r
    cases r
    exact fun A Q E s k q => by first | exact wpAny_typeOf_none q | exact q | (unfold typeOf; exact wpAny_pure q)
  | bl b =>
    rw [h.bl] at r
    cases r
    exact fun A Q E s k q => by first | exact wpAny_typeOf_bool q | exact q | (unfold typeOf; exact wpAny_pure q)
  | int i =>
    rw [h.int] at r
    obtain ⟨t, rfl⟩ := r
    exact fun A Q E s k q => by first | exact wpAny_typeOf_int q | exact q | (unfold typeOf; exact wpAny_pure q)
  | str z =>
    rw [h.str] at r
    obtain ⟨t, rfl⟩ := r
    exact fun A Q E s k q => by first | exact wpAny_typeOf_str q | exact q | (unfold typeOf; exact wpAny_pure q)
  | tup xs =>
    obtain ⟨a, vs, e, h1, _⟩ := h.tup
    rw [e] at r
    cases r
    obtain ⟨its, rv, ⟨o, ho, hc, _⟩, _⟩ := I.tuple (.of h1)
    exact obj ho hc
  | lst f xs =>
    obtain ⟨a, vs, e, h1, _⟩ := h.lst
    rw [e] at r
    cases r
    obtain ⟨_, its, n, rv, ho⟩ := I.hok a _ h1
    exact obj ho rfl
  | dct f ks vs =>
    obtain ⟨a, e, hD⟩ := h.dct
    rw [e] at r
    cases r
    rcases hD with ⟨xs, vvs, h1, _⟩ | ⟨kvs, _, h1, _⟩
    · obtain ⟨⟨o, es, ep, ho, hx, _⟩, _⟩ := I.hok a _ h1
      exact obj ho hx.1
    · obtain ⟨_, _, vs, _, o, _, _, ho, hx, _⟩ := I.hok a _ h1
      exact obj ho hx.1
  | ins f c ns vs =>
    obtain ⟨a, dx, fs, e, h1, hc⟩ := h.ins
    rw [e] at r
    cases r
    obtain ⟨_, _, _, ho, _⟩ := I.hok a _ h1
    exact obj ho rfl
  | ref k => exact absurd rfl (hi.2.1 k)
  | exc c ns vs => exact absurd rfl (hi.1 c ns vs)
  | scr is => exact absurd rfl (hi.2.2 is)
/-- an own __eq__ is run: its answer -/
theorem run_eq {A : Around} {k : Nat} {fa : Addr} {fd : FuncData} {ps : List Str} {m : Nat} {p q : PV} {x y : V} {u v : Value} {t : Bool} (F : FnG X.prog X.w X.K X.mg X.base (L2.CX X.prog X.w) k fa fd ps (spC X.prog X.w X.K V1.nm V1.call m 2)) (room : Room k A) (gd : A.guards = some []) (fr : A.frames = X.A.frames)
    (bd : ∀ (s : Shared) (us : List Value), us.length = 2 → BindsTo s fd ⟨us, []⟩ (ps.zip us)) (I : Inv X pins σ H s) (rx : RelV x u) (ry : RelV y v) (hp : Rep X.prog X.w X.K V1.nm W H p x) (hq : Rep X.prog X.w X.K V1.nm W H q y) (np : p.noRef = true) (nq : q.noRef = true) (tr : ∀ a, W.F a ∨ W.L a → H a ≠ none)
    (hc : V1.call m [p, q] [] = .ok (.sh (.bl t)) []) : wpAny (model X.prog X.w) A (call (.ref fa) [u, v]) (fun r s' => r = .bool t ∧ ∃ H', Inv X pins σ H' s' ∧ ∀ a o, H a = some o → H' a = some o) X.xe s := by
  have e0 : Env0 X.prog X.w X.K X.mg X.base A X.stack s H := by
    have e := I.env0
    exact ⟨by rw [fr]; exact e.frames, e.mod, e.bs, e.bsz, e.funs, e.frf, e.hok, e.bare⟩
  have hsp : spC X.prog X.w X.K V1.nm V1.call m 2 [x, y] H (fun z H' => z = .bl t ∧ ∀ a o, H a = some o → H' a = some o) (fun _ _ _ => False) := by
    refine ⟨rfl, ⟨W.F, W.L, []⟩, [p, q], [], [], ⟨Reps.cons (Rep.noM (W := W) (W' := ⟨W.F, W.L, []⟩) rfl rfl p x np hp) (Reps.cons (Rep.noM (W := W) (W' := ⟨W.F, W.L, []⟩) rfl rfl q y nq hq) Reps.nil), ⟨rfl, rfl⟩, List.nodup_nil, fun _ h => (List.not_mem_nil h).elim, tr⟩, ?_⟩
    unfold CallEnd
    rw [hc]
    intro W' H' AS' z A' g
    have r := g.rep
    rw [RepO, Rep] at r
    exact ⟨r.2, fun a o h => g.ent.keep a o h List.not_mem_nil⟩
  have rv : Vals [x, y] [u, v] := .cons rx (.cons ry .nil)
  refine wpAny_call (codeAny_mono (F.go A X.stack s H ⟨[u, v], []⟩ [u, v] [x, y] _ _ room gd e0 (bd s [u, v] rfl) rv hsp) fun r s' hr => ?_)
  cases r with
  | error e =>
    obtain ⟨_, _, _, _, _, _, _, _, _, _, _, _, z⟩ := hr
    exact z.elim
  | ok fl =>
    cases fl with
    | ret w =>
      obtain ⟨z, H', I', rz, ez, ex⟩ := I.after hr
      subst ez
      cases rz
      exact ⟨rfl, H', I', ex⟩
    | _ => exact (show False from hr).elim
theorem eqI_ins {cl : Cls} {call : Call} {f : Bool} {c : Nat} {ns : List Nat} {vs : List PV} {b : PV} {t : Bool} (h : eqI cl call (.ins f c ns vs) b = some t) : f = false ∧ b.top = true ∧ (PV.ins f c ns vs).noRef = true ∧ b.noRef = true ∧ ∃ m, cl.meth c 17 = some m ∧ call m [.ins f c ns vs, b] [] = .ok (.sh (.bl t)) [] := by
  rw [eqI] at h
  split at h
  · cases h
  · rename_i hc
    simp only [Bool.or_eq_true, not_or, Bool.not_eq_true', Bool.not_eq_true, Bool.and_eq_false_imp] at hc
    cases hm : cl.meth c 17 with
    | none => rw [hm] at h; cases h
    | some m =>
      rw [hm] at h
      simp only at h
      refine ⟨hc.1.1, ?_, ?_, ?_, m, rfl, ?_⟩
      · have := hc.1.2
        simpa using this
      · have := hc.2
        cases h1 : (PV.ins f c ns vs).noRef with
        | true => rfl
        | false => rw [h1] at this; simp at this
      · have := hc.2
        cases h1 : b.noRef with
        | true => rfl
        | false => rw [h1] at this; simp at this
      · split at h
        · rename_i t' he
          cases h
          exact he
        · cases h
theorem topRep {p : PV} {v : V} (h : RepV X.prog X.w X.K V1.nm W H p v) (ht : p.top = true) : Rep X.prog X.w X.K V1.nm W H p v := by
  rcases h with h | h
  · exact h
  · cases p with
    | lst f xs => cases f with
      | false => exact h.elim
      | true => cases ht
    | dct f ks vs => cases f with
      | false => exact h.elim
      | true => cases ht
    | ins f c ns vs => cases f with
      | false => exact h.elim
      | true => cases ht
    | _ => exact h.elim
theorem rep_kind {p : PV} {v : V} (h : Rep X.prog X.w X.K V1.nm W H p v) (hn : p.noRef = true) (hs : ∀ is, p ≠ .scr is) : (∀ c ns vs, p ≠ .exc c ns vs) ∧ (∀ k, p ≠ .ref k) ∧ ∀ is, p ≠ .scr is := by
  refine ⟨fun c ns vs e => ?_, fun k e => ?_, hs⟩
  · subst e
    rw [Rep] at h
    exact h
  · subst e
    cases hn
theorem nsFind_of {es : Array DictEntry} {n : Str} {en : DictEntry} (h : es.toList.find? (·.key.isStr n) = some en) : nsFind es n = some en.val := by
  unfold nsFind PySem.findBy
  rw [← Array.find?_toList, h]
  rfl
/-- a name of a namespace -/
theorem nsG {K : PySem.W.Frag} {h : Heap} {N : Addr} {m : Str → Option Value} {n : Str} {v : Value} (X : K.In h) (G : h.Ns N m) (e : PySem.W.nsIn K N n = some (some v)) : m n = some v := by
  obtain ⟨o, es, ep, ho, hd, _, hf⟩ := G
  unfold PySem.W.nsIn at e
  split at e
  · rename_i c d es' n' sl q
    have z := X _ _ q
    rw [ho] at z
    cases z
    cases hd
    split at e
    · rename_i en hfi
      cases e
      rw [← hf n]
      exact nsFind_of hfi
    · split at e <;> cases e
  · cases e
theorem eqTop_inv {cl : Cls} {call : Call} {p q : PV} {t : Bool} (h : eqTop cl call p q = some t) : ∃ f c ns vs, p = .ins f c ns vs ∧ (∀ is, q ≠ .scr is) ∧ eqI cl call (.ins f c ns vs) q = some t := by
  unfold eqTop at h
  split at h
  · split at h
    · cases h
    · rename_i hn
      exact ⟨_, _, _, _, rfl, fun is e => hn is e, h⟩
  · cases h
theorem around_in1 {A : Around} : A.in1.frames = A.frames ∧ A.in1.guards = A.guards := ⟨rfl, rfl⟩
/-- an instance compared by its own __eq__ -/
theorem wp_eqTop {x y : V} {u v : Value} {Q : VK} {p q : PV} {t : Bool} (Fc : Facts V1.nm X.K) (F : EqF V1 X) (gd : X.A.guards = some []) (hu : X.A.units + 65 < cLine) (I : Inv X pins σ H s) (rx : RelV x u) (ry : RelV y v) (hp : RepV X.prog X.w X.K V1.nm W H p x) (hq : RepV X.prog X.w X.K V1.nm W H q y)
    (tr : ∀ a, W.F a ∨ W.L a → H a ≠ none) (he : eqTop V1.cl V1.call p q = some t) (h : ∀ b H', (∀ a o, H a = some o → H' a = some o) → b = t → Q (.bl b) H') : wpAny (model X.prog X.w) X.A (compareOp .Eq u v) (EP X pins σ Q) X.xe s := by
  obtain ⟨f, c, ns, vs, ep, hscr, he2⟩ := eqTop_inv he
  subst ep
  obtain ⟨ef, ht, n1, n2, m, hm, hc⟩ := eqI_ins he2
  subst ef
  have hp' := topRep hp rfl
  have hq' := topRep hq ht
  obtain ⟨a, dx, fs, ex, h1, hcs⟩ := hp.ins
  subst ex
  cases (show u = Value.ref a from rx)
  obtain ⟨k, fa, fd, ps, E, room, G, bd⟩ := F.own c hcs m hm
  obtain ⟨mA, J, _⟩ := ins_get I.hok h1
  obtain ⟨od, J, _⟩ := J.look
  obtain ⟨mm, hF⟩ := I.fr
  have ki := rep_kind hq' n2 hscr
  show wpAny _ _ (compareOp .Eq (.ref a) v) _ _ _
  unfold compareOp
  refine PySem.W.cmp_K (op := .Eq) (by omega) hF I.ok.mod.kin J (typ_rep I ry hq ki) (F.nf hcs hq ki) E.find E.fn ?_
  refine wpAny_mono (run_eq G (room.mono (Nat.le_succ _)) gd rfl bd I rx ry hp' hq' n1 n2 tr hc) (fun r s' hr => ?_) fun _ _ z => z
  obtain ⟨er, H', I', ext⟩ := hr
  subst er
  exact ⟨.bl t, H', I', rfl, h t H' ext rfl⟩
theorem wp_neTop {x y : V} {u v : Value} {Q : VK} {p q : PV} {t : Bool} (Fc : Facts V1.nm X.K) (F : EqF V1 X) (gd : X.A.guards = some []) (hu : X.A.units + 65 < cLine) (I : Inv X pins σ H s) (rx : RelV x u) (ry : RelV y v) (hp : RepV X.prog X.w X.K V1.nm W H p x) (hq : RepV X.prog X.w X.K V1.nm W H q y)
    (tr : ∀ a, W.F a ∨ W.L a → H a ≠ none) (hsame : sameCls p q = true) (he : eqTop V1.cl V1.call p q = some t) (h : ∀ b H', (∀ a o, H a = some o → H' a = some o) → b = t → Q (.bl (!b)) H') : wpAny (model X.prog X.w) X.A (compareOp .NotEq u v) (EP X pins σ Q) X.xe s := by
  obtain ⟨f, c, ns, vs, ep, hscr, he2⟩ := eqTop_inv he
  subst ep
  obtain ⟨ef, ht, n1, n2, m, hm, hc⟩ := eqI_ins he2
  subst ef
  have hp' := topRep hp rfl
  have hq' := topRep hq ht
  obtain ⟨a, dx, fs, ex, h1, hcs⟩ := hp.ins
  subst ex
  cases (show u = Value.ref a from rx)
  obtain ⟨k, fa, fd, ps, E, room, G, bd⟩ := F.own c hcs m hm
  cases q with
  | ins g d ms ws =>
    have ed : c = d := by simpa [sameCls] using hsame
    subst ed
    obtain ⟨b, dy, gs, ey, h2, _⟩ := hq.ins
    subst ey
    cases (show v = Value.ref b from ry)
    obtain ⟨_, _, _, ho1, _⟩ := I.hok a _ h1
    obtain ⟨_, _, _, ho2, _⟩ := I.hok b _ h2
    obtain ⟨nm, qn, N, bs, hd, sn, sub, ab, col, dd, k0, k1, k2, k3, k5, nid, e1, e2, e3, e4⟩ := E.obj
    obtain ⟨fo, e5, e6⟩ := E.fobj
    have kin := I.kIn
    obtain ⟨hh, g0, dr, tk, os⟩ := s
    have Y : hh.OwnEqNoNe a (ca X.K V1.nm c) fa "object" [.type "object"] := by
      have hns : hh.Ns N _ := .of_isNs (PySem.W.isNs_of_in kin e2)
      exact ⟨_, fo, nm, qn, N, bs, hd, sn, sub, ab, col, dd, k0, k1, k2, k3, k5, nid, _, _, ho1, rfl, kin _ _ e1, hns, nsG kin hns e3, kin _ _ e5, e6, PySem.F.mro_object, PySem.F.cmp_object.eq.lookup, PySem.W.nsMap_none_of_in kin e2 e4⟩
    refine compareOp_ne_ownEq PySem.F.cmp_object Y ho2 rfl (by omega) ?_
    refine wpAny_mono (run_eq (A := X.A.in1) G room.in1 gd rfl bd I rx ry hp' hq' n1 n2 tr hc) (fun r s' hr => ?_) fun _ _ z => z
    obtain ⟨er, H', I', ext⟩ := hr
    subst er
    exact ⟨t, rfl, .bl (!t), H', I', rfl, h t H' ext rfl⟩
  | _ => cases hsame
end
end EV

set_option Elab.async false
set_option linter.all false
set_option maxRecDepth 100000
set_option maxHeartbeats 1000000
/-! EV6i: a op b. -/
namespace EV
open PySem PySem.Spec PyProof.Rows L2
section
variable {V1 : Env1} {X : Cx} {Z : WX} {pos : Pos}
theorem opG_bl {P : Program} {w : World} {K : PySem.W.Frag} {nm : Nm} {W : Wd} {H H' : Hp} {b : Bool} (k : ∀ a o, H a = some o → H' a = some o) : OpGot P w K nm W H (.sh (.bl b)) (.bl b) [] H' :=
  ⟨k, by rw [RepO]; exact ⟨rfl, rfl⟩, List.nodup_nil, fun _ h => (List.not_mem_nil h).elim⟩
theorem isIn_inv {p q : PV} {b : Bool} (h : isIn p q = some b) : (∃ xs, seq? q = some xs ∧ (dataD 60 p && dataDs 60 xs) = true ∧ anyEq p xs = some b) ∨ ∃ f ks vs, q = .dct f ks vs ∧ keyT p = true ∧ ∃ o, look p ks vs = some o ∧ b = o.isSome := by
  unfold isIn at h
  split at h
  · split at h
    · rename_i hd
      exact .inl ⟨_, rfl, hd, h⟩
    · cases h
  · split at h
    · rename_i hd
      exact .inl ⟨_, rfl, hd, h⟩
    · cases h
  · split at h
    · rename_i ht
      obtain ⟨o, h1, h2⟩ := Option.map_eq_some_iff.mp h
      exact .inr ⟨_, _, _, rfl, ht, o, h1, h2.symm⟩
    · cases h
  · cases h
theorem map_bl {o : Option Bool} {f : Bool → Bool} {r : PV} (h : (o.map fun b => PV.bl (f b)) = some r) : ∃ b, r = .bl b := by
  obtain ⟨b, _, e⟩ := Option.map_eq_some_iff.mp h
  exact ⟨_, e.symm⟩
theorem ltInt_bl {f : Int → Int → Bool} {p q r : PV} (h : ltInt f p q = some r) : ∃ b, r = .bl b := by
  unfold ltInt at h
  split at h
  · cases h
    exact ⟨_, rfl⟩
  · cases h
theorem strEq_inv {p q : PV} {b : Bool} (h : strEq p q = some b) : ∃ x y, p = .str x ∧ q = .str y ∧ b = decide (x = y) := by
  unfold strEq at h
  split at h
  · cases h
    exact ⟨_, _, rfl, rfl, rfl⟩
  · cases h
theorem str_dec {a b : Str} : decide (V.str a = V.str b) = decide (a = b) := by
  rw [Bool.eq_iff_iff]
  simp
theorem cmpI_bl {cl : Cls} {call : Call} {o : Cm} {p q r : PV} (h : cmpI cl call o p q = some r) : ∃ b, r = .bl b := by
  unfold cmpI at h
  cases hc : cmp o p q with
  | some r' =>
    rw [hc] at h
    cases h
    cases o with
    | lt => exact ltInt_bl hc
    | le => exact ltInt_bl hc
    | gt => exact ltInt_bl hc
    | ge => exact ltInt_bl hc
    | _ => exact map_bl hc
  | none =>
    rw [hc] at h
    cases o with
    | eq =>
      have h : (if (strEq p q).isSome then (strEq p q).map PV.bl else (eqTop cl call p q).map PV.bl) = some r := h
      split at h
      · exact map_bl (f := id) h
      · exact map_bl (f := id) h
    | ne =>
      have h : (if (strEq p q).isSome then (strEq p q).map (fun b => PV.bl (!b)) else if sameCls p q then (eqTop cl call p q).map fun b => PV.bl (!b) else none) = some r := h
      split at h
      · exact map_bl h
      · split at h
        · exact map_bl h
        · cases h
    | _ => cases h
theorem opV_cmp {cl : Cls} {txt : PV → Option Str} {call : Call} {st : EV.St} {o : Cm} {vs : List PV} {ov : OV} (h : opV cl txt call st (.cmp o) vs = some ov) : ∃ k, ov = .sh (.bl k) := by
  cases vs with
  | nil => simp [opV] at h
  | cons x r =>
    cases r with
    | nil => simp [opV] at h
    | cons y r =>
      cases r with
      | cons z r => simp [opV] at h
      | nil =>
        have h : (cmpI cl call o x y).map OV.sh = some ov := h
        obtain ⟨r, h1, h2⟩ := Option.map_eq_some_iff.mp h
        obtain ⟨k, hk⟩ := cmpI_bl h1
        exact ⟨k, by rw [← h2, hk]⟩
theorem opr_cmp (o : Cm) (Fc : Facts V1.nm X.K) (F : EqF V1 X) (gd : X.A.guards = some []) (hu : X.A.units + 65 < cLine) : OpR X (compareOp (opC o)) (fun x y H Q => OpQ V1 X.prog X.w X.K (.cmp o) [x, y] H Q) := by
  intro pins s σ H x y v u Q I rx ry h
  obtain ⟨W, pvs, st, AS, hr, ⟨hstr, tr⟩, ov, hov, hq⟩ := h
  obtain ⟨p, q, e, hp, hq'⟩ := hr.inv2
  subst e
  have hov : (cmpI V1.cl V1.call o p q).map OV.sh = some ov := hov
  obtain ⟨r, h1, h2⟩ := Option.map_eq_some_iff.mp hov
  subst h2
  unfold cmpI at h1
  cases hc : cmp o p q with
  | some r' =>
    rw [hc] at h1
    cases h1
    cases o with
    | eq =>
      obtain ⟨b, hb, eb⟩ := Option.map_eq_some_iff.mp (show (eqD p q).map PV.bl = some r from hc)
      subst eb
      exact wp_eqD hu I rx ry hp hq' hb (hq _ _ _ OpGot.bl)
    | ne =>
      obtain ⟨b, hb, eb⟩ := Option.map_eq_some_iff.mp (show (eqD p q).map (fun b => PV.bl (!b)) = some r from hc)
      subst eb
      exact wp_neD hu I rx ry hp hq' hb (hq _ _ _ OpGot.bl)
    | lt => exact wp_cmpI (o := .lt) I rx ry hp hq' hc (fun pins s σ H x y v u Q I rx ry h => op_lt pins s σ H x y v u Q I rx ry h) hq
    | le => exact wp_cmpI (o := .le) I rx ry hp hq' hc (fun pins s σ H x y v u Q I rx ry h => op_le pins s σ H x y v u Q I rx ry h) hq
    | gt => exact wp_cmpI (o := .gt) I rx ry hp hq' hc (fun pins s σ H x y v u Q I rx ry h => op_gt pins s σ H x y v u Q I rx ry h) hq
    | ge => exact wp_cmpI (o := .ge) I rx ry hp hq' hc (fun pins s σ H x y v u Q I rx ry h => op_ge pins s σ H x y v u Q I rx ry h) hq
    | isC =>
      obtain ⟨b, hb, eb⟩ := Option.map_eq_some_iff.mp (show (isC p q).map PV.bl = some r from hc)
      subst eb
      exact (wp_is I rx ry hp hq' hb).1 (hq _ _ _ OpGot.bl)
    | notC =>
      obtain ⟨b, hb, eb⟩ := Option.map_eq_some_iff.mp (show (isC p q).map (fun b => PV.bl (!b)) = some r from hc)
      subst eb
      exact (wp_is I rx ry hp hq' hb).2 (hq _ _ _ OpGot.bl)
    | inn =>
      obtain ⟨b, hb, eb⟩ := Option.map_eq_some_iff.mp (show (isIn p q).map PV.bl = some r from hc)
      subst eb
      rcases isIn_inv hb with ⟨xs, hs, hd, ha⟩ | ⟨f, ks, vs, eq', ht, o, hl, eb⟩
      · exact (wp_inS hu I rx ry hp hq' hs hd ha).1 (hq _ _ _ OpGot.bl)
      · subst eq'
        exact (wp_inD (by omega) I rx ry hp hq' ht hl eb).1 (hq _ _ _ OpGot.bl)
    | nin =>
      obtain ⟨b, hb, eb⟩ := Option.map_eq_some_iff.mp (show (isIn p q).map (fun b => PV.bl (!b)) = some r from hc)
      subst eb
      rcases isIn_inv hb with ⟨xs, hs, hd, ha⟩ | ⟨f, ks, vs, eq', ht, o, hl, eb⟩
      · exact (wp_inS hu I rx ry hp hq' hs hd ha).2 (hq _ _ _ OpGot.bl)
      · subst eq'
        exact (wp_inD (by omega) I rx ry hp hq' ht hl eb).2 (hq _ _ _ OpGot.bl)
  | none =>
    rw [hc] at h1
    cases o with
    | eq =>
      have h1 : (if (strEq p q).isSome then (strEq p q).map PV.bl else (eqTop V1.cl V1.call p q).map PV.bl) = some r := h1
      split at h1
      · obtain ⟨t, ht, et⟩ := Option.map_eq_some_iff.mp h1
        subst et
        obtain ⟨a, b, rfl, rfl, rfl⟩ := strEq_inv ht
        refine op_eq pins s σ H x y v u Q I rx ry ?_
        rw [hp.str, hq'.str]
        refine ⟨rfl, ?_⟩
        rw [str_dec]
        exact hq _ _ _ OpGot.bl
      obtain ⟨t, ht, et⟩ := Option.map_eq_some_iff.mp h1
      subst et
      exact wp_eqTop Fc F gd hu I rx ry hp hq' tr ht fun b H' k e => by subst e; exact hq _ _ _ (opG_bl k)
    | ne =>
      have h1 : (if (strEq p q).isSome then (strEq p q).map (fun b => PV.bl (!b)) else if sameCls p q then (eqTop V1.cl V1.call p q).map fun b => PV.bl (!b) else none) = some r := h1
      split at h1
      · obtain ⟨t, ht, et⟩ := Option.map_eq_some_iff.mp h1
        subst et
        obtain ⟨a, b, rfl, rfl, rfl⟩ := strEq_inv ht
        refine op_ne pins s σ H x y v u Q I rx ry ?_
        rw [hp.str, hq'.str]
        refine ⟨rfl, ?_⟩
        rw [str_dec]
        exact hq _ _ _ OpGot.bl
      split at h1
      · rename_i hs
        obtain ⟨t, ht, et⟩ := Option.map_eq_some_iff.mp h1
        subst et
        exact wp_neTop Fc F gd hu I rx ry hp hq' tr hs ht fun b H' k e => by subst e; exact hq _ _ _ (opG_bl k)
      · cases h1
    | _ => cases h1
theorem pe_cmpE {o : Cm} {a b : EV.E} {xa xb : Expr} (Fc : Facts V1.nm X.K) (F : EqF V1 X) (gd : X.A.guards = some []) (hu : X.A.units + 65 < cLine) (ha : PE X xa (tE V1 X.prog X.w X.K Z a)) (hb : PE X xb (tE V1 X.prog X.w X.K Z b)) (hm : behindInMarks (opC o) xb = false) :
    PE X (.Compare xa [opC o] [xb] pos) (tE V1 X.prog X.w X.K Z (.op (.cmp o) [a, b])) :=
  PE.imp (pe_cmpR (opr_cmp o Fc F gd hu) ha hb hm) fun σ H Q q => tL_two (tE_op q)
/-- a op b as a test -/
theorem pt_cmpE {o : Cm} {a b : EV.E} {xa xb : Expr} (Fc : Facts V1.nm X.K) (F : EqF V1 X) (gd : X.A.guards = some []) (hu : X.A.units + 65 < cLine) (ha : PE X xa (tE V1 X.prog X.w X.K Z a)) (hb : PE X xb (tE V1 X.prog X.w X.K Z b)) (hm : behindInMarks (opC o) xb = false) :
    PT X (.Compare xa [opC o] [xb] pos) (tT V1 X.prog X.w X.K Z (.val (.op (.cmp o) [a, b]))) := by
  refine PT.imp (pt_cmpR (opr_cmp o Fc F gd hu) ha hb hm) fun σ H Q q => ?_
  refine tL_two (tE_op (Q := fun v H1 => ∃ k, v = .bl k ∧ Q k H1) ?_)
  obtain ⟨env, st, W, AS, AE, C, h⟩ := q
  refine ⟨env, st, W, AS, AE, C, ?_⟩
  rw [evT] at h
  cases he : ev V1.cl V1.txt V1.call (.op (.cmp o) [a, b]) env st with
  | bad => rw [he] at h; exact h
  | exc c ns vs st1 => rw [he] at h; exact h
  | ok ov st1 =>
    rw [he] at h
    have hb : ∃ k, ov = .sh (.bl k) := by
      rw [ev] at he
      cases hs : evs V1.cl V1.txt V1.call [a, b] env st with
      | bad => rw [hs] at he; cases he
      | exc c ns vs st1 => rw [hs] at he; cases he
      | ok ovs st2 =>
        rw [hs] at he
        simp only [EV.R.bind, lift] at he
        cases ho : opV V1.cl V1.txt V1.call st2 (.cmp o) (opns [a, b] ovs) with
        | none => rw [ho] at he; cases he
        | some ov' =>
          rw [ho] at he
          cases he
          exact opV_cmp ho
    obtain ⟨k, ek⟩ := hb
    subst ek
    intro W1 H1 AS1 v A g
    have r := g.rep
    rw [RepO, Rep] at r
    refine ⟨k, r.2, ?_⟩
    exact h W1 H1 AS1 g.t
end
end EV

set_option Elab.async false
set_option linter.all false
set_option maxRecDepth 100000
set_option maxHeartbeats 1000000
/-! EV6j: sorted(set(..)) of pairs; a list turned about. -/
namespace EV
open PySem PySem.Spec PyProof.Rows L2
/-! ### pairs -/
abbrev Pr := Int × Int
def ltP (p q : Pr) : Prop := p.1 < q.1 ∨ (p.1 = q.1 ∧ p.2 < q.2)
instance (p q : Pr) : Decidable (ltP p q) := by unfold ltP; infer_instance
def encP (p : Pr) : PV := .tup [.int p.1, .int p.2]
theorem encP_lt (p q : Pr) : pvLt (encP p) (encP q) = decide (ltP p q) := by
  unfold encP
  rw [pvLt]
  show (match pvEq (.int p.1) (.int q.1) with | some true => pvLts [.int p.2] [.int q.2] | _ => pvLt (.int p.1) (.int q.1)) = _
  have e1 : pvEq (.int p.1) (.int q.1) = some (decide (p.1 = q.1)) := rfl
  rw [e1]
  by_cases h : p.1 = q.1
  · rw [decide_eq_true h]
    show (match pvEq (.int p.2) (.int q.2) with | some true => pvLts [] [] | _ => pvLt (.int p.2) (.int q.2)) = _
    have e2 : pvEq (.int p.2) (.int q.2) = some (decide (p.2 = q.2)) := rfl
    rw [e2]
    by_cases h2 : p.2 = q.2
    · rw [decide_eq_true h2]
      show false = _
      symm
      rw [decide_eq_false_iff_not]
      unfold ltP
      omega
    · rw [decide_eq_false h2]
      show decide (p.2 < q.2) = decide (ltP p q)
      unfold ltP
      congr 1
      apply propext
      omega
  · rw [decide_eq_false h]
    show decide (p.1 < q.1) = decide (ltP p q)
    unfold ltP
    congr 1
    apply propext
    omega
theorem encP_eq (p q : Pr) : pvEq (encP p) (encP q) = some (decide (p = q)) := by
  have e1 : pvEq (.int p.1) (.int q.1) = some (decide (p.1 = q.1)) := rfl
  have e2 : pvEq (.int p.2) (.int q.2) = some (decide (p.2 = q.2)) := rfl
  have e3 : pvEq (encP p) (encP q) = (match pvEq (.int p.1) (.int q.1) with | some true => (match pvEq (.int p.2) (.int q.2) with | some true => some true | some false => some false | none => none) | some false => some false | none => none) := rfl
  rw [e3, e1, e2]
  by_cases h : p.1 = q.1
  · by_cases h2 : p.2 = q.2
    · rw [decide_eq_true h, decide_eq_true h2, decide_eq_true (Prod.ext h h2)]
    · rw [decide_eq_true h, decide_eq_false h2, decide_eq_false (show ¬ p = q from fun z => h2 (by rw [z]))]
  · rw [decide_eq_false h, decide_eq_false (show ¬ p = q from fun z => h (by rw [z]))]
theorem anyEq_enc (p : Pr) : ∀ l : List Pr, anyEq (encP p) (l.map encP) = some (decide (p ∈ l))
  | [] => rfl
  | q :: l => by
    rw [List.map_cons, anyEq, encP_eq]
    by_cases h : q = p
    · rw [decide_eq_true h]
      show some true = _
      rw [decide_eq_true (show p ∈ q :: l by rw [h]; exact List.mem_cons_self)]
    · rw [decide_eq_false h]
      show anyEq (encP p) (l.map encP) = _
      rw [anyEq_enc p l]
      congr 2
      apply propext
      rw [List.mem_cons]
      exact ⟨.inr, fun z => z.resolve_left fun e => h e.symm⟩
def ddP : List Pr → List Pr
  | [] => []
  | p :: l => if p ∈ l then ddP l else p :: ddP l
theorem dd_enc : ∀ l : List Pr, dedup (l.map encP) = (ddP l).map encP
  | [] => rfl
  | p :: l => by
    rw [List.map_cons, dedup, anyEq_enc, ddP]
    by_cases h : p ∈ l
    · rw [decide_eq_true h, if_pos h]
      exact dd_enc l
    · rw [decide_eq_false h, if_neg h]
      show encP p :: dedup (l.map encP) = _
      rw [dd_enc l]
      rfl
theorem dd_mem {x : Pr} : ∀ {l : List Pr}, x ∈ ddP l ↔ x ∈ l
  | [] => Iff.rfl
  | p :: l => by
    rw [ddP]
    split
    · rename_i h
      rw [dd_mem, List.mem_cons]
      exact ⟨.inr, fun z => z.elim (fun e => e ▸ h) id⟩
    · rw [List.mem_cons, List.mem_cons, dd_mem]
theorem dd_nodup : ∀ l : List Pr, (ddP l).Nodup
  | [] => List.nodup_nil
  | p :: l => by
    rw [ddP]
    split
    · exact dd_nodup l
    · rename_i h
      exact List.nodup_cons.mpr ⟨fun z => h (dd_mem.mp z), dd_nodup l⟩
def sP (l : List Pr) : List Pr := sortBy (fun p q => !decide (ltP q p)) l
theorem ins_enc (p : Pr) : ∀ l : List Pr, insSort (fun x y => !pvLt y x) (encP p) (l.map encP) = (insSort (fun p q => !decide (ltP q p)) p l).map encP
  | [] => rfl
  | q :: l => by
    rw [List.map_cons, insSort, insSort, encP_lt]
    split
    · rfl
    · rw [List.map_cons, ins_enc p l]
theorem sort_enc : ∀ l : List Pr, sortPV (l.map encP) = (sP l).map encP
  | [] => rfl
  | p :: l => by
    show insSort _ (encP p) (sortPV (l.map encP)) = _
    rw [sort_enc l]
    exact ins_enc p (sP l)
theorem insS_mem {α : Type} {le : α → α → Bool} {x y : α} : ∀ {l : List α}, y ∈ insSort le x l ↔ y = x ∨ y ∈ l
  | [] => by simp [insSort]
  | z :: l => by
    rw [insSort]
    split
    · simp
    · rw [List.mem_cons, insS_mem, List.mem_cons]
      constructor
      · rintro (h | h | h)
        · exact .inr (.inl h)
        · exact .inl h
        · exact .inr (.inr h)
      · rintro (h | h | h)
        · exact .inr (.inl h)
        · exact .inl h
        · exact .inr (.inr h)
theorem s_mem {y : Pr} : ∀ {l : List Pr}, y ∈ sP l ↔ y ∈ l
  | [] => Iff.rfl
  | z :: l => by
    show y ∈ insSort _ z (sP l) ↔ _
    rw [insS_mem, s_mem, List.mem_cons]
theorem ins_lt {p : Pr} : ∀ {l : List Pr}, l.Pairwise ltP → p ∉ l → (insSort (fun p q => !decide (ltP q p)) p l).Pairwise ltP
  | [], _, _ => List.pairwise_singleton _ _
  | q :: l, h, hn => by
    rw [insSort]
    obtain ⟨h1, h2⟩ := List.pairwise_cons.mp h
    split
    · rename_i hq
      rw [Bool.not_eq_true', decide_eq_false_iff_not] at hq
      have hpq : ltP p q := by
        have hne : p ≠ q := fun e => hn (e ▸ List.mem_cons_self)
        unfold ltP at hq ⊢
        have : ¬ (p.1 = q.1 ∧ p.2 = q.2) := fun z => hne (Prod.ext z.1 z.2)
        omega
      refine List.pairwise_cons.mpr ⟨fun x hx => ?_, h⟩
      rcases List.mem_cons.mp hx with z | z
      · rw [z]; exact hpq
      · have := h1 x z
        unfold ltP at *
        omega
    · rename_i hq
      have hq : ltP q p := by simpa using hq
      refine List.pairwise_cons.mpr ⟨fun x hx => ?_, ins_lt h2 fun z => hn (List.mem_cons_of_mem _ z)⟩
      rcases insS_mem.mp hx with z | z
      · rw [z]; exact hq
      · exact h1 x z
theorem s_lt : ∀ {l : List Pr}, l.Nodup → (sP l).Pairwise ltP
  | [], _ => List.Pairwise.nil
  | p :: l, h => by
    obtain ⟨h1, h2⟩ := List.nodup_cons.mp h
    exact ins_lt (s_lt h2) fun z => h1 (s_mem.mp z)
/-- two rising lists with the same members are one -/
theorem rise_uniq : ∀ {l m : List Pr}, l.Pairwise ltP → m.Pairwise ltP → (∀ x, x ∈ l ↔ x ∈ m) → l = m
  | [], [], _, _, _ => rfl
  | [], b :: m, _, _, h => absurd ((h b).mpr List.mem_cons_self) (by simp)
  | a :: l, [], _, _, h => absurd ((h a).mp List.mem_cons_self) (by simp)
  | a :: l, b :: m, h1, h2, h => by
    obtain ⟨p1, p2⟩ := List.pairwise_cons.mp h1
    obtain ⟨q1, q2⟩ := List.pairwise_cons.mp h2
    have irr : ∀ x : Pr, ¬ ltP x x := fun x z => by unfold ltP at z; omega
    have e : a = b := by
      rcases List.mem_cons.mp ((h a).mp List.mem_cons_self) with z | z
      · exact z
      · rcases List.mem_cons.mp ((h b).mpr List.mem_cons_self) with y | y
        · exact y.symm
        · have u := p1 b y
          have v := q1 a z
          unfold ltP at u v
          omega
    subst e
    rw [rise_uniq p2 q2 fun x => ⟨fun z => ?_, fun z => ?_⟩]
    · rcases List.mem_cons.mp ((h x).mp (List.mem_cons_of_mem _ z)) with y | y
      · exact absurd (p1 x z) (y ▸ irr a)
      · exact y
    · rcases List.mem_cons.mp ((h x).mpr (List.mem_cons_of_mem _ z)) with y | y
      · exact absurd (q1 x z) (y ▸ irr a)
      · exact y
/-! ### the values -/
section
variable {P : Program} {w : World} {K : PySem.W.Frag} {nm : Nm} {W : Wd} {H : Hp}
def inB (p : Pr) : Prop := (0 ≤ p.1 ∧ p.1 < 64) ∧ 0 ≤ p.2 ∧ p.2 < 64
theorem pairs_of : ∀ {xs : List PV} {vs : List V}, pairKeys xs = true → Reps P w K nm W H xs vs → ∃ ks : List (Addr × Pr), xs = ks.map (fun p => encP p.2) ∧ vs = ks.map (fun p => V.ref p.1) ∧ ∀ p ∈ ks, inB p.2 ∧ H p.1 = some (.tup [.int p.2.1, .int p.2.2])
  | [], vs, _, h => ⟨[], rfl, by rw [show vs = [] from h]; rfl, fun p h => by cases h⟩
  | x :: xs, vs, hk, h => by
    obtain ⟨v, r, e, h1, h2⟩ := h
    unfold pairKeys at hk
    rw [List.all_cons, Bool.and_eq_true] at hk
    obtain ⟨ks, e1, e2, e3⟩ := pairs_of (xs := xs) hk.2 h2
    have hk1 := hk.1
    split at hk1
    · rename_i i j
      rw [Bool.and_eq_true, Bool.and_eq_true, Bool.and_eq_true, decide_eq_true_eq, decide_eq_true_eq, decide_eq_true_eq, decide_eq_true_eq] at hk1
      obtain ⟨a, us, ea, ha, hr⟩ := h1
      obtain ⟨u1, r1, f1, g1, hr⟩ := hr
      obtain ⟨u2, r2, f2, g2, hr⟩ := hr
      have eu : us = [.int i, .int j] := by
        rw [f1, f2, show r2 = [] from hr, show u1 = .int i from g1, show u2 = .int j from g2]
      rw [eu] at ha
      refine ⟨(a, (i, j)) :: ks, by rw [e1]; rfl, by rw [e, ea, e2]; rfl, fun p hp => ?_⟩
      rcases List.mem_cons.mp hp with z | z
      · rw [z]
        exact ⟨⟨⟨hk1.1.1.1, hk1.1.1.2⟩, hk1.1.2, hk1.2⟩, ha⟩
      · exact e3 p z
    · cases hk1
theorem pairs_back : ∀ {ks : List (Addr × Pr)}, (∀ p ∈ ks, H p.1 = some (.tup [.int p.2.1, .int p.2.2])) → Reps P w K nm W H (ks.map fun p => encP p.2) (ks.map fun p => V.ref p.1)
  | [], _ => rfl
  | p :: ks, h => ⟨_, _, rfl, ⟨p.1, _, rfl, h p List.mem_cons_self, _, _, rfl, rfl, _, _, rfl, rfl, rfl⟩, pairs_back fun q hq => h q (List.mem_cons_of_mem _ hq)⟩
end
def kI (p : Addr × Pr) : Addr × List Int := (p.1, [p.2.1, p.2.2])
theorem kI_inj {p q : Pr} (h : ([p.1, p.2] : List Int) = [q.1, q.2]) : p = q := by
  cases p; cases q
  simp at h
  exact Prod.ext h.1 h.2
section
variable {V1 : Env1} {Z : WX} {X : Cx}
theorem sub_kI {ks : List (Addr × Pr)} : ∀ {L : List (Addr × List Int)}, (∀ p ∈ L, p ∈ ks.map kI) → ∃ M : List (Addr × Pr), L = M.map kI ∧ ∀ p ∈ M, p ∈ ks
  | [], _ => ⟨[], rfl, fun p h => by cases h⟩
  | p :: L, h => by
    obtain ⟨M, e, hM⟩ := sub_kI (L := L) fun q hq => h q (List.mem_cons_of_mem _ hq)
    obtain ⟨k, hk, ek⟩ := List.mem_map.mp (h p List.mem_cons_self)
    refine ⟨k :: M, by rw [e, ← ek]; rfl, fun q hq => ?_⟩
    rcases List.mem_cons.mp hq with z | z
    · rw [z]; exact hk
    · exact hM q z
theorem pe_ssetE {e : EV.E} {xe : Expr} {p p2 pos pos2 : Pos} (hc : X.calm = true) (hu : X.A.units + 70 < cLine) (hg : Gl X "sorted") (hm : X.mg "sorted" = none) (hg2 : Gl X "set") (hm2 : X.mg "set" = none) (h : PEs V1 Z X [e] [xe]) :
    PE X (.Call (.Name "sorted" p) [.Call (.Name "set" p2) [xe] [] pos2] [] pos) (tE V1 X.prog X.w X.K Z (.op (.bi .sset) [e])) := by
  obtain ⟨y, ey, ns, he⟩ := h.one
  cases ey
  have inner : PE X (.Call (.Name "set" p2) [xe] [] pos2) _ := pe_callTy (cr_setOfT hc (by omega)) hg2 hm2 rfl (pa_of h) (by decide) (by decide) (starEach_cons ns) rfl
  refine PE.imp (pe_callB (cr_sortedT hc) hg hm rfl (pa_cons inner pa_nil (starEach_cons rfl)) (by decide) (by decide) (starEach_cons rfl) rfl) fun σ H Q q => ?_
  refine tL_mono ?_ (tE_op q)
  rintro vs H1 ⟨W, pvs, st, AS, hr, hst, ov, hov, hq⟩
  replace hov : biV .sset pvs = some ov := hov
  unfold biV at hov
  split at hov <;> first
    | contradiction
    | skip
  split at hov
  · rename_i f xs
    split at hov
    · rename_i hk
      cases hov
      rw [Bool.and_eq_true, decide_eq_true_eq] at hk
      obtain ⟨v, ev', hv⟩ := hr.one
      subst ev'
      obtain ⟨a, us, ea, ha, hrs⟩ := hv.lst
      subst ea
      obtain ⟨ks, e1, e2, e3⟩ := pairs_of hk.1 hrs
      have hT : ∀ {H' : Hp}, (∀ b o, H1 b = some o → H' b = some o) → ∀ q ∈ ks.map kI, SqT X.K H' q.1 (q.2.map V.int) := fun {H'} k q hq' => by
        obtain ⟨p, hp, rfl⟩ := List.mem_map.mp hq'
        exact .inl (.inl (k _ _ (e3 p hp).2))
      have hlen : ks.length = xs.length := by rw [e1, List.length_map]
      refine ⟨a, ks.map kI, rfl, .inl (.inl ?_), hT fun _ _ h => h, by rw [List.length_map, hlen]; exact hk.2, fun s L hs hL1 hL2 => ?_⟩
      · rw [ha, e2, List.map_map]; rfl
      obtain ⟨M, rfl, hM⟩ := sub_kI hL1
      have ks1 := keep_upd (o := SetTO X.prog X.w s (M.map kI)) hs
      refine ⟨s, M.map kI, 2, 64, rfl, upd_same, fun q hq' => hT ks1 q (hL1 q hq'), by decide, fun q hq' => ?_, fun L' r hperm hnd hl64 hpw hr' => ?_⟩
      · obtain ⟨p, hp, rfl⟩ := List.mem_map.mp hq'
        refine ⟨rfl, fun m hm' => ?_⟩
        obtain ⟨b1, b2⟩ := (e3 p (hM p hp)).1
        rcases List.mem_cons.mp hm' with z | z
        · rw [z]; exact b1
        · rw [List.mem_singleton.mp z]; exact b2
      obtain ⟨M2, rfl, hM2⟩ := sub_kI (ks := ks) (L := L') fun q hq' => hL1 q (hperm.mem_iff.mp hq')
      have key : (M2.map fun p => p.2) = sP (ddP (ks.map fun p => p.2)) := by
        refine rise_uniq ?_ (s_lt (dd_nodup _)) fun x => ?_
        · rw [List.pairwise_map]
          have hnd2 : M2.Pairwise fun p q => ([p.2.1, p.2.2] : List Int) ≠ [q.2.1, q.2.2] := by
            have z := List.pairwise_map.mp (List.pairwise_map.mp hnd)
            exact z
          have hpw2 := List.pairwise_map.mp hpw
          refine List.Pairwise.imp_of_mem (fun {p q} hp hq' z => ?_) (hnd2.and hpw2)
          obtain ⟨z1, z2⟩ := z
          obtain ⟨b1, b2⟩ := (e3 p (hM2 p hp)).1
          obtain ⟨b3, b4⟩ := (e3 q (hM2 q hq')).1
          exact pair_lt z2 z1 b1 b2 b3 b4
        · rw [s_mem, dd_mem]
          constructor
          · intro z
            obtain ⟨p, hp, rfl⟩ := List.mem_map.mp z
            exact List.mem_map.mpr ⟨p, hM2 p hp, rfl⟩
          · intro z
            obtain ⟨p, hp, rfl⟩ := List.mem_map.mp z
            obtain ⟨q, hq', eq⟩ := List.mem_map.mp (hL2 (kI p) (List.mem_map.mpr ⟨p, hp, rfl⟩))
            obtain ⟨m, hm', rfl⟩ := List.mem_map.mp (hperm.mem_iff.mpr hq')
            exact List.mem_map.mpr ⟨m, hm', kI_inj eq⟩
      have exs : sortPV (dedup xs) = M2.map fun p => encP p.2 := by
        have : xs = (ks.map fun p => p.2).map encP := by rw [e1, List.map_map]; rfl
        rw [this, dd_enc, sort_enc, ← key, List.map_map]; rfl
      have reps : Reps X.prog X.w X.K V1.nm W (upd H1 s (SetTO X.prog X.w s (M.map kI))) (sortPV (dedup xs)) ((M2.map kI).map fun q => V.ref q.1) := by
        rw [exs, List.map_map]
        exact pairs_back fun p hp => ks1 _ _ (e3 p (hM2 p hp)).2
      have g := OpGot.lst reps hr'
      have hsr : s ≠ r := fun z => by rw [← z, upd_same] at hr'; cases hr'
      have hr1 : H1 r = none := by rw [upd_ne (fun z => hsr z.symm)] at hr'; exact hr'
      exact hq _ _ _ ⟨fun b o e => g.keep b o (ks1 b o e), g.rep, g.nd, fun b hb => by rw [List.mem_singleton.mp hb]; exact hr1⟩
    · cases hov
  · cases hov
theorem Reps.rev {P : Program} {w : World} {K : PySem.W.Frag} {nm : Nm} {W : Wd} {H : Hp} : ∀ {xs : List PV} {vs : List V}, Reps P w K nm W H xs vs → Reps P w K nm W H xs.reverse vs.reverse
  | [], vs, h => by
    rw [show vs = [] from h]
    exact Reps.nil
  | x :: xs, vs, h => by
    obtain ⟨v, r, e, h1, h2⟩ := h
    rw [e, List.reverse_cons, List.reverse_cons]
    exact Reps.append (Reps.rev h2) (Reps.cons h1 Reps.nil)
theorem pe_revE {e : EV.E} {xe : Expr} {k : Nat} {p1 p2 p3 pos : Pos} (he : PE X xe (tE V1 X.prog X.w X.K Z e)) : PE X (.Subscript xe (.Slice none none (some (.UnaryOp .USub (.Constant (.int 1) k p1) p2)) p3) pos) (tE V1 X.prog X.w X.K Z (.op (.slc false false true) [e])) := by
  refine PE.imp (pe_revL he) fun σ H Q q => tE_mono ?_ (tL_one (tE_op q))
  rintro v H1 ⟨W, pvs, st, AS, hr, hst, ov, hov, hq⟩
  obtain ⟨x, e, hp⟩ := hr.inv1
  subst e
  replace hov : slice x none none true = some ov := hov
  unfold slice at hov
  cases x <;> try (cases hov; done)
  rename_i f xs
  cases hov
  obtain ⟨a, us, ea, ha, hrs⟩ := hp.lst
  exact ⟨a, us, ea, .inl (.inl ha), fun p hp => hq _ _ _ (OpGot.lst hrs.rev hp)⟩
end
end EV

set_option Elab.async false
set_option linter.all false
set_option maxRecDepth 100000
set_option maxHeartbeats 1000000
/-! EV10d: str of data. -/
namespace EV
open PySem PySem.Spec PyProof.Rows L2
mutual
/-- data with empty dicts -/
def toPD : PV → Option PyData
  | .non => some .none
  | .bl b => some (.bool b)
  | .int i => some (.int i)
  | .str s => some (.str s)
  | .tup xs => (toPDs xs).map .tuple
  | .lst _ xs => (toPDs xs).map .list
  | .dct _ ks vs => if ks.isEmpty && vs.isEmpty then some (.dict []) else none
  | _ => none
def toPDs : List PV → Option (List PyData)
  | [] => some []
  | x :: xs => (match toPD x, toPDs xs with
    | some d, some ds => some (d :: ds)
    | _, _ => none)
end
/-- what str gives -/
def txtPV : PV → Option Str
  | .str s => some s
  | .int i => if i.natAbs.log2 < 1920 then some (PySem.Str.ofString (toString i)) else none
  | .tup xs => (match toPDs xs with
    | some ds => if (PyData.tuple ds).showable && (decide ((PyData.tuple ds).depth ≤ 60) && decide ((PyData.tuple ds).shown.length ≤ cap)) then some (PyData.tuple ds).shown else none
    | none => none)
  | .lst _ xs => (match toPDs xs with
    | some ds => if (PyData.list ds).showable && (decide ((PyData.list ds).depth ≤ 60) && decide ((PyData.list ds).shown.length ≤ cap)) then some (PyData.list ds).shown else none
    | none => none)
  | .bl b => some (if b then "True" else "False")
  | _ => none
def smIn (K : PySem.W.Frag) : Prop := ∃ o, K.lookup sysModules = some o ∧ o.cls = .type "dict"
section
variable {V1 : Env1} {X : Cx} {pins : List (Addr × Obj)} {s : Shared} {σ : L2.St} {H : Hp} {W : Wd} {nm : Nm}
theorem sm_ne (F : smIn X.K) (I : Inv X pins σ H s) {a : Addr} {o : Obj} (e : s.heap.get? a = some o) (hc : o.cls = .type "list") : a ≠ sysModules := fun z => by
  obtain ⟨o', h1, h2⟩ := F
  have := I.kIn _ _ h1
  rw [z, this] at e
  cases e
  rw [h2] at hc
  injection hc with z2
  exact absurd z2 (by decide)
theorem dict_mt {a : Addr} (I : Inv X pins σ H s) (h : DictAt X.prog X.w X.K nm W H a [] []) : ∃ o es ep, s.heap.get? a = some o ∧ o.cls = .type "dict" ∧ o.data = .dict es ep ∧ es.toList = [] ∧ a ≠ sysModules := by
  rcases h with ⟨xs, vvs, h1, h2, h3, h4, h5, h6⟩ | ⟨kvs, hne, h1, h2, h3⟩
  · cases xs with
    | cons x xs =>
      rw [toKeys] at h2
      cases h2
    | nil =>
      obtain ⟨⟨o, es, ep, q1, q2, q3, q4, q5, q6, q7⟩, _⟩ := I.hok _ _ h1
      exact ⟨o, es, ep, q1, q2.1, q3, q4, by simpa using q6⟩
  · have := h2.nil_inv
    cases kvs with
    | nil => exact absurd rfl hne
    | cons p l => cases this
mutual
theorem rd_pd (F : smIn X.K) (I : Inv X pins σ H s) : ∀ (p : PV) (v : V) (u : Value) (d : PyData), toPD p = some d → Rep X.prog X.w X.K nm W H p v → RelV v u → ∃ as, Reads s.heap u d as ∧ sysModules ∉ as
  | .non, v, u, d, e, h, r => by
    cases e
    cases (show v = .non from h)
    cases r
    exact ⟨_, Reads.none, by simp⟩
  | .bl b, v, u, d, e, h, r => by
    cases e
    cases (show v = .bl b from h)
    cases r
    exact ⟨_, Reads.bool b, by simp⟩
  | .int i, v, u, d, e, h, r => by
    cases e
    cases (show v = .int i from h)
    obtain ⟨t, rfl⟩ := r
    exact ⟨_, Reads.int i t, by simp⟩
  | .str x, v, u, d, e, h, r => by
    cases e
    cases (show v = .str x from h)
    obtain ⟨t, rfl⟩ := r
    exact ⟨_, Reads.str x t, by simp⟩
  | .tup xs, v, u, d, e, h, r => by
    rw [toPD] at e
    obtain ⟨ds, e1, e2⟩ := Option.map_eq_some_iff.mp e
    subst e2
    rw [Rep] at h
    obtain ⟨a, vs, ev, hH, hr⟩ := h
    subst ev
    cases r
    obtain ⟨its, rv, ⟨o, ho, hc, n, hd⟩, _⟩ := I.tuple (.inl (.inl hH))
    obtain ⟨as, q1, q2⟩ := rd_pds F I xs vs its ds e1 hr rv
    exact ⟨_, Reads.tuple ho hc hd q1, q2⟩
  | .lst f xs, v, u, d, e, h, r => by
    rw [toPD] at e
    obtain ⟨ds, e1, e2⟩ := Option.map_eq_some_iff.mp e
    subst e2
    rw [Rep] at h
    obtain ⟨a, vs, ev, _, hH, hr⟩ := h
    subst ev
    cases r
    obtain ⟨its, rv, ⟨o, n, ho, hc, _, hd⟩, _⟩ := I.list (.inl (.inl hH))
    obtain ⟨as, q1, q2⟩ := rd_pds F I xs vs its ds e1 hr rv
    refine ⟨_, Reads.list ho hc hd q1, fun z => ?_⟩
    rcases List.mem_cons.mp z with z | z
    · exact sm_ne F I ho hc z.symm
    · exact q2 z
  | .dct f ks vs, v, u, d, e, h, r => by
    rw [toPD] at e
    split at e
    · rename_i hb
      cases e
      rw [Bool.and_eq_true, List.isEmpty_iff, List.isEmpty_iff] at hb
      obtain ⟨rfl, rfl⟩ := hb
      rw [Rep] at h
      obtain ⟨a, ev, _, hD⟩ := h
      subst ev
      cases r
      obtain ⟨o, es, ep, q1, q2, q3, q4, q5⟩ := dict_mt I hD
      refine ⟨_, Reads.dict (kvs := []) q1 q2 q3 (by rw [q4]; exact ReadsAll.nil) (by rw [q4]; exact ReadsAll.nil), fun z => ?_⟩
      simp only [List.append_nil, List.mem_singleton] at z
      exact q5 z.symm
    · cases e
  | .ins .., _, _, _, e, _, _ => by cases e
  | .ref _, _, _, _, e, _, _ => by cases e
  | .exc .., _, _, _, e, _, _ => by cases e
  | .scr _, _, _, _, e, _, _ => by cases e
theorem rd_pds (F : smIn X.K) (I : Inv X pins σ H s) : ∀ (ps : List PV) (vs : List V) (us : List Value) (ds : List PyData), toPDs ps = some ds → Reps X.prog X.w X.K nm W H ps vs → Vals vs us → ∃ as, ReadsAll s.heap us ds as ∧ sysModules ∉ as
  | [], vs, us, ds, e, h, r => by
    cases e
    rw [h.nil_inv] at r
    cases r
    exact ⟨_, ReadsAll.nil, by simp⟩
  | p :: ps, vs, us, ds, e, h, r => by
    rw [toPDs] at e
    obtain ⟨v, vr, e1, h1, h2⟩ := h.uncons
    subst e1
    cases r with
    | cons r1 r2 =>
      split at e
      · rename_i d ds' e1 e2
        cases e
        obtain ⟨as, q1, q2⟩ := rd_pd F I p v _ d e1 h1 r1
        obtain ⟨bs, q3, q4⟩ := rd_pds F I ps vr _ ds' e2 h2 r2
        refine ⟨_, ReadsAll.cons q1 q3, fun z => ?_⟩
        rcases List.mem_append.mp z with z | z
        · exact q2 z
        · exact q4 z
      · cases e
end
/-- a text of what stands -/
theorem str_reads {a : Addr} {d : PyData} {as : List Addr} {Q : VK} (hg : X.A.guards = some []) (hu : X.A.units + 70 < cLine) (I : Inv X pins σ H s) (r : Reads s.heap (.ref a) d as) (hs : d.showable = true) (hsm : d.hasDict = true → sysModules ∉ as) (hd : d.depth ≤ 60) (hl : d.shown.length ≤ cap) (q : Q (.str d.shown) H) :
    wpAny (model X.prog X.w) X.A (call (.type "str") [.ref a]) (EP X pins σ Q) X.xe s := by
  exact PySem.str_of_reads r hs hsm hg (by omega) (fun _ _ e => e) (fun h' u tk hk => ⟨.str d.shown, H, I.kept hk, ⟨u, rfl⟩, q⟩) (by rw [sizeLine_eq]; exact hl)
/-- V1's texts are what str gives -/
def TxtOk (txt : PV → Option Str) : Prop := ∀ v s, txt v = some s → txtPV v = some s
theorem cb_str (ht : TxtOk V1.txt) (F : smIn X.K) (hg : X.A.guards = some []) (hu : X.A.units + 70 < cLine) : CallR X (.type "str") (BQ V1 X .str) := by
  intro pins s σ H xs us Q I r h
  obtain ⟨W, pvs, st, AS, hr, hst, ov, hov, hq⟩ := h
  obtain ⟨p, rfl, hov⟩ : ∃ p, pvs = [p] ∧ (V1.txt p).map (fun s => OV.sh (.str s)) = some ov := by
    clear hr
    match pvs, hov with
    | [p], hov => exact ⟨p, rfl, hov⟩
    | [], hov => cases hov
    | _ :: _ :: _, hov => cases hov
  obtain ⟨x, hx, e⟩ := Option.map_eq_some_iff.mp hov
  subst e
  replace hx := ht _ _ hx
  obtain ⟨v, e, hv⟩ := hr.one
  subst e
  clear hov
  have done : Q (.str x) H := hq _ _ _ (OpGot.sh rfl)
  unfold txtPV at hx
  split at hx
  · cases hx
    exact SkE.call_str_str pins s σ H _ us Q I r ⟨_, by rw [hv.str], done⟩
  · split at hx
    · rename_i hz
      cases hx
      exact call_str_int pins s σ H _ us Q I r ⟨_, by rw [hv.int], hz, done⟩
    · cases hx
  · rename_i ps
    split at hx
    · rename_i ds e
      split at hx
      · rename_i hb
        cases hx
        rw [Bool.and_eq_true, Bool.and_eq_true, decide_eq_true_eq, decide_eq_true_eq] at hb
        obtain ⟨a, vs, ev, hH, hrs⟩ := hv.tup
        subst ev
        cases r with
        | cons r1 r2 =>
          cases r2
          cases r1
          obtain ⟨as, q1, q2⟩ := rd_pd (W := W) (nm := V1.nm) F I (.tup ps) (.ref a) _ _ (by rw [toPD, e]; rfl) (by rw [Rep]; exact ⟨a, vs, rfl, hH, hrs⟩) rfl
          exact str_reads hg hu I q1 hb.1 (fun _ => q2) hb.2.1 hb.2.2 done
      · cases hx
    · cases hx
  · rename_i f ps
    split at hx
    · rename_i ds e
      split at hx
      · rename_i hb
        cases hx
        rw [Bool.and_eq_true, Bool.and_eq_true, decide_eq_true_eq, decide_eq_true_eq] at hb
        obtain ⟨a, vs, ev, hH, hrs⟩ := hv.lst
        subst ev
        cases r with
        | cons r1 r2 =>
          cases r2
          cases r1
          obtain ⟨its, rv, ⟨o, n, ho, hc, _, hd⟩, _⟩ := I.list (.inl (.inl hH))
          obtain ⟨as, q1, q2⟩ := rd_pds F I ps vs its ds e hrs rv
          refine str_reads hg hu I (Reads.list ho hc hd q1) hb.1 (fun _ z => ?_) hb.2.1 hb.2.2 done
          rcases List.mem_cons.mp z with z | z
          · exact sm_ne F I ho hc z.symm
          · exact q2 z
      · cases hx
    · cases hx
  · cases hx
    rename_i b
    rw [hv.bl] at r
    cases r with
    | cons r1 r2 =>
      cases r2
      cases r1
      exact PySem.P.str_of_bool ⟨.str _, H, I.tok _, ⟨_, rfl⟩, done⟩
  · cases hx
end
end EV

set_option Elab.async false
set_option linter.all false
set_option maxRecDepth 100000
set_option maxHeartbeats 1000000
/-! EV9a: the small syntax against the text. -/
namespace EV
open PySem PySem.Spec PyProof.Rows L2
/-! ### the names of a law -/
structure Gt where
  fn : Nat → Option (Str × Nat)
  cl : Nat → Option (Str × Nat)
  mt : Nat → Option (Str × Nat)
  ex : Nat → Option Str
  kw : List (Nat × Nat × List Str × List Arg)
  mkw : List (Nat × Nat × List Str × List Arg)
  fld : Nat → Str
  cln : Nat → Str
  fs : List Nat
  tys : List Ty
  pos : Nat → Bool
  xs : List Nat
  xfs : List Nat
  exn : Nat → Str
def pvC : PV → PV → Bool
  | .non, .non => true
  | .bl a, .bl b => a == b
  | .int a, .int b => decide (a = b)
  | .str a, .str b => decide (a = b)
  | _, _ => false
theorem pvC_eq {a b : PV} (h : pvC a b = true) : a = b := by
  cases a <;> cases b <;> simp [pvC] at h <;> first
    | rfl
    | (subst h; rfl)
def argB : Arg → Arg → Bool
  | .at i, .at j => i == j
  | .dfl u, .dfl v => pvC u v
  | _, _ => false
theorem argB_eq {a b : Arg} (h : argB a b = true) : a = b := by
  cases a <;> cases b <;> simp [argB] at h
  · subst h; rfl
  · rw [pvC_eq h]
def argsB : List Arg → List Arg → Bool
  | [], [] => true
  | a :: as, b :: bs => argB a b && argsB as bs
  | _, _ => false
theorem argsB_eq : ∀ {as bs : List Arg}, argsB as bs = true → as = bs
  | [], [], _ => rfl
  | [], _ :: _, h => by cases h
  | _ :: _, [], h => by cases h
  | a :: as, b :: bs, h => by
    rw [argsB, Bool.and_eq_true] at h
    rw [argB_eq h.1, argsB_eq h.2]
def kwB (l : List (Nat × Nat × List Str × List Arg)) (f n : Nat) (ks : List Str) (pm : List Arg) : Bool := l.any fun t => t.1 == f && (t.2.1 == n && (decide (t.2.2.1 = ks) && argsB t.2.2.2 pm))
theorem kwB_mem {l : List (Nat × Nat × List Str × List Arg)} {f n : Nat} {ks : List Str} {pm : List Arg} (h : kwB l f n ks pm = true) : (f, n, ks, pm) ∈ l := by
  unfold kwB at h
  obtain ⟨t, ht, h⟩ := List.any_eq_true.mp h
  rw [Bool.and_eq_true, Bool.and_eq_true, Bool.and_eq_true] at h
  obtain ⟨h1, h2, h3, h4⟩ := h
  obtain ⟨a, b, c, d⟩ := t
  simp only [beq_iff_eq, decide_eq_true_eq] at h1 h2 h3 h4
  rw [← h1, ← h2, ← h3, ← argsB_eq h4]
  exact ht
/-! ### what the law's top has left -/
structure Top (V1 : Env1) (G : Gt) (X : Cx) : Prop where
  calm : X.calm = true
  gd : X.A.guards = some []
  hu : X.A.units + 70 < cLine
  fc : Facts V1.nm X.K
  eqf : EqF V1 X
  free : ∀ n ∈ (["range", "enumerate", "zip", "isinstance", "len", "int", "max", "min", "tuple", "list", "sorted", "set", "all", "any", "str", "bool", "dict", "sum"] : List Str), X.mg n = none
  fn : ∀ f n np, G.fn f = some (n, np) → f < 1000 ∧ ∃ k fa fd ps, FnG X.prog X.w X.K X.mg X.base (L2.CX X.prog X.w) k fa fd ps (spC X.prog X.w X.K V1.nm V1.call f np) ∧ Room k X.A ∧ X.mg n = some (.ref fa) ∧ PySem.W.keepIn X.K (.ref fa) = true ∧
    (G.pos f = true → ∀ (s : Shared) (us : List Value), us.length = np → BindsTo s fd ⟨us, []⟩ (ps.zip us)) ∧ ∀ m ks pm, (f, m, ks, pm) ∈ G.kw → KwB X.K fd ps m ks pm
  cl : ∀ c n np, G.cl c = some (n, np) → c < 1000 ∧ ∃ k fa fd ps, Mk X.K (ca X.K V1.nm c) fa ∧ FnG X.prog X.w X.K X.mg X.base (L2.CX X.prog X.w) k fa fd ps (spI X.prog X.w X.K V1.nm V1.call c (np + 1)) ∧ Room (k + 1) X.A ∧ X.mg n = some (.ref (ca X.K V1.nm c)) ∧
    (∀ (s : Shared) (us : List Value), us.length = np + 1 → BindsTo s fd ⟨us, []⟩ (ps.zip us)) ∧ ∀ m ks pm, (1000 + c, m, ks, pm) ∈ G.kw → KwB X.K fd ps (m + 1) ks (.at 0 :: shiftPm pm)
  mt : ∀ m n np, G.mt m = some (n, np) → MethG V1 X m n np ∧ (∀ g ∈ V1.nm.fs, V1.nm.fld g ≠ n) ∧ ∀ k ks pm, (m, k, ks, pm) ∈ G.mkw → MethK V1 X m n k ks pm
  ex : ∀ c n, G.ex c = some n → ExcF X.prog X.w X.K X.mg X.base V1.nm c (V1.cl.excF c) ∧ X.mg n = some (.ref (xa X.K V1.nm c))
  room : Room 2 X.A
  fld : ∀ f, V1.nm.fld f = G.fld f
  fs : ∀ f ∈ G.fs, f ∈ V1.nm.fs
  cln : ∀ c, X.mg (G.cln c) = some (.ref (ca X.K V1.nm c)) ∨ (Ty.cls c) ∉ G.tys
  tys : ∀ t ∈ G.tys, t ∈ V1.nm.tys
  tx : TxtOk V1.txt
  sm : smIn X.K
  exn : ∀ c ∈ G.xs, c ∈ V1.nm.xs ∧ V1.nm.exc c = G.exn c
  xn : ∀ c ∈ V1.nm.xs, X.mg (V1.nm.exc c) = some (.ref (xa X.K V1.nm c)) ∧ L2.XfC X.K (xa X.K V1.nm c) ∧ (∀ f ∈ G.xfs, PySem.W.findIn X.K (.ref (xa X.K V1.nm c)) (V1.nm.fld f) = some none) ∧ ∀ d ∈ V1.nm.xs, PySem.W.exmOne X.K (.ref (xa X.K V1.nm c)) (.ref (xa X.K V1.nm d)) = some (takes c d)
/-- a context of the text: the names, the scope -/
structure GoodC (V1 : Env1) (G : Gt) (N : List Str) (sc : Scope) (X : Cx) : Prop where
  top : Top V1 G X
  nN : X.N = N
  nd : N.Nodup
  hsc : X.env.scope = sc
  kind : sc.kind = .function
def dbg (x : Str) : Bool := (x == ("__debug__" : Str)) || (x == ("__classdict__" : Str))
def visB (sc : Scope) (x : Str) : Bool := match sc.names.lookup x with
  | some .local => true
  | some .cell => true
  | some .free => true
  | _ => false
def glB (sc : Scope) (x : Str) : Bool := match sc.names.lookup x with
  | some .globalImplicit => !dbg x
  | _ => false
section
variable {V1 : Env1} {G : Gt} {N : List Str} {sc : Scope} {X : Cx}
theorem GoodC.vis (g : GoodC V1 G N sc X) {x : Str} (h : visB sc x = true) : Vis X.env.scope x := by
  rw [g.hsc]
  unfold visB at h
  split at h
  · exact .inl (by assumption)
  · exact .inr (.inl (by assumption))
  · exact .inr (.inr (by assumption))
  · cases h
theorem GoodC.gl (g : GoodC V1 G N sc X) {x : Str} (h : glB sc x = true) : Gl X x ∧ (x == ("__debug__" : Str)) = false := by
  unfold glB at h
  split at h
  · rename_i e
    refine ⟨by show X.env.scope.names.lookup x = _; rw [g.hsc]; exact e, ?_⟩
    unfold dbg at h
    cases hq : (x == ("__debug__" : Str)) with
    | false => rfl
    | true => rw [hq] at h; cases h
  · cases h
theorem dbg_no {x : Str} (h : dbg x = false) : (x == ("__debug__" : Str)) = false ∧ (x == ("__classdict__" : Str)) = false := by
  unfold dbg at h
  rw [Bool.or_eq_false_iff] at h
  exact h
/-- the block of a comprehension -/
theorem GoodC.blk (g : GoodC V1 G N sc X) {scope : Scope} (hk : scope.kind = .function) (s : Shared) (H : Hp) (C : Addr) (cl : List (Str × Addr)) (fp : List Addr) : GoodC V1 G N (relS scope sc) (X.blk s H scope (compEnvC scope cl C X.env) fp) := by
  have t := g.top
  refine ⟨⟨t.calm, t.gd, t.hu, t.fc, ⟨t.eqf.own, t.eqf.nfc, t.eqf.nft⟩, t.free, t.fn, t.cl, t.mt, t.ex, t.room, t.fld, t.fs, t.cln, t.tys, t.tx, t.sm, t.exn, t.xn⟩, g.nN, g.nd, ?_, hk⟩
  show relS scope X.env.scope = _
  rw [g.hsc]
end
/-! ### the forms -/
def biNm : BI → Str
  | .len => "len"
  | .int => "int"
  | .max2 => "max"
  | .min2 => "min"
  | .max1 => "max"
  | .tuple => "tuple"
  | .list => "list"
  | .sorted => "sorted"
  | .all => "all"
  | .any => "any"
  | .str => "str"
  | _ => ""
def biN : BI → Nat
  | .max2 => 2
  | .min2 => 2
  | .len => 1
  | .int => 1
  | .max1 => 1
  | .tuple => 1
  | .list => 1
  | .sorted => 1
  | .all => 1
  | .any => 1
  | .str => 1
  | _ => 99
def tyNm (G : Gt) : Ty → Str
  | .int => "int"
  | .bool => "bool"
  | .str => "str"
  | .tuple => "tuple"
  | .list => "list"
  | .dict => "dict"
  | .cls c => G.cln c
  | .exc _ => ""
def tyEq : Ty → Ty → Bool
  | .int, .int => true
  | .bool, .bool => true
  | .str, .str => true
  | .tuple, .tuple => true
  | .list, .list => true
  | .dict, .dict => true
  | .cls a, .cls b => a == b
  | _, _ => false
def tyB (G : Gt) (sc : Scope) (t : Ty) (x : Expr) : Bool := G.tys.any (tyEq t) && (match x with
  | .Name n _ => decide (n = tyNm G t) && glB sc n
  | _ => false)
def tysB (G : Gt) (sc : Scope) : List Ty → List Expr → Bool
  | [], [] => true
  | t :: ts, x :: xs => tyB G sc t x && tysB G sc ts xs
  | _, _ => false
def isTup : Expr → Bool
  | .Tuple .. => true
  | _ => false
/-- an operation's operands in the text -/
def opArgs (G : Gt) (sc : Scope) : Op → Expr → Option (List Expr)
  | .bop o, x => (match x with
    | .BinOp a op b _ => if op = opB o then some [a, b] else none
    | _ => none)
  | .neg, x => (match x with
    | .UnaryOp .USub a _ => some [a]
    | _ => none)
  | .not, x => (match x with
    | .UnaryOp .Not a _ => some [a]
    | _ => none)
  | .cmp o, x => (match x with
    | .Compare a [op] [b] _ => if op = opC o ∧ behindInMarks op b = false then some [a, b] else none
    | _ => none)
  | .idx, x => (match x with
    | .Subscript a b _ => if ixOk b = true then some [a, b] else none
    | _ => none)
  | .slc lo hi bk, x => (match x with
    | .Subscript a (.Slice l h st _) _ => (match lo, hi, bk, l, h, st with
      | false, false, false, none, none, none => some [a]
      | true, false, false, some l, none, none => some [a, l]
      | false, true, false, none, some h, none => some [a, h]
      | false, false, true, none, none, some (.UnaryOp .USub (.Constant (.int 1) _ _) _) => some [a]
      | _, _, _, _, _, _ => none)
    | _ => none)
  | .bi b, x => (match x with
    | .Call (.Name n _) xs [] _ => (match b with
      | .sset => (match xs with
        | [.Call (.Name m _) ys [] _] => if n = "sorted" ∧ m = "set" ∧ glB sc n = true ∧ glB sc m = true ∧ ys.length = 1 then some ys else none
        | _ => none)
      | b => if n = biNm b ∧ glB sc n = true ∧ xs.length = biN b ∧ biN b < 9 then some xs else none)
    | _ => none)
  | .isi ts, x => (match x with
    | .Call (.Name n _) [a, t] [] _ => if n = "isinstance" ∧ glB sc n = true ∧ ts ≠ [] ∧ ts.length ≤ 1000 then (match t with
      | .Tuple xs _ _ => if tysB G sc ts xs = true then some [a] else none
      | t => (match ts with
        | [ty] => if tyB G sc ty t = true then some [a] else none
        | _ => none)) else none
    | _ => none)
/-- what is walked, in the text -/
def itArgs (sc : Scope) (it : EV.It) (xt xi : Expr) : Option (List Expr) :=
  match it with
  | .plain => some [xi]
  | .enum => (match xi with
    | .Call (.Name n _) xs [] _ => if n = "enumerate" ∧ glB sc n = true ∧ isTup xt = true ∧ xs.length = 1 then some xs else none
    | _ => none)
  | .zip => (match xi with
    | .Call (.Name n _) xs [] _ => if n = "zip" ∧ glB sc n = true ∧ isTup xt = true ∧ xs.length = 2 then some xs else none
    | _ => none)
  | .rng1 => (match xi with
    | .Call (.Name n _) xs [] _ => if n = "range" ∧ glB sc n = true ∧ xs.length = 1 then some xs else none
    | _ => none)
  | .rng2 => (match xi with
    | .Call (.Name n _) xs [] _ => if n = "range" ∧ glB sc n = true ∧ xs.length = 2 then some xs else none
    | _ => none)
def foldOk : Expr → Bool
  | .Set .. => false
  | _ => true
theorem fold_ok {e : Expr} {env : PySem.Env} (h : foldOk e = true) : ∀ x, foldedSetIterable e env x = pure x := by
  intro x
  cases e <;> first
    | rfl
    | cases h
/-- a name to be stored -/
def locB (fnB : Str → Bool) (sc : Scope) (y : Str) : Bool := match sc.names.lookup y with
  | some .local => true
  | some .cell => fnB y
  | _ => false
def nmsB (N : List Str) (fnB : Str → Bool) (sc : Scope) : List Nat → List Expr → Bool
  | [], [] => true
  | i :: is, .Name y _ :: xs => decide (N[i]? = some y) && (locB fnB sc y && nmsB N fnB sc is xs)
  | _, _ => false
def tgB (N : List Str) (fnB : Str → Bool) (sc : Scope) (tg : Tg) (x : Expr) : Bool :=
  match tg with
  | .one i => nmsB N fnB sc [i] [x]
  | .many is => (match x with
    | .Tuple xs _ _ => nmsB N fnB sc is xs
    | _ => false)
def kwNames : List Keyword → List Str
  | [] => []
  | k :: ks => (k.arg.getD "") :: kwNames ks
def kwAll : List Keyword → Bool
  | [] => true
  | k :: ks => k.arg.isSome && kwAll ks
def ownOf (N : List Str) (tg : Tg) : List (Str × Nat) := (tgIs tg).map fun i => (N.getD i "", i)
def kindB (k : ScopeKind) : Bool := match k with
  | .function => true
  | _ => false
/-! ### the small syntax is the text -/
mutual
def chkE (G : Gt) (N : List Str) (sc : Scope) : EV.E → Expr → Bool
  | .var i, x => (match x with
    | .Name y _ => decide (N[i]? = some y) && (visB sc y && !dbg y)
    | _ => false)
  | .lit v, x => (match x with
    | .Constant c _ _ => constV v c
    | _ => false)
  | .tup es, x => (match x with
    | .Tuple xs _ _ => decide (es.length ≤ 1000) && chkEs G N sc es xs
    | _ => false)
  | .lst es, x => (match x with
    | .List xs _ => decide (es.length ≤ 1000) && chkEs G N sc es xs
    | _ => false)
  | .dct0, x => (match x with
    | .Dict [] [] _ => true
    | _ => false)
  | .dct1 _, _ => false
  | .op o es, x => (match opArgs G sc o x with
    | some xs => chkEs G N sc es xs
    | none => false)
  | .chain _ _ _ _ _, _ => false
  | .and es, x => (match x with
    | .BoolOp .And xs _ => !es.isEmpty && chkEs G N sc es xs
    | _ => false)
  | .or es, x => (match x with
    | .BoolOp .Or xs _ => !es.isEmpty && chkEs G N sc es xs
    | _ => false)
  | .ifx c a b, x => (match x with
    | .IfExp xc xa xb _ => chkT G N sc c xc && (chkE G N sc a xa && chkE G N sc b xb)
    | _ => false)
  | .fld a f, x => (match x with
    | .Attribute xa y _ => dotOk xa && (decide (G.fld f = y) && chkE G N sc a xa)
    | _ => false)
  | .call f es, x => (match x with
    | .Call (.Name n _) xs [] _ => glB sc n && (decide (es.length = xs.length) && ((if f < 1000 then (G.pos f && decide (G.fn f = some (n, es.length))) else if f < 2000 then decide (G.cl (f - 1000) = some (n, es.length)) else false) && chkEs G N sc es xs))
    | _ => false)
  | .callK f es pm, x => (match x with
    | .Call (.Name n _) xs kws _ => glB sc n && (kwAll kws && (pmOk pm && (kwB G.kw f xs.length (kwNames kws) pm && ((if f < 1000 then decide (G.fn f = some (n, pm.length)) else if f < 2000 then decide (G.cl (f - 1000) = some (n, pm.length)) else false) && chkEs G N sc es (xs ++ kws.map (·.value))))))
    | _ => false)
  | .mcall m es, x => (match x with
    | .Call (.Attribute xo mn apos) xs [] pos => dotOk xo && (decide (G.mt m = some (mn, es.length)) && (decide (xs.length < 20) && ((apos.endLine == pos.line) && chkEs G N sc es (xo :: xs))))
    | _ => false)
  | .mcallK m es pm, x => (match x with
    | .Call (.Attribute xo mn apos) xs kws pos => dotOk xo && (kwAll kws && (pmOk pm && (kwB G.mkw m xs.length (kwNames kws) pm && (decide (G.mt m = some (mn, pm.length + 1)) && (decide (xs.length + kws.length < 20) && ((apos.endLine == pos.line) && chkEs G N sc es (xo :: (xs ++ kws.map (·.value)))))))))
    | _ => false)
  | .comp elt tg it its ifs, x => (match x with
    | .ListComp xe [⟨xt, xi, xs, isa⟩] scope _ => decide (isa = 0) && (foldOk xi && (blkC N sc scope (ownOf N tg) && (kindB scope.kind && (tgB N (fun y => scope.names.lookup y == some .cell) (relS scope sc) tg xt && ((match itArgs sc it xt xi with
        | some ys => chkEs G N sc its ys
        | none => false) && (chkTs G N (relS scope sc) ifs xs && chkE G N (relS scope sc) elt xe))))))
    | _ => false)
  | .new a, x => chkE G N sc a x
  | .der _, _ => false
def chkEs (G : Gt) (N : List Str) (sc : Scope) : List EV.E → List Expr → Bool
  | [], xs => xs.isEmpty
  | e :: es, xs => (match xs with
    | x :: xs => noStar x && (chkE G N sc e x && chkEs G N sc es xs)
    | [] => false)
def chkT (G : Gt) (N : List Str) (sc : Scope) : EV.T → Expr → Bool
  | .val e, x => chkE G N sc e x && (plainT x || (match e with
    | .op (.cmp _) _ => true
    | _ => false))
  | .and ts, x => (match x with
    | .BoolOp .And xs _ => !ts.isEmpty && chkTl G N sc ts xs
    | _ => false)
  | .or ts, x => (match x with
    | .BoolOp .Or xs _ => !ts.isEmpty && chkTl G N sc ts xs
    | _ => false)
  | .not t, x => (match x with
    | .UnaryOp .Not y _ => chkT G N sc t y
    | _ => false)
def chkTl (G : Gt) (N : List Str) (sc : Scope) : List EV.T → List Expr → Bool
  | [], xs => xs.isEmpty
  | t :: ts, xs => (match xs with
    | x :: xs => chkT G N sc t x && chkTl G N sc ts xs
    | [] => false)
def chkTs (G : Gt) (N : List Str) (sc : Scope) : List EV.T → List Expr → Bool
  | [], xs => xs.isEmpty
  | t :: ts, xs => ts.isEmpty && (match xs with
    | [x] => chkT G N sc t x
    | _ => false)
end
end EV

set_option Elab.async false
set_option linter.all false
set_option maxRecDepth 100000
set_option maxHeartbeats 1000000
/-! EV9b: the forms, one by one. -/
namespace EV
open PySem PySem.Spec PyProof.Rows L2
section
variable {V1 : Env1} {Z : WX} {X : Cx}
/-! ### a new stored object -/
theorem RepO.refOf {P : Program} {w : World} {K : PySem.W.Frag} {nm : Nm} {W : Wd} {H : Hp} {o : OV} {v : V} {A : List Addr} (h : RepO P w K nm W H o v A) (ho : o.own = true) : ∃ a, v = .ref a := by
  cases o with
  | sh x => cases ho
  | ol xs => obtain ⟨a, vs, e, _⟩ := h; exact ⟨a, e⟩
  | od ks vs => obtain ⟨a, e, _⟩ := h; exact ⟨a, e⟩
  | oi c ns vs => obtain ⟨a, dx, fs, B, e, _⟩ := h; exact ⟨a, e⟩
theorem pre_look {M : List Addr} {a : Addr} (k : Nat) (b : Addr) (h : M[k]? = some b) : (M ++ [a])[k]? = some b := by
  rw [List.getElem?_append_left]
  · exact h
  · exact (List.getElem?_eq_some_iff.mp h).1
theorem pe_newO {a : EV.E} {x : Expr} (h : PE X x (tE V1 X.prog X.w X.K Z a)) : PE X x (tE V1 X.prog X.w X.K Z (.new a)) := by
  refine PE.imp h fun σ H Q q => ?_
  obtain ⟨env, st, W, AS, AE, C, q⟩ := q
  refine ⟨env, st, W, AS, AE, C, ?_⟩
  rw [ev] at q
  cases he : ev V1.cl V1.txt V1.call a env st with
  | bad => rw [he] at q; exact q
  | exc c ns vs st1 => rw [he] at q; exact q
  | ok ov st1 =>
    rw [he] at q
    simp only [R.bind] at q
    intro W1 H1 AS1 v A g
    by_cases hp : isPl a = true
    · rw [if_pos hp] at q
      exact q.elim
    · rw [if_neg hp] at q
      have hp' : isPl a = false := by simpa using hp
      have hq : ov.own = true ∧ ∀ W' H' AS' v A, Got X.prog X.w X.K V1.nm W H AS AE (.new a) (.sh (.ref st1.length)) (st1 ++ [ov]) W' H' AS' v A → Q v H' := by
        cases ov with
        | sh y => exact q.elim
        | ol xs => exact ⟨rfl, q⟩
        | od ks vs => exact ⟨rfl, q⟩
        | oi c ns vs => exact ⟨rfl, q⟩
      obtain ⟨ho, q⟩ := hq
      obtain ⟨b, rfl⟩ := g.rep.refOf ho
      obtain ⟨n1, n2⟩ := g.fr hp'
      have kp : Kp W1 { W1 with M := W1.M ++ [b] } H1 H1 := ⟨fun _ h => h, fun _ h => h, fun k a h => pre_look k a h, fun _ _ h => h, fun _ _ _ h => h, fun _ _ _ h => h⟩
      have n3 : ∀ a ∈ A, a ∉ AE := fun a ha hE => by
        obtain ⟨h1, _⟩ := n2 a ha
        exact C.live a (by simp [hE]) h1
      have n4 := List.nodup_append.mp g.nd
      refine q { W1 with M := W1.M ++ [b] } H1 (AS1 ++ A) (.ref b) [] ⟨⟨g.ent.F, g.ent.L, fun k a h => pre_look k a (g.ent.M k a h), g.ent.keep, g.ent.live, g.ent.fr, fun a h => ?_⟩, ?_, ?_, ?_, ?_, ?_, ?_, ?_, ?_⟩
      · rcases List.mem_append.mp h with z | z
        · exact g.ent.st a z
        · exact .inr (n2 a z).1
      · exact (g.str.keep kp fun _ _ _ h => h).push (g.rep.keep kp _ _ _ fun _ _ _ h => h) ho
      · rw [List.nodup_append]
        refine ⟨List.nodup_append.mpr ⟨n4.1, n1, fun p hp r hr e => (n2 r hr).2.2.2 (e ▸ hp)⟩, n4.2.1, fun p hp r hr e => ?_⟩
        rcases List.mem_append.mp hp with z | z
        · exact n4.2.2 p z r hr e
        · exact n3 p z (e ▸ hr)
      · intro p hp
        rcases List.mem_append.mp hp with z | z
        · rcases List.mem_append.mp z with z | z
          · exact g.ff p (by simp [z])
          · exact ⟨(n2 p z).2.1, (n2 p z).2.2.1⟩
        · exact g.ff p (by simp [z])
      · exact g.tr
      · refine ⟨rfl, b, ?_, rfl⟩
        show (W1.M ++ [b])[st1.length]? = some b
        rw [g.str.length]
        simp
      · intro z; cases z
      · intro _
        exact ⟨List.nodup_nil, fun a h => by cases h⟩
      · intro z; cases z
/-! ### lists, split -/
theorem PEs.appS : ∀ {es1 es2 : List EV.E} {xs1 xs2 : List Expr}, es1.length = xs1.length → PEs V1 Z X (es1 ++ es2) (xs1 ++ xs2) → PEs V1 Z X es1 xs1 ∧ PEs V1 Z X es2 xs2
  | [], es2, [], xs2, _, h => ⟨rfl, h⟩
  | [], _, _ :: _, _, e, _ => by cases e
  | _ :: _, _, [], _, e, _ => by cases e
  | e :: es1, es2, x :: xs1, xs2, hl, h => by
    obtain ⟨y, r, e1, n1, h1, h2⟩ := h
    rw [List.cons_append, List.cons.injEq] at e1
    obtain ⟨e1, e2⟩ := e1
    subst e1
    rw [← e2] at h2
    obtain ⟨q1, q2⟩ := PEs.appS (by simpa using hl) h2
    exact ⟨⟨x, xs1, rfl, n1, h1, q1⟩, q2⟩
theorem PEs.len : ∀ {es : List EV.E} {xs : List Expr}, PEs V1 Z X es xs → es.length = xs.length
  | [], xs, h => by
    rw [show xs = [] from h]
    rfl
  | e :: es, xs, h => by
    obtain ⟨x, r, e1, n1, h1, h2⟩ := h
    rw [e1, List.length_cons, List.length_cons, PEs.len h2]
theorem PEs.nos : ∀ {es : List EV.E} {xs : List Expr}, PEs V1 Z X es xs → xs.all noStar = true
  | [], xs, h => by rw [show xs = [] from h]; rfl
  | e :: es, xs, h => by
    obtain ⟨x, r, e1, n1, h1, h2⟩ := h
    rw [e1, List.all_cons, n1, PEs.nos h2]; rfl
theorem pks_of : ∀ {es : List EV.E} {kws : List Keyword}, kwAll kws = true → PEs V1 Z X es (kws.map (·.value)) → PKs V1 Z X es (kwNames kws) kws
  | [], [], _, _ => ⟨rfl, rfl⟩
  | [], _ :: _, _, h => by cases (show _ = [] from h)
  | e :: es, [], _, h => by
    obtain ⟨x, r, e1, _⟩ := h
    cases e1
  | e :: es, ⟨n, x, p⟩ :: kws, hk, h => by
    obtain ⟨y, r, e1, n1, h1, h2⟩ := h
    rw [List.map_cons, List.cons.injEq] at e1
    obtain ⟨e1, e2⟩ := e1
    subst e1 e2
    rw [kwAll, Bool.and_eq_true] at hk
    cases n with
    | none => cases hk.1
    | some n => exact ⟨n, x, p, kwNames kws, kws, rfl, rfl, h1, pks_of hk.2 h2⟩
/-- the split of a call's arguments -/
theorem PEs.split2 {es : List EV.E} {xs ys : List Expr} (h : PEs V1 Z X es (xs ++ ys)) : ∃ es1 es2, es = es1 ++ es2 ∧ es1.length = xs.length ∧ PEs V1 Z X es1 xs ∧ PEs V1 Z X es2 ys := by
  have hl : es.length = xs.length + ys.length := by rw [h.len, List.length_append]
  have e1 : (es.take xs.length).length = xs.length := by rw [List.length_take]; omega
  rw [← List.take_append_drop xs.length es] at h
  obtain ⟨q1, q2⟩ := PEs.appS e1 h
  exact ⟨_, _, (List.take_append_drop xs.length es).symm, e1, q1, q2⟩
end
section
variable {V1 : Env1} {G : Gt} {N : List Str} {sc : Scope} {X : Cx} {Z : WX}
/-! ### classes -/
theorem ty_ok (g : GoodC V1 G N sc X) {t : Ty} {x : Expr} (h : tyB G sc t x = true) : noStar x = true ∧ PE X x (tC (tyC X.K V1.nm t)) ∧ t ∈ V1.nm.tys := by
  unfold tyB at h
  rw [Bool.and_eq_true] at h
  obtain ⟨h1, h2⟩ := h
  have ht : t ∈ G.tys := by
    obtain ⟨u, hu, e⟩ := List.any_eq_true.mp h1
    have : u = t := by
      cases t <;> cases u <;> simp [tyEq] at e <;> first
        | rfl
        | rw [e]
    rw [← this]; exact hu
  cases x <;> try cases h2
  rename_i n p
  rw [Bool.and_eq_true, decide_eq_true_eq] at h2
  obtain ⟨e, hg⟩ := h2
  obtain ⟨gl, hd⟩ := g.gl hg
  refine ⟨rfl, ?_, g.top.tys t ht⟩
  cases t with
  | exc c =>
    obtain ⟨u, hu, e⟩ := List.any_eq_true.mp h1
    cases u <;> cases e
  | cls c =>
    rcases g.top.cln c with z | z
    · have e' : n = G.cln c := e
      subst e'
      exact pe_glob gl z rfl hd
    · exact absurd ht z
  | int =>
    have e' : n = "int" := e
    subst e'
    exact pe_bltn gl (g.top.free _ (by simp)) rfl rfl (by decide) hd
  | bool =>
    have e' : n = "bool" := e
    subst e'
    exact pe_bltn gl (g.top.free _ (by simp)) rfl rfl (by decide) hd
  | str =>
    have e' : n = "str" := e
    subst e'
    exact pe_bltn gl (g.top.free _ (by simp)) rfl rfl (by decide) hd
  | tuple =>
    have e' : n = "tuple" := e
    subst e'
    exact pe_bltn gl (g.top.free _ (by simp)) rfl rfl (by decide) hd
  | list =>
    have e' : n = "list" := e
    subst e'
    exact pe_bltn gl (g.top.free _ (by simp)) rfl rfl (by decide) hd
  | dict =>
    have e' : n = "dict" := e
    subst e'
    exact pe_bltn gl (g.top.free _ (by simp)) rfl rfl (by decide) hd
theorem tys_ok (g : GoodC V1 G N sc X) : ∀ {ts : List Ty} {xs : List Expr}, tysB G sc ts xs = true → TysP X V1.nm ts xs ∧ ∀ t ∈ ts, t ∈ V1.nm.tys
  | [], [], _ => ⟨rfl, fun t h => by cases h⟩
  | [], _ :: _, h => by cases h
  | _ :: _, [], h => by cases h
  | t :: ts, x :: xs, h => by
    rw [tysB, Bool.and_eq_true] at h
    obtain ⟨q1, q2, q3⟩ := ty_ok g h.1
    obtain ⟨q4, q5⟩ := tys_ok g h.2
    refine ⟨⟨x, xs, rfl, q1, q2, q4⟩, fun u hu => ?_⟩
    rcases List.mem_cons.mp hu with z | z
    · rw [z]; exact q3
    · exact q5 u z
/-! ### targets -/
theorem nms_ok (g : GoodC V1 G N sc X) {fnB : Str → Bool} (hf : ∀ y, fnB y = true → X.fn y = true) : ∀ {is : List Nat} {xs : List Expr}, nmsB N fnB sc is xs = true → NamesT X is xs
  | [], [], _ => rfl
  | [], _ :: _, h => by cases h
  | _ :: _, [], h => by cases h
  | i :: is, x :: xs, h => by
    cases x <;> try (cases h; done)
    rename_i y p
    rw [nmsB, Bool.and_eq_true, Bool.and_eq_true, decide_eq_true_eq] at h
    obtain ⟨h1, h2, h3⟩ := h
    have hl : Loc X.env.scope y ∧ (X.fn y = true ∨ X.env.scope.names.lookup y = some .local) := by
      rw [g.hsc]
      unfold locB at h2
      split at h2
      · exact ⟨.inl (by assumption), .inr (by assumption)⟩
      · exact ⟨.inr (by assumption), .inl (hf y h2)⟩
      · cases h2
    exact ⟨y, p, xs, rfl, by rw [g.nN]; exact h1, hl.1, hl.2, nms_ok g hf h3⟩
theorem tg_ok (g : GoodC V1 G N sc X) {fnB : Str → Bool} (hf : ∀ y, fnB y = true → X.fn y = true) {tg : Tg} {x : Expr} (h : tgB N fnB sc tg x = true) : PG X x (gTgE X.K tg) := by
  cases tg with
  | one i =>
    obtain ⟨y, p, r, e, h1, h2, h3, h4⟩ := nms_ok g hf h
    cases e
    exact pg_name (by rw [g.nN]; exact g.nd) h1 h2 h3
  | many is =>
    cases x <;> try (cases h; done)
    rename_i xs k p
    have hn := nms_ok g hf (show nmsB N fnB sc is xs = true from h)
    obtain ⟨n1, n2⟩ := names_each hn
    exact pg_tup g.top.calm (pgs_names (by rw [g.nN]; exact g.nd) hn) n1 n2
theorem own_map {N : List Str} : ∀ {is : List Nat}, (is.map fun i => (N.getD i "", i)).map (·.2) = is
  | [] => rfl
  | i :: is => by rw [List.map_cons, List.map_cons, own_map]
end
end EV

set_option Elab.async false
set_option linter.all false
set_option maxRecDepth 100000
set_option maxHeartbeats 1000000
/-! EV9c: expressions by the matcher. -/
namespace EV
open PySem PySem.Spec PyProof.Rows L2
section
variable {V1 : Env1} {G : Gt} {N : List Str} {sc : Scope} {X : Cx} {Z : WX}
theorem PEs.ne {es : List EV.E} {xs : List Expr} (h : PEs V1 Z X es xs) (hn : xs.length ≠ 0) : ∃ e r, es = e :: r := by
  cases es with
  | nil =>
    rw [show xs = [] from h] at hn
    exact absurd rfl hn
  | cons e r => exact ⟨e, r, rfl⟩
theorem bi_okB (g : GoodC V1 G N sc X) {b : BI} {id : String} {n : Str} {es : List EV.E} {xs : List Expr} {p pos : Pos} (hc : CallR X (.builtin id) (BQ V1 X b)) (hm : n ∈ (["range", "enumerate", "zip", "isinstance", "len", "int", "max", "min", "tuple", "list", "sorted", "set", "all", "any", "str", "bool", "dict", "sum"] : List Str))
    (hv : bootBuiltins n = some (.builtin id)) (hn : n ≠ "__name__") (hg : glB sc n = true) (hl : xs.length ≠ 0) (h : PEs V1 Z X es xs) : PE X (.Call (.Name n p) xs [] pos) (tE V1 X.prog X.w X.K Z (.op (.bi b) es)) := by
  obtain ⟨e, r, rfl⟩ := h.ne hl
  obtain ⟨gl, hd⟩ := g.gl hg
  exact pe_biB hc gl (g.top.free n hm) hv h hn hd
theorem bi_okT (g : GoodC V1 G N sc X) {b : BI} {id : String} {n : Str} {es : List EV.E} {xs : List Expr} {p pos : Pos} (hc : CallR X (.type id) (BQ V1 X b)) (hm : n ∈ (["range", "enumerate", "zip", "isinstance", "len", "int", "max", "min", "tuple", "list", "sorted", "set", "all", "any", "str", "bool", "dict", "sum"] : List Str))
    (hv : bootBuiltins n = some (.type id)) (hn : n ≠ "__name__") (hg : glB sc n = true) (hl : xs.length ≠ 0) (h : PEs V1 Z X es xs) : PE X (.Call (.Name n p) xs [] pos) (tE V1 X.prog X.w X.K Z (.op (.bi b) es)) := by
  obtain ⟨e, r, rfl⟩ := h.ne hl
  obtain ⟨gl, hd⟩ := g.gl hg
  exact pe_biT hc gl (g.top.free n hm) hv h hn hd
theorem op_ok (g : GoodC V1 G N sc X) {o : Op} {es : List EV.E} {x : Expr} {xs : List Expr} (ho : opArgs G sc o x = some xs) (h : PEs V1 Z X es xs) :
    PE X x (tE V1 X.prog X.w X.K Z (.op o es)) ∧ ∀ c, o = .cmp c → PT X x (tT V1 X.prog X.w X.K Z (.val (.op o es))) := by
  have t := g.top
  cases o with
  | bop b =>
    refine ⟨?_, fun c e => by cases e⟩
    simp only [opArgs] at ho
    split at ho
    · split at ho
      · rename_i e
        cases ho
        subst e
        match es, h with
        | [a1, a2], h =>
          obtain ⟨y, z, e, n1, n2, h1, h2⟩ := h.two
          cases e
          exact pe_binE h1 h2
        | [], h => cases h
        | [_], h => obtain ⟨y, e, _⟩ := h.one; cases e
        | _ :: _ :: _ :: _, h =>
          have := h.len
          simp at this
      · cases ho
    · cases ho
  | neg =>
    refine ⟨?_, fun c e => by cases e⟩
    simp only [opArgs] at ho
    split at ho
    · cases ho
      match es, h with
      | [a1], h =>
        obtain ⟨y, e, n1, h1⟩ := h.one
        cases e
        exact pe_negE h1
      | [], h => cases h
      | _ :: _ :: _, h => have := h.len; simp at this
    · cases ho
  | not =>
    refine ⟨?_, fun c e => by cases e⟩
    simp only [opArgs] at ho
    split at ho
    · cases ho
      match es, h with
      | [a1], h =>
        obtain ⟨y, e, n1, h1⟩ := h.one
        cases e
        exact pe_notE h1
      | [], h => cases h
      | _ :: _ :: _, h => have := h.len; simp at this
    · cases ho
  | cmp b =>
    simp only [opArgs] at ho
    split at ho
    · split at ho
      · rename_i e
        cases ho
        obtain ⟨e, hm⟩ := e
        subst e
        match es, h with
        | [a1, a2], h =>
          obtain ⟨y, z, e, n1, n2, h1, h2⟩ := h.two
          cases e
          exact ⟨pe_cmpE t.fc t.eqf t.gd (by have := t.hu; omega) h1 h2 hm, fun c e => pt_cmpE t.fc t.eqf t.gd (by have := t.hu; omega) h1 h2 hm⟩
        | [], h => cases h
        | [_], h => obtain ⟨y, e, _⟩ := h.one; cases e
        | _ :: _ :: _ :: _, h => have := h.len; simp at this
      · cases ho
    · cases ho
  | idx =>
    refine ⟨?_, fun c e => by cases e⟩
    simp only [opArgs] at ho
    split at ho
    · split at ho
      · rename_i e
        cases ho
        match es, h with
        | [a1, a2], h =>
          obtain ⟨y, z, e', n1, n2, h1, h2⟩ := h.two
          cases e'
          exact pe_idxE (by have := t.hu; omega) h1 h2 e
        | [], h => cases h
        | [_], h => obtain ⟨y, e, _⟩ := h.one; cases e
        | _ :: _ :: _ :: _, h => have := h.len; simp at this
      · cases ho
    · cases ho
  | slc lo hi bk =>
    refine ⟨?_, fun c e => by cases e⟩
    simp only [opArgs] at ho
    split at ho
    · split at ho
      · cases ho
        match es, h with
        | [a1], h =>
          obtain ⟨y, e, n1, h1⟩ := h.one
          cases e
          exact pe_slcFF h1
        | [], h => cases h
        | _ :: _ :: _, h => have := h.len; simp at this
      · cases ho
        match es, h with
        | [a1, a2], h =>
          obtain ⟨y, z, e', n1, n2, h1, h2⟩ := h.two
          cases e'
          exact pe_slcTF h1 h2
        | [], h => cases h
        | [_], h => obtain ⟨y, e, _⟩ := h.one; cases e
        | _ :: _ :: _ :: _, h => have := h.len; simp at this
      · cases ho
        match es, h with
        | [a1, a2], h =>
          obtain ⟨y, z, e', n1, n2, h1, h2⟩ := h.two
          cases e'
          exact pe_slcFT h1 h2
        | [], h => cases h
        | [_], h => obtain ⟨y, e, _⟩ := h.one; cases e
        | _ :: _ :: _ :: _, h => have := h.len; simp at this
      · cases ho
        match es, h with
        | [a1], h =>
          obtain ⟨y, e, n1, h1⟩ := h.one
          cases e
          exact pe_revE h1
        | [], h => cases h
        | _ :: _ :: _, h => have := h.len; simp at this
      · cases ho
    · cases ho
  | isi ts =>
    refine ⟨?_, fun c e => by cases e⟩
    simp only [opArgs] at ho
    split at ho
    · rename_i n p a tt pos
      split at ho
      · rename_i e
        obtain ⟨e1, e2, e3, e4⟩ := e
        subst e1
        obtain ⟨gl, hd⟩ := g.gl e2
        have hm := t.free "isinstance" (by simp)
        split at ho
        · split at ho
          · rename_i q
            cases ho
            match es, h with
            | [a1], h =>
              obtain ⟨y, e, n1, h1⟩ := h.one
              cases e
              obtain ⟨q1, q2⟩ := tys_ok g q
              exact pe_isiE t.fc gl hm h1 n1 (.many e4 q1) q2 e3
            | [], h => cases h
            | _ :: _ :: _, h => have := h.len; simp at this
          · cases ho
        · split at ho
          · split at ho
            · rename_i q
              cases ho
              match es, h with
              | [a1], h =>
                obtain ⟨y, e, n1, h1⟩ := h.one
                cases e
                obtain ⟨q1, q2, q3⟩ := ty_ok g q
                exact pe_isiE t.fc gl hm h1 n1 (.one q1 q2) (fun t ht => by rw [List.mem_singleton.mp ht]; exact q3) e3
              | [], h => cases h
              | _ :: _ :: _, h => have := h.len; simp at this
            · cases ho
          · cases ho
      · cases ho
    · cases ho
  | bi b =>
    refine ⟨?_, fun c e => by cases e⟩
    simp only [opArgs] at ho
    split at ho
    · rename_i n p ys pos
      have key : b ≠ .sset → n = biNm b ∧ glB sc n = true ∧ ys.length = biN b ∧ biN b < 9 ∧ ys = xs := by
        intro hb
        split at ho
        · exact absurd rfl hb
        · split at ho
          · rename_i e
            cases ho
            exact ⟨e.1, e.2.1, e.2.2.1, e.2.2.2, rfl⟩
          · cases ho
      cases b with
      | sset =>
        simp only at ho
        split at ho
        · split at ho
          · rename_i e
            cases ho
            obtain ⟨rfl, rfl, g1, g2, hl⟩ := e
            match es, h with
            | [a1], h =>
              obtain ⟨y, e, n1, h1⟩ := h.one
              subst e
              exact pe_ssetE t.calm t.hu (g.gl g1).1 (t.free _ (by simp)) (g.gl g2).1 (t.free _ (by simp)) h
            | [], h => rw [show _ = [] from h] at hl; cases hl
            | _ :: _ :: _, h => have := h.len; rw [hl] at this; simp at this
          · cases ho
        · cases ho
      | len => obtain ⟨rfl, e2, e3, e4, rfl⟩ := key (by simp); exact bi_okB g cb_len (by simp [biNm]) rfl (by simp only [biNm]; decide) e2 (by rw [e3]; decide) h
      | max2 => obtain ⟨rfl, e2, e3, e4, rfl⟩ := key (by simp); exact bi_okB g (cb_max2 t.calm) (by simp [biNm]) rfl (by simp only [biNm]; decide) e2 (by rw [e3]; decide) h
      | min2 => obtain ⟨rfl, e2, e3, e4, rfl⟩ := key (by simp); exact bi_okB g (cb_min2 t.calm) (by simp [biNm]) rfl (by simp only [biNm]; decide) e2 (by rw [e3]; decide) h
      | max1 => obtain ⟨rfl, e2, e3, e4, rfl⟩ := key (by simp); exact bi_okB g (cb_max1 t.calm) (by simp [biNm]) rfl (by simp only [biNm]; decide) e2 (by rw [e3]; decide) h
      | all => obtain ⟨rfl, e2, e3, e4, rfl⟩ := key (by simp); exact bi_okB g (cb_all t.calm) (by simp [biNm]) rfl (by simp only [biNm]; decide) e2 (by rw [e3]; decide) h
      | any => obtain ⟨rfl, e2, e3, e4, rfl⟩ := key (by simp); exact bi_okB g (cb_any t.calm) (by simp [biNm]) rfl (by simp only [biNm]; decide) e2 (by rw [e3]; decide) h
      | sorted => obtain ⟨rfl, e2, e3, e4, rfl⟩ := key (by simp); exact bi_okB g (cb_sorted t.calm t.hu) (by simp [biNm]) rfl (by simp only [biNm]; decide) e2 (by rw [e3]; decide) h
      | int => obtain ⟨rfl, e2, e3, e4, rfl⟩ := key (by simp); exact bi_okT g cb_int (by simp [biNm]) rfl (by simp only [biNm]; decide) e2 (by rw [e3]; decide) h
      | list => obtain ⟨rfl, e2, e3, e4, rfl⟩ := key (by simp); exact bi_okT g cb_list (by simp [biNm]) rfl (by simp only [biNm]; decide) e2 (by rw [e3]; decide) h
      | tuple => obtain ⟨rfl, e2, e3, e4, rfl⟩ := key (by simp); exact bi_okT g cb_tuple (by simp [biNm]) rfl (by simp only [biNm]; decide) e2 (by rw [e3]; decide) h
      | lset => obtain ⟨_, _, _, e4, _⟩ := key (by simp); exact absurd e4 (by decide)
      | sumL => obtain ⟨_, _, _, e4, _⟩ := key (by simp); exact absurd e4 (by decide)
      | str => obtain ⟨rfl, e2, e3, e4, rfl⟩ := key (by simp); exact bi_okT g (cb_str t.tx t.sm t.gd t.hu) (by simp [biNm]) rfl (by simp only [biNm]; decide) e2 (by rw [e3]; decide) h
      | bool => obtain ⟨_, _, _, e4, _⟩ := key (by simp); exact absurd e4 (by decide)
      | dict => obtain ⟨_, _, _, e4, _⟩ := key (by simp); exact absurd e4 (by decide)
      | tindex => obtain ⟨_, _, _, e4, _⟩ := key (by simp); exact absurd e4 (by decide)
      | count => obtain ⟨_, _, _, e4, _⟩ := key (by simp); exact absurd e4 (by decide)
      | get => obtain ⟨_, _, _, e4, _⟩ := key (by simp); exact absurd e4 (by decide)
      | lrange1 => obtain ⟨_, _, _, e4, _⟩ := key (by simp); exact absurd e4 (by decide)
      | lrange2 => obtain ⟨_, _, _, e4, _⟩ := key (by simp); exact absurd e4 (by decide)
      | trange1 => obtain ⟨_, _, _, e4, _⟩ := key (by simp); exact absurd e4 (by decide)
    · cases ho
/-- what is walked -/
theorem it_ok (g : GoodC V1 G N sc X) {it : EV.It} {its : List EV.E} {xt xi : Expr} {ys : List Expr} (h : itArgs sc it xt xi = some ys) (hs : PEs V1 Z X its ys) : PI X xt xi (itTI V1 X Z it its) := by
  have t := g.top
  cases it with
  | plain =>
    cases h
    match its, hs with
    | [a], hs =>
      obtain ⟨y, e, n1, h1⟩ := hs.one
      cases e
      exact pi_plainE h1 n1
    | [], h => cases h
    | _ :: _ :: _, h => have := h.len; simp at this
  | rng1 =>
    simp only [itArgs] at h
    split at h
    · split at h
      · rename_i e
        cases h
        obtain ⟨rfl, e2, e3⟩ := e
        obtain ⟨gl, hd⟩ := g.gl e2
        match its, hs with
        | [a], hs =>
          obtain ⟨y, e, n1, h1⟩ := hs.one
          cases e
          exact pi_rng1E gl (t.free _ (by simp)) hs
        | [], h => rw [show _ = [] from h] at e3; cases e3
        | _ :: _ :: _, h => have := h.len; simp [e3] at this
      · cases h
    · cases h
  | rng2 =>
    simp only [itArgs] at h
    split at h
    · split at h
      · rename_i e
        cases h
        obtain ⟨rfl, e2, e3⟩ := e
        obtain ⟨gl, hd⟩ := g.gl e2
        match its, hs with
        | [a, b], hs =>
          obtain ⟨y, z, e, n1, n2, h1, h2⟩ := hs.two
          cases e
          exact pi_rng2E gl (t.free _ (by simp)) hs
        | [], h => have := h.len; simp [e3] at this
        | [_], h => have := h.len; simp [e3] at this
        | _ :: _ :: _ :: _, h => have := h.len; simp [e3] at this
      · cases h
    · cases h
  | enum =>
    simp only [itArgs] at h
    split at h
    · split at h
      · rename_i e
        cases h
        obtain ⟨rfl, e2, e4, e3⟩ := e
        obtain ⟨gl, hd⟩ := g.gl e2
        cases xt <;> try (cases e4; done)
        match its, hs with
        | [a], hs =>
          obtain ⟨y, e, n1, h1⟩ := hs.one
          cases e
          exact pi_enumE gl (t.free _ (by simp)) hs
        | [], h => have := h.len; simp [e3] at this
        | _ :: _ :: _, h => have := h.len; simp [e3] at this
      · cases h
    · cases h
  | zip =>
    simp only [itArgs] at h
    split at h
    · split at h
      · rename_i e
        cases h
        obtain ⟨rfl, e2, e4, e3⟩ := e
        obtain ⟨gl, hd⟩ := g.gl e2
        cases xt <;> try (cases e4; done)
        match its, hs with
        | [a, b], hs =>
          obtain ⟨y, z, e, n1, n2, h1, h2⟩ := hs.two
          cases e
          exact pi_zipE gl (t.free _ (by simp)) hs
        | [], h => have := h.len; simp [e3] at this
        | [_], h => have := h.len; simp [e3] at this
        | _ :: _ :: _ :: _, h => have := h.len; simp [e3] at this
      · cases h
    · cases h
end
end EV

set_option Elab.async false
set_option linter.all false
set_option maxRecDepth 100000
set_option maxHeartbeats 1000000
/-! EV9d: what the matcher says holds: expressions, tests. -/
namespace EV
open PySem PySem.Spec PyProof.Rows L2
section
variable {V1 : Env1} {G : Gt} {N : List Str} {sc : Scope} {X : Cx} {Z : WX}
theorem callG_ok (g : GoodC V1 G N sc X) (tk : L2.Takes X Z) {f : Nat} {n : Str} {es : List EV.E} {xs : List Expr} {p pos : Pos} (hg : glB sc n = true) (hf : (if f < 1000 then (G.pos f && decide (G.fn f = some (n, es.length))) else if f < 2000 then decide (G.cl (f - 1000) = some (n, es.length)) else false) = true)
    (h : PEs V1 Z X es xs) : PE X (.Call (.Name n p) xs [] pos) (tE V1 X.prog X.w X.K Z (.call f es)) := by
  obtain ⟨gl, hd⟩ := g.gl hg
  have t := g.top
  split at hf
  · rw [Bool.and_eq_true, decide_eq_true_eq] at hf
    obtain ⟨_, k, fa, fd, ps, F, rm, hm, kp, bd, _⟩ := t.fn _ _ _ hf.2
    exact pe_callE F rm t.gd gl hm kp (bd hf.1) tk h rfl hd
  · split at hf
    · rename_i h1 h2
      rw [decide_eq_true_eq] at hf
      obtain ⟨_, k, fa, fd, ps, M, F, rm, hm, bd, _⟩ := t.cl _ _ _ hf
      have e : f = 1000 + (f - 1000) := by omega
      rw [e]
      exact pe_newE M F rm t.gd gl hm bd tk h rfl hd
    · cases hf
theorem callK_ok (g : GoodC V1 G N sc X) (tk : L2.Takes X Z) {f : Nat} {n : Str} {es : List EV.E} {xs : List Expr} {kws : List Keyword} {pm : List Arg} {p pos : Pos} (hg : glB sc n = true) (hk : kwAll kws = true) (hp : pmOk pm = true) (hw : kwB G.kw f xs.length (kwNames kws) pm = true)
    (hf : (if f < 1000 then decide (G.fn f = some (n, pm.length)) else if f < 2000 then decide (G.cl (f - 1000) = some (n, pm.length)) else false) = true)
    (h : PEs V1 Z X es (xs ++ kws.map (·.value))) : PE X (.Call (.Name n p) xs kws pos) (tE V1 X.prog X.w X.K Z (.callK f es pm)) := by
  obtain ⟨gl, hd⟩ := g.gl hg
  have t := g.top
  obtain ⟨es1, es2, rfl, hl, q1, q2⟩ := h.split2
  have q3 := pks_of hk q2
  have hw := kwB_mem hw
  split at hf
  · rw [decide_eq_true_eq] at hf
    obtain ⟨_, k, fa, fd, ps, F, rm, hm, kp, bd, kw⟩ := t.fn _ _ _ hf
    exact pe_callKE F rm t.gd gl hm kp (kw _ _ _ hw) tk q1 q3 hl rfl hp hd
  · split at hf
    · rename_i h1 h2
      rw [decide_eq_true_eq] at hf
      obtain ⟨_, k, fa, fd, ps, M, F, rm, hm, bd, kw⟩ := t.cl _ _ _ hf
      have e : f = 1000 + (f - 1000) := by omega
      rw [e] at hw ⊢
      exact pe_newKE M F rm t.gd gl hm (kw _ _ _ (by simpa using hw)) tk q1 q3 hl rfl hp hd
    · cases hf
theorem mcall_ok (g : GoodC V1 G N sc X) (tk : L2.Takes X Z) {m : Nat} {mn : Str} {es : List EV.E} {xo : Expr} {xs : List Expr} {apos pos : Pos} (hd : dotOk xo = true) (hm : G.mt m = some (mn, es.length)) (hn : xs.length < 20) (hp : (apos.endLine == pos.line) = true)
    (h : PEs V1 Z X es (xo :: xs)) : PE X (.Call (.Attribute xo mn apos) xs [] pos) (tE V1 X.prog X.w X.K Z (.mcall m es)) := by
  have t := g.top
  match es, h, hm with
  | [], h, _ => cases (show _ = [] from h)
  | e :: es, h, hm =>
    obtain ⟨y, r, e1, n1, h1, h2⟩ := h
    cases e1
    obtain ⟨M, hno, _⟩ := t.mt _ _ _ hm
    exact pe_mcallE t.fc M hno t.gd tk h1 hd h2 h2.nos hn hp
theorem mcallK_ok (g : GoodC V1 G N sc X) (tk : L2.Takes X Z) {m : Nat} {mn : Str} {es : List EV.E} {xo : Expr} {xs : List Expr} {kws : List Keyword} {pm : List Arg} {apos pos : Pos} (hd : dotOk xo = true) (hk : kwAll kws = true) (hpm : pmOk pm = true) (hw : kwB G.mkw m xs.length (kwNames kws) pm = true)
    (hm : G.mt m = some (mn, pm.length + 1)) (hn : xs.length + kws.length < 20) (hp : (apos.endLine == pos.line) = true)
    (h : PEs V1 Z X es (xo :: (xs ++ kws.map (·.value)))) : PE X (.Call (.Attribute xo mn apos) xs kws pos) (tE V1 X.prog X.w X.K Z (.mcallK m es pm)) := by
  have t := g.top
  match es, h with
  | [], h => cases (show _ = [] from h)
  | e :: es, h =>
    obtain ⟨y, r, e1, n1, h1, h2⟩ := h
    cases e1
    obtain ⟨es1, es2, rfl, hl, q1, q2⟩ := h2.split2
    have q3 := pks_of hk q2
    obtain ⟨M, hno, kw⟩ := t.mt _ _ _ hm
    have M2 := kw _ _ _ (kwB_mem hw)
    rw [← hl] at M2
    exact pe_mcallKE t.fc M2 hno t.gd tk h1 hd q1 q3 hpm q1.nos hn hp
theorem comp_ok (g : GoodC V1 G N sc X) {elt : EV.E} {tg : Tg} {it : EV.It} {its : List EV.E} {ifs : List T} {xe xt xi : Expr} {xs : List Expr} {scope : Scope} {pos : Pos} {ys : List Expr} (hf : foldOk xi = true) (hb : blkC N sc scope (ownOf N tg) = true) (hk : scope.kind = .function)
    (ht : tgB N (fun y => scope.names.lookup y == some .cell) (relS scope sc) tg xt = true) (hi : itArgs sc it xt xi = some ys) (hys : PEs V1 Z X its ys)
    (h1 : ∀ Y, GoodC V1 G N (relS scope sc) Y → PTs Y xs (tR V1 Y.prog Y.w Y.K zF (evTs V1.cl V1.txt V1.call ifs))) (h2 : ∀ Y, GoodC V1 G N (relS scope sc) Y → PE Y xe (tE V1 Y.prog Y.w Y.K zF elt)) :
    PE X (.ListComp xe [⟨xt, xi, xs, 0⟩] scope pos) (tE V1 X.prog X.w X.K Z (.comp elt tg it its ifs)) := by
  have om := own_map (N := N) (is := tgIs tg)
  refine pe_compE (own := ownOf N tg) g.top.calm (by rw [g.nN]; exact g.nd) (it_ok g hi hys) (by rw [g.nN, g.hsc]; exact blkOk_by hb) (fun v hv => by rw [ownOf, om] at hv; exact hv) (fun v hv => by rw [ownOf, om]; exact hv) (fun s H C cl fp => ?_) (fun s H C cl fp => h1 _ (g.blk hk s H C cl fp)) (fun s H C cl fp => h2 _ (g.blk hk s H C cl fp)) (fold_ok hf)
  exact tg_ok (g.blk hk s H C cl fp) (fun y hy => hy) ht
theorem not_nil {α : Type} {l : List α} (h : (!l.isEmpty) = true) : l ≠ [] := by
  cases l with
  | nil => cases h
  | cons a r => intro e; cases e
theorem kind_of {k : ScopeKind} (h : kindB k = true) : k = .function := by
  cases k <;> first
    | rfl
    | cases h
theorem tk0 {X : Cx} : L2.Takes X zF := fun _ _ x => by
  obtain ⟨_, _, _, _, _, _, _, _, _, _, _, _, _, _, _, _, z⟩ := x
  exact z.elim
mutual
theorem eE : ∀ (e : EV.E) {sc : Scope} {X : Cx} {Z : WX} {x : Expr}, GoodC V1 G N sc X → L2.Takes X Z → chkE G N sc e x = true → PE X x (tE V1 X.prog X.w X.K Z e) ∧ ∀ c es, e = .op (.cmp c) es → PT X x (tT V1 X.prog X.w X.K Z (.val e))
  | .var i, sc, X, Z, x, g, tk, h => by
    refine ⟨?_, fun c es e => by cases e⟩
    unfold chkE at h
    split at h
    · rw [Bool.and_eq_true, Bool.and_eq_true, decide_eq_true_eq, Bool.not_eq_true'] at h
      obtain ⟨h1, h2, h3⟩ := h
      exact pe_varE (by rw [g.nN]; exact h1) (g.vis h2) (dbg_no h3).1 (dbg_no h3).2
    · cases h
  | .lit v, sc, X, Z, x, g, tk, h => by
    refine ⟨?_, fun c es e => by cases e⟩
    unfold chkE at h
    split at h
    · exact pe_litE h
    · cases h
  | .tup es, sc, X, Z, x, g, tk, h => by
    refine ⟨?_, fun c es e => by cases e⟩
    unfold chkE at h
    split at h
    · rw [Bool.and_eq_true, decide_eq_true_eq] at h
      exact pe_tupE (eEs es g tk h.2) h.1
    · cases h
  | .lst es, sc, X, Z, x, g, tk, h => by
    refine ⟨?_, fun c es e => by cases e⟩
    unfold chkE at h
    split at h
    · rw [Bool.and_eq_true, decide_eq_true_eq] at h
      exact pe_lstE (eEs es g tk h.2) h.1
    · cases h
  | .dct0, sc, X, Z, x, g, tk, h => by
    refine ⟨?_, fun c es e => by cases e⟩
    unfold chkE at h
    split at h
    · exact pe_dct0E
    · cases h
  | .dct1 _, sc, X, Z, x, g, tk, h => by
    unfold chkE at h; cases h
  | .op o es, sc, X, Z, x, g, tk, h => by
    unfold chkE at h
    split at h
    · rename_i xs e
      obtain ⟨q1, q2⟩ := op_ok g e (eEs es g tk h)
      exact ⟨q1, fun c es' e' => q2 c (by cases e'; rfl)⟩
    · cases h
  | .chain _ _ _ _ _, sc, X, Z, x, g, tk, h => by
    unfold chkE at h; cases h
  | .and es, sc, X, Z, x, g, tk, h => by
    refine ⟨?_, fun c es e => by cases e⟩
    unfold chkE at h
    split at h
    · rw [Bool.and_eq_true] at h
      exact pe_andE (eEs es g tk h.2) (not_nil h.1)
    · cases h
  | .or es, sc, X, Z, x, g, tk, h => by
    refine ⟨?_, fun c es e => by cases e⟩
    unfold chkE at h
    split at h
    · rw [Bool.and_eq_true] at h
      exact pe_orE (eEs es g tk h.2) (not_nil h.1)
    · cases h
  | .ifx c a b, sc, X, Z, x, g, tk, h => by
    refine ⟨?_, fun c es e => by cases e⟩
    unfold chkE at h
    split at h
    · rw [Bool.and_eq_true, Bool.and_eq_true] at h
      exact pe_ifxE (eT c g tk h.1) (eE a g tk h.2.1).1 (eE b g tk h.2.2).1
    · cases h
  | .fld a f, sc, X, Z, x, g, tk, h => by
    refine ⟨?_, fun c es e => by cases e⟩
    unfold chkE at h
    split at h
    · rw [Bool.and_eq_true, Bool.and_eq_true, decide_eq_true_eq] at h
      exact pe_fldE g.top.fc (eE a g tk h.2.2).1 h.1 ((g.top.fld f).trans h.2.1)
    · cases h
  | .call f es, sc, X, Z, x, g, tk, h => by
    refine ⟨?_, fun c es e => by cases e⟩
    unfold chkE at h
    split at h
    · rw [Bool.and_eq_true, Bool.and_eq_true, Bool.and_eq_true] at h
      exact callG_ok g tk h.1 h.2.2.1 (eEs es g tk h.2.2.2)
    · cases h
  | .callK f es pm, sc, X, Z, x, g, tk, h => by
    refine ⟨?_, fun c es e => by cases e⟩
    unfold chkE at h
    split at h
    · rw [Bool.and_eq_true, Bool.and_eq_true, Bool.and_eq_true, Bool.and_eq_true, Bool.and_eq_true] at h
      obtain ⟨h1, h2, h3, h4, h5, h6⟩ := h
      exact callK_ok g tk h1 h2 h3 h4 h5 (eEs es g tk h6)
    · cases h
  | .mcall m es, sc, X, Z, x, g, tk, h => by
    refine ⟨?_, fun c es e => by cases e⟩
    unfold chkE at h
    split at h
    · rw [Bool.and_eq_true, Bool.and_eq_true, Bool.and_eq_true, Bool.and_eq_true, decide_eq_true_eq, decide_eq_true_eq] at h
      obtain ⟨h1, h2, h3, h4, h5⟩ := h
      exact mcall_ok g tk h1 h2 h3 h4 (eEs es g tk h5)
    · cases h
  | .mcallK m es pm, sc, X, Z, x, g, tk, h => by
    refine ⟨?_, fun c es e => by cases e⟩
    unfold chkE at h
    split at h
    · rw [Bool.and_eq_true, Bool.and_eq_true, Bool.and_eq_true, Bool.and_eq_true, Bool.and_eq_true, Bool.and_eq_true, Bool.and_eq_true, decide_eq_true_eq, decide_eq_true_eq] at h
      obtain ⟨h1, h2, h3, h4, h5, h6, h7, h8⟩ := h
      exact mcallK_ok g tk h1 h2 h3 h4 h5 h6 h7 (eEs es g tk h8)
    · cases h
  | .comp elt tg it its ifs, sc, X, Z, x, g, tk, h => by
    refine ⟨?_, fun c es e => by cases e⟩
    unfold chkE at h
    split at h
    · rw [Bool.and_eq_true, Bool.and_eq_true, Bool.and_eq_true, Bool.and_eq_true, Bool.and_eq_true, Bool.and_eq_true, Bool.and_eq_true, decide_eq_true_eq] at h
      obtain ⟨rfl, h2, h3, h4, h5, h6, h7, h8⟩ := h
      split at h6
      · rename_i ys e
        exact comp_ok g h2 h3 (kind_of h4) h5 e (eEs its g tk h6) (fun Y gy => eTs ifs gy h7) (fun Y gy => (eE elt gy tk0 h8).1)
      · cases h6
    · cases h
  | .new a, sc, X, Z, x, g, tk, h => by
    refine ⟨?_, fun c es e => by cases e⟩
    unfold chkE at h
    exact pe_newO (eE a g tk h).1
  | .der _, sc, X, Z, x, g, tk, h => by
    unfold chkE at h; cases h
theorem eEs : ∀ (es : List EV.E) {sc : Scope} {X : Cx} {Z : WX} {xs : List Expr}, GoodC V1 G N sc X → L2.Takes X Z → chkEs G N sc es xs = true → PEs V1 Z X es xs
  | [], sc, X, Z, xs, g, tk, h => by
    unfold chkEs at h
    cases xs with
    | nil => rfl
    | cons x xs => cases h
  | e :: es, sc, X, Z, xs, g, tk, h => by
    unfold chkEs at h
    split at h
    · rename_i x xs
      rw [Bool.and_eq_true, Bool.and_eq_true] at h
      exact ⟨x, xs, rfl, h.1, (eE e g tk h.2.1).1, eEs es g tk h.2.2⟩
    · cases h
theorem eT : ∀ (t : T) {sc : Scope} {X : Cx} {Z : WX} {x : Expr}, GoodC V1 G N sc X → L2.Takes X Z → chkT G N sc t x = true → PT X x (tT V1 X.prog X.w X.K Z t)
  | .val e, sc, X, Z, x, g, tk, h => by
    unfold chkT at h; rw [Bool.and_eq_true, Bool.or_eq_true] at h
    obtain ⟨h1, h2⟩ := h
    obtain ⟨q1, q2⟩ := eE e g tk h1
    rcases h2 with z | z
    · exact pt_valE q1 z
    · split at z
      · exact q2 _ _ rfl
      · cases z
  | .and ts, sc, X, Z, x, g, tk, h => by
    unfold chkT at h
    split at h
    · rw [Bool.and_eq_true] at h
      exact pt_andE (eTl ts g tk h.2) (not_nil h.1)
    · cases h
  | .or ts, sc, X, Z, x, g, tk, h => by
    unfold chkT at h
    split at h
    · rw [Bool.and_eq_true] at h
      exact pt_orE (eTl ts g tk h.2) (not_nil h.1)
    · cases h
  | .not t, sc, X, Z, x, g, tk, h => by
    unfold chkT at h
    split at h
    · exact pt_notE (eT t g tk h)
    · cases h
theorem eTl : ∀ (ts : List T) {sc : Scope} {X : Cx} {Z : WX} {xs : List Expr}, GoodC V1 G N sc X → L2.Takes X Z → chkTl G N sc ts xs = true → PTl V1 Z X ts xs
  | [], sc, X, Z, xs, g, tk, h => by
    unfold chkTl at h
    cases xs with
    | nil => rfl
    | cons x xs => cases h
  | t :: ts, sc, X, Z, xs, g, tk, h => by
    unfold chkTl at h
    split at h
    · rename_i x xs
      rw [Bool.and_eq_true] at h
      exact ⟨x, xs, rfl, eT t g tk h.1, eTl ts g tk h.2⟩
    · cases h
theorem eTs : ∀ (ts : List T) {sc : Scope} {X : Cx} {xs : List Expr}, GoodC V1 G N sc X → chkTs G N sc ts xs = true → PTs X xs (tR V1 X.prog X.w X.K zF (evTs V1.cl V1.txt V1.call ts))
  | [], sc, X, xs, g, h => by
    unfold chkTs at h
    cases xs with
    | nil => exact ptsE_nil
    | cons x xs => cases h
  | t :: ts, sc, X, xs, g, h => by
    unfold chkTs at h; rw [Bool.and_eq_true] at h
    obtain ⟨h1, h2⟩ := h
    cases ts with
    | nil =>
      split at h2
      · exact ptsE_one (eT t g tk0 h2)
      · cases h2
    | cons _ _ => cases h1
end
end
end EV

set_option Elab.async false
set_option linter.all false
set_option maxRecDepth 100000
set_option maxHeartbeats 2000000
/-! EV10a: try with several clauses, named or not. -/
namespace EV
open PySem PySem.Spec PyProof.Rows L2
/-- a clause: its class, the slot of its name, what its suite asks -/
structure Cz where
  c : Value
  n : Option Nat
  t : Addr → Value → Option Addr → TS
def endN (n : Option Nat) (D : Ends) : Ends := match n with
  | none => D
  | some i => { nx := fun σ H => D.nx (σ.set i none) H, rt := D.rt, bk := fun σ H => D.bk (σ.set i none) H, ct := fun σ H => D.ct (σ.set i none) H }
def slotN (n : Option Nat) (a : Addr) (σ : L2.St) : L2.St := match n with
  | none => σ
  | some i => σ.set i (some (.ref a))
/-- what is wished of the body's exception, clause by clause -/
def wMix (K : PySem.W.Frag) (Wo : WX) (D : Ends) : List Cz → WX
  | [] => Wo
  | z :: r => fun cls d σ H => ∃ b, PySem.W.exmOne K cls z.c = some b ∧ (b = true → ∀ a, H a = none → z.t a cls d (endN z.n D) (slotN z.n a σ) H) ∧ (b = false → wMix K Wo D r cls d σ H)
inductive MixOk (X : Cx) : List ExceptHandler → List Cz → Prop
  | nil : MixOk X [] []
  | cons {x : Str} {n : Option Str} {i : Option Nat} {c : Value} {ts : Addr → Value → Option Addr → TS} {b1 : Stmt} {bs : List Stmt} {np hp : Pos} {hds : List ExceptHandler} {l : List Cz} (hc : Names X x c)
      (hn : match n, i with
        | none, none => True
        | some y, some i => X.N[i]? = some y ∧ X.env.kindOf y = some .local
        | _, _ => False)
      (hs : ∀ (a : Addr) (oe : Obj) (cls : Value) (d : Option Addr) (pn : List (Addr × Obj)), Zc cls d oe → (∃ vs, oe.data = .fields vs) → PSs (X.suite a ((a, oe) :: pn)) (b1 :: bs) (ts a cls d)) (r : MixOk X hds l) :
      MixOk X (.ExceptHandler (some (.Name x np)) n (b1 :: bs) hp :: hds) (⟨c, i, ts⟩ :: l)
section
variable {X : Cx} {body : List Stmt} {h1 : ExceptHandler} {hds : List ExceptHandler} {l : List Cz} {pos : Pos} {tb : WX → TS} {Wo : WX}
theorem ps_tryMix (e1 : X.stack = X.env :: X.outer) (e2 : X.env.frame = some X.env.locals) (hN : X.N.Nodup) (tk : L2.Takes X Wo)
    (hb : ∀ (W : WX) (pn : List (Addr × Obj)) (xe : Value → Shared → Prop), L2.Takes (X.tr pn xe) W → PassesOwn (model X.prog X.w) X.A X.env xe → PSs (X.tr pn xe) body (tb W))
    (hh : MixOk X (h1 :: hds) l) : PS X (.Try body (h1 :: hds) [] [] pos) (fun D σ H => tb (wMix X.K Wo D l) D σ H) := by
  refine ⟨fun pins sh σ H D I hq => ?_⟩
  have ok := I.ok
  have frs' : X.A.frames = some (X.env :: X.outer) := by rw [ok.frames, e1]
  refine wpAny_Try_except ?_
  refine wpAny_mono ((hb (wMix X.K Wo D l) (X.pn ++ pins) (fun ev sa => wpAny (model X.prog X.w) X.A (noteFrame ev X.env) (fun _ sb => wpAny (model X.prog X.w) X.A (setFlight ev none) (fun _ sc =>
    wpAny (model X.prog X.w) X.A (handleBy ev X.env (h1 :: hds)) (SP X pins D) X.xe sc) X.xe sb) X.xe sa) (fun u sE xx => ?_) PassesOwn.looking).run [] sh σ H D (I.toTry _) hq) (fun f sF hsp => ?_) (fun _ _ he => he)
  · obtain ⟨a, B, sI, pinsE, σE, HE, cls, d, rfl, JE, nb, up, skyE, na, os, ag, wE⟩ := xx
    have J : Inv X pins σE HE sI := JE.ofTry ok
    have skyX : Sky B (X.env :: X.outer) a (Zc cls d) X.env.locals sE.heap := by rw [← e1]; exact skyE
    show wpAny (model X.prog X.w) X.A (noteFrame (.ref a) X.env) _ _ _
    refine Sky.land Zc.steady frs' e2 skyX fun hp3 fly up3 => ?_
    have J3 : Inv X pins σE HE { sE with heap := hp3 } := J.landed nb fly.1 (up.trans up3) os ag
    obtain ⟨oe3, vs3, he3, hz3, hd3⟩ := fly.there
    have offFr : a ∉ L2.frs (X.env :: X.outer) := fun hm => by
      obtain ⟨_, oX, eX, hnf⟩ := fly.2.2.1.mem hm
      rw [he3] at eX; cases eX
      exact hnf _ hd3
    have offL : a ≠ X.env.locals := fun z => offFr (List.mem_filterMap.mpr ⟨X.env, List.mem_cons_self, by rw [e2, z]⟩)
    have offF : a ∉ X.fs := fun hm => by
      obtain ⟨en, hen, q⟩ := List.mem_filterMap.mp hm
      exact offFr (List.mem_filterMap.mpr ⟨en, List.mem_cons_of_mem _ hen, q⟩)
    have S3 := J3.suite he3 hd3 na offL offF
    have go : ∀ {hs2 : List ExceptHandler} {l2 : List Cz}, MixOk X hs2 l2 → wMix X.K Wo D l2 cls d σE HE →
        wpAny (model X.prog X.w) X.A (handleBy (.ref a) X.env hs2) (SP X pins D) X.xe { sE with heap := hp3 } := by
      intro hs2 l2 hk
      induction hk with
      | nil =>
        intro wl
        refine wpAny_handleBy_nil ?_
        obtain ⟨_, _, _, oq, vq, Tq, oT, tsq, heq, hzq, hdq, hTq, hrq⟩ := id fly
        unfold PySem.passOn
        refine wpAny_bind (wpAny_field heq hdq hTq ?_)
        rw [if_neg (show ¬ ((Value.ref Tq == Value.none) = true) by simp)]
        have fin : wpAny (model X.prog X.w) X.A (setFlight (.ref a) X.env.frame) (fun _ s4 => wpAny (model X.prog X.w) X.A (throw (.ref a) : Sem Flow) (SP X pins D) X.xe s4) X.xe { sE with heap := hp3 } := by
          rw [e2]
          refine HandSPX.setFlight_upZ fly fun h4 hh4 up4 => wpAny_throw (tk _ _ ?_)
          exact ⟨a, B, sI, pins, σE, HE, cls, d, rfl, J, nb, (up.trans up3).trans up4, .inr (.inr (by rw [e1]; exact hh4)), na, os, ag, wl⟩
        first
          | exact wpAny_bind (wpAny_pure (wpAny_bind fin))
          | exact wpAny_bind fin
      | @cons x n i c ts b1 bs np hp hds2 l3 hc hn hs r ih =>
        intro wl
        obtain ⟨b, hb1, hyes, hno⟩ := wl
        refine wpAny_handleBy_cons (codeAny_handlers_test ?_) (by intro q; cases q)
        have LT : PySem.W.Looks (model X.prog X.w) hp3 (typeOf (.ref a)) cls := fun _ _ _ _ k q => wpAny_typeOf_ref (k _ _ he3) (by rw [hz3.1]; exact q)
        have LM := PySem.W.exm_one (M := model X.prog X.w) (J3.kIn) LT hb1
        have look : ∀ {Q : Value → Shared → Prop} {E : Value → Shared → Prop}, Q c { sE with heap := hp3 } → wpAny (model X.prog X.w) (X.A.mark (some (.ref a))) (eval (.Name x np) X.env) Q E { sE with heap := hp3 } := fun {Q E} q => by
          obtain ⟨hg, hdbg, hm | ⟨hm, hv, hnn⟩⟩ := hc
          · exact ld_glob (X := X.suite a ((a, oe3) :: (X.pn ++ pins))) S3 hg hm q hdbg
          · exact ld_blt (X := X.suite a ((a, oe3) :: (X.pn ++ pins))) S3 hg hm hv q hnn hdbg
        refine look (LM.here ?_)
        cases b with
        | false =>
          show wpAny _ X.A (handleBy (.ref a) X.env hds2) _ _ _
          exact ih (hno rfl)
        | true =>
          match n, i, hn with
          | none, none, _ =>
            refine codeAny_handlers_suite ?_
            refine HandSPX.lands_againZ fly fun h4 fl4 up4 => ?_
            have J4 : Inv X pins σE HE { sE with heap := h4 } := J.landed nb fl4.1 ((up.trans up3).trans up4) os ag
            obtain ⟨oe4, vs4, he4, hz4, hd4⟩ := fl4.there
            have S4 := J4.suite he4 hd4 na offL offF
            refine wpAny_mono ((hs a oe4 cls d (X.pn ++ pins) hz4 ⟨_, hd4⟩).run [] _ _ HE _ S4 (hyes rfl a na)) (fun f s6 hsp => ?_) (fun _ _ z => False.elim z)
            cases f with
            | ret u =>
              obtain ⟨v6, σ6, H6, S6, r6, q6⟩ := hsp
              exact ⟨_, _, _, S6.unsuite ok, r6, q6⟩
            | next => obtain ⟨σ6, H6, S6, q6⟩ := hsp; exact ⟨_, _, S6.unsuite ok, q6⟩
            | brk => obtain ⟨σ6, H6, S6, q6⟩ := hsp; exact ⟨_, _, S6.unsuite ok, q6⟩
            | cont => obtain ⟨σ6, H6, S6, q6⟩ := hsp; exact ⟨_, _, S6.unsuite ok, q6⟩
          | some y, some i, hn =>
            obtain ⟨hi, hln⟩ := hn
            refine codeAny_handlers_suite_as ?_
            refine HandSPX.lands_againZ fly fun h4 fl4 up4 => ?_
            have J4 : Inv X pins σE HE { sE with heap := h4 } := J.landed nb fl4.1 ((up.trans up3).trans up4) os ag
            obtain ⟨oe4, vs4, he4, hz4, hd4⟩ := fl4.there
            have S4 := J4.suite he4 hd4 na offL offF
            refine store_ok (X := X.suite a ((a, oe4) :: (X.pn ++ pins))) (v := .ref a) S4 hN hi (.inl hln) rfl (fun s5 S5 => ?_) (.inr hln)
            refine wpAny_mono ((hs a oe4 cls d (X.pn ++ pins) hz4 ⟨_, hd4⟩).run [] s5 _ HE _ S5 (hyes rfl a na)) (fun f s6 hsp => ?_) (fun _ _ z => False.elim z)
            have gone : ∀ {σ6 : L2.St} {H6 : Hp} {Q : Shared → Prop}, Inv (X.suite a ((a, oe4) :: (X.pn ++ pins))) [] σ6 H6 s6 → (∀ s7, Inv X pins (σ6.set i none) H6 s7 → Q s7) →
                wpAny (model X.prog X.w) X.A (do bindName X.env y .none; unbindBehindTheSuite X.env y hp) (fun _ s7 => Q s7) X.xe s6 := fun S6 hq => gone_ok (S6.unsuite ok) hN hi hln hq
            cases f with
            | ret u =>
              obtain ⟨v6, σ6, H6, S6, r6, q6⟩ := hsp
              exact gone S6 fun s7 J7 => ⟨_, _, _, J7, r6, q6⟩
            | next => obtain ⟨σ6, H6, S6, q6⟩ := hsp; exact gone S6 fun s7 J7 => ⟨_, _, J7, q6⟩
            | brk => obtain ⟨σ6, H6, S6, q6⟩ := hsp; exact gone S6 fun s7 J7 => ⟨_, _, J7, q6⟩
            | cont => obtain ⟨σ6, H6, S6, q6⟩ := hsp; exact gone S6 fun s7 J7 => ⟨_, _, J7, q6⟩
    exact go hh wE
  · cases f with
    | next => obtain ⟨σ1, H1, J1, q⟩ := hsp; exact wpAny_execs_nil ⟨σ1, H1, J1.ofTry ok, q⟩
    | brk => obtain ⟨σ1, H1, J1, q⟩ := hsp; exact ⟨σ1, H1, J1.ofTry ok, q⟩
    | cont => obtain ⟨σ1, H1, J1, q⟩ := hsp; exact ⟨σ1, H1, J1.ofTry ok, q⟩
    | ret u => obtain ⟨v, σ1, H1, J1, r, q⟩ := hsp; exact ⟨v, σ1, H1, J1.ofTry ok, r, q⟩
end
end EV

set_option Elab.async false
set_option linter.all false
set_option maxRecDepth 100000
set_option maxHeartbeats 2000000
/-! EV10b: try in the small syntax. -/
namespace EV
open PySem PySem.Spec PyProof.Rows L2
def litV : PV → V
  | .non => .non
  | .bl b => .bl b
  | .int i => .int i
  | .str s => .str s
  | _ => .non
theorem pe_litV {Y : Cx} {v : PV} {c : Const} {j : Nat} {pos : Pos} (h : constV v c = true) : PE Y (.Constant c j pos) (tC (litV v)) := by
  cases v with
  | non =>
    cases c <;> first
      | exact pe_non
      | cases h
  | bl b =>
    cases c <;> first
      | (rename_i d
         have e : b = d := by simpa [constV] using h
         subst e
         exact pe_bl)
      | cases h
  | int i =>
    cases c <;> first
      | (rename_i d
         have e : i = d := by simpa [constV] using h
         subst e
         exact pe_int)
      | cases h
  | str s =>
    cases c <;> first
      | (rename_i d
         have e : s = d := by simpa [constV] using h
         subst e
         exact pe_str)
      | cases h
  | _ => cases h
theorem rep_litV {P : Program} {w : World} {K : PySem.W.Frag} {nm : Nm} {W : Wd} {H : Hp} {v : PV} {c : Const} (h : constV v c = true) : Rep P w K nm W H v (litV v) := by
  cases v <;> first
    | rfl
    | cases h
/-! ### the items of a suite -/
def hiB (G : Gt) (y : Option Str) : HI → Expr → Bool
  | .lit v, x => (match x with
    | .Constant c _ _ => constV v c
    | _ => false)
  | .fld f, x => (match x with
    | .Attribute (.Name n _) z _ => decide (y = some n) && (decide (G.fld f = z) && G.xfs.contains f)
    | _ => false)
def hisB (G : Gt) (y : Option Str) : List HI → List Expr → Bool
  | [], [] => true
  | i :: is, x :: xs => noStar x && (hiB G y i x && hisB G y is xs)
  | _, _ => false
def tHI (nm : Nm) (a : Addr) (cls : Value) (d : Option Addr) (C : Addr) (k : Nat) : HI → TE
  | .lit v => tC (litV v)
  | .fld f => tXf a cls d C (nm.fld f) (tVar k)
def tHis (nm : Nm) (a : Addr) (cls : Value) (d : Option Addr) (C : Addr) (k : Nat) : List HI → TA
  | [] => tNil
  | i :: is => tCons (tHI nm a cls d C k i) (tHis nm a cls d C k is)
section
variable {X : Cx} {nm : Nm} {G : Gt} {a C : Addr} {oe : Obj} {cls : Value} {d : Option Addr} {pn : List (Addr × Obj)} {y : Option Str} {k : Nat}
theorem pe_hi (T : XfC X.K C) (hz : Zc cls d oe) (hf : ∃ vs, oe.data = .fields vs) (hy : ∀ n, y = some n → X.N[k]? = some n ∧ Vis X.env.scope n ∧ (n == ("__debug__" : Str)) = false ∧ (n == ("__classdict__" : Str)) = false)
    (hg : ∀ f ∈ G.xfs, nm.fld f = G.fld f ∧ PySem.W.findIn X.K (.ref C) (nm.fld f) = some none) {i : HI} {x : Expr} (h : hiB G y i x = true) : PE (X.suite a ((a, oe) :: pn)) x (tHI nm a cls d C k i) := by
  cases i with
  | lit v =>
    simp only [hiB] at h
    split at h
    · exact pe_litV h
    · cases h
  | fld f =>
    simp only [hiB] at h
    split at h
    · rw [Bool.and_eq_true, Bool.and_eq_true, decide_eq_true_eq, decide_eq_true_eq] at h
      obtain ⟨h1, h2, h3⟩ := h
      obtain ⟨q1, q2, q3, q4⟩ := hy _ h1
      obtain ⟨r1, r2⟩ := hg f (by simpa using h3)
      rw [← h2, ← r1]
      exact pe_xf T r2 hz hf (pe_var (X := X.suite a ((a, oe) :: pn)) q1 q2 q3 q4)
    · cases h
theorem pa_his (T : XfC X.K C) (hz : Zc cls d oe) (hf : ∃ vs, oe.data = .fields vs) (hy : ∀ n, y = some n → X.N[k]? = some n ∧ Vis X.env.scope n ∧ (n == ("__debug__" : Str)) = false ∧ (n == ("__classdict__" : Str)) = false)
    (hg : ∀ f ∈ G.xfs, nm.fld f = G.fld f ∧ PySem.W.findIn X.K (.ref C) (nm.fld f) = some none) : ∀ {is : List HI} {xs : List Expr}, hisB G y is xs = true → PA (X.suite a ((a, oe) :: pn)) xs (tHis nm a cls d C k is)
  | [], [], _ => pa_nil
  | [], _ :: _, h => by cases h
  | _ :: _, [], h => by cases h
  | i :: is, x :: xs, h => by
    rw [hisB, Bool.and_eq_true, Bool.and_eq_true] at h
    exact pa_cons (pe_hi T hz hf hy hg h.2.1) (pa_his T hz hf hy hg h.2.2) (starEach_cons h.1)
end
/-! ### what they come to -/
theorem look_mem {k : Str} {u : V} : ∀ {l : List (Str × V)}, (l.map (·.1)).Nodup → (k, u) ∈ l → l.lookup k = some u
  | [], _, h => (List.not_mem_nil h).elim
  | (n, v) :: l, hn, h => by
    rw [List.map_cons, List.nodup_cons] at hn
    rcases List.mem_cons.mp h with z | z
    · cases z
      simp [List.lookup]
    · have ne : (k == n) = false := by
        cases e : (k == n) with
        | false => rfl
        | true =>
          have e' : k = n := by simpa using e
          exact absurd (List.mem_map.mpr ⟨(k, u), z, e'⟩) hn.1
      rw [List.lookup, ne]
      exact look_mem hn.2 z
section
variable {P : Program} {w : World} {K : PySem.W.Frag} {nm : Nm} {W : Wd} {H : Hp} {σ : L2.St}
theorem assoc_at {f : Nat} {x : PV} : ∀ {ns : List Nat} {vs : List PV} {fs : List (Str × V)}, fs.map (·.1) = ns.map nm.fld → Reps P w K nm W H vs (fs.map (·.2)) → assocN f ns vs = some x → ∃ u, (nm.fld f, u) ∈ fs ∧ Rep P w K nm W H x u
  | [], vs, fs, e, r, h => by cases vs <;> cases h
  | n :: ns, [], fs, e, r, h => by cases h
  | n :: ns, v :: vs, fs, e, r, h => by
    cases fs with
    | nil => cases e
    | cons p fs =>
      rw [List.map_cons, List.map_cons, List.cons.injEq] at e
      obtain ⟨e1, e2⟩ := e
      obtain ⟨u, r', e3, r1, r2⟩ := r
      rw [List.map_cons, List.cons.injEq] at e3
      obtain ⟨e3, e4⟩ := e3
      subst e3 e4
      rw [assocN] at h
      split at h
      · rename_i q
        cases h
        refine ⟨p.2, ?_, r1⟩
        rw [← q, ← e1]
        exact List.mem_cons_self
      · obtain ⟨u, h1, h2⟩ := assoc_at e2 r2 h
        exact ⟨u, List.mem_cons_of_mem _ h1, h2⟩
theorem assoc_ne {α : Type} {f : Nat} {vs : List α} : ∀ {ns : List Nat}, assocN f ns vs ≠ none → vs ≠ [] := fun {ns} h e => by
  subst e
  cases ns <;> exact h rfl
/-- the items' values -/
theorem his_vals {a : Addr} {cls : Value} {d : Option Addr} {C : Addr} {k c : Nat} {ns : List Nat} {vs : List PV} {y : Option Str} {G : Gt} (hc : y.isSome = true → cls = .ref C) (hs : y.isSome = true → σ[k]? = some (some (.ref a))) (hx : ExcR P w K nm W H c ns vs cls d) : ∀ {is : List HI} {xs : List Expr} {ys : List PV} {Q : List V → Hp → Prop},
    hisB G y is xs = true → hisV ns vs is = some ys → (∀ us, us.length = is.length → Reps P w K nm W H ys us → Q us H) → tHis nm a cls d C k is σ H Q
  | [], xs, ys, Q, _, h, q => by
    cases h
    exact q [] rfl rfl
  | i :: is, [], ys, Q, hb, h, q => by cases hb
  | i :: is, x :: xs, ys, Q, hb, h, q => by
    rw [hisB, Bool.and_eq_true, Bool.and_eq_true] at hb
    obtain ⟨_, hb1, hb2⟩ := hb
    rw [hisV] at h
    split at h
    · rename_i v r e1 e2
      cases h
      have rest : ∀ u, Rep P w K nm W H v u → tHis nm a cls d C k is σ H fun us H2 => Q (u :: us) H2 := fun u hu =>
        his_vals hc hs hx hb2 e2 fun us hl hr => q (u :: us) (by rw [List.length_cons, List.length_cons, hl]) ⟨u, us, rfl, hu, hr⟩
      cases i with
      | lit v' =>
        cases e1
        simp only [hiB] at hb1
        split at hb1
        · exact rest _ (rep_litV hb1)
        · cases hb1
      | fld f =>
        simp only [hiB] at hb1
        split at hb1
        · rw [Bool.and_eq_true, decide_eq_true_eq] at hb1
          obtain ⟨h1, h0, h2⟩ := hx
          rcases h2 with e | ⟨dd, fs, z1, z2, z3, z4⟩
          · exact absurd e (assoc_ne (f := f) (by rw [show assocN f ns vs = some v from e1]; simp))
          · obtain ⟨u, m1, m2⟩ := assoc_at z3 z4 e1
            refine ⟨.ref a, hs (by rw [hb1.1]; rfl), rfl, hc (by rw [hb1.1]; rfl), dd, fs.reverse, u, z1, z2, look_mem ?_ (List.mem_reverse.mpr m1), rest u m2⟩
            have e : fs.reverse.map (·.1) = (ns.map nm.fld).reverse := by rw [List.map_reverse, z3]
            rw [e]
            exact (List.reverse_perm _).symm.nodup h0.2
        · cases hb1
    · cases h
end
/-! ### a suite: dst = items -/
def heB (G : Gt) (y : Option Str) : HE → Expr → Bool
  | .lst is, x => (match x with
    | .List xs _ => decide (is.length ≤ 1000) && hisB G y is xs
    | _ => false)
  | .tup is, x => (match x with
    | .Tuple xs _ _ => decide (is.length ≤ 1000) && hisB G y is xs
    | _ => false)
  | .lit v, x => (match x with
    | .Constant c _ _ => constV v c
    | _ => false)
  | .err, _ => false
def tHe (nm : Nm) (a : Addr) (cls : Value) (d : Option Addr) (C : Addr) (k : Nat) : HE → TE
  | .lst is => tLst (tHis nm a cls d C k is)
  | .tup is => tTup (tHis nm a cls d C k is)
  | .lit v => tC (litV v)
  | .err => fun _ _ _ => False
/-- except c as n: dst = e -/
def hdB (G : Gt) (N : List Str) (fnB : Str → Bool) (sc : Scope) (fx : Bool) (h : Hd) : ExceptHandler → Bool
  | .ExceptHandler (some (.Name cn _)) n [.Assign [.Name y _] e _] _ => G.xs.contains h.c && (decide (G.exn h.c = cn) && (glB sc cn && ((match n, h.nm with
      | none, none => true
      | some n, some i => decide (N[i]? = some n) && (decide (sc.names.lookup n = some .local) && (!dbg n && (i != h.dst && (h.c != 0 && (!fx || i != 0)))))
      | _, _ => false) && (decide (N[h.dst]? = some y) && (locB fnB sc y && ((!fx || h.dst != 0) && heB G n h.e e))))))
  | _ => false
def hdsB (G : Gt) (N : List Str) (fnB : Str → Bool) (sc : Scope) (fx : Bool) : List Hd → List ExceptHandler → Bool
  | [], [] => true
  | h :: hs, x :: xs => hdB G N fnB sc fx h x && hdsB G N fnB sc fx hs xs
  | _, _ => false
def czOf (K : PySem.W.Frag) (nm : Nm) (h : Hd) : Cz := ⟨.ref (xa K nm h.c), h.nm, fun a cls d => tAsg (tHe nm a cls d (xa K nm h.c) (h.nm.getD 0) h.e) (gName h.dst)⟩
section
variable {V1 : Env1} {G : Gt} {N : List Str} {sc : Scope} {X : Cx} {E : XK} {fnB : Str → Bool} {fx : Bool} {T : Ety}
theorem sw_he {G : Gt} {y : Option Str} {e : HE} {x : Expr} {n : Str} {p : Pos} {l : Nat} {env : PySem.Env} (h : heB G y e x = true) : swapsWith x (some (.Name n p)) l env = pure false := by
  cases e <;> cases x <;> first
    | rfl
    | cases h
theorem pe_he (g : GoodC V1 G N sc X) {a C : Addr} {oe : Obj} {cls : Value} {d : Option Addr} {pn : List (Addr × Obj)} {y : Option Str} {k : Nat} (T : XfC X.K C) (hz : Zc cls d oe) (hf : ∃ vs, oe.data = .fields vs) (hy : ∀ n, y = some n → X.N[k]? = some n ∧ Vis X.env.scope n ∧ (n == ("__debug__" : Str)) = false ∧ (n == ("__classdict__" : Str)) = false)
    (hg : ∀ f ∈ G.xfs, V1.nm.fld f = G.fld f ∧ PySem.W.findIn X.K (.ref C) (V1.nm.fld f) = some none) {e : HE} {x : Expr} (h : heB G y e x = true) : PE (X.suite a ((a, oe) :: pn)) x (tHe V1.nm a cls d C k e) := by
  cases e with
  | lst is =>
    simp only [heB] at h
    split at h
    · rw [Bool.and_eq_true] at h
      exact pe_lst (pa_his T hz hf hy hg h.2)
    · cases h
  | tup is =>
    simp only [heB] at h
    split at h
    · rw [Bool.and_eq_true] at h
      exact pe_tup (pa_his T hz hf hy hg h.2)
    · cases h
  | lit v =>
    simp only [heB] at h
    split at h
    · exact pe_litV h
    · cases h
  | err => cases h
theorem hds_ok (g : GoodC V1 G N sc X) (hf : ∀ y, fnB y = true → X.fn y = true) : ∀ {hs : List Hd} {xs : List ExceptHandler}, hdsB G N fnB sc fx hs xs = true → MixOk X xs (hs.map (czOf X.K V1.nm))
  | [], [], _ => .nil
  | [], _ :: _, h => by cases h
  | _ :: _, [], h => by cases h
  | h :: hs, x :: xs, hb => by
    rw [hdsB, Bool.and_eq_true] at hb
    obtain ⟨hb, hr⟩ := hb
    have rest := hds_ok g hf hr
    unfold hdB at hb
    split at hb
    · rename_i cn np n y py e pe hp
      rw [Bool.and_eq_true, Bool.and_eq_true, Bool.and_eq_true, Bool.and_eq_true, Bool.and_eq_true, Bool.and_eq_true, Bool.and_eq_true, decide_eq_true_eq, decide_eq_true_eq] at hb
      obtain ⟨h1, h2, h3, h4, h5, h6, h7, h8⟩ := hb
      obtain ⟨gl, hd⟩ := g.gl h3
      have t := g.top
      obtain ⟨i1, i2⟩ := t.exn h.c (by simpa using h1)
      obtain ⟨x1, x2, x3, x4⟩ := t.xn h.c i1
      have hN : X.N.Nodup := by rw [g.nN]; exact g.nd
      have hl : Loc X.env.scope y ∧ (X.fn y = true ∨ X.env.scope.names.lookup y = some .local) := by
        rw [g.hsc]
        unfold locB at h6
        split at h6
        · exact ⟨.inl (by assumption), .inr (by assumption)⟩
        · exact ⟨.inr (by assumption), .inl (hf y h6)⟩
        · cases h6
      have hg : ∀ f ∈ G.xfs, V1.nm.fld f = G.fld f ∧ PySem.W.findIn X.K (.ref (xa X.K V1.nm h.c)) (V1.nm.fld f) = some none := fun f hf => ⟨t.fld f, x3 f hf⟩
      have hnm : ∀ m, n = some m → X.N[h.nm.getD 0]? = some m ∧ X.env.scope.names.lookup m = some .local ∧ (m == ("__debug__" : Str)) = false ∧ (m == ("__classdict__" : Str)) = false := by
        intro m e
        subst e
        split at h4
        · rename_i e1 _; cases e1
        · rename_i n' i e1 e2
          cases e1
          rw [Bool.and_eq_true, Bool.and_eq_true, Bool.and_eq_true, decide_eq_true_eq, decide_eq_true_eq, Bool.not_eq_true'] at h4
          obtain ⟨k1, k2, k3, k4⟩ := h4
          rw [e2, g.nN, g.hsc]
          exact ⟨k1, k2, (dbg_no k3).1, (dbg_no k3).2⟩
        · cases h4
      refine .cons ⟨gl, hd, .inl ?_⟩ ?_ (fun a oe cls d pn hz hv => pss_one (ps_set (X := X.suite a ((a, oe) :: pn)) hN ?_ hl.1 (pe_he g x2 hz hv (fun m e => ?_) hg h8) (sw_he h8) hl.2)) rest
      · rw [← h2, ← i2]; exact x1
      · split at h4
        · rename_i e1 e2
          try rw [e2]
          trivial
        · rename_i n' i e2
          obtain ⟨q1, q2, _⟩ := hnm _ rfl
          first
            | rw [e2] at q1 ⊢
            | rw [e2] at q1
          exact ⟨q1, q2⟩
        · cases h4
      · rw [g.nN]; exact h5
      · obtain ⟨q1, q2, q3⟩ := hnm m e
        exact ⟨q1, .inl q2, q3⟩
    · cases hb
end
end EV

set_option Elab.async false
set_option linter.all false
set_option maxRecDepth 100000
set_option maxHeartbeats 2000000
/-! EV10c: the try statement. -/
namespace EV
open PySem PySem.Spec PyProof.Rows L2
def plainX : Expr → Bool
  | .ListComp .. => false
  | .SetComp .. => false
  | .DictComp .. => false
  | _ => true
def tbB (G : Gt) (N : List Str) (fnB : Str → Bool) (sc : Scope) (fx : Bool) : TB → List Stmt → Bool
  | .ex e, xs => (match xs with
    | [.Expr xe _] => plainX xe && chkE G N sc e xe
    | _ => false)
  | .set i _ e, xs => (!fx || i != 0) && (match xs with
    | [.Assign [.Name y _] xe _] => decide (N[i]? = some y) && (locB fnB sc y && (chkE G N sc e xe && plainX xe))
    | _ => false)
  | .ife t a b, xs => (match xs with
    | [.If xc [.Expr xa _] [.Expr xb _] _] => chkT G N sc t xc && ((plainX xa && chkE G N sc a xa) && (plainX xb && chkE G N sc b xb))
    | _ => false)
def tTB (V1 : Env1) (P : Program) (w : World) (K : PySem.W.Frag) (b : TB) (Z : WX) : TS := match b with
  | .ex e => tDrop (tE V1 P w K Z e)
  | .set i _ e => tAsg (tE V1 P w K Z e) (gName i)
  | .ife t a b => tIfS (tT V1 P w K Z t) (tDrop (tE V1 P w K Z a)) (tDrop (tE V1 P w K Z b))
section
variable {V1 : Env1} {G : Gt} {N : List Str} {sc : Scope} {X : Cx} {E : XK} {fnB : Str → Bool} {fx : Bool} {T : Ety}
theorem GoodC.tr (g : GoodC V1 G N sc X) (pn : List (Addr × Obj)) (xe : Value → Shared → Prop) : GoodC V1 G N sc (X.tr pn xe) := by
  have t := g.top
  exact ⟨⟨t.calm, t.gd, t.hu, t.fc, ⟨t.eqf.own, t.eqf.nfc, t.eqf.nft⟩, t.free, t.fn, t.cl, t.mt, t.ex, t.room, t.fld, t.fs, t.cln, t.tys, t.tx, t.sm, t.exn, t.xn⟩, g.nN, g.nd, g.hsc, g.kind⟩
theorem swx {y : Expr} {o : Option Expr} {l : Nat} {env : PySem.Env} (h : plainX y = true) : swapsWith y o l env = pure false := by
  cases y <;> first
    | rfl
    | cases h
theorem tb_ok (g : GoodC V1 G N sc X) (hf : ∀ y, fnB y = true → X.fn y = true) {b : TB} {xs : List Stmt} (h : tbB G N fnB sc fx b xs = true) {W : WX} (pn : List (Addr × Obj)) (xe : Value → Shared → Prop) (tk : L2.Takes (X.tr pn xe) W) : PSs (X.tr pn xe) xs (tTB V1 X.prog X.w X.K b W) := by
  have g' := g.tr pn xe
  cases b with
  | ex e =>
    simp only [tbB] at h
    split at h
    · rw [Bool.and_eq_true] at h
      exact pss_one (ps_expr (eE _ g' tk h.2).1 (swx h.1))
    · cases h
  | set i fz e =>
    simp only [tbB] at h
    rw [Bool.and_eq_true] at h
    obtain ⟨_, h⟩ := h
    split at h
    · rename_i y py xe' pos
      rw [Bool.and_eq_true, Bool.and_eq_true, Bool.and_eq_true, decide_eq_true_eq] at h
      obtain ⟨h1, h2, h4, h5⟩ := h
      have hl : Loc X.env.scope y ∧ (X.fn y = true ∨ X.env.scope.names.lookup y = some .local) := by
        rw [g.hsc]
        unfold locB at h2
        split at h2
        · exact ⟨.inl (by assumption), .inr (by assumption)⟩
        · exact ⟨.inr (by assumption), .inl (hf y h2)⟩
        · cases h2
      exact pss_one (ps_set (X := X.tr pn xe) (by rw [g'.nN]; exact g'.nd) (by rw [g'.nN]; exact h1) hl.1 (eE _ g' tk h4).1 (swx h5) hl.2)
    · cases h
  | ife t a b =>
    simp only [tbB] at h
    split at h
    · rw [Bool.and_eq_true, Bool.and_eq_true, Bool.and_eq_true, Bool.and_eq_true] at h
      obtain ⟨h1, ⟨h2, h3⟩, h4, h5⟩ := h
      exact pss_one (ps_if (eT _ g' tk h1) (pss_one (ps_expr (eE _ g' tk h3).1 (swx h2))) (pss_one (ps_expr (eE _ g' tk h5).1 (swx h4))))
    · cases h
variable {W W' : Wd} {H H' : Hp} {σ : L2.St} {env : EV.Env} {st st' : EV.St} {AS AS' AE : List Addr} {D : Ends}
theorem set_swap {α : Type} {l : List α} {i j : Nat} {x y z : α} (h : i ≠ j) : ((l.set i x).set j y).set i z = (l.set i z).set j y := by
  rw [List.set_comm _ _ h, List.set_set, List.set_comm _ _ h.symm]
theorem exc_mix (g : GoodC V1 G N sc X) (hT : T.fx ≠ none → fx = true) {c : Nat} {ns : List Nat} {vs : List PV} {cls : Value} {d : Option Addr} (C : CfgE V1 X.prog X.w X.K T W H σ env st AS AE) (gx : GotX X.prog X.w X.K V1.nm W H AS AE c ns vs st' W' H' AS' cls d) :
    ∀ {hs : List Hd} {xs : List ExceptHandler}, hdsB G N fnB sc fx hs xs = true → EndS V1 X.prog X.w X.K E T D (exhs hs c ns vs env st') → wMix X.K (wxE E) D (hs.map (czOf X.K V1.nm)) cls d σ H'
  | [], [], _, h => EndS.exc C h W' H' AS' cls d gx
  | [], _ :: _, hb, _ => by cases hb
  | _ :: _, [], hb, _ => by cases hb
  | h :: hs, x :: xs, hb, he => by
    rw [hdsB, Bool.and_eq_true] at hb
    obtain ⟨hb, hr⟩ := hb
    obtain ⟨e1, ⟨hc, hnd⟩, e3⟩ := id gx.exc
    unfold hdB at hb
    split at hb
    · rename_i cn np n y py e pe hp
      rw [Bool.and_eq_true, Bool.and_eq_true, Bool.and_eq_true, Bool.and_eq_true, Bool.and_eq_true, Bool.and_eq_true, Bool.and_eq_true, decide_eq_true_eq, decide_eq_true_eq] at hb
      obtain ⟨h1, h2, h3, h4, h5, h6, h7, h8⟩ := hb
      have t := g.top
      obtain ⟨i1, i2⟩ := t.exn h.c (by simpa using h1)
      obtain ⟨_, _, _, xm⟩ := t.xn c hc
      have hm := xm h.c i1
      rw [exhs] at he
      refine ⟨takes c h.c, by rw [e1]; exact hm, fun ht a ha => ?_, fun ht => ?_⟩
      · rw [ht] at he
        simp only at he
        have C1 : CfgE V1 X.prog X.w X.K T W' H' σ env st' AS' AE := C.after ⟨gx.ent, gx.str, gx.nd, gx.ff, gx.tr⟩
        have d0 : T.fx ≠ none → h.dst ≠ 0 := fun q => by
          rw [hT q] at h7
          simpa using h7
        split at he
        · exact he.elim
        rename_i hin
        rw [Bool.not_eq_true, Bool.not_eq_false'] at hin
        -- the clause's own name
        obtain ⟨σ1, env1, AE1, C2, eσ, he, hsl⟩ : ∃ σ1 env1 AE1, CfgE V1 X.prog X.w X.K T W' H' σ1 env1 st' AS' AE1 ∧ (∀ u H, (endN h.nm D).nx ((slotN h.nm a σ).set h.dst (some u)) H = D.nx (σ1.set h.dst (some u)) H) ∧ EndS V1 X.prog X.w X.K E T D (match heV c ns vs h.e with
            | some v => .ok (.next (env1.set h.dst (some (.sh v.freeze)))) st'
            | none => .bad) ∧ (n.isSome = true → (slotN h.nm a σ)[h.nm.getD 0]? = some (some (.ref a))) := by
          split at h4
          · rename_i q2
            rw [q2] at he
            refine ⟨σ, env, AE, C1, fun u H => ?_, he, fun z => (by cases z)⟩
            rw [q2]; rfl
          · rename_i n' i q2
            rw [Bool.and_eq_true, Bool.and_eq_true, Bool.and_eq_true, Bool.and_eq_true, Bool.and_eq_true, bne_iff_ne] at h4
            obtain ⟨k1, k2, k3, k4, _, k5⟩ := h4
            obtain ⟨AE1, C2⟩ := C1.set (i := i) (o := none) (y := none) (A2 := []) rfl List.nodup_nil (fun _ h => (List.not_mem_nil h).elim) fun q z => by
              rw [hT q, z] at k5
              cases k5
            rw [q2] at he
            refine ⟨_, _, AE1, C2, fun u H => ?_, he, fun z => ?_⟩
            · rw [q2]
              show D.nx (((σ.set i (some (.ref a))).set h.dst (some u)).set i none) H = _
              rw [set_swap k4]
            · rw [q2] at hin ⊢
              have hl : i < σ.length := by
                rw [← C1.cfg.env.length]
                simpa [nmIn] using hin
              show (σ.set i (some (.ref a)))[i]? = _
              rw [List.getElem?_set_self hl]
          · cases h4
        have ecl : n.isSome = true → cls = .ref (xa X.K V1.nm h.c) := fun z => by
          split at h4
          · cases z
          · rw [Bool.and_eq_true, Bool.and_eq_true, Bool.and_eq_true, Bool.and_eq_true, Bool.and_eq_true, bne_iff_ne, bne_iff_ne] at h4
            obtain ⟨k1, k2, k3, k4, k6, k5⟩ := h4
            unfold takes at ht
            rw [Bool.or_eq_true, beq_iff_eq, beq_iff_eq] at ht
            rw [e1, ht.resolve_left k6]; rfl
          · cases h4
        -- the value is stored
        have fin : ∀ {v : PV} {u : V} {W2 : Wd} {H2 : Hp}, CfgE V1 X.prog X.w X.K T W2 H2 σ1 env1 st' AS' AE1 → Rep X.prog X.w X.K V1.nm W2 H2 v u → EndS V1 X.prog X.w X.K E T D (.ok (.next (env1.set h.dst (some (.sh v)))) st') → (endN h.nm D).nx ((slotN h.nm a σ).set h.dst (some u)) H2 := fun C3 r q => by
          rw [eσ]
          obtain ⟨AE3, C4⟩ := C3.setSh (i := h.dst) r d0
          exact q _ _ _ _ _ C4
        have new : ∀ {p : Addr} {o : HO}, H' p = none → CfgE V1 X.prog X.w X.K T W' (upd H' p o) σ1 env1 st' AS' AE1 := fun hp => C2.grow (keep_upd hp)
        show tAsg (tHe V1.nm a cls d (xa X.K V1.nm h.c) (h.nm.getD 0) h.e) (gName h.dst) (endN h.nm D) (slotN h.nm a σ) H'
        cases hv : heV c ns vs h.e with
        | none => rw [hv] at he; exact he.elim
        | some ov =>
          rw [hv] at he
          simp only at he
          cases hh : h.e with
          | err => rw [hh] at h8; cases h8
          | lit v =>
            rw [hh] at hv h8
            cases hv
            simp only [heB] at h8
            split at h8
            · exact fin C2 (rep_litV h8) he
            · cases h8
          | lst is =>
            rw [hh] at hv h8
            simp only [heB] at h8
            split at h8
            · rename_i xs' px
              rw [Bool.and_eq_true, decide_eq_true_eq] at h8
              rw [heV] at hv
              cases hys : hisV ns vs is with
              | none => rw [hys] at hv; cases hv
              | some ys =>
                rw [hys] at hv
                cases hv
                refine his_vals ecl hsl gx.exc h8.2 hys fun us hl hr => ⟨?_, fun p hp => ?_⟩
                · rw [hl, sizeLine_eq]; omega
                · obtain hp' := hp
                  have C3 := new (o := .lst us) hp
                  have C4 := C3.fzN (A2 := [p]) fun b hb => by
                    rw [List.mem_singleton.mp hb]
                    refine ⟨fun z => ?_, fun z => ?_, ?_, by rw [upd_same]; simp⟩
                    · obtain ⟨o, q1, _⟩ := C2.cfg.str.there p z
                      rw [hp] at q1; cases q1
                    · obtain ⟨o, q1, _⟩ := C2.cfg.env.there p z
                      rw [hp] at q1; cases q1
                    · cases q : T.H0 p with
                      | none => rfl
                      | some o => exact absurd hp (C2.ent.live p (by rw [q]; simp))
                  refine fin C4 ?_ he
                  show Rep _ _ _ _ _ _ (.lst false ys) (.ref p)
                  exact ⟨p, us, rfl, .inr (by simp), upd_same, Reps.keep (W := W') (W' := W'.fz [p]) ⟨fun _ h => .inl h, fun _ h => h, fun _ _ h => h, fun b xs q => keep_upd hp b _ q, fun b o u q => keep_upd hp b _ q, fun b o _ q => keep_upd hp b _ q⟩ _ _ hr⟩
            · cases h8
          | tup is =>
            rw [hh] at hv h8
            simp only [heB] at h8
            split at h8
            · rename_i xs' k' px
              rw [Bool.and_eq_true, decide_eq_true_eq] at h8
              rw [heV] at hv
              cases hys : hisV ns vs is with
              | none => rw [hys] at hv; cases hv
              | some ys =>
                rw [hys] at hv
                cases hv
                refine his_vals ecl hsl gx.exc h8.2 hys fun us hl hr => ⟨?_, fun p hp => ?_⟩
                · rw [hl, sizeLine_eq]; omega
                · refine fin (new (o := .tup us) hp) ?_ he
                  show Rep _ _ _ _ _ _ (.tup ys) (.ref p)
                  exact ⟨p, us, rfl, upd_same, Reps.keep (kp_upd hp) _ _ hr⟩
            · cases h8
      · rw [ht] at he
        exact exc_mix g hT C gx hr he
    · cases hb
/-- try: a body, clauses -/
theorem ps_tryE (g : GoodC V1 G N sc X) (hf : ∀ y, fnB y = true → X.fn y = true) (tk : L2.Takes X (wxE E)) (e1 : X.stack = X.env :: X.outer) (e2 : X.env.frame = some X.env.locals) (hT : T.fx ≠ none → fx = true) {b : TB} {hs : List Hd} {xb : List Stmt} {xh : List ExceptHandler} {pos : Pos}
    (h1 : tbB G N fnB sc fx b xb = true) (h2 : hdsB G N fnB sc fx hs xh = true) (hne : hs ≠ []) : PS X (.Try xb xh [] [] pos) (tS V1 X.prog X.w X.K E T (.try_ b hs)) := by
  have hm := hds_ok g hf h2
  cases xh with
  | nil =>
    cases hs with
    | nil => exact absurd rfl hne
    | cons h hs => cases h2
  | cons x xh =>
    refine PS.imp (ps_tryMix (tb := tTB V1 X.prog X.w X.K b) e1 e2 (by rw [g.nN]; exact g.nd) tk (fun W pn xe tk' _ => tb_ok g hf h1 pn xe tk') hm) fun D σ H h => ?_
    obtain ⟨env, st, W, AS, AE, C, h⟩ := h
    rw [exs] at h
    have ex : ∀ {c : Nat} {ns : List Nat} {vs : List PV} {st' : EV.St}, EndS V1 X.prog X.w X.K E T D (exhs hs c ns vs env st') → XEnd V1 X.prog X.w X.K (wMix X.K (wxE E) D (hs.map (czOf X.K V1.nm))) W H AS AE σ c ns vs st' := fun q W' H' AS' cls d gx => exc_mix g hT C gx h2 q
    cases b with
    | ex e =>
      simp only [tTB, tDrop]
      rw [exTB] at h
      refine ⟨env, st, W, AS, AE, C.cfg, ?_⟩
      cases he : ev V1.cl V1.txt V1.call e env st with
      | bad => rw [he] at h; exact h
      | exc c ns vs st1 => rw [he] at h; exact ex h
      | ok ov st1 =>
        rw [he] at h
        exact fun W1 H1 AS1 v A gg => h _ _ _ _ _ (C.after gg.t)
    | set i fz e =>
      simp only [tTB, tAsg]
      rw [exTB] at h
      refine ⟨env, st, W, AS, AE, C.cfg, ?_⟩
      cases he : ev V1.cl V1.txt V1.call e env st with
      | bad => rw [he] at h; exact h
      | exc c ns vs st1 => rw [he] at h; exact ex h
      | ok ov st1 =>
        rw [he] at h
        intro W1 H1 AS1 v A gg
        simp only [R.bind, lift] at h
        cases ht : tak e ov with
        | none => rw [ht] at h; exact h.elim
        | some x =>
          rw [ht] at h
          obtain ⟨W2, C2, r⟩ := C.tak gg ht
          have h0 : T.fx ≠ none → i ≠ 0 := fun q => by
            simp only [tbB] at h1
            rw [Bool.and_eq_true, hT q] at h1
            simpa using h1.1
          obtain ⟨AE', C3⟩ := C2.setSh (i := i) r h0
          exact h _ _ _ _ _ C3
    | ife t a b =>
      simp only [tTB, tIfS, tDrop]
      rw [exTB] at h
      refine ⟨env, st, W, AS, AE, C.cfg, ?_⟩
      cases he : evT V1.cl V1.txt V1.call t env st with
      | bad => rw [he] at h; exact h
      | exc c ns vs st1 => rw [he] at h; exact ex h
      | ok ov st1 =>
        rw [he] at h
        intro W1 H1 AS1 gg
        have C1 := C.after gg
        have ex1 : ∀ {c : Nat} {ns : List Nat} {vs : List PV} {st' : EV.St}, EndS V1 X.prog X.w X.K E T D (exhs hs c ns vs env st') → XEnd V1 X.prog X.w X.K (wMix X.K (wxE E) D (hs.map (czOf X.K V1.nm))) W1 H1 AS1 AE σ c ns vs st' := fun q W' H' AS' cls d gx => exc_mix g hT C1 gx h2 q
        cases ov with
        | true =>
          simp only [if_true]
          refine ⟨env, st1, W1, AS1, AE, C1.cfg, ?_⟩
          simp only [R.bind] at h
          cases hb : ev V1.cl V1.txt V1.call a env st1 with
          | bad => rw [hb] at h; exact h
          | exc c ns vs st2 => rw [hb] at h; exact ex1 h
          | ok ov st2 =>
            rw [hb] at h
            exact fun W2 H2 AS2 v A gg => h _ _ _ _ _ (C1.after gg.t)
        | false =>
          simp only [Bool.false_eq_true, if_false]
          refine ⟨env, st1, W1, AS1, AE, C1.cfg, ?_⟩
          simp only [R.bind] at h
          cases hb : ev V1.cl V1.txt V1.call b env st1 with
          | bad => rw [hb] at h; exact h
          | exc c ns vs st2 => rw [hb] at h; exact ex1 h
          | ok ov st2 =>
            rw [hb] at h
            exact fun W2 H2 AS2 v A gg => h _ _ _ _ _ (C1.after gg.t)
end
end EV

set_option Elab.async false
set_option linter.all false
set_option maxRecDepth 100000
set_option maxHeartbeats 1000000
/-! EV9e: statements against the text. -/
namespace EV
open PySem PySem.Spec PyProof.Rows L2
/-- does a comprehension's list stand for the name while it is made -/
def swB (sc : Scope) (y : Str) (py : Pos) : Expr → Option Bool
  | .ListComp _ _ s p => some (kindB sc.kind && (sc.names.lookup y == some .local && ((py.line == p.line) && !(s.names.any fun (n, k) => n == y && (k == .local || k == .cell)))))
  | .SetComp .. => none
  | .DictComp .. => none
  | _ => some false
def noComp : Expr → Bool
  | .ListComp .. => false
  | .SetComp .. => false
  | .DictComp .. => false
  | _ => true
def isComp : EV.E → Bool
  | .comp .. => true
  | _ => false
def locL (sc : Scope) (y : Str) : Bool := sc.names.lookup y == some .local
def rdB (N : List Str) (sc : Scope) (i : Nat) (y : Str) : Bool := decide (N[i]? = some y) && (visB sc y && !dbg y)
def plB (G : Gt) (N : List Str) (sc : Scope) : Pl → Expr → Bool
  | .var i, x => (match x with
    | .Name y _ => rdB N sc i y
    | _ => false)
  | .fld i f, x => (match x with
    | .Attribute (.Name y _) z _ => rdB N sc i y && decide (G.fld f = z)
    | _ => false)
def frzI : S → Option Nat
  | .frz i => some i
  | _ => none
def setPB (N : List Str) (fnB : Str → Bool) (sc : Scope) (is : List Nat) (n : Nat) (xs ys : List Expr) : Bool := (match swR xs ys sc with
      | some none => nmsB N fnB sc is xs && (decide (is.length = n) && decide (n ≤ 1000))
      | some (some ns) => (match is, xs, ys with
        | [i, j], [.Name y1 _, .Name y2 _], [_, _] => decide (N[i]? = some y1) && (decide (N[j]? = some y2) && (i != j && (locL sc y1 && (locL sc y2 && decide (ns = [y1, y2])))))
        | [i, j, l], [.Name y1 _, .Name y2 _, .Name y3 _], [_, _, _] => decide (N[i]? = some y1) && (decide (N[j]? = some y2) && (decide (N[l]? = some y3) && (i != j && (i != l && (j != l && (locL sc y1 && (locL sc y2 && (locL sc y3 && decide (ns = [y1, y2, y3])))))))))
        | _, _, _ => false)
      | none => false)
mutual
def chkS (G : Gt) (N : List Str) (fnB : Str → Bool) (sc : Scope) (fx : Bool) : S → Stmt → Bool
  | .set i _ e, x => (match x with
    | .Assign [.Name y p] xe _ => decide (N[i]? = some y) && (locB fnB sc y && ((!fx || i != 0) && (chkE G N sc e xe && (match swB sc y p xe with
      | some false => true
      | some true => locL sc y && isComp e
      | none => false))))
    | _ => false)
  | .mv i j _, x => (match x with
    | .Assign [.Name y _] (.Name z _) _ => decide (N[i]? = some y) && (locB fnB sc y && (rdB N sc j z && ((!fx || (i != 0 && j != 0)) && (i != j))))
    | _ => false)
  | .setT is e, x => (match x with
    | .Assign [.Tuple xs _ _] xe _ => nmsB N fnB sc is xs && (chkE G N sc e xe && (notTup xe && (!fx || !is.contains 0)))
    | _ => false)
  | .setP is _ es, x => (match x with
    | .Assign [.Tuple xs _ _] (.Tuple ys _ _) _ => (!fx || !is.contains 0) && (chkEs G N sc es ys && setPB N fnB sc is es.length xs ys)
    | _ => false)
  | .put p es, x => (match p, es with
    | .var i, [ev, ek] => (match x with
      | .Assign [.Subscript (.Name y _) xk _] xv _ => rdB N sc i y && (chkE G N sc ev xv && (chkE G N sc ek xk && ixOk xk))
      | _ => false)
    | _, _ => false)
  | .sfld i f e, x => (match x with
    | .Assign [.Attribute (.Name y _) z _] xe _ => rdB N sc i y && (chkE G N sc e xe && (G.fs.contains f && decide (G.fld f = z)))
    | _ => false)
  | .app p e, x => (match x with
    | .Expr (.Call (.Attribute xp m apos) [xe] [] cpos) _ => decide (m = "append") && (plB G N sc p xp && (chkE G N sc e xe && (noStar xe && (apos.endLine == cpos.line))))
    | _ => false)
  | .appAt _ _ _, _ => false
  | .ext p e, x => (match x with
    | .Expr (.Call (.Attribute xp m apos) [xe] [] cpos) _ => decide (m = "extend") && (plB G N sc p xp && (chkE G N sc e xe && (noStar xe && (apos.endLine == cpos.line))))
    | _ => false)
  | .sdef _ _, _ => false
  | .pop _, _ => false
  | .retPop _, _ => false
  | .retOwn i, x => (match x with
    | .Return (some (.Name y _)) _ => rdB N sc i y
    | _ => false)
  | .ex e, x => (match x with
    | .Expr xe _ => noComp xe && chkE G N sc e xe
    | _ => false)
  | .ifs c a b, x => (match x with
    | .If xc xa xb _ => chkT G N sc c xc && (chkSs G N fnB sc fx a xa && chkSs G N fnB sc fx b xb)
    | _ => false)
  | .fors tg it its body, x => (match x with
    | .For xt xi xb [] _ => foldOk xi && (tgB N fnB sc tg xt && ((!fx || tg.no0) && ((match itArgs sc it xt xi with
      | some ys => chkEs G N sc its ys
      | none => false) && chkSs G N fnB sc fx body xb)))
    | _ => false)
  | .whl _ c body, x => (match x with
    | .While xc xb [] _ => chkT G N sc c xc && chkSs G N fnB sc fx body xb
    | _ => false)
  | .ret e, x => (match x with
    | .Return (some xe) _ => chkE G N sc e xe
    | _ => false)
  | .retN, x => (match x with
    | .Return none _ => true
    | _ => false)
  | .rais c es, x => (match x with
    | .Raise (some (.Call (.Name n _) xs [] _)) none _ => decide (G.ex c = some n) && (glB sc n && (chkEs G N sc es xs && (!es.isEmpty && decide (es.length ≤ 1000))))
    | _ => false)
  | .try_ b hs, x => (match x with
    | .Try xb xh [] [] _ => tbB G N fnB sc fx b xb && (hdsB G N fnB sc fx hs xh && !hs.isEmpty)
    | _ => false)
  | .pass, x => (match x with
    | .Pass _ => true
    | _ => false)
  | .frz _, _ => false
def chkSs (G : Gt) (N : List Str) (fnB : Str → Bool) (sc : Scope) (fx : Bool) : List S → List Stmt → Bool
  | [], xs => xs.isEmpty
  | s :: ss, xs => (match frzI s with
    | some i => (!fx || i != 0) && chkSs G N fnB sc fx ss xs
    | none => (match xs with
      | x :: xs => chkS G N fnB sc fx s x && chkSs G N fnB sc fx ss xs
      | [] => false))
end
/-! ### soundness -/
section
variable {V1 : Env1} {G : Gt} {N : List Str} {sc : Scope} {X : Cx} {E : XK} {fnB : Str → Bool} {fx : Bool}
theorem rd_ok (g : GoodC V1 G N sc X) {i : Nat} {y : Str} (h : rdB N sc i y = true) : X.N[i]? = some y ∧ Vis X.env.scope y ∧ (y == ("__debug__" : Str)) = false ∧ (y == ("__classdict__" : Str)) = false := by
  unfold rdB at h
  rw [Bool.and_eq_true, Bool.and_eq_true, decide_eq_true_eq, Bool.not_eq_true'] at h
  obtain ⟨h1, h2, h3⟩ := h
  exact ⟨by rw [g.nN]; exact h1, g.vis h2, (dbg_no h3).1, (dbg_no h3).2⟩
theorem loc_ok (g : GoodC V1 G N sc X) (hf : ∀ y, fnB y = true → X.fn y = true) {y : Str} (h2 : locB fnB sc y = true) : Loc X.env.scope y ∧ (X.fn y = true ∨ X.env.scope.names.lookup y = some .local) := by
  rw [g.hsc]
  unfold locB at h2
  split at h2
  · exact ⟨.inl (by assumption), .inr (by assumption)⟩
  · exact ⟨.inr (by assumption), .inl (hf y h2)⟩
  · cases h2
theorem pl_ok (g : GoodC V1 G N sc X) {p : Pl} {x : Expr} (h : plB G N sc p x = true) : PlText V1 X p x := by
  cases p with
  | var i =>
    simp only [plB] at h
    split at h
    · obtain ⟨h1, h2, h3, h4⟩ := rd_ok g h
      exact plText_var h1 h2 h3 h4
    · cases h
  | fld i f =>
    simp only [plB] at h
    split at h
    · rw [Bool.and_eq_true, decide_eq_true_eq] at h
      obtain ⟨h1, h2, h3, h4⟩ := rd_ok g h.1
      exact plText_fld g.top.fc h1 h2 h3 h4 ((g.top.fld f).trans h.2)
    · cases h
theorem sw_f {sc : Scope} {y : Str} {py : Pos} {xe : Expr} {env : PySem.Env} {l : Nat} (hs : env.scope = sc) (hk : sc.kind = .function) (h : swB sc y py xe = some false) : swapsWith xe (some (.Name y py)) l env = pure false := by
  subst hs
  cases xe <;> first
    | rfl
    | (cases h; done)
    | skip
  rename_i elt gs s p
  simp only [swB, Option.some.injEq] at h
  unfold swapsWith
  have e1 : (env.blockKind == ScopeKind.function) = true := by
    unfold Env.blockKind
    rw [hk]; rfl
  have e2 : (kindB env.scope.kind) = true := by rw [hk]; rfl
  rw [e2, Bool.true_and] at h
  show pure ((env.blockKind == ScopeKind.function) && (env.scope.names.lookup y == some .local) && (py.line == p.line) && !(s.names.any fun (n, k) => n == y && (k == .local || k == .cell))) = pure false
  rw [e1, Bool.true_and, Bool.and_assoc, h]
theorem sw_t {sc : Scope} {y : Str} {py : Pos} {xe : Expr} (h : swB sc y py xe = some true) : ∃ elt gs s p, xe = .ListComp elt gs s p ∧ (py.line == p.line) = true ∧ (s.names.any fun (n, k) => n == y && (k == .local || k == .cell)) = false := by
  cases xe <;> try (cases h; done)
  rename_i elt gs s p
  simp only [swB, Option.some.injEq] at h
  rw [Bool.and_eq_true, Bool.and_eq_true, Bool.and_eq_true, Bool.not_eq_true'] at h
  exact ⟨elt, gs, s, p, rfl, h.2.2.1, h.2.2.2⟩
theorem sw_s {xv a b : Expr} {p : Pos} {l : Nat} {env : PySem.Env} : swapsWith xv (some (.Subscript a b p)) l env = pure false := by
  cases xv <;> rfl
theorem sw_a {xv a : Expr} {z : Str} {p : Pos} {l : Nat} {env : PySem.Env} : swapsWith xv (some (.Attribute a z p)) l env = pure false := by
  cases xv <;> rfl
theorem sw_n {xv : Expr} {l : Nat} {env : PySem.Env} (h : noComp xv = true) : swapsWith xv none l env = pure false := by
  cases xv <;> first
    | rfl
    | cases h
theorem fxi {T : Ety} {i : Nat} (hT : T.fx ≠ none → fx = true) (h : (!fx || i != 0) = true) : T.fx ≠ none → i ≠ 0 := fun q => by
  rw [hT q] at h
  simpa using h
theorem fxis {T : Ety} {is : List Nat} (hT : T.fx ≠ none → fx = true) (h : (!fx || !is.contains 0) = true) : T.fx ≠ none → 0 ∉ is := fun q => by
  rw [hT q] at h
  simpa using h
/-- a list by a comprehension, into its name -/
theorem setC_ok (g : GoodC V1 G N sc X) (tk : L2.Takes X (wxE E)) {T : Ety} {i : Nat} {fz : Bool} {e : EV.E} {y : Str} {py pos : Pos} {xe : Expr} (hi : N[i]? = some y) (hl : locL sc y = true) (hc : isComp e = true) (h : chkE G N sc e xe = true) (hs : swB sc y py xe = some true) (h0 : T.fx ≠ none → i ≠ 0) :
    PS X (.Assign [.Name y py] xe pos) (tS V1 X.prog X.w X.K E T (.set i fz e)) := by
  cases e <;> try (cases hc; done)
  rename_i elt tg it its ifs
  obtain ⟨xel, gs, scope, p, rfl, s1, s2⟩ := sw_t hs
  unfold chkE at h
  have hl : sc.names.lookup y = some .local := by simpa [locL] using hl
  split at h
  · rename_i xel' xt xi xs isa scope' pos' e'
    cases e'
    rw [Bool.and_eq_true, Bool.and_eq_true, Bool.and_eq_true, Bool.and_eq_true, Bool.and_eq_true, Bool.and_eq_true, Bool.and_eq_true, decide_eq_true_eq] at h
    obtain ⟨rfl, hf, hb, h4, ht, h6, h7, h8⟩ := h
    split at h6
    · rename_i ys ei
      have om := own_map (N := N) (is := tgIs tg)
      have hk := kind_of h4
      refine ps_setCE (own := ownOf N tg) g.top.calm (by rw [g.nN]; exact g.nd) (by rw [g.nN]; exact hi) (by rw [g.hsc]; exact hl) (sw_true (by rw [g.hsc]; exact g.kind) (by rw [g.hsc]; exact hl) s1 s2) (it_ok g ei (eEs its g tk h6)) (by rw [g.nN, g.hsc]; exact blkOk_by hb) (fun v hv => by rw [ownOf, om] at hv; exact hv) (fun v hv => by rw [ownOf, om]; exact hv) (fun s H C cl fp => ?_) (fun s H C cl fp => eTs ifs (g.blk hk s H C cl fp) h7) (fun s H C cl fp => (eE elt (g.blk hk s H C cl fp) tk0 h8).1) (fold_ok hf) h0
      exact tg_ok (g.blk hk s H C cl fp) (fun y hy => hy) ht
    · cases h6
  · cases h
theorem setP_ok (g : GoodC V1 G N sc X) (hf : ∀ y, fnB y = true → X.fn y = true) {T : Ety} {is : List Nat} {zs : List Bool} {es : List EV.E} {xs ys : List Expr} {k k2 : Nat} {p p2 pos : Pos} (h0 : T.fx ≠ none → 0 ∉ is) (he : PEs V1 (wxE E) X es ys)
    (h : setPB N fnB sc is es.length xs ys = true) : PS X (.Assign [.Tuple xs k p] (.Tuple ys k2 p2) pos) (tS V1 X.prog X.w X.K E T (.setP is zs es)) := by
  have hnd : X.N.Nodup := by rw [g.nN]; exact g.nd
  have hkd : X.env.scope.kind = .function := by rw [g.hsc]; exact g.kind
  have lo : ∀ {y : Str}, locL sc y = true → X.env.scope.names.lookup y = some .local := fun {y} h => by rw [g.hsc]; simpa [locL] using h
  have ix : ∀ {i : Nat} {y : Str}, N[i]? = some y → X.N[i]? = some y := fun {i y} h => by rw [g.nN]; exact h
  unfold setPB at h
  split at h
  · rename_i e
    rw [Bool.and_eq_true, Bool.and_eq_true, decide_eq_true_eq, decide_eq_true_eq] at h
    exact ps_setPN g.top.calm hnd (nms_ok g hf h.1) hkd he h.2.1 h.2.2 (by rw [g.hsc]; exact e) h0
  · rename_i ns e
    split at h
    · rw [Bool.and_eq_true, Bool.and_eq_true, Bool.and_eq_true, Bool.and_eq_true, Bool.and_eq_true, decide_eq_true_eq, decide_eq_true_eq, decide_eq_true_eq, bne_iff_ne] at h
      obtain ⟨h1, h2, h3, h4, h5, rfl⟩ := h
      exact ps_setP2 g.top.calm hnd (ix h1) (ix h2) h3 (lo h4) (lo h5) hkd he (by rw [g.hsc]; exact e) h0
    · rw [Bool.and_eq_true, Bool.and_eq_true, Bool.and_eq_true, Bool.and_eq_true, Bool.and_eq_true, Bool.and_eq_true, Bool.and_eq_true, Bool.and_eq_true, Bool.and_eq_true, decide_eq_true_eq, decide_eq_true_eq, decide_eq_true_eq, decide_eq_true_eq, bne_iff_ne, bne_iff_ne, bne_iff_ne] at h
      obtain ⟨h1, h2, h3, h4, h5, h6, h7, h8, h9, rfl⟩ := h
      exact ps_setP3 g.top.calm hnd (ix h1) (ix h2) (ix h3) h4 h5 h6 (lo h7) (lo h8) (lo h9) hkd he (by rw [g.hsc]; exact e) h0
    · cases h
  · cases h
theorem frzI_eq {s : S} {i : Nat} (h : frzI s = some i) : s = .frz i := by
  cases s <;> simp [frzI] at h
  rw [h]
mutual
theorem sS (g : GoodC V1 G N sc X) (hf : ∀ y, fnB y = true → X.fn y = true) (tk : L2.Takes X (wxE E)) (hp : PassesOwn (model X.prog X.w) X.A X.env X.xe) (e1 : X.stack = X.env :: X.outer) (e2 : X.env.frame = some X.env.locals) : ∀ (s : S) {x : Stmt} {T : Ety}, (T.fx ≠ none → fx = true) → chkS G N fnB sc fx s x = true → PS X x (tS V1 X.prog X.w X.K E T s)
  | .set i fz e, x, T, hT, h => by
    unfold chkS at h
    split at h
    · rename_i y p xe pos
      rw [Bool.and_eq_true, Bool.and_eq_true, Bool.and_eq_true, Bool.and_eq_true, decide_eq_true_eq] at h
      obtain ⟨h1, h2, h3, h4, h5⟩ := h
      split at h5
      · rename_i e5
        obtain ⟨q1, q2⟩ := loc_ok g hf h2
        exact ps_setE (by rw [g.nN]; exact g.nd) (by rw [g.nN]; exact h1) q1 q2 (eE e g tk h4).1 (sw_f g.hsc g.kind e5) (fxi hT h3)
      · rename_i e5
        rw [Bool.and_eq_true] at h5
        exact setC_ok g tk h1 h5.1 h5.2 h4 e5 (fxi hT h3)
      · cases h5
    · cases h
  | .mv i j fz, x, T, hT, h => by
    unfold chkS at h
    split at h
    · rw [Bool.and_eq_true, Bool.and_eq_true, Bool.and_eq_true, Bool.and_eq_true, decide_eq_true_eq, bne_iff_ne] at h
      obtain ⟨h1, h2, h3, h4, h5⟩ := h
      obtain ⟨q1, q2⟩ := loc_ok g hf h2
      obtain ⟨r1, r2, r3, r4⟩ := rd_ok g h3
      exact ps_mvE (by rw [g.nN]; exact g.nd) (by rw [g.nN]; exact h1) q1 q2 r1 r2 r3 r4 (fun q => by rw [hT q] at h4; simpa using h4) h5
    · cases h
  | .setT is e, x, T, hT, h => by
    unfold chkS at h
    split at h
    · rw [Bool.and_eq_true, Bool.and_eq_true, Bool.and_eq_true] at h
      obtain ⟨h1, h2, h3, h4⟩ := h
      exact ps_setTE g.top.calm (by rw [g.nN]; exact g.nd) (nms_ok g hf h1) (eE e g tk h2).1 h3 (fxis hT h4)
    · cases h
  | .setP is zs es, x, T, hT, h => by
    unfold chkS at h
    split at h
    · rw [Bool.and_eq_true, Bool.and_eq_true] at h
      obtain ⟨h1, h2, h3⟩ := h
      exact setP_ok g hf (fxis hT h1) (eEs es g tk h2) h3
    · cases h
  | .put p es, x, T, hT, h => by
    unfold chkS at h
    split at h
    · rename_i i ev ek
      split at h
      · rw [Bool.and_eq_true, Bool.and_eq_true, Bool.and_eq_true] at h
        obtain ⟨h1, h2, h3, h4⟩ := h
        obtain ⟨r1, r2, r3, r4⟩ := rd_ok g h1
        exact ps_putE g.top.fc (by have := g.top.hu; omega) r1 r2 r3 r4 (eE ev g tk h2).1 (eE ek g tk h3).1 h4 sw_s
      · cases h
    · cases h
  | .sfld i f e, x, T, hT, h => by
    unfold chkS at h
    split at h
    · rw [Bool.and_eq_true, Bool.and_eq_true, Bool.and_eq_true, decide_eq_true_eq] at h
      obtain ⟨h1, h2, h3, h4⟩ := h
      obtain ⟨r1, r2, r3, r4⟩ := rd_ok g h1
      exact ps_sfldE g.top.fc r1 r2 r3 r4 (eE e g tk h2).1 (g.top.fs f (by simpa using h3)) ((g.top.fld f).trans h4) sw_a
    · cases h
  | .app p e, x, T, hT, h => by
    unfold chkS at h
    split at h
    · rw [Bool.and_eq_true, Bool.and_eq_true, Bool.and_eq_true, Bool.and_eq_true, decide_eq_true_eq] at h
      obtain ⟨rfl, h1, h2, h3, h4⟩ := h
      exact ps_appE g.top.fc (pl_ok g h1) (eE e g tk h2).1 h3 h4
    · cases h
  | .appAt _ _ _, x, T, hT, h => by unfold chkS at h; cases h
  | .ext p e, x, T, hT, h => by
    unfold chkS at h
    split at h
    · rw [Bool.and_eq_true, Bool.and_eq_true, Bool.and_eq_true, Bool.and_eq_true, decide_eq_true_eq] at h
      obtain ⟨rfl, h1, h2, h3, h4⟩ := h
      exact ps_extE g.top.fc (pl_ok g h1) (eE e g tk h2).1 h3 h4
    · cases h
  | .sdef _ _, x, T, hT, h => by unfold chkS at h; cases h
  | .pop _, x, T, hT, h => by unfold chkS at h; cases h
  | .retPop _, x, T, hT, h => by unfold chkS at h; cases h
  | .retOwn i, x, T, hT, h => by
    unfold chkS at h
    split at h
    · obtain ⟨r1, r2, r3, r4⟩ := rd_ok g h
      exact ps_retOwnE r1 r2 r3 r4
    · cases h
  | .ex e, x, T, hT, h => by
    unfold chkS at h
    split at h
    · rw [Bool.and_eq_true] at h
      exact ps_exE (eE e g tk h.2).1 (sw_n h.1)
    · cases h
  | .ifs c a b, x, T, hT, h => by
    unfold chkS at h
    split at h
    · rw [Bool.and_eq_true, Bool.and_eq_true] at h
      exact ps_ifE (eT c g tk h.1) (sSs g hf tk hp e1 e2 a hT h.2.1) (sSs g hf tk hp e1 e2 b hT h.2.2)
    · cases h
  | .fors tg it its body, x, T, hT, h => by
    unfold chkS at h
    split at h
    · rw [Bool.and_eq_true, Bool.and_eq_true, Bool.and_eq_true, Bool.and_eq_true] at h
      obtain ⟨h1, h2, h3, h4, h5⟩ := h
      split at h4
      · rename_i ys ei
        exact ps_forE (fx := fx) hp g.top.calm (it_ok g ei (eEs its g tk h4)) (tg_ok g hf h2) (fun T' hT' => sSs g hf tk hp e1 e2 body hT' h5) (fold_ok h1) (fun q => ⟨hT q, by rw [hT q] at h3; simpa using h3⟩)
      · cases h4
    · cases h
  | .whl n c body, x, T, hT, h => by
    unfold chkS at h
    split at h
    · rw [Bool.and_eq_true] at h
      exact ps_whlE hp (eT c g tk h.1) (sSs g hf tk hp e1 e2 body hT h.2)
    · cases h
  | .ret e, x, T, hT, h => by
    unfold chkS at h
    split at h
    · exact ps_retE (eE e g tk h).1
    · cases h
  | .retN, x, T, hT, h => by
    unfold chkS at h
    split at h
    · exact ps_retNE
    · cases h
  | .rais c es, x, T, hT, h => by
    unfold chkS at h
    split at h
    · rw [Bool.and_eq_true, Bool.and_eq_true, Bool.and_eq_true, Bool.and_eq_true, decide_eq_true_eq, decide_eq_true_eq] at h
      obtain ⟨h1, h2, h3, h4, h5⟩ := h
      obtain ⟨gl, hd⟩ := g.gl h2
      obtain ⟨F, hm⟩ := g.top.ex _ _ h1
      exact ps_raisE g.top.calm tk F g.top.room gl hm (eEs es g tk h3) (not_nil h4) h5 hd
    · cases h
  | .try_ b hs, x, T, hT, h => by
    unfold chkS at h
    split at h
    · rw [Bool.and_eq_true, Bool.and_eq_true] at h
      exact ps_tryE g hf tk e1 e2 hT h.1 h.2.1 (not_nil h.2.2)
    · cases h
  | .pass, x, T, hT, h => by
    unfold chkS at h
    split at h
    · exact ps_passE
    · cases h
  | .frz _, x, T, hT, h => by unfold chkS at h; cases h
theorem sSs (g : GoodC V1 G N sc X) (hf : ∀ y, fnB y = true → X.fn y = true) (tk : L2.Takes X (wxE E)) (hp : PassesOwn (model X.prog X.w) X.A X.env X.xe) (e1 : X.stack = X.env :: X.outer) (e2 : X.env.frame = some X.env.locals) : ∀ (ss : List S) {xs : List Stmt} {T : Ety}, (T.fx ≠ none → fx = true) → chkSs G N fnB sc fx ss xs = true → PSs X xs (tSs V1 X.prog X.w X.K E T ss)
  | [], xs, T, hT, h => by
    unfold chkSs at h
    cases xs with
    | nil => exact pss_nilE
    | cons x xs => cases h
  | s :: ss, xs, T, hT, h => by
    unfold chkSs at h
    split at h
    · rename_i i e
      rw [Bool.and_eq_true] at h
      rw [frzI_eq e]
      exact pss_frzE (sSs g hf tk hp e1 e2 ss hT h.2) (fxi hT h.1)
    · split at h
      · rw [Bool.and_eq_true] at h
        exact pss_consE (sS g hf tk hp e1 e2 s hT h.1) (sSs g hf tk hp e1 e2 ss hT h.2)
      · cases h
end
end
end EV

set_option Elab.async false
set_option linter.all false
set_option maxRecDepth 100000
set_option maxHeartbeats 1000000
/-! EV9f: the defs keep their promises, by the fuel. -/
namespace EV
open PySem PySem.Spec PyProof.Rows L2
/-- a def of the text -/
structure FnI (P : Program) (w : World) (K : PySem.W.Frag) (G : Gt) (tab : Tab) (fx : Bool) (f : Nat) (fa : Addr) (fd : FuncData) (ps : List Str) : Prop where
  ex : ∃ name qual params body scope dvs kws N d, FunD K name qual params body scope dvs kws fa fd ∧ FnScope N ps scope ∧ tab f = some d ∧ d.np = ps.length ∧ d.nv = N.length ∧ chkSs G N (fun _ => true) scope fx d.body body = true
/-- what the law's top holds, whatever the fuel -/
structure Prg (P : Program) (w : World) (K : PySem.W.Frag) (mg : Str → Option Value) (base : Heap) (nm : Nm) (cl : Cls) (tab : Tab) (G : Gt) : Prop where
  fc : Facts nm K
  free : ∀ n ∈ (["range", "enumerate", "zip", "isinstance", "len", "int", "max", "min", "tuple", "list", "sorted", "set", "all", "any", "str", "bool", "dict", "sum"] : List Str), mg n = none
  fn : ∀ f n np, G.fn f = some (n, np) → f < 1000 ∧ ∃ fa fd ps, FnI P w K G tab false f fa fd ps ∧ ps.length = np ∧ mg n = some (.ref fa) ∧ PySem.W.keepIn K (.ref fa) = true ∧
    (G.pos f = true → ∀ (s : Shared) (us : List Value), us.length = np → BindsTo s fd ⟨us, []⟩ (ps.zip us)) ∧ ∀ m ks pm, (f, m, ks, pm) ∈ G.kw → KwB K fd ps m ks pm
  kls : ∀ c n np, G.cl c = some (n, np) → c < 1000 ∧ c ∈ nm.cs ∧ ∃ fi fa fd ps, cl.init c = some fi ∧ Mk K (ca K nm c) fa ∧ FnI P w K G tab true fi fa fd ps ∧ ps.length = np + 1 ∧ mg n = some (.ref (ca K nm c)) ∧
    (∀ (s : Shared) (us : List Value), us.length = np + 1 → BindsTo s fd ⟨us, []⟩ (ps.zip us)) ∧ ∀ m ks pm, (1000 + c, m, ks, pm) ∈ G.kw → KwB K fd ps (m + 1) ks (.at 0 :: shiftPm pm)
  mt : ∀ m n np, G.mt m = some (n, np) → (∀ g ∈ nm.fs, nm.fld g ≠ n) ∧ ∀ c ∈ nm.cs, ∀ f, cl.meth c m = some f → f < 1000 ∧ ∃ fa fd ps, L2.Meth K (ca K nm c) n fa ∧ FnI P w K G tab false f fa fd ps ∧ ps.length = np ∧
    (∀ (s : Shared) (us : List Value), us.length = np → BindsTo s fd ⟨us, []⟩ (ps.zip us)) ∧ ∀ k ks pm, (m, k, ks, pm) ∈ G.mkw → pm.length + 1 = np ∧ KwB K fd ps (k + 1) ks (.at 0 :: shiftPm pm)
  own : ∀ c ∈ nm.cs, ∀ m, cl.meth c 17 = some m → m < 1000 ∧ ∃ fa fd ps, EqC K (ca K nm c) fa ∧ FnI P w K G tab false m fa fd ps ∧ ps.length = 2 ∧ ∀ (s : Shared) (us : List Value), us.length = 2 → BindsTo s fd ⟨us, []⟩ (ps.zip us)
  nfc : ∀ c ∈ nm.cs, ∀ d ∈ nm.cs, PySem.W.notFirst K (ca K nm c) (.ref (ca K nm d)) = true
  nft : ∀ c ∈ nm.cs, ∀ t ∈ ["NoneType", "bool", "int", "str", "tuple", "list", "dict"], PySem.W.notFirst K (ca K nm c) (.type t) = true
  ex : ∀ c n, G.ex c = some n → ExcF P w K mg base nm c (cl.excF c) ∧ mg n = some (.ref (xa K nm c))
  fld : ∀ f, nm.fld f = G.fld f
  fs : ∀ f ∈ G.fs, f ∈ nm.fs
  cln : ∀ c, mg (G.cln c) = some (.ref (ca K nm c)) ∨ (Ty.cls c) ∉ G.tys
  tys : ∀ t ∈ G.tys, t ∈ nm.tys
  sm : smIn K
  exn : ∀ c ∈ G.xs, c ∈ nm.xs ∧ nm.exc c = G.exn c
  xn : ∀ c ∈ nm.xs, mg (nm.exc c) = some (.ref (xa K nm c)) ∧ L2.XfC K (xa K nm c) ∧ (∀ f ∈ G.xfs, PySem.W.findIn K (.ref (xa K nm c)) (nm.fld f) = some none) ∧ ∀ d ∈ nm.xs, PySem.W.exmOne K (.ref (xa K nm c)) (.ref (xa K nm d)) = some (takes c d)
section
variable {P : Program} {w : World} {K : PySem.W.Frag} {nm : Nm} {W : Wd} {H H1 : Hp} {AS : List Addr} {st : EV.St}
theorem envR_args : ∀ {pvs : List PV} {vs : List V} {n m : Nat}, n = m → Reps P w K nm W H pvs vs → EnvR P w K nm W H (pvs.map (fun v => some (.sh v)) ++ List.replicate n none) (vs.map some ++ List.replicate m none) []
  | [], vs, n, m, e, h => by
    rw [show vs = [] from h, ← e]
    clear e h
    induction n with
    | zero => exact ⟨rfl, rfl⟩
    | succ n ih => exact ⟨none, _, [], [], rfl, rfl, rfl, ih⟩
  | p :: pvs, vs, n, m, e, h => by
    obtain ⟨v, r, e1, h1, h2⟩ := h
    rw [e1]
    exact ⟨some v, _, [], [], rfl, rfl, ⟨rfl, h1⟩, envR_args e h2⟩
theorem Reps.len : ∀ {pvs : List PV} {vs : List V}, Reps P w K nm W H pvs vs → pvs.length = vs.length
  | [], vs, h => by
    rw [show vs = [] from h]
    rfl
  | p :: pvs, vs, h => by
    obtain ⟨v, r, e1, h1, h2⟩ := h
    rw [e1, List.length_cons, List.length_cons, Reps.len h2]
/-- the entry of a def -/
def eT0 (W : Wd) (H : Hp) (AS : List Addr) : Ety := ⟨W, H, AS, none, fun _ _ => True, fun _ _ => trivial⟩
def eT1 (W : Wd) (H : Hp) (AS : List Addr) (x : Addr) : Ety := ⟨W, H, AS, some (.ref x), fun _ _ => True, fun _ _ => trivial⟩
variable {V1 : Env1} {T : Ety} {σ : L2.St} {env : EV.Env} {AE : List Addr}
theorem entry0 {pvs : List PV} {vs : List V} {N : List Str} {d : Def} (h : ArgsR P w K V1.nm W H AS pvs st vs) (hn : d.nv - d.np = N.length - vs.length) : CfgE V1 P w K (eT0 W H AS) W H (L2.start N vs) (EV.start d pvs) st AS [] := by
  refine ⟨⟨envR_args hn h.rep, h.str, by rw [List.append_nil]; exact h.nd, fun a ha => h.ff a (by rw [List.append_nil] at ha; exact ha), h.tr⟩, Ent.refl, fun a h => (List.not_mem_nil h).elim, fun v e => (by cases e), trivial⟩
/-- the end behind the last statement -/
theorem CfgE.toGot {W' : Wd} {H' : Hp} {st' : EV.St} {AS' : List Addr} (C : CfgE V1 P w K T W' H' σ env st' AS' AE) : Got P w K V1.nm T.W0 T.H0 T.A0 [] .dct0 (.sh .non) st' W' H' AS' .non [] := by
  have nd := (List.nodup_append.mp C.cfg.nd).1
  refine ⟨C.ent, C.cfg.str, by rw [List.append_nil]; exact nd, fun a ha => C.cfg.ff a (by rw [List.append_nil] at ha; exact List.mem_append_left _ ha), C.cfg.tr, ⟨rfl, rfl⟩, fun z => (by cases z), fun _ => ⟨List.nodup_nil, fun a h => (List.not_mem_nil h).elim⟩, fun z => (by cases z)⟩
/-- the end of an __init__ -/
theorem CfgE.toObj {W' : Wd} {H' : Hp} {st' : EV.St} {AS' : List Addr} {x : Addr} {c : Nat} {ns : List Nat} {ovs : List OV} (C : CfgE V1 P w K T W' H' σ env st' AS' AE) (hx : T.fx = some (.ref x)) (he : env[0]?.join = some (.oi c ns ovs)) :
    ∃ A, Got P w K V1.nm T.W0 T.H0 T.A0 [] .dct0 (.oi c ns ovs) st' W' H' AS' (.ref x) A := by
  have h0 := C.x0 _ hx
  have hE := C.cfg.env
  cases env with
  | nil => cases he
  | cons o env =>
    obtain ⟨y, r, A1, A2, e1, e2, h1, h2⟩ := hE
    rw [e1] at h0
    have e3 : y = some (.ref x) := by simpa using h0
    have e4 : o = some (.oi c ns ovs) := by
      cases o with
      | none => cases he
      | some o => simpa using he
    subst e3 e4
    have nd := List.nodup_append.mp C.cfg.nd
    have mA : ∀ a ∈ A1, a ∈ AE := fun a ha => by rw [e2]; exact List.mem_append_left _ ha
    refine ⟨A1, C.ent, C.cfg.str, by rw [List.append_nil]; exact nd.1, fun a ha => C.cfg.ff a (by rw [List.append_nil] at ha; exact List.mem_append_left _ ha), C.cfg.tr, h1, fun z => (by cases z), fun _ => ⟨?_, fun a ha => ?_⟩, fun z => (by cases z)⟩
    · have := nd.2.1
      rw [e2] at this
      exact (List.nodup_append.mp this).1
    · obtain ⟨q1, q2⟩ := C.cfg.ff a (List.mem_append_right _ (mA a ha))
      exact ⟨C.own a (mA a ha), q1, q2, fun q => nd.2.2 a q a (mA a ha) rfl⟩
theorem up2 {x dx : Addr} {o1 o2 : HO} (hx : H1 x = none) (hd : H1 dx = none) : ∀ a o, H1 a = some o → upd (upd H1 dx o1) x o2 a = some o := fun a o h => by
  unfold upd
  split
  · rename_i e
    rw [e, hx] at h; cases h
  · split
    · rename_i e
      rw [e, hd] at h; cases h
    · exact h
theorem entry1 {pvs : List PV} {us : List V} {N : List Str} {d : Def} {x dx : Addr} {c : Nat} (hc : c ∈ V1.nm.cs) (hx : H1 x = none) (hd : H1 dx = none) (hne : dx ≠ x) (h : ArgsR P w K V1.nm W H1 AS pvs st us) (hn : d.nv - d.np = N.length - (us.length + 1)) :
    CfgE V1 P w K (eT1 W H1 AS x) W (upd (upd H1 dx (.own x)) x (.ins (ca K V1.nm c) dx [])) (L2.start N (.ref x :: us)) (some (.oi c [] []) :: (pvs.map (fun v => some (.sh v)) ++ List.replicate (d.nv - d.np) none)) st AS [x] := by
  have up := up2 (o1 := HO.own x) (o2 := HO.ins (ca K V1.nm c) dx []) hx hd
  have kp : Kp W W H1 (upd (upd H1 dx (.own x)) x (.ins (ca K V1.nm c) dx [])) := ⟨fun _ h => h, fun _ h => h, fun _ _ h => h, fun a xs e => up a _ e, fun a o u e => up a _ e, fun a o _ e => up a o e⟩
  have hxs : x ∉ AS := fun q => by
    obtain ⟨o, e, _⟩ := h.str.there x q
    rw [hx] at e; cases e
  have hw : ¬ W.F x ∧ ¬ W.L x := ⟨fun q => h.tr x (.inl q) hx, fun q => h.tr x (.inr q) hx⟩
  refine ⟨⟨⟨some (.ref x), _, [x], [], rfl, rfl, ?_, envR_args (by rw [hn]; simp) (Reps.keep kp _ _ h.rep)⟩, h.str.keep kp fun a _ o e => up a o e, ?_, fun a ha => ?_, fun a ha q => ?_⟩, Ent.grow up, fun a ha => ?_, fun v e => ?_, trivial⟩
  · refine ⟨x, dx, [], [], rfl, rfl, ?_, ⟨hc, fun n h => (by cases h), rfl⟩, rfl, rfl⟩
    unfold upd
    rw [if_pos rfl]
  · rw [List.nodup_append]
    exact ⟨h.nd, by simp, fun a ha b hb e => hxs (by rw [← List.mem_singleton.mp hb, ← e]; exact ha)⟩
  · rcases List.mem_append.mp ha with z | z
    · exact h.ff a z
    · rw [List.mem_singleton.mp z]; exact hw
  · cases e : H1 a with
    | none => exact h.tr a ha e
    | some o => rw [up a o e] at q; cases q
  · rw [List.mem_singleton.mp ha]; exact hx
  · cases e; rfl
end
/-! ### the defs -/
section
variable {P : Program} {w : World} {K : PySem.W.Frag} {mg : Str → Option Value} {base : Heap} {nm : Nm} {cl : Cls} {txt : PV → Option Str} {tab : Tab} {G : Gt}
/-- all defs keep their promises with the fuel n -/
structure AllG (P : Program) (w : World) (K : PySem.W.Frag) (mg : Str → Option Value) (base : Heap) (nm : Nm) (cl : Cls) (txt : PV → Option Str) (tab : Tab) (G : Gt) (n : Nat) : Prop where
  fn : ∀ f fa fd ps, f < 1000 → FnI P w K G tab false f fa fd ps → FnG P w K mg base (L2.CX P w) (2 * n + 1) fa fd ps (spC P w K nm (callN cl txt tab n) f ps.length)
  ini : ∀ c fi fa fd ps, cl.init c = some fi → c ∈ nm.cs → FnI P w K G tab true fi fa fd ps → FnG P w K mg base (L2.CX P w) (2 * n + 1) fa fd ps (spI P w K nm (callN cl txt tab n) c ps.length)
theorem top_of (htx : TxtOk txt) (p : Prg P w K mg base nm cl tab G) {n : Nat} (a : AllG P w K mg base nm cl txt tab G n) {X : Cx} (e1 : X.prog = P) (e2 : X.w = w) (e3 : X.K = K) (e4 : X.mg = mg) (e5 : X.base = base) (calm : X.calm = true) (gd : X.A.guards = some []) (rm : Room (2 * n + 2) X.A) :
    Top ⟨cl, txt, callN cl txt tab n, nm⟩ G X := by
  subst e1 e2 e3 e4 e5
  have r1 : Room (2 * n + 1) X.A := rm.mono (by omega)
  refine ⟨calm, gd, by have := rm.un; omega, p.fc, ⟨fun c hc m hm => ?_, p.nfc, p.nft⟩, p.free, fun f n' np h => ?_, fun c n' np h => ?_, fun m n' np h => ?_, p.ex, rm.mono (by omega), p.fld, p.fs, p.cln, p.tys, htx, p.sm, p.exn, p.xn⟩
  · obtain ⟨hl, fa, fd, ps, q1, q2, q3, q4⟩ := p.own c hc m hm
    have F := a.fn m fa fd ps hl q2
    rw [q3] at F
    exact ⟨_, fa, fd, ps, q1, rm, F, q4⟩
  · obtain ⟨hl, fa, fd, ps, q1, q2, q3, q4, q5, q6⟩ := p.fn f n' np h
    have F := a.fn f fa fd ps hl q1
    rw [q2] at F
    exact ⟨hl, _, fa, fd, ps, F, r1, q3, q4, q5, q6⟩
  · obtain ⟨hl, hc, fi, fa, fd, ps, q1, q2, q3, q4, q5, q6, q7⟩ := p.kls c n' np h
    have F := a.ini c fi fa fd ps q1 hc q3
    rw [q4] at F
    exact ⟨hl, _, fa, fd, ps, q2, F, rm, q5, q6, q7⟩
  · obtain ⟨h1, h2⟩ := p.mt m n' np h
    refine ⟨fun c hc f hf => ?_, h1, fun k ks pm hk c hc f hf => ?_⟩
    · obtain ⟨hl, fa, fd, ps, q1, q2, q3, q4, _⟩ := h2 c hc f hf
      have F := a.fn f fa fd ps hl q2
      rw [q3] at F
      exact ⟨_, fa, fd, ps, q1, r1, F, q4⟩
    · obtain ⟨hl, fa, fd, ps, q1, q2, q3, q4, q5⟩ := h2 c hc f hf
      obtain ⟨e, kb⟩ := q5 k ks pm hk
      have F := a.fn f fa fd ps hl q2
      rw [q3, ← e] at F
      exact ⟨_, fa, fd, ps, q1, r1, F, kb⟩
theorem allG_zero : AllG P w K mg base nm cl txt tab G 0 := by
  refine ⟨fun f fa fd ps hl h => ⟨fun vs H Q E h => h.1, fun A out s H ar us vs Q E _ _ _ _ _ hsp => ?_⟩, fun c fi fa fd ps h1 hc h => ⟨fun vs H Q E h => h.1, fun A out s H ar us vs Q E _ _ _ _ _ hsp => ?_⟩⟩
  · obtain ⟨_, W, pvs, st, AS, ha, hc⟩ := hsp
    exact (show False from hc).elim
  · obtain ⟨_, x, dx, us, H1, W, pvs, st, AS, _, _, _, _, _, _, hc⟩ := hsp
    exact (show False from hc).elim
theorem allG_succ (htx : TxtOk txt) (p : Prg P w K mg base nm cl tab G) {n : Nat} (a : AllG P w K mg base nm cl txt tab G n) : AllG P w K mg base nm cl txt tab G (n + 1) := by
  refine ⟨fun f fa fd ps hl h => ?_, fun c fi fa fd ps h1 hc h => ?_⟩
  · obtain ⟨name, qual, params, body, scope, dvs, kws, N, d, F, S, ht, hnp, hnv, hk⟩ := h.ex
    obtain ⟨oc, od, dV, kV, doc, pm, an, cdv, ct, osl, rfl, lk, hcd, _, _⟩ := F.ex
    refine fng_of (k := 2 * n + 2) lk hcd S (fun vs H Q E h => h.1) fun A out s H vs Q E room gd hh hsp => ?_
    obtain ⟨hvl, W, pvs, st, AS, ha, hc⟩ := hsp
    have tp := top_of htx (X := cxOf (L2.CX P w) P w K mg base N qual scope fa cdv A out s H E) p a rfl rfl rfl rfl rfl rfl gd room
    have g : GoodC ⟨cl, txt, callN cl txt tab n, nm⟩ G N scope (cxOf (L2.CX P w) P w K mg base N qual scope fa cdv A out s H E) := ⟨tp, rfl, S.nd, rfl, S.kind⟩
    have run := sSs (E := E) g (fnB := fun _ => true) (fun _ _ => rfl) (L2.takes_of rfl rfl rfl rfl) (L2.passes_of rfl) rfl rfl d.body (fx := false) (xs := body) (T := eT0 W H AS) (fun q => absurd rfl q) hk
    refine ⟨_, run, EV.start d pvs, st, W, AS, [], entry0 ha (by rw [hnp, hnv, hvl]), ?_⟩
    have hpl : pvs.length = d.np := by rw [hnp, ← hvl, ha.rep.len]
    have hle : d.np ≤ d.nv := by
      rw [hnp, hnv]
      have := congrArg List.length S.pre
      rw [List.length_take] at this
      omega
    unfold CallEnd at hc
    simp only [callN, if_pos hl, ht, runDef, hpl, hle, and_self, if_true] at hc
    show EndS _ P w K E (eT0 W H AS) _ (exss cl txt (callN cl txt tab n) d.body (EV.start d pvs) st)
    cases hx : exss cl txt (callN cl txt tab n) d.body (EV.start d pvs) st with
    | bad => rw [hx] at hc; exact hc
    | exc c ns vs' st' => rw [hx] at hc; exact hc
    | ok o st' =>
      rw [hx] at hc
      cases o with
      | next env' => exact fun σ' W' H' AS' AE' C => hc W' H' AS' .non [] C.toGot
      | ret v => exact hc
  · obtain ⟨name, qual, params, body, scope, dvs, kws, N, d, F, S, ht, hnp, hnv, hk⟩ := h.ex
    obtain ⟨oc, od, dV, kV, doc, pm, an, cdv, ct, osl, rfl, lk, hcd, _, _⟩ := F.ex
    refine fng_of (k := 2 * n + 2) lk hcd S (fun vs H Q E h => h.1) fun A out s H vs Q E room gd hh hsp => ?_
    obtain ⟨hvl, x, dx, us, H1, W, pvs, st, AS, rfl, hx, hd, hne, rfl, ha, hce⟩ := hsp
    have tp := top_of htx (X := cxOf (L2.CX P w) P w K mg base N qual scope fa cdv A out s (upd (upd H1 dx (.own x)) x (.ins (ca K nm c) dx [])) E) p a rfl rfl rfl rfl rfl rfl gd room
    have g : GoodC ⟨cl, txt, callN cl txt tab n, nm⟩ G N scope (cxOf (L2.CX P w) P w K mg base N qual scope fa cdv A out s (upd (upd H1 dx (.own x)) x (.ins (ca K nm c) dx [])) E) := ⟨tp, rfl, S.nd, rfl, S.kind⟩
    have run := sSs (E := E) g (fnB := fun _ => true) (fun _ _ => rfl) (L2.takes_of rfl rfl rfl rfl) (L2.passes_of rfl) rfl rfl d.body (fx := true) (xs := body) (T := eT1 W H1 AS x) (fun _ => rfl) hk
    have hvl' : us.length + 1 = ps.length := by simpa using hvl
    refine ⟨_, run, _, st, W, AS, [x], entry1 (d := d) hc hx hd hne ha (by rw [hnp, hnv, hvl']), ?_⟩
    have hpl : pvs.length + 1 = d.np := by rw [hnp, ← hvl', ha.rep.len]
    have hle : d.np ≤ d.nv := by
      rw [hnp, hnv]
      have := congrArg List.length S.pre
      rw [List.length_take] at this
      omega
    have hi : ¬ (1000 + c < 1000) := by omega
    have hi2 : 1000 + c - 1000 = c := by omega
    simp only [callN, if_neg hi, hi2, h1, Option.bind_some, ht, runInit, hpl, hle, and_self, if_true] at hce
    show EndS _ P w K E (eT1 W H1 AS x) _ (exss cl txt (callN cl txt tab n) d.body _ st)
    cases hxx : exss cl txt (callN cl txt tab n) d.body (some (.oi c [] []) :: (pvs.map (fun v => some (.sh v)) ++ List.replicate (d.nv - d.np) none)) st with
    | bad => rw [hxx] at hce; exact hce
    | exc c ns vs' st' => rw [hxx] at hce; exact hce
    | ok o st' =>
      rw [hxx] at hce
      cases o with
      | next env' =>
        intro σ' W' H' AS' AE' C
        simp only at hce
        split at hce
        · rename_i c' ns vs' st'' heq
          split at heq
          · rename_i e0
            cases heq
            obtain ⟨A2, gt⟩ := C.toObj (x := x) rfl e0
            exact hce W' H' AS' A2 gt
          · cases heq
        · rename_i heq
          split at heq <;> cases heq
        · exact hce.elim
      | ret v => exact hce.elim
theorem allG (htx : TxtOk txt) (p : Prg P w K mg base nm cl tab G) : ∀ n, AllG P w K mg base nm cl txt tab G n
  | 0 => allG_zero
  | n + 1 => allG_succ htx p (allG htx p n)
end
end EV

set_option Elab.async false
set_option linter.all false
set_option maxRecDepth 100000
set_option maxHeartbeats 1000000
/-! EV9g: exceptions' own __init__. -/
namespace EV
open PySem PySem.Spec PyProof.Rows L2
section
variable {P : Program} {w : World} {K : PySem.W.Frag} {mg : Str → Option Value} {base : Heap} {nm : Nm} {c : Nat} {x qual : Str} {params : Arguments} {body : List Stmt} {scope : Scope} {f : Addr} {fd : FuncData}
theorem spX_len {ns : List Nat} {vs : List V} {H : Hp} {Q : VK} {E : XK} (h : spX K nm c ns vs H Q E) : vs.length = ns.length + 1 := by
  obtain ⟨a, ys, rfl, h, _⟩ := h
  rw [List.length_cons, h]
/-- self.n = y -/
theorem exc_one {n : Nat} {s y fl : Str} {p1 p2 p3 p4 : Pos} (F : FunD K x qual params [.Assign [.Attribute (.Name s p1) fl p2] (.Name y p3) p4] scope [] [] f fd) (S : FnScope [s, y] [s, y] scope) (hs : scope.names.lookup s = some .local) (hy : scope.names.lookup y = some .local)
    (ds : (s == ("__debug__" : Str)) = false ∧ (s == ("__classdict__" : Str)) = false) (dy : (y == ("__debug__" : Str)) = false ∧ (y == ("__classdict__" : Str)) = false) (hf : nm.fld n = fl) (T : OexC K (xa K nm c)) (hn : PySem.W.findIn K (.ref (xa K nm c)) fl = some none) :
    FnOk P w K mg base (L2.CX P w) 1 f fd [s, y] (spX K nm c [n]) := by
  refine F.ok S (fun vs H Q E h => spX_len h) fun cdv A outer st H vs Q E hr h => ⟨_, pss_one (ps_ost (pe_var (i := 0) (x := s) rfl (.inl hs) ds.1 ds.2) (pe_var (i := 1) (x := y) rfl (.inl hy) dy.1 dy.2)), ?_⟩
  obtain ⟨a, ys, rfl, hl, ha, hq⟩ := h
  match ys, hl with
  | [v], _ =>
    refine ⟨v, rfl, .ref a, rfl, a, xa K nm c, rfl, T, hn, .inl ⟨ha, fun dx h1 h2 => ?_⟩⟩
    refine hq _ dx ?_ ?_ h1 h2 fun b u hb e => ?_
    · unfold upd; rw [if_pos rfl]
    · unfold upd
      rw [if_neg h2, if_pos rfl]
      show some (exd dx [(fl, v)]) = some (exd dx [(nm.fld n, v)])
      rw [hf]
    · unfold upd
      rw [if_neg hb, if_neg (fun q => by rw [q, h1] at e; cases e)]
      exact e
theorem exc_two {n m : Nat} {s y z fl fl2 : Str} {p1 p2 p3 p4 q1 q2 q3 q4 : Pos} (F : FunD K x qual params [.Assign [.Attribute (.Name s p1) fl p2] (.Name y p3) p4, .Assign [.Attribute (.Name s q1) fl2 q2] (.Name z q3) q4] scope [] [] f fd) (S : FnScope [s, y, z] [s, y, z] scope)
    (hs : scope.names.lookup s = some .local) (hy : scope.names.lookup y = some .local) (hz : scope.names.lookup z = some .local)
    (ds : (s == ("__debug__" : Str)) = false ∧ (s == ("__classdict__" : Str)) = false) (dy : (y == ("__debug__" : Str)) = false ∧ (y == ("__classdict__" : Str)) = false) (dz : (z == ("__debug__" : Str)) = false ∧ (z == ("__classdict__" : Str)) = false)
    (hf : nm.fld n = fl) (hf2 : nm.fld m = fl2) (T : OexC K (xa K nm c)) (hn : PySem.W.findIn K (.ref (xa K nm c)) fl = some none) (hn2 : PySem.W.findIn K (.ref (xa K nm c)) fl2 = some none) :
    FnOk P w K mg base (L2.CX P w) 1 f fd [s, y, z] (spX K nm c [n, m]) := by
  refine F.ok S (fun vs H Q E h => spX_len h) fun cdv A outer st H vs Q E hr h => ⟨_, pss_cons (ps_ost (pe_var (i := 0) (x := s) rfl (.inl hs) ds.1 ds.2) (pe_var (i := 1) (x := y) rfl (.inl hy) dy.1 dy.2)) (pss_one (ps_ost (pe_var (i := 0) (x := s) rfl (.inl hs) ds.1 ds.2) (pe_var (i := 2) (x := z) rfl (.inl hz) dz.1 dz.2))), ?_⟩
  obtain ⟨a, ys, rfl, hl, ha, hq⟩ := h
  match ys, hl with
  | [v, u], _ =>
    refine ⟨v, rfl, .ref a, rfl, a, xa K nm c, rfl, T, hn, .inl ⟨ha, fun dx h1 h2 => ?_⟩⟩
    refine ⟨u, rfl, .ref a, rfl, a, xa K nm c, rfl, T, hn2, .inr ⟨dx, [(fl, v)], ?_, ?_, by simp, ?_⟩⟩
    · unfold upd; rw [if_pos rfl]
    · unfold upd; rw [if_neg h2, if_pos rfl]
    refine hq _ dx ?_ ?_ h1 h2 fun b o hb e => ?_
    · unfold upd; rw [if_neg (fun q => h2 q.symm), if_pos rfl]
    · unfold upd
      rw [if_pos rfl]
      show some (exd dx [(fl2, u), (fl, v)]) = some (exd dx [(nm.fld m, u), (nm.fld n, v)])
      rw [hf, hf2]
    · have hb2 : b ≠ dx := fun q => by rw [q, h1] at e; cases e
      unfold upd
      rw [if_neg hb2, if_neg hb, if_neg hb2]
      exact e
end
end EV

set_option Elab.async false
set_option linter.all false
set_option maxRecDepth 100000
set_option maxHeartbeats 1000000
/-! EV9h: a law's end, with the guards known. -/
namespace EV
open PySem PySem.Spec PyProof.Rows L2
/-- the law's own call, over a heap in which at most the script is tracked -/
structure Lone (K : PySem.W.Frag) (s : Shared) (a : Addr) (vs : List Value) (H : Hp) : Prop where
  one : ∀ b, H b ≠ none → b = a
  frz : ∀ b, H b = none ∨ ∃ o xs, H b = some (.frz o (.lst xs))
  out : H a ≠ none → K.lookup a = none
  scr : s.heap.get? a = some { cls := .type "list", data := .seq vs.toArray }
section
variable {P : Program} {w : World} {K : PySem.W.Frag} {mg mb : Str → Option Value} {s : Shared} {a : Addr} {vs : List Value} {H : Hp}
theorem Lone.dict (L : Lone K s a vs H) {b : Addr} {o : Obj} {es : Array DictEntry} {n : Nat} (e : s.heap.get? b = some o) (d : o.data = .dict es n) : H b = none := by
  rcases Classical.em (H b = none) with z | z
  · exact z
  · rw [L.one b z, L.scr] at e
    cases e
    cases d
theorem Lone.ns (L : Lone K s a vs H) {b : Addr} {m : Str → Option Value} (h : s.heap.Ns b m) : (hidT s.heap H).Ns b m := by
  obtain ⟨o, es, n, e, d, r⟩ := h
  exact ⟨o, es, n, hidT_get e (L.dict e d), d, r⟩
theorem Lone.kin (L : Lone K s a vs H) (h : K.In s.heap) : K.In (hidT s.heap H) := fun b o e => by
  refine hidT_get (h b o e) ?_
  rcases Classical.em (H b = none) with z | z
  · exact z
  · have q := L.one b z
    rw [q] at z e
    rw [L.out z] at e
    cases e
theorem Lone.env (L : Lone K s a vs H) (hk : K.In s.heap) (hm : s.heap.Ns mainGlobals mg) (hb : s.heap.Ns builtinsNs mb) (hbb : ∀ x : Str, x ≠ "__name__" → mb x = bootBuiltins x) (hl : s.heap.NoLimit) (hg : s.gens = #[]) (ok : HOk P w H s.heap) :
    Env0 P w K mg (hidT s.heap H) callerA [] s H := by
  obtain ⟨mc, h1, h2⟩ := hl
  refine { frames := rfl, mod := ⟨L.kin hk, L.ns hm, ⟨mb, L.ns hb, hbb⟩, ⟨mc, L.ns h1, h2⟩⟩, bs := fun b o e => of_hidT e, bsz := Nat.le_of_eq (hidT_size _ _), funs := trivial, frf := fun b h => ?_, hok := ok, bare := .of_eq hg }
  exact (List.not_mem_nil (show b ∈ ([] : List Addr) from h)).elim
theorem cx_none {H : Hp} {e : Value} {s s' : Shared} (h : L2.CX P w [] H s (fun _ _ _ => False) e s') : False := by
  obtain ⟨_, _, _, _, _, _, _, _, _, _, _, z⟩ := h
  exact z.2
/-- the def of the law, entered -/
theorem ev_call {k : Nat} {fa : Addr} {fd : FuncData} {x : Str} {sp : Sp} {ns : List Int} (hk : K.In s.heap) (hm : s.heap.Ns mainGlobals mg) (hb : s.heap.Ns builtinsNs mb) (hbb : ∀ x : Str, x ≠ "__name__" → mb x = bootBuiltins x) (hl : s.heap.NoLimit) (hg : s.gens = #[])
    (ha : s.heap.get? a = some { cls := .type "list", data := .seq vs.toArray }) (hi : IntsAre vs ns) (hn : ns.length ≤ sizeLine) (hr : Room k callerA)
    (F : ∀ base : Heap, K.In base → base.Ns mainGlobals mg → FnG P w K mg base (L2.CX P w) k fa fd [x] sp) (hx : ∀ (s : Shared) (u : Value), BindsTo s fd ⟨[u], []⟩ [(x, u)])
    (hsp : ∀ H : Hp, ((∃ o, H a = some (.frz o (.lst (ns.map V.int)))) ∨ KL K a (ns.map V.int)) → sp [.ref a] H (fun v _ => v = .bl true) fun _ _ _ => False) :
    codeAny (model P w) callerA (.call (.ref fa) ⟨[.ref a], []⟩) (fun r s' => r = .ok (.ret (.bool true)) ∧ OldK s.heap s'.heap ∧ s'.os = s.os ∧ AllBare s'.gens) s := by
  have rv := vals_ints hi
  have lv := hi.length
  have main : ∀ H : Hp, Lone K s a vs H → HOk P w H s.heap → ((∃ o, H a = some (.frz o (.lst (ns.map V.int)))) ∨ KL K a (ns.map V.int)) →
      codeAny (model P w) callerA (.call (.ref fa) ⟨[.ref a], []⟩) (fun r s' => r = .ok (.ret (.bool true)) ∧ OldK s.heap s'.heap ∧ s'.os = s.os ∧ AllBare s'.gens) s := fun H L ok hS => by
    have g := (F _ (L.kin hk) (L.ns hm)).go callerA [] s H ⟨[.ref a], []⟩ [.ref a] [.ref a] _ _ hr rfl (L.env hk hm hb hbb hl hg ok) (hx s (.ref a)) (.cons rfl .nil) (hsp H hS)
    refine codeAny_mono g fun r s2 q => ?_
    match r, q with
    | .error e, q => exact (cx_none q).elim
    | .ok .next, q => exact False.elim q
    | .ok .brk, q => exact False.elim q
    | .ok .cont, q => exact False.elim q
    | .ok (.ret u), q =>
      obtain ⟨v, H2, os, bare, un, ok2, rr, qq⟩ := q
      have qq' : v = .bl true := qq
      subst qq'
      obtain rfl : u = Value.bool true := rr
      refine ⟨rfl, OldK.of_keep fun b o e => ?_, os, bare⟩
      rcases L.frz b with z | ⟨ob, xs, z⟩
      · exact un.keep b o e z (fun h => List.not_mem_nil (show b ∈ ([] : List Addr) from h)) (by simp)
      · obtain ⟨e1, _⟩ := ok b _ z
        obtain ⟨e2, _⟩ := ok2 b _ (un.frzs b ob _ z)
        rw [e] at e1
        cases e1
        exact e2
  rcases hq : K.lookup a with _ | o
  · refine main (upd (fun _ => none) a (.frz { cls := .type "list", data := .seq vs.toArray } (.lst (ns.map V.int)))) ⟨fun b z => ?_, fun b => ?_, fun _ => hq, ha⟩ (fun b u z => ?_) (.inl ⟨_, if_pos rfl⟩)
    · rcases Classical.em (b = a) with h | h
      · exact h
      · exact absurd (if_neg h) z
    · rcases Classical.em (b = a) with h | h
      · exact .inr ⟨_, _, if_pos h⟩
      · exact .inl (if_neg h)
    · rcases Classical.em (b = a) with h | h
      · subst h
        cases (if_pos rfl).symm.trans z
        exact ⟨ha, by rw [List.length_map]; exact hn, vs, _, rv, ha⟩
      · cases (if_neg h).symm.trans z
  · have e := hk a o hq
    rw [ha] at e
    cases e
    refine main (fun _ => none) ⟨fun b z => absurd rfl z, fun b => .inl rfl, fun z => absurd rfl z, ha⟩ (fun b u z => by cases (show (none : Option HO) = some u from z)) (.inr ⟨_, vs.toArray, _, hq, rfl, rfl, rfl, ?_, by simpa using rv⟩)
    rw [List.size_toArray, lv]
    exact hn
end
/-- from the head's facts to the row -/
theorem ev_walk {l : PySem.W.OpenLaw} {n k : Nat} {q : Program} {loose : List Str} {XP : (Str → Option Value) → Heap → Prop} {YP : World → Heap → Prop} {d : DefRec} {x : Str} (hn : l.most = some n) (hn2 : n ≤ sizeLine) (hdf : d.params.defaults = []) (hr : Room k callerA)
    (F : ∀ (w : World) (mg : Str → Option Value) (fa : Addr) (h : Heap), YP w h → h.Ns mainGlobals mg → mg d.name = some (.ref fa) → ∃ (K : PySem.W.Frag) (fd : FuncData) (sp : Sp), K.In h ∧ (∀ (s : Shared) (u : Value), BindsTo s fd ⟨[u], []⟩ [(x, u)]) ∧
        (∀ (H : Hp) (a : Addr) (ns : List Int), ns.length ≤ n → ((∃ o, H a = some (.frz o (.lst (ns.map V.int)))) ∨ KL K a (ns.map V.int)) → sp [.ref a] H (fun v _ => v = .bl true) fun _ _ _ => False) ∧
        ∀ base : Heap, K.In base → base.Ns mainGlobals mg → FnG l.prog w K mg base (L2.CX l.prog w) k fa fd [x] sp) : PySem.W.WalkO q loose XP YP l.row.toRowW d [] (fun f vs => PySem.call f vs) := by
  refine Att.attach_call hn hdf fun w s₀ s₁ mg mb fa o pm cd doc a vs ns G Y ho hd hcd hmg hobj hi hlen hg => ?_
  obtain ⟨K, fd, sp, h1, h2, h3, h4⟩ := F w mg fa _ Y G.T.g hmg
  exact ev_call h1 G.T.g G.T.b G.T.builtins G.T.nolimit hg hobj hi (Nat.le_trans hlen hn2) hr h4 h2 fun H hS => h3 H a ns hlen hS
end EV

set_option Elab.async false
set_option linter.all false
set_option maxRecDepth 100000
set_option maxHeartbeats 1000000
/-! EV9i: what the head reads for the layer. -/
namespace EV
open PySem PySem.Spec PyProof.Rows L2
/-! ### classes with an own __eq__, exceptions: as they stand -/
def eqcB (K : PySem.W.Frag) (C f : Addr) : Bool := (match K.lookup C with
  | some ⟨.type t, _, .cls cd, sl⟩ => (match cd.mro, sl.toList with
    | [.ref C1, .type o], [_, _, _, _, some (.builtin _), _] => decide (t = "type") && (decide (C1 = C) && (decide (o = "object") && (!cd.hasDel && (PySem.W.nsOkIn K cd.ns && (He.eqO (PySem.W.nsIn K cd.ns "__eq__") (some (some (.ref f))) && He.eqO (PySem.W.nsIn K cd.ns "__ne__") (some none))))))
    | _, _ => false)
  | _ => false) && ((match K.lookup f with
  | some ⟨.type t, _, _, _⟩ => decide (t = "function")
  | _ => false) && (He.eqO (PySem.W.findIn K (.ref C) "__eq__") (some (some (.ref f))) && PySem.W.isFn K (.ref f)))
theorem arr_of {α : Type} {s : Array α} {l : List α} (h : s.toList = l) : s = l.toArray := by
  rw [← h]
theorem eqc_ok {K : PySem.W.Frag} {C f : Addr} (h : eqcB K C f = true) : EqC K C f := by
  unfold eqcB at h
  rw [Bool.and_eq_true, Bool.and_eq_true, Bool.and_eq_true] at h
  obtain ⟨h1, h2, h3, h4⟩ := h
  refine ⟨?_, ?_, He.eqO_ok h3, h4⟩
  · split at h1
    · rename_i t dd cd sl e
      split at h1
      · rename_i C1 o k0 k1 k2 k3 nid k5 em es
        rw [Bool.and_eq_true, Bool.and_eq_true, Bool.and_eq_true, Bool.and_eq_true, Bool.and_eq_true, Bool.and_eq_true, decide_eq_true_eq, decide_eq_true_eq, decide_eq_true_eq, Bool.not_eq_true'] at h1
        obtain ⟨rfl, rfl, rfl, hd, q1, q2, q3⟩ := h1
        obtain ⟨nm, bs, mro, ns, qn, hdc, sn, sub, ab, col, hdl⟩ := cd
        cases (show mro = _ from em)
        cases (show hdl = false from hd)
        rw [arr_of es] at e
        exact ⟨nm, qn, ns, bs, hdc, sn, sub, ab, col, dd, k0, k1, k2, k3, k5, nid, e, q1, He.eqO_ok q2, He.eqO_ok q3⟩
      · cases h1
    · cases h1
  · split at h2
    · rename_i t dd dt sl e
      rw [decide_eq_true_eq] at h2
      subst h2
      exact ⟨_, e, rfl⟩
    · cases h2
def oexB (K : PySem.W.Frag) (C : Addr) : Bool := (match K.lookup C with
  | some ⟨.type t, _, .cls cd, sl⟩ => (match cd.mro, sl.toList with
    | .ref C1 :: bm, [_, _, _, _, some (.builtin n), _] => decide (t = "type") && (decide (C1 = C) && (decide (n = "ValueError.__new__") && (!cd.hasDel && (cd.hasDict && PySem.HandSPX.refsVE bm))))
    | _, _ => false)
  | _ => false) && (He.eqO (PySem.W.findIn K (.ref C) "__setattr__") (some (some (.builtin "object.__setattr__"))) && (decide (PySem.W.subIn K (.ref C) (.type "BaseException") = some true) && (decide (PySem.W.typeIn K (.ref C) = some (.type "type")) && PySem.W.keepIn K (.ref C))))
theorem oex_ok {K : PySem.W.Frag} {C : Addr} (h : oexB K C = true) : OexC K C := by
  unfold oexB at h
  rw [Bool.and_eq_true, Bool.and_eq_true, Bool.and_eq_true, Bool.and_eq_true, decide_eq_true_eq, decide_eq_true_eq] at h
  obtain ⟨h1, h2, h3, h4, h5⟩ := h
  refine ⟨?_, He.eqO_ok h2, h3, h4, h5⟩
  split at h1
  · rename_i t dd cd sl e
    split at h1
    · rename_i C1 bm k0 k1 k2 k3 nid k5 em es
      rw [Bool.and_eq_true, Bool.and_eq_true, Bool.and_eq_true, Bool.and_eq_true, Bool.and_eq_true, decide_eq_true_eq, decide_eq_true_eq, decide_eq_true_eq, Bool.not_eq_true'] at h1
      obtain ⟨rfl, rfl, rfl, hd, q1, q2⟩ := h1
      obtain ⟨nm, bs, mro, ns, qn, hdc, sn, sub, ab, col, hdl⟩ := cd
      cases (show mro = _ from em)
      cases (show hdl = false from hd)
      cases (show hdc = true from q1)
      rw [arr_of es] at e
      exact ⟨nm, qn, ns, bs, bm, sn, sub, ab, col, dd, k0, k1, k2, k3, k5, e, q2⟩
    · cases h1
  · cases h1
/-! ### the layer's facts -/
def kinds (cs : List Nat) : List PV := [.non, .bl false, .int 0, .str Str.empty, .tup [], .lst false [], .dct false [] []] ++ cs.map fun c => .ins false c [] []
def tyX : Ty → Bool
  | .exc _ => false
  | _ => true
def isiB (K : PySem.W.Frag) (nm : Nm) : Bool := nm.tys.all tyX && (kinds nm.cs).all fun p => nm.tys.all fun t => match isiOne p t with
  | some b => decide (PySem.W.kitOne K (tyV K nm p) (tyU K nm t) = some b)
  | none => true
theorem isi_ok {K : PySem.W.Frag} {nm : Nm} (h : isiB K nm = true) (p : PV) (t : Ty) (b : Bool) (hp : ∀ f c ns vs, p = .ins f c ns vs → c ∈ nm.cs) (ht : t ∈ nm.tys) (e : isiOne p t = some b) : PySem.W.kitOne K (tyV K nm p) (tyU K nm t) = some b := by
  unfold isiB at h
  rw [Bool.and_eq_true] at h
  obtain ⟨h0, h⟩ := h
  have go : ∀ q : PV, q ∈ kinds nm.cs → isiOne q t = some b → PySem.W.kitOne K (tyV K nm q) (tyU K nm t) = some b := fun q hq eq => by
    have z := List.all_eq_true.mp (List.all_eq_true.mp h q hq) t ht
    rw [eq] at z
    exact of_decide_eq_true z
  cases p with
  | non => exact go .non (by simp [kinds]) e
  | bl x => exact go (.bl false) (by simp [kinds]) e
  | int x => exact go (.int 0) (by simp [kinds]) e
  | str x => exact go (.str Str.empty) (by simp [kinds]) e
  | tup x => exact go (.tup []) (by simp [kinds]) e
  | lst f x => exact go (.lst false []) (by simp [kinds]) e
  | dct f x y => exact go (.dct false [] []) (by simp [kinds]) e
  | ins f c ns vs => exact go (.ins false c [] []) (List.mem_append_right _ (List.mem_map.mpr ⟨c, hp f c ns vs rfl, rfl⟩)) e
  | exc c ns vs =>
    have z := List.all_eq_true.mp h0 t ht
    cases t <;> first
      | (cases e; done)
      | cases z
  | ref k => cases e
  | scr is => cases e
def factB (K : PySem.W.Frag) (nm : Nm) : Bool :=
  (nm.cs.all fun c => (He.Fa.cls (nm.cls c)).ok K && (nm.fs.all fun f => (He.Fa.noat (nm.cls c) (nm.fld f)).ok K) && (He.eqO (PySem.W.findIn K (.ref (ca K nm c)) "__class__") (some (some (.builtin "object.__class__"))) && decide (PySem.W.mroIn K (ca K nm c) (.type "object") = some true))) &&
  (He.eqO (PySem.W.specialIn K (.builtin "object.__class__") "__get__") (some (some (.builtin "getset_descriptor.__get__"))) && (decide (PySem.W.takesIn K (.builtin "object.__class__") = some true) && isiB K nm))
def fldInj (nm : Nm) : Bool := nm.fs.all fun f => nm.fs.all fun g => f == g || !decide (nm.fld f = nm.fld g)
theorem fact_ok {K : PySem.W.Frag} {nm : Nm} (hi : fldInj nm = true) (h : factB K nm = true) : Facts nm K := by
  unfold factB at h
  rw [Bool.and_eq_true, Bool.and_eq_true, Bool.and_eq_true, decide_eq_true_eq] at h
  obtain ⟨h1, h2, h3, h4⟩ := h
  have hc := fun c hc => by
    have z := List.all_eq_true.mp h1 c hc
    rw [Bool.and_eq_true, Bool.and_eq_true, Bool.and_eq_true, decide_eq_true_eq] at z
    exact z
  refine ⟨fun c hm => He.cls_ok (hc c hm).1.1, fun c hm f hf => He.noat_ok (List.all_eq_true.mp (hc c hm).1.2 f hf), fun f hf g hg e => ?_, fun c hm => ⟨He.eqO_ok (hc c hm).2.1, (hc c hm).2.2⟩, He.eqO_ok h2, h3, isi_ok h4⟩
  have z := List.all_eq_true.mp (List.all_eq_true.mp hi f hf) g hg
  rw [Bool.or_eq_true, beq_iff_eq, Bool.not_eq_true', decide_eq_false_iff_not] at z
  exact z.resolve_right fun q => q e
/-- sys.modules is a dict -/
def smB (K : PySem.W.Frag) : Bool := match K.lookup sysModules with
  | some o => decide (o.cls = .type "dict")
  | none => false
theorem sm_ok {K : PySem.W.Frag} (h : smB K = true) : smIn K := by
  unfold smB at h
  split at h
  · rename_i o e
    exact ⟨o, e, of_decide_eq_true h⟩
  · cases h
/-- who is no one's first -/
def nfB (K : PySem.W.Frag) (nm : Nm) : Bool := nm.cs.all fun c => (nm.cs.all fun d => PySem.W.notFirst K (ca K nm c) (.ref (ca K nm d))) && (["NoneType", "bool", "int", "str", "tuple", "list", "dict"].all fun t => PySem.W.notFirst K (ca K nm c) (.type t))
theorem nf_ok {K : PySem.W.Frag} {nm : Nm} (h : nfB K nm = true) : (∀ c ∈ nm.cs, ∀ d ∈ nm.cs, PySem.W.notFirst K (ca K nm c) (.ref (ca K nm d)) = true) ∧ ∀ c ∈ nm.cs, ∀ t ∈ ["NoneType", "bool", "int", "str", "tuple", "list", "dict"], PySem.W.notFirst K (ca K nm c) (.type t) = true := by
  have z := fun c hc => Bool.and_eq_true_iff.mp (List.all_eq_true.mp h c hc)
  exact ⟨fun c hc d hd => List.all_eq_true.mp (z c hc).1 d hd, fun c hc t ht => List.all_eq_true.mp (z c hc).2 t ht⟩
/-! ### the hook -/
abbrev AlE : Type := He.AlD × Bool
def obsE (n : Nat) (fa : List He.Fa) (fn : List He.DefD) (ex : PySem.W.Frag → Bool) (g : Addr → Option Obj) : AlE := (He.obsD fa fn (He.frG g (sysModules :: He.asD g n)), ex (He.frG g (sysModules :: He.asD g n)))
def hookE (n : Nat) (fa : List He.Fa) (fn : List He.DefD) (ex : PySem.W.Frag → Bool) : PySem.W.Hook where
  α := AlE
  obs := fun s => obsE n fa fn ex s.heap.get?
  val := fun _ => (He.valD fn, true)
  says := fun _ h => ∃ K : PySem.W.Frag, K.In h ∧ He.SaysD fa fn K ∧ ex K = true
  of := fun _ _ e => ⟨_, He.frG_in, congrArg (fun z : AlE => z.1) e, congrArg (fun z : AlE => z.2) e⟩
  keeps := fun _ _ _ ⟨K, hK, c⟩ k => ⟨K, PySem.W.Frag.In.keeps hK k, c⟩
theorem obsE_eq {n : Nat} {fa : List He.Fa} {fn : List He.DefD} {ex : PySem.W.Frag → Bool} {g : Addr → Option Obj} {s : Shared} (h : ∀ a, g a = s.heap.get? a) : obsE n fa fn ex g = (hookE n fa fn ex).obs s := by
  have e : g = s.heap.get? := funext h
  rw [e] <;> rfl
/-! ### a def's row -/
def noFree : NameKind → Bool
  | .free => false
  | _ => true
def scopeB (N ps : List Str) (sc : Scope) : Bool := kindB sc.kind && (!sc.isCoroutine && (!sc.isGenerator && (decide N.Nodup && (decide (N.take ps.length = ps) && ((ps.all fun x => match sc.names.lookup x with
  | some .local => true
  | some .cell => true
  | _ => false) && (sc.names.all fun y => noFree y.2))))))
theorem scope_ok {N ps : List Str} {sc : Scope} (h : scopeB N ps sc = true) : FnScope N ps sc := by
  unfold scopeB at h
  rw [Bool.and_eq_true, Bool.and_eq_true, Bool.and_eq_true, Bool.and_eq_true, Bool.and_eq_true, Bool.and_eq_true, Bool.not_eq_true', Bool.not_eq_true', decide_eq_true_eq, decide_eq_true_eq] at h
  obtain ⟨h1, h2, h3, h4, h5, h6, h7⟩ := h
  refine ⟨kind_of h1, h2, h3, h4, h5, fun x hx => ?_, fun y hy e => ?_⟩
  · have z := List.all_eq_true.mp h6 x hx
    split at z
    · exact .inl (by assumption)
    · exact .inr (by assumption)
    · cases z
  · have z := List.all_eq_true.mp h7 y hy
    rw [e] at z
    cases z
def rowB (G : Gt) (tab : Tab) (fx : Bool) (f : Nat) (d : He.DefD) (N : List Str) (np : Nat) : Bool := match tab f with
  | some df => scopeB N (N.take np) d.scope && (decide (df.np = np) && (decide ((N.take np).length = np) && (decide (df.nv = N.length) && chkSs G N (fun _ => true) d.scope fx df.body d.body)))
  | none => false
theorem row_ok {P : Program} {w : World} {K : PySem.W.Frag} {G : Gt} {tab : Tab} {fx : Bool} {f : Nat} {d : He.DefD} {N : List Str} {np : Nat} {fd : FuncData} (h : rowB G tab fx f d N np = true) (F : FunD K d.name d.qual d.params d.body d.scope (d.dvs K) (d.kws K) (He.fAd K d.at_) fd) :
    FnI P w K G tab fx f (He.fAd K d.at_) fd (N.take np) ∧ (N.take np).length = np := by
  unfold rowB at h
  split at h
  · rename_i df e
    rw [Bool.and_eq_true, Bool.and_eq_true, Bool.and_eq_true, Bool.and_eq_true, decide_eq_true_eq, decide_eq_true_eq, decide_eq_true_eq] at h
    obtain ⟨h1, h2, h3, h4, h5⟩ := h
    exact ⟨⟨_, _, _, _, _, _, _, N, df, F, scope_ok h1, e, by rw [h2, h3], h4, h5⟩, h3⟩
  · cases h
end EV

set_option Elab.async false
set_option linter.all false
set_option maxRecDepth 100000
set_option maxHeartbeats 1000000
/-! EV9j: a law's defs from the head's facts. -/
namespace EV
open PySem PySem.Spec PyProof.Rows L2
/-! ### keywords -/
def permU : List Arg → List Value → List Value
  | [], _ => []
  | .at i :: pm, us => us.getD i .none :: permU pm us
  | .dfl _ :: pm, us => .none :: permU pm us
def atB (n : Nat) : List Arg → Bool
  | [] => true
  | .at i :: pm => decide (i < n) && atB n pm
  | .dfl _ :: _ => false
theorem vals_get : ∀ {vs : List V} {us : List Value} {i : Nat}, Vals vs us → i < us.length → RelV (vs.getD i .non) (us.getD i .none)
  | _, _, _, .nil, h => absurd h (Nat.not_lt_zero _)
  | _, _, 0, .cons r _, _ => r
  | _ :: vs, _ :: us, i + 1, .cons _ h, hi => by
    rw [List.getD_cons_succ, List.getD_cons_succ]
    exact vals_get (i := i) h (Nat.lt_of_succ_lt_succ hi)
theorem perm_vals {vs : List V} {us : List Value} (h : Vals vs us) : ∀ {pm : List Arg}, atB us.length pm = true → Vals (permVs pm vs) (permU pm us)
  | [], _ => .nil
  | .at i :: pm, k => by
    rw [atB, Bool.and_eq_true, decide_eq_true_eq] at k
    exact .cons (vals_get h k.1) (perm_vals h k.2)
  | .dfl _ :: _, k => by cases k
theorem kw_of {K : PySem.W.Frag} {x qual : Str} {params : Arguments} {body : List Stmt} {scope : Scope} {kws : List (Str × V)} {f : Addr} {fd : FuncData} {ps ks : List Str} {n : Nat} {pm : List Arg} (F : FunD K x qual params body scope [] kws f fd) (hp : atB (n + ks.length) pm = true)
    (h : ∀ (kV doc pmo : Value) (an : Option Addr) (cdv ct : Value) (us ws : List Value), us.length = n → ws.length = ks.length → bindArgs (PySem.W.fnOf x qual params body scope .none kV doc pmo an cdv ct) ⟨us, ks.zip ws⟩ = pure (ps.zip (permU pm (us ++ ws)))) : KwB K fd ps n ks pm := by
  obtain ⟨oc, od, dV, kV, doc, pmo, an, cdv, ct, osl, rfl, lk, hcd, hD, hK⟩ := F.ex
  intro s vs us ws hin hu hw hv
  rcases hD with ⟨_, rfl⟩ | ⟨e, _⟩
  · exact ⟨_, .of_eq (h kV doc pmo an cdv ct us ws hu hw), perm_vals hv (by rw [List.length_append, hu, hw]; exact hp)⟩
  · exact absurd rfl e
/-! ### exceptions -/
def excfB (K : PySem.W.Frag) (nm : Nm) (c : Nat) (ns : List Nat) : Bool := oexB K (xa K nm c) && ((ns.all fun f => He.eqO (PySem.W.findIn K (.ref (xa K nm c)) (nm.fld f)) (some none)) && (He.eqO (PySem.W.findIn K (.ref (xa K nm c)) "__init__") (some (some (.ref (He.ma K (xa K nm c) "__init__")))) &&
  decide (PySem.W.typeIn K (.ref (He.ma K (xa K nm c) "__init__")) = some (.type "function"))))
theorem excf_ok {K : PySem.W.Frag} {nm : Nm} {c : Nat} {ns : List Nat} (h : excfB K nm c ns = true) : OexC K (xa K nm c) ∧ (∀ f ∈ ns, PySem.W.findIn K (.ref (xa K nm c)) (nm.fld f) = some none) ∧
    PySem.W.findIn K (.ref (xa K nm c)) "__init__" = some (some (.ref (He.ma K (xa K nm c) "__init__"))) ∧ PySem.W.typeIn K (.ref (He.ma K (xa K nm c) "__init__")) = some (.type "function") := by
  unfold excfB at h
  rw [Bool.and_eq_true, Bool.and_eq_true, Bool.and_eq_true, decide_eq_true_eq] at h
  obtain ⟨h1, h2, h3, h4⟩ := h
  exact ⟨oex_ok h1, fun f hf => He.eqO_ok (List.all_eq_true.mp h2 f hf), He.eqO_ok h3, h4⟩
/-- the classes of exceptions, what an except clause takes -/
def xnB (K : PySem.W.Frag) (nm : Nm) (xfs : List Nat) : Bool := nm.xs.all fun c => L2.xfB K (xa K nm c) && ((xfs.all fun f => He.eqO (PySem.W.findIn K (.ref (xa K nm c)) (nm.fld f)) (some none)) && (nm.xs.all fun d => decide (PySem.W.exmOne K (.ref (xa K nm c)) (.ref (xa K nm d)) = some (takes c d))))
theorem xn_ok {K : PySem.W.Frag} {nm : Nm} {xfs : List Nat} (h : xnB K nm xfs = true) : ∀ c ∈ nm.xs, L2.XfC K (xa K nm c) ∧ (∀ f ∈ xfs, PySem.W.findIn K (.ref (xa K nm c)) (nm.fld f) = some none) ∧ ∀ d ∈ nm.xs, PySem.W.exmOne K (.ref (xa K nm c)) (.ref (xa K nm d)) = some (takes c d) := fun c hc => by
  have z := List.all_eq_true.mp h c hc
  rw [Bool.and_eq_true, Bool.and_eq_true] at z
  exact ⟨L2.xfB_ok z.1, fun f hf => He.eqO_ok (List.all_eq_true.mp z.2.1 f hf), fun d hd => of_decide_eq_true (List.all_eq_true.mp z.2.2 d hd)⟩
section
variable {P : Program} {w : World} {K : PySem.W.Frag} {mg : Str → Option Value} {base : Heap} {nm : Nm}
theorem excF_of {c : Nat} {ns : List Nat} {fd : FuncData} {ps : List Str} (h : excfB K nm c ns = true) (F : FnOk P w K mg base (L2.CX P w) 1 (He.ma K (xa K nm c) "__init__") fd ps (spX K nm c ns)) (B : Binds K fd ps []) (hx : c ∈ nm.xs) (hn : (ns.map nm.fld).Nodup) : ExcF P w K mg base nm c ns := by
  obtain ⟨h1, h2, h3, h4⟩ := excf_ok h
  exact ⟨h1, hx, hn, h2, _, fd, ps, h3, h4, F, B⟩
/-! ### the law -/
/-- what is left to be shown of a law: its run in the small syntax, at each script -/
def PureLaw (txt : PV → Option Str) (tab : Tab) (n lawId most : Nat) : Prop := ∀ is : List Int, is.length ≤ most → ∃ st, callN pCls txt tab n lawId [.scr is] [] = .ok (.sh (.bl true)) st
theorem law_sp {txt : PV → Option Str} {tab : Tab} {n lawId most : Nat} (h : PureLaw txt tab n lawId most) {H : Hp} {a : Addr} {ns : List Int} (hl : ns.length ≤ most) (hS : (∃ o, H a = some (.frz o (.lst (ns.map V.int)))) ∨ KL K a (ns.map V.int)) :
    spC P w K nm (callN pCls txt tab n) lawId 1 [.ref a] H (fun v _ => v = .bl true) fun _ _ _ => False := by
  obtain ⟨st, e⟩ := h ns hl
  refine ⟨rfl, ⟨fun _ => False, fun _ => False, []⟩, [.scr ns], [], [], ⟨⟨_, _, rfl, ⟨a, rfl, hS⟩, rfl⟩, ⟨rfl, rfl⟩, List.nodup_nil, fun a h => (List.not_mem_nil h).elim, fun a h => by rcases h with h | h <;> exact (show False from h).elim⟩, ?_⟩
  unfold CallEnd
  rw [e]
  intro W' H' AS' v A g
  exact g.rep.2
end
end EV

set_option linter.all false
namespace L02
open PySem EV
def d_law_mixed : Def := ⟨2, 3, [.set 2 true (.op (.bop .mod) [(.op (.bi .int) [(.op (.bop .add) [(.op (.bop .add) [(.op (.bop .add) [(.op (.bop .mul) [(.var 0), (.lit (.int 2654435761))]), (.op (.bop .mul) [(.op (.bop .mul) [(.lit (.int 40503)), (.var 1)]), (.var 1)])]), (.op (.bop .mul) [(.lit (.int 97)), (.var 1)])]), (.lit (.int 13))])]), (.lit (.int 2147483647))]), .ret (.op (.bop .fdiv) [(.op (.bop .mod) [(.op (.bi .int) [(.op (.bop .add) [(.op (.bop .add) [(.op (.bop .mul) [(.var 2), (.var 2)]), (.op (.bop .mul) [(.lit (.int 7)), (.var 2)])]), (.lit (.int 11))])]), (.lit (.int 2147483629))]), (.lit (.int 3))])]⟩
def d_law_purse : Def := ⟨2, 3, [.set 2 true (.lit (.int 0)), .ifs (.val (.op (.cmp .lt) [(.var 1), (.op (.bi .len) [(.var 0)])])) [.set 2 true (.op .idx [(.var 0), (.var 1)])] [], .ret (.new (.lst [(.op (.bop .mod) [(.op (.bi .int) [(.op (.bi .max2) [(.op (.bop .sub) [(.var 2), (.op (.bop .pow) [(.lit (.int 10)), (.lit (.int 18))])]), (.lit (.int 0))])]), (.op (.bop .pow) [(.op (.bop .pow) [(.lit (.int 10)), (.lit (.int 60))]), (.lit (.int 8))])]), (.op (.bop .mod) [(.op (.bi .int) [(.var 2)]), (.lit (.int 2147483647))]), (.op (.bop .mul) [(.lit (.int 1000)), (.var 1)])]))]⟩
def d_law_draw : Def := ⟨2, 3, [.ifs (.val (.op (.cmp .gt) [(.op .idx [(.var 0), (.lit (.int 0))]), (.lit (.int 0))])) [.set 2 true (.op (.bop .mod) [(.op (.bi .int) [(.op .idx [(.var 0), (.lit (.int 0))])]), (.var 1)]), .put (.var 0) [(.op (.bop .fdiv) [(.op .idx [(.var 0), (.lit (.int 0))]), (.var 1)]), (.lit (.int 0))], .ret (.var 2)] [], .put (.var 0) [(.op (.bop .add) [(.op .idx [(.var 0), (.lit (.int 2))]), (.lit (.int 1))]), (.lit (.int 2))], .ret (.op (.bop .mod) [(.op (.bi .int) [(.call 200 [(.op .idx [(.var 0), (.lit (.int 1))]), (.op .idx [(.var 0), (.lit (.int 2))])])]), (.var 1)])]⟩
def d_law_great : Def := ⟨2, 4, [.set 2 true (.lit (.int 0)), .fors (.one 3) .rng1 [(.var 1)] [.set 2 true (.op (.bop .add) [(.op (.bop .mul) [(.lit (.int 10)), (.var 2)]), (.call 202 [(.var 0), (.lit (.int 10))])])], .ret (.var 2)]⟩
def d_law_asked : Def := ⟨2, 2, [.ifs (.val (.op (.cmp .eq) [(.var 0), (.lit (.int 0))])) [.ret (.call 1000 [(.op .idx [(.var 1), (.lit (.int 0))]), (.op .idx [(.var 1), (.lit (.int 1))])])] [], .ifs (.val (.op (.cmp .eq) [(.var 0), (.lit (.int 1))])) [.ret (.mcall 1 [(.op .idx [(.var 1), (.lit (.int 0))]), (.op .idx [(.var 1), (.lit (.int 1))])])] [], .ret (.ifx (.val (.op (.cmp .eq) [(.var 0), (.lit (.int 2))])) (.call 14 [(.op .idx [(.var 1), (.lit (.int 0))]), (.op .idx [(.var 1), (.lit (.int 1))])]) (.call 16 [(.op .idx [(.var 1), (.lit (.int 0))]), (.op .idx [(.var 1), (.lit (.int 1))]), (.op .idx [(.var 1), (.lit (.int 2))])]))]⟩
def d_law_caught : Def := ⟨2, 4, [.set 2 true (.lit .non), .try_ (.ex (.call 204 [(.var 0), (.var 1)])) [⟨1, some 3, 2, .lst [.lit (.str "number"), .fld 0]⟩, ⟨2, some 3, 2, .lst [.lit (.str "links"), .fld 1]⟩, ⟨3, some 3, 2, .lst [.lit (.str "net"), .fld 0]⟩, ⟨4, some 3, 2, .lst [.lit (.str "lots"), .fld 1]⟩, ⟨8, some 3, 2, .lst [.lit (.str "liars"), .fld 0]⟩, ⟨0, none, 2, .lst [.lit (.str "other")]⟩], .ret (.var 2)]⟩
def d_law_spoilt : Def := ⟨3, 4, [.set 3 true (.call 202 [(.var 0), (.op (.bop .add) [(.op (.bi .len) [(.var 1)]), (.lit (.int 1))])]), .ret (.tup [(.op (.bop .add) [(.op (.bop .add) [(.op (.bop .add) [(.op (.slc false true false) [(.var 1), (.var 3)]), (.lst [(.op .idx [(.var 2), (.call 202 [(.var 0), (.op (.bi .len) [(.var 2)])])])])]), (.op (.slc true false false) [(.var 1), (.var 3)])]), (.lst [(.lit .non)])]), (.var 3)])]⟩
def d_law_right : Def := ⟨1, 17, [.set 1 true (.call 1000 [(.lit (.int 4)), (.lst [(.tup [(.lit (.int 0)), (.lit (.int 1))]), (.tup [(.lit (.int 1)), (.lit (.int 3))])])]), .set 2 true (.op .idx [(.lst [(.lit (.int 2)), (.lit (.int 0)), (.op .neg [(.lit (.int 1))]), (.lit .non), (.lit (.bl true)), (.lit (.str "3")), (.tup [(.lit (.int 4))])]), (.call 202 [(.var 0), (.lit (.int 7))])]), .set 3 true (.op .idx [(.lst [(.lit .non), (.lit (.int 5)), (.lit (.str "links")), .dct0, (.lit (.bl true))]), (.call 202 [(.var 0), (.lit (.int 5))])]), .set 4 true (.lst [(.tup [(.lit (.int 1)), (.lit (.int 0))]), (.tup [(.lit (.int 1)), (.lit (.int 1))]), (.tup [(.lit (.int 0)), (.lit (.int 4))]), (.tup [(.op .neg [(.lit (.int 1))]), (.lit (.int 2))]), (.tup [(.lit (.int 0))]), (.tup [(.lit (.int 0)), (.lit (.int 1)), (.lit (.int 2))]), (.lst [(.lit (.int 0)), (.lit (.int 1))]), (.lit .non), (.tup [(.lit (.int 0)), (.lit (.bl true))]), (.tup [(.lit (.str "0")), (.lit (.int 1))]), (.tup [(.lit (.int 0)), (.lit (.int 1))])]), .setT [11, 12] (.call 206 [(.var 0), (.op (.bop .add) [(.op (.slc false true false) [(.lst [(.tup [(.lit (.int 0)), (.lit (.int 1))])]), (.lit (.int 0))]), (.op (.slc false true false) [(.lst [(.tup [(.lit (.int 0)), (.lit (.int 2))]), (.tup [(.lit (.int 1)), (.lit (.int 3))])]), (.call 202 [(.var 0), (.lit (.int 3))])])]), (.op (.slc false true false) [(.var 4), (.lit (.int 10))])]), .set 5 false (.lst [(.tup [(.lit (.int 0)), (.lst [(.var 2), (.var 11)])]), (.tup [(.lit (.int 0)), (.lst [(.lit (.int 4)), (.var 3)])]), (.tup [(.lit (.int 0)), (.lst [(.lit (.int 4)), (.var 11)])]), (.tup [(.lit (.int 0)), (.lst [(.lit (.int 4)), (.op (.bi .tuple) [(.var 11)])])])]), .app (.var 5) (.tup [(.lit (.int 0)), (.lst [(.lit (.int 4)), (.lst [(.tup [(.lit (.int 2)), (.lit (.int 3))]), (.tup [(.lit (.int 0)), (.lit (.int 1))]), (.tup [(.lit (.int 2)), (.lit (.int 3))])])])]), .frz 5, .set 6 true (.lst [(.lst [(.lit (.str "number")), (.var 2)]), (.lst [(.lit (.str "links")), (.lit .non)]), (.lst [(.lit (.str "links")), (.var 12)]), (.lst [(.lit (.str "links")), (.var 12)]), (.lst [(.lit (.str "links")), (.lit (.int 2))])]), .set 7 true (.op .idx [(.lst [(.lit (.int 4)), (.op .neg [(.lit (.int 1))]), (.lit .non), (.lit (.bl true)), (.lit (.str "0")), (.tup [(.lit (.int 0))])]), (.call 202 [(.var 0), (.lit (.int 6))])]), .set 8 true (.op .idx [(.lst [(.op .neg [(.lit (.int 1))]), (.lit .non), (.lit (.bl true)), (.lit (.str "1"))]), (.call 202 [(.var 0), (.lit (.int 4))])]), .set 5 true (.op (.bop .add) [(.var 5), (.lst [(.tup [(.lit (.int 1)), (.lst [(.var 1), (.var 7)])]), (.tup [(.lit (.int 1)), (.lst [(.var 1), (.lit (.int 3))])]), (.tup [(.lit (.int 2)), (.lst [(.var 3), (.var 7)])]), (.tup [(.lit (.int 2)), (.lst [(.var 1), (.var 8)])])])]), .set 6 true (.op (.bop .add) [(.var 6), (.lst [(.lst [(.lit (.str "number")), (.var 7)]), (.lit .non), (.lst [(.lit (.str "net")), (.var 3)]), (.lst [(.lit (.str "number")), (.var 8)])])]), .set 9 true (.lst [(.tup [(.lit (.int 1)), (.lit (.int 0))]), (.tup [(.lit (.int 0)), (.lit (.int 0))]), (.tup [(.lit (.int 4))]), (.lst [(.lit (.int 0))]), (.lit .non), (.lit (.int 5)), (.tup [(.lit (.str "0"))]), (.tup [(.lit (.bl true))])]), .setT [13, 14] (.call 206 [(.var 0), (.op (.slc false true false) [(.lst [(.tup [(.lit (.int 0)), (.lit (.int 1))]), (.tup []), (.tup [(.lit (.int 0)), (.lit (.int 1)), (.lit (.int 2)), (.lit (.int 3))])]), (.call 202 [(.var 0), (.lit (.int 4))])]), (.var 9)]), .set 10 true (.op .idx [(.lst [(.tup [(.lit (.int 1)), (.lit (.int 0))]), (.tup [(.lit (.int 0)), (.lit (.int 0))]), (.tup [(.lit (.int 4))]), (.lst [(.lit (.int 0))]), (.lit .non), (.lit (.int 5)), (.tup [(.lit (.str "0"))]), (.tup [(.lit (.bl true))]), (.tup [(.op .neg [(.lit (.int 1))])])]), (.call 202 [(.var 0), (.lit (.int 9))])]), .set 5 false (.op (.bop .add) [(.var 5), (.lst [(.tup [(.lit (.int 3)), (.lst [(.var 3), (.var 13), (.var 10)])]), (.tup [(.lit (.int 3)), (.lst [(.var 1), (.var 3), (.var 10)])]), (.tup [(.lit (.int 3)), (.lst [(.var 1), (.var 13), (.var 10)])])])]), .app (.var 5) (.tup [(.lit (.int 3)), (.lst [(.var 1), (.lst [(.tup [(.lit (.int 0)), (.lit (.int 1))])]), (.var 10)])]), .frz 5, .set 6 true (.op (.bop .add) [(.var 6), (.lst [(.lst [(.lit (.str "net")), (.var 3)]), (.lst [(.lit (.str "lots")), (.lit .non)]), (.lst [(.lit (.str "lots")), (.var 14)]), (.lst [(.lit (.str "liars")), (.var 10)])])]), .set 5 true (.op (.bop .add) [(.var 5), (.lst [(.tup [(.lit (.int 3)), (.lst [(.var 1), (.tup []), (.tup [])])]), (.tup [(.lit (.int 0)), (.lst [(.lit (.int 3)), (.tup [])])]), (.tup [(.lit (.int 2)), (.lst [(.var 1), (.lit (.int 0))])])])]), .ret (.op (.cmp .eq) [(.op (.bi .str) [(.comp (.call 205 [(.var 15), (.var 16)]) (.many [15, 16]) .plain [(.var 5)] [])]), (.op (.bi .str) [(.op (.bop .add) [(.var 6), (.lst [(.lit .non), (.lit .non), (.lit .non)])])])])]⟩
def d_law : Def := ⟨1, 4, [.fors (.one 1) .rng1 [(.op (.bop .add) [(.lit (.int 1)), (.op (.bi .min2) [(.lit (.int 8)), (.op (.bi .len) [(.var 0)])])])] [.set 2 true (.call 201 [(.var 0), (.var 1)]), .fors (.one 3) .rng1 [(.lit (.int 3))] [.ifs (.not (.val (.call 207 [(.var 2)]))) [.ret (.lit (.bl false))] []]], .ret (.lit (.bl true))]⟩
def lawList : List Def := [d_law_mixed, d_law_purse, d_law_draw, d_law_great, d_law_asked, d_law_caught, d_law_spoilt, d_law_right, d_law]
def tab : Tab := fun i => if i < 200 then progList[i]? else lawList[i - 200]?
end L02

set_option Elab.async false
set_option linter.all false
set_option maxRecDepth 100000
set_option maxHeartbeats 1000000
/-! M00: what a run in the small syntax comes to, step by step. -/
namespace EV
open PySem
/-- a run ends well, and so -/
def OkR {α : Type} (r : R α) (P : α → EV.St → Prop) : Prop := match r with
  | .ok a st => P a st
  | _ => False
theorem OkR.mono {α : Type} {r : R α} {P Q : α → EV.St → Prop} (h : OkR r P) (i : ∀ a st, P a st → Q a st) : OkR r Q := by
  cases r with
  | ok a st => exact i a st h
  | exc c ns vs st => exact h.elim
  | bad => exact h.elim
theorem OkR.get {α : Type} {r : R α} {P : α → EV.St → Prop} (h : OkR r P) : ∃ a st, r = .ok a st ∧ P a st := by
  cases r with
  | ok a st => exact ⟨a, st, rfl, h⟩
  | exc c ns vs st => exact h.elim
  | bad => exact h.elim
theorem OkR.of {α : Type} {r : R α} {P : α → EV.St → Prop} {a : α} {st : EV.St} (e : r = .ok a st) (h : P a st) : OkR r P := by
  rw [e]; exact h
theorem OkR.bind {α β : Type} {r : R α} {f : α → EV.St → R β} {P : β → EV.St → Prop} (h : OkR r fun a st => OkR (f a st) P) : OkR (r.bind f) P := by
  cases r with
  | ok a st => exact h
  | exc c ns vs st => exact h.elim
  | bad => exact h.elim
theorem OkR.lift {α : Type} {o : Option α} {st : EV.St} {P : α → EV.St → Prop} {a : α} (e : o = some a) (h : P a st) : OkR (EV.lift o st) P := by
  rw [e]; exact h
/-! the same, not to be looked into -/
section
variable (cl : Cls) (txt : PV → Option Str) (call : Call)
@[irreducible] def VE (e : E) (env : EV.Env) (st : EV.St) (P : OV → EV.St → Prop) : Prop := OkR (ev cl txt call e env st) P
@[irreducible] def VL (es : List E) (env : EV.Env) (st : EV.St) (P : List OV → EV.St → Prop) : Prop := OkR (evs cl txt call es env st) P
@[irreducible] def VT (t : T) (env : EV.Env) (st : EV.St) (P : Bool → EV.St → Prop) : Prop := OkR (evT cl txt call t env st) P
@[irreducible] def VA (t : List T) (env : EV.Env) (st : EV.St) (P : Bool → EV.St → Prop) : Prop := OkR (evTA cl txt call t env st) P
@[irreducible] def VO (t : List T) (env : EV.Env) (st : EV.St) (P : Bool → EV.St → Prop) : Prop := OkR (evTO cl txt call t env st) P
@[irreducible] def XS (s : S) (env : EV.Env) (st : EV.St) (P : Out → EV.St → Prop) : Prop := OkR (exs cl txt call s env st) P
@[irreducible] def XL (ss : List S) (env : EV.Env) (st : EV.St) (P : Out → EV.St → Prop) : Prop := OkR (exss cl txt call ss env st) P
end
section
variable {cl : Cls} {txt : PV → Option Str} {call : Call} {env : EV.Env} {st : EV.St}
theorem VE.mono {e : E} {P Q : OV → EV.St → Prop} (h : VE cl txt call e env st P) (i : ∀ a s, P a s → Q a s) : VE cl txt call e env st Q := by
  simp only [VE] at *
  exact OkR.mono h i
theorem VE.r {e : E} {P : OV → EV.St → Prop} (h : VE cl txt call e env st P) : OkR (ev cl txt call e env st) P := by
  simp only [VE] at h
  exact h
theorem VE.of {e : E} {P : OV → EV.St → Prop} (h : OkR (ev cl txt call e env st) P) : VE cl txt call e env st P := by
  simp only [VE]
  exact h
theorem VL.mono {e : List E} {P Q : List OV → EV.St → Prop} (h : VL cl txt call e env st P) (i : ∀ a s, P a s → Q a s) : VL cl txt call e env st Q := by
  simp only [VL] at *
  exact OkR.mono h i
theorem VL.r {e : List E} {P : List OV → EV.St → Prop} (h : VL cl txt call e env st P) : OkR (evs cl txt call e env st) P := by
  simp only [VL] at h
  exact h
theorem VL.of {e : List E} {P : List OV → EV.St → Prop} (h : OkR (evs cl txt call e env st) P) : VL cl txt call e env st P := by
  simp only [VL]
  exact h
theorem VT.mono {e : T} {P Q : Bool → EV.St → Prop} (h : VT cl txt call e env st P) (i : ∀ a s, P a s → Q a s) : VT cl txt call e env st Q := by
  simp only [VT] at *
  exact OkR.mono h i
theorem VT.r {e : T} {P : Bool → EV.St → Prop} (h : VT cl txt call e env st P) : OkR (evT cl txt call e env st) P := by
  simp only [VT] at h
  exact h
theorem VT.of {e : T} {P : Bool → EV.St → Prop} (h : OkR (evT cl txt call e env st) P) : VT cl txt call e env st P := by
  simp only [VT]
  exact h
theorem XS.mono {e : S} {P Q : Out → EV.St → Prop} (h : XS cl txt call e env st P) (i : ∀ a s, P a s → Q a s) : XS cl txt call e env st Q := by
  simp only [XS] at *
  exact OkR.mono h i
theorem XS.r {e : S} {P : Out → EV.St → Prop} (h : XS cl txt call e env st P) : OkR (exs cl txt call e env st) P := by
  simp only [XS] at h
  exact h
theorem XS.of {e : S} {P : Out → EV.St → Prop} (h : OkR (exs cl txt call e env st) P) : XS cl txt call e env st P := by
  simp only [XS]
  exact h
theorem XL.mono {e : List S} {P Q : Out → EV.St → Prop} (h : XL cl txt call e env st P) (i : ∀ a s, P a s → Q a s) : XL cl txt call e env st Q := by
  simp only [XL] at *
  exact OkR.mono h i
theorem XL.r {e : List S} {P : Out → EV.St → Prop} (h : XL cl txt call e env st P) : OkR (exss cl txt call e env st) P := by
  simp only [XL] at h
  exact h
theorem XL.of {e : List S} {P : Out → EV.St → Prop} (h : OkR (exss cl txt call e env st) P) : XL cl txt call e env st P := by
  simp only [XL]
  exact h
/-- a comprehension's tests, no more than one -/
theorem vts_nil {P : Bool → EV.St → Prop} (h : P true st) : OkR (evTs cl txt call [] env st) P := by
  rw [evTs]; exact h
theorem vts_one {t : T} {P : Bool → EV.St → Prop} (h : VT cl txt call t env st P) : OkR (evTs cl txt call [t] env st) P := by
  rw [evTs]
  refine OkR.bind (h.r.mono fun b s q => ?_)
  cases b with
  | true =>
    show OkR (evTs cl txt call [] env s) P
    rw [evTs]; exact q
  | false => exact q
end
section
variable {cl : Cls} {txt : PV → Option Str} {call : Call} {env : EV.Env} {st : EV.St} {P : OV → EV.St → Prop} {B : Bool → EV.St → Prop}
/-! ### expressions -/
theorem ve_var {i : Nat} {v : OV} (e : env[i]?.join = some v) (h : P v st) : VE cl txt call (.var i) env st P := by
  simp only [VE, VL, VT, VA, VO, XS, XL] at *
  rw [ev]; exact OkR.lift e h
theorem ve_lit {v : PV} (h : P (.sh v) st) : VE cl txt call (.lit v) env st P := by
  simp only [VE, VL, VT, VA, VO, XS, XL] at *
  rw [ev]; exact h
theorem ves_nil {Q : List OV → EV.St → Prop} (h : Q [] st) : VL cl txt call [] env st Q := by
  simp only [VE, VL, VT, VA, VO, XS, XL] at *
  rw [evs]; exact h
theorem ves_cons {e : E} {es : List E} {Q : List OV → EV.St → Prop} (h : VE cl txt call e env st fun v s1 => (isFld e && v.own && !pureEs es) = false ∧ VL cl txt call es env s1 fun vs s2 => Q (v :: vs) s2) : VL cl txt call (e :: es) env st Q := by
  simp only [VE, VL, VT, VA, VO, XS, XL] at *
  rw [evs]
  refine OkR.bind (h.mono fun v s1 ⟨h1, h2⟩ => ?_)
  rw [h1]
  exact OkR.bind h2
theorem ve_op {o : Op} {es : List E} (h : VL cl txt call es env st fun ovs s1 => ∃ v, opV cl txt call s1 o (opns es ovs) = some v ∧ P v s1) : VE cl txt call (.op o es) env st P := by
  simp only [VE, VL, VT, VA, VO, XS, XL] at *
  rw [ev]
  exact OkR.bind (h.mono fun ovs s1 ⟨v, e, q⟩ => OkR.lift e q)
theorem ve_op1 {o : Op} {a : E} (h : VE cl txt call a env st fun x s1 => ∃ v, opV cl txt call s1 o [opn a x] = some v ∧ P v s1) : VE cl txt call (.op o [a]) env st P :=
  ve_op (ves_cons (h.mono fun x s1 q => ⟨by simp [pureEs], ves_nil q⟩))
theorem ve_op2 {o : Op} {a b : E} (h : VE cl txt call a env st fun x s1 => (isFld a && x.own && !pureEs [b]) = false ∧ VE cl txt call b env s1 fun y s2 => ∃ v, opV cl txt call s2 o [opn a x, opn b y] = some v ∧ P v s2) : VE cl txt call (.op o [a, b]) env st P :=
  ve_op (ves_cons (h.mono fun x s1 ⟨q1, q2⟩ => ⟨q1, ves_cons (q2.mono fun y s2 q => ⟨by simp [pureEs], ves_nil q⟩)⟩))
theorem ve_tup {es : List E} (h : VL cl txt call es env st fun ovs s1 => ∃ vs, taks es ovs = some vs ∧ P (.sh (.tup vs)) s1) : VE cl txt call (.tup es) env st P := by
  simp only [VE, VL, VT, VA, VO, XS, XL] at *
  rw [ev]
  exact OkR.bind (h.mono fun ovs s1 ⟨v, e, q⟩ => OkR.lift (by rw [e]; rfl) q)
theorem ve_lst {es : List E} (h : VL cl txt call es env st fun ovs s1 => ∃ vs, taks es ovs = some vs ∧ P (.ol vs) s1) : VE cl txt call (.lst es) env st P := by
  simp only [VE, VL, VT, VA, VO, XS, XL] at *
  rw [ev]
  exact OkR.bind (h.mono fun ovs s1 ⟨v, e, q⟩ => OkR.lift (by rw [e]; rfl) q)
theorem ve_dct0 (h : P (.od [] []) st) : VE cl txt call .dct0 env st P := by
  simp only [VE, VL, VT, VA, VO, XS, XL] at *
  rw [ev]; exact h
theorem ve_new {a : E} (hp : isPl a = false) (h : VE cl txt call a env st fun x s1 => x.own = true ∧ P (.sh (.ref s1.length)) (s1 ++ [x])) : VE cl txt call (.new a) env st P := by
  simp only [VE, VL, VT, VA, VO, XS, XL] at *
  rw [ev]
  refine OkR.bind (h.mono fun x s1 ⟨q1, q2⟩ => ?_)
  rw [hp]
  cases x with
  | sh v => cases q1
  | ol xs => exact q2
  | od ks vs => exact q2
  | oi c ns vs => exact q2
theorem ve_fld {a : E} {f : Nat} (h : VE cl txt call a env st fun x s1 => ∃ v, (if isPl a then fldV f s1 x else fldV f [] (.sh x.freeze)) = some v ∧ P v s1) : VE cl txt call (.fld a f) env st P := by
  simp only [VE, VL, VT, VA, VO, XS, XL] at *
  rw [ev]
  exact OkR.bind (h.mono fun x s1 ⟨v, e, q⟩ => OkR.lift e q)
theorem ve_ifx {c : T} {a b : E} (h : VT cl txt call c env st fun t s1 => match t with
    | true => VE cl txt call a env s1 fun x s2 => ∃ v, tak a x = some v ∧ P (.sh v) s2
    | false => VE cl txt call b env s1 fun x s2 => ∃ v, tak b x = some v ∧ P (.sh v) s2) : VE cl txt call (.ifx c a b) env st P := by
  simp only [VE, VL, VT, VA, VO, XS, XL] at *
  rw [ev]
  refine OkR.bind (h.mono fun t s1 q => ?_)
  cases t with
  | true => exact OkR.bind (q.mono fun x s2 ⟨v, e, z⟩ => OkR.lift (by rw [e]; rfl) z)
  | false => exact OkR.bind (q.mono fun x s2 ⟨v, e, z⟩ => OkR.lift (by rw [e]; rfl) z)
theorem ve_and1 {e : E} (h : VE cl txt call e env st fun x s1 => ∃ v, tak e x = some v ∧ P (.sh v) s1) : VE cl txt call (.and [e]) env st P := by
  simp only [VE, VL, VT, VA, VO, XS, XL] at *
  rw [ev, evAnd]
  exact OkR.bind (h.mono fun x s1 ⟨v, e, q⟩ => OkR.lift (by rw [e]; rfl) q)
theorem ve_and2 {e e2 : E} {es : List E} (h : VE cl txt call e env st fun x s1 => ∃ b, x = .sh (.bl b) ∧ match b with
    | true => VE cl txt call (.and (e2 :: es)) env s1 P
    | false => P (.sh (.bl false)) s1) : VE cl txt call (.and (e :: e2 :: es)) env st P := by
  simp only [VE, VL, VT, VA, VO, XS, XL] at *
  rw [ev, evAnd]
  rotate_left
  · intro z; cases z
  refine OkR.bind (h.mono fun x s1 ⟨b, e, q⟩ => ?_)
  subst e
  cases b with
  | true =>
    rw [ev] at q
    exact q
  | false => exact q
theorem ve_or1 {e : E} (h : VE cl txt call e env st fun x s1 => ∃ v, tak e x = some v ∧ P (.sh v) s1) : VE cl txt call (.or [e]) env st P := by
  simp only [VE, VL, VT, VA, VO, XS, XL] at *
  rw [ev, evOr]
  exact OkR.bind (h.mono fun x s1 ⟨v, e, q⟩ => OkR.lift (by rw [e]; rfl) q)
theorem ve_or2 {e e2 : E} {es : List E} (h : VE cl txt call e env st fun x s1 => ∃ b, x = .sh (.bl b) ∧ match b with
    | false => VE cl txt call (.or (e2 :: es)) env s1 P
    | true => P (.sh (.bl true)) s1) : VE cl txt call (.or (e :: e2 :: es)) env st P := by
  simp only [VE, VL, VT, VA, VO, XS, XL] at *
  rw [ev, evOr]
  rotate_left
  · intro z; cases z
  refine OkR.bind (h.mono fun x s1 ⟨b, e, q⟩ => ?_)
  subst e
  cases b with
  | false =>
    rw [ev] at q
    exact q
  | true => exact q
/-! ### calls -/
theorem callB_pure {es : List E} {ovs : List OV} {f : Nat} {vs : List PV} (hn : PV.noRefs vs = true) (h : OkR (call f vs []) fun v s => s = [] ∧ (lents es ovs && !v.clean) = false ∧ P v st) : OkR (callB call es ovs f vs st) P := by
  obtain ⟨v, s, e, rfl, h1, h2⟩ := h.get
  unfold callB
  rw [hn, e]
  show OkR (if (lents es ovs && !v.clean) = true then R.bad else R.ok v st) P
  rw [h1]
  exact h2
theorem callB_ref {es : List E} {ovs : List OV} {f : Nat} {vs : List PV} (hn : PV.noRefs vs = false) (h1 : (fldOwn es ovs || lents es ovs) = false) (h : OkR (call f vs st) P) : OkR (callB call es ovs f vs st) P := by
  unfold callB
  rw [hn, h1]
  exact h
theorem ve_call {f : Nat} {es : List E} (h : VL cl txt call es env st fun ovs s1 => OkR (callB call es ovs f (opns es ovs) s1) P) : VE cl txt call (.call f es) env st P := by
  simp only [VE, VL, VT, VA, VO, XS, XL] at *
  rw [ev]
  exact OkR.bind h
theorem ve_callK {f : Nat} {es : List E} {pm : List Arg} (h : VL cl txt call es env st fun ovs s1 => ∃ vs, argsOf pm (opns es ovs) = some vs ∧ OkR (callB call es ovs f vs s1) P) : VE cl txt call (.callK f es pm) env st P := by
  simp only [VE, VL, VT, VA, VO, XS, XL] at *
  rw [ev]
  refine OkR.bind (h.mono fun ovs s1 ⟨vs, e, q⟩ => ?_)
  rw [e]
  exact q
theorem ve_mcall {m : Nat} {e : E} {es : List E} (h : VE cl txt call e env st fun ov s1 => ∃ c f, clsOf s1 ov = some c ∧ cl.meth c m = some f ∧ VL cl txt call es env s1 fun ovs s2 => (isFld e && ov.own && !pureEs es) = false ∧ OkR (callB call (e :: es) (ov :: ovs) f (opns (e :: es) (ov :: ovs)) s2) P) :
    VE cl txt call (.mcall m (e :: es)) env st P := by
  simp only [VE, VL, VT, VA, VO, XS, XL] at *
  rw [ev]
  refine OkR.bind (h.mono fun ov s1 ⟨c, f, h1, h2, q⟩ => ?_)
  rw [h1]
  show OkR (match cl.meth c m with | some f => _ | none => _) P
  rw [h2]
  refine OkR.bind (q.mono fun ovs s2 ⟨h3, h4⟩ => ?_)
  rw [h3]
  exact h4
theorem ve_mcallK {m : Nat} {e : E} {es : List E} {pm : List Arg} (h : VE cl txt call e env st fun ov s1 => ∃ c f, clsOf s1 ov = some c ∧ cl.meth c m = some f ∧ VL cl txt call es env s1 fun ovs s2 => (isFld e && ov.own && !pureEs es) = false ∧ ∃ vs, argsOf pm (opns es ovs) = some vs ∧ OkR (callB call (e :: es) (ov :: ovs) f (opn e ov :: vs) s2) P) :
    VE cl txt call (.mcallK m (e :: es) pm) env st P := by
  simp only [VE, VL, VT, VA, VO, XS, XL] at *
  rw [ev]
  refine OkR.bind (h.mono fun ov s1 ⟨c, f, h1, h2, q⟩ => ?_)
  rw [h1]
  show OkR (match cl.meth c m with | some f => _ | none => _) P
  rw [h2]
  refine OkR.bind (q.mono fun ovs s2 ⟨h3, vs, h4, h5⟩ => ?_)
  rw [h3, h4]
  exact h5
/-! ### comprehensions -/
/-- a comprehension that is the same wherever it is run -/
theorem comp_pure {el : EV.Env → EV.St → R OV} {e : E} {tst : EV.Env → EV.St → R Bool} {tg : Tg} {keep : PV → Bool} {val : PV → PV} : ∀ {xs : List PV}, (∀ x ∈ xs, ∃ env', bindTg tg x env = some env' ∧ tst env' st = .ok (keep x) st ∧ (keep x = true → ∃ ov, el env' st = .ok ov st ∧ tak e ov = some (val x))) →
    compL el e tst tg env xs st = .ok ((xs.filter keep).map val) st
  | [], _ => rfl
  | x :: xs, h => by
    obtain ⟨env', h1, h2, h3⟩ := h x List.mem_cons_self
    have ih := comp_pure (xs := xs) fun y hy => h y (List.mem_cons_of_mem _ hy)
    rw [compL, h1]
    simp only [h2]
    cases hk : keep x with
    | false =>
      rw [List.filter_cons_of_neg (by simp [hk])]
      exact ih
    | true =>
      obtain ⟨ov, h4, h5⟩ := h3 hk
      rw [List.filter_cons_of_pos (by simp [hk]), List.map_cons]
      simp only [h4, h5, ih]
/-- a comprehension, by what stays: I ahead of the rest, the list behind it so far -/
theorem comp_inv {el : EV.Env → EV.St → R OV} {e : E} {tst : EV.Env → EV.St → R Bool} {tg : Tg} {Q : List PV → EV.St → Prop} (I : List PV → (List PV → EV.St → Prop) → EV.St → Prop) : ∀ {xs : List PV} {st : EV.St}, I xs Q st → (∀ Q st, I [] Q st → Q [] st) →
    (∀ x xs Q st, I (x :: xs) Q st → ∃ env', bindTg tg x env = some env' ∧ OkR (tst env' st) fun b s1 => match b with
      | true => OkR (el env' s1) fun ov s2 => ∃ v, tak e ov = some v ∧ I xs (fun vs s3 => Q (v :: vs) s3) s2
      | false => I xs Q s1) → OkR (compL el e tst tg env xs st) Q
  | [], st, h, h0, _ => h0 _ _ h
  | x :: xs, st, h, h0, h1 => by
    obtain ⟨env', e1, q⟩ := h1 x xs Q st h
    obtain ⟨b, s1, eb, q⟩ := q.get
    rw [compL, e1]
    simp only [eb]
    cases b with
    | false => exact comp_inv I q h0 h1
    | true =>
      obtain ⟨ov, s2, eo, v, ev', q⟩ := OkR.get q
      simp only [eo, ev']
      obtain ⟨vs, s3, ec, q⟩ := (comp_inv I q h0 h1).get
      rw [ec]
      exact q
theorem ve_comp {elt : E} {tg : Tg} {it : It} {its : List E} {ifs : List T} (h : VL cl txt call its env st fun ovs s1 => ∃ vs xs, taks its ovs = some vs ∧ itItems it vs = some xs ∧ OkR (compL (fun env st => ev cl txt call elt env st) elt (fun env st => evTs cl txt call ifs env st) tg env xs s1) fun vs s2 => vs.length ≤ cap ∧ P (.ol vs) s2) :
    VE cl txt call (.comp elt tg it its ifs) env st P := by
  simp only [VE, VL, VT, VA, VO, XS, XL] at *
  rw [ev]
  refine OkR.bind (h.mono fun ovs s1 ⟨vs, xs, h1, h2, q⟩ => ?_)
  rw [h1]
  show OkR (match itItems it vs with | some xs => _ | none => _) P
  rw [h2]
  obtain ⟨ws, s2, e, h3, h4⟩ := q.get
  simp only [e, if_pos h3]
  exact h4
/-! ### tests -/
theorem vt_val {e : E} (h : VE cl txt call e env st fun x s1 => ∃ b, truthy (opn e x) = some b ∧ B b s1) : VT cl txt call (.val e) env st B := by
  simp only [VE, VL, VT, VA, VO, XS, XL] at *
  rw [evT]
  exact OkR.bind (h.mono fun x s1 ⟨b, e, q⟩ => OkR.lift e q)
theorem vt_not {t : T} (h : VT cl txt call t env st fun b s1 => B (!b) s1) : VT cl txt call (.not t) env st B := by
  simp only [VE, VL, VT, VA, VO, XS, XL] at *
  rw [evT]
  exact OkR.bind h
theorem vt_and {ts : List T} (h : VA cl txt call ts env st B) : VT cl txt call (.and ts) env st B := by
  simp only [VE, VL, VT, VA, VO, XS, XL] at *
  rw [evT]; exact h
theorem vt_or {ts : List T} (h : VO cl txt call ts env st B) : VT cl txt call (.or ts) env st B := by
  simp only [VE, VL, VT, VA, VO, XS, XL] at *
  rw [evT]; exact h
theorem vta_nil (h : B true st) : VA cl txt call [] env st B := by
  simp only [VE, VL, VT, VA, VO, XS, XL] at *
  rw [evTA]; exact h
theorem vta_cons {t : T} {ts : List T} (h : VT cl txt call t env st fun b s1 => match b with
    | true => VA cl txt call ts env s1 B
    | false => B false s1) : VA cl txt call (t :: ts) env st B := by
  simp only [VE, VL, VT, VA, VO, XS, XL] at *
  rw [evTA]
  refine OkR.bind (h.mono fun b s1 q => ?_)
  cases b <;> exact q
theorem vto_nil (h : B false st) : VO cl txt call [] env st B := by
  simp only [VE, VL, VT, VA, VO, XS, XL] at *
  rw [evTO]; exact h
theorem vto_cons {t : T} {ts : List T} (h : VT cl txt call t env st fun b s1 => match b with
    | true => B true s1
    | false => VO cl txt call ts env s1 B) : VO cl txt call (t :: ts) env st B := by
  simp only [VE, VL, VT, VA, VO, XS, XL] at *
  rw [evTO]
  refine OkR.bind (h.mono fun b s1 q => ?_)
  cases b <;> exact q
/-! ### statements -/
variable {O : Out → EV.St → Prop}
theorem xs_set {i : Nat} {e : E} (h : VE cl txt call e env st fun x s1 => ∃ v, tak e x = some v ∧ O (.next (env.set i (some (.sh v)))) s1) : XS cl txt call (.set i true e) env st O := by
  simp only [VE, VL, VT, VA, VO, XS, XL] at *
  rw [exs]
  exact OkR.bind (h.mono fun x s1 ⟨v, e, q⟩ => OkR.lift (by rw [e]; rfl) q)
theorem xs_own {i : Nat} {e : E} (h : VE cl txt call e env st fun x s1 => (isPl e && x.own) = false ∧ O (.next (env.set i (some x))) s1) : XS cl txt call (.set i false e) env st O := by
  simp only [VE, VL, VT, VA, VO, XS, XL] at *
  rw [exs]
  refine OkR.bind (h.mono fun x s1 ⟨q1, q2⟩ => ?_)
  show OkR (if (isPl e && x.own) = true then R.bad else R.ok (Out.next (env.set i (some x))) s1) O
  rw [q1]
  exact q2
theorem xs_ret {e : E} (h : VE cl txt call e env st fun x s1 => (isPl e && x.own) = false ∧ O (.ret x) s1) : XS cl txt call (.ret e) env st O := by
  simp only [VE, VL, VT, VA, VO, XS, XL] at *
  rw [exs]
  refine OkR.bind (h.mono fun x s1 ⟨q1, q2⟩ => ?_)
  rw [q1]
  exact q2
theorem xs_retOwn {i : Nat} {v : OV} (e : env[i]?.join = some v) (h : O (.ret v) st) : XS cl txt call (.retOwn i) env st O := by
  simp only [VE, VL, VT, VA, VO, XS, XL] at *
  rw [exs, e]
  exact h
theorem xs_ex {e : E} (h : VE cl txt call e env st fun x s1 => O (.next env) s1) : XS cl txt call (.ex e) env st O := by
  simp only [VE, VL, VT, VA, VO, XS, XL] at *
  rw [exs]
  exact OkR.bind h
theorem xs_frz {i : Nat} {v : OV} (e : env[i]?.join = some v) (h : O (.next (env.set i (some (.sh v.freeze)))) st) : XS cl txt call (.frz i) env st O := by
  simp only [VE, VL, VT, VA, VO, XS, XL] at *
  rw [exs, e]
  exact h
theorem xs_mv {i j : Nat} {fz : Bool} {v : OV} (e : env[j]?.join = some v) (h : O (.next ((env.set j none).set i (some (if fz then .sh v.freeze else v)))) st) : XS cl txt call (.mv i j fz) env st O := by
  simp only [VE, VL, VT, VA, VO, XS, XL] at *
  rw [exs, e]
  exact h
theorem xs_ifs {c : T} {a b : List S} (h : VT cl txt call c env st fun t s1 => match t with
    | true => XL cl txt call a env s1 O
    | false => XL cl txt call b env s1 O) : XS cl txt call (.ifs c a b) env st O := by
  simp only [VE, VL, VT, VA, VO, XS, XL] at *
  rw [exs]
  refine OkR.bind (h.mono fun t s1 q => ?_)
  cases t <;> exact q
theorem xs_setP {is : List Nat} {zs : List Bool} {es : List E} (h : VL cl txt call es env st fun ovs s1 => ∃ env', setMany is zs es ovs env = some env' ∧ O (.next env') s1) : XS cl txt call (.setP is zs es) env st O := by
  simp only [VE, VL, VT, VA, VO, XS, XL] at *
  rw [exs]
  exact OkR.bind (h.mono fun x s1 ⟨v, e, q⟩ => OkR.lift (by rw [e]; rfl) q)
theorem xs_put {p : Pl} {es : List E} (hp : plOk isOlOd p env st (pureEs (es.drop 1)) = true) (h : VL cl txt call es env st fun ovs s1 => ∃ x k, taks es ovs = some [x, k] ∧ OkR (upPl p (putV k x) env s1) O) : XS cl txt call (.put p es) env st O := by
  simp only [VE, VL, VT, VA, VO, XS, XL] at *
  rw [exs, hp]
  refine OkR.bind (h.mono fun ovs s1 ⟨x, k, e, q⟩ => ?_)
  rw [e]
  exact q
theorem xs_app {p : Pl} {e : E} (hp : plOk isOl p env st (pureE e) = true) (h : VE cl txt call e env st fun x s1 => ∃ v, tak e x = some v ∧ OkR (upPl p (appV v) env s1) O) : XS cl txt call (.app p e) env st O := by
  simp only [VE, VL, VT, VA, VO, XS, XL] at *
  rw [exs, hp]
  refine OkR.bind (h.mono fun ovs s1 ⟨x, e, q⟩ => ?_)
  rw [e]
  exact q
theorem xs_ext {p : Pl} {e : E} (hp : plOk isOl p env st (pureE e) = true) (h : VE cl txt call e env st fun x s1 => ∃ f ys, tak e x = some (.lst f ys) ∧ OkR (upPl p (extV ys) env s1) O) : XS cl txt call (.ext p e) env st O := by
  simp only [VE, VL, VT, VA, VO, XS, XL] at *
  rw [exs, hp]
  refine OkR.bind (h.mono fun ovs s1 ⟨f, ys, e, q⟩ => ?_)
  rw [e]
  exact q
theorem xs_sfld {i f c : Nat} {e : E} {ns : List Nat} {vs : List OV} (h : VE cl txt call e env st fun x s1 => (isPl e && x.own) = false ∧ env[i]?.join = some (.oi c ns vs) ∧ ((assocN f ns vs).isSome || !decide (ns.length < 100)) = false ∧ O (.next (env.set i (some (.oi c (setN f x ns vs).1 (setN f x ns vs).2)))) s1) :
    XS cl txt call (.sfld i f e) env st O := by
  simp only [VE, VL, VT, VA, VO, XS, XL] at *
  rw [exs]
  refine OkR.bind (h.mono fun x s1 ⟨q1, q2, q3, q4⟩ => ?_)
  rw [q1, q2]
  show OkR (if ((assocN f ns vs).isSome || !decide (ns.length < 100)) = true then R.bad else _) O
  rw [q3]
  exact q4
theorem upPl_of {p : Pl} {f : OV → Option OV} {v v' : OV} (h1 : getPl p env st = some v) (h2 : f v = some v') (h : O (.next (setPl p v' env st).1) (setPl p v' env st).2) : OkR (upPl p f env st) O := by
  unfold upPl
  rw [h1]
  show OkR (match f v with | some v' => _ | none => _) O
  rw [h2]
  exact h
theorem xss_nil (h : O (.next env) st) : XL cl txt call [] env st O := by
  simp only [VE, VL, VT, VA, VO, XS, XL] at *
  rw [exss]; exact h
theorem xss_cons {s : S} {ss : List S} (h : XS cl txt call s env st fun o s1 => match o with
    | .next env' => XL cl txt call ss env' s1 O
    | .ret v => O (.ret v) s1) : XL cl txt call (s :: ss) env st O := by
  simp only [VE, VL, VT, VA, VO, XS, XL] at *
  rw [exss]
  refine OkR.bind (h.mono fun o s1 q => ?_)
  cases o <;> exact q
/-- a loop, by what stays -/
theorem for_inv {body : EV.Env → EV.St → R Out} {tg : Tg} (I : List PV → EV.Env → EV.St → Prop) : ∀ {xs : List PV} {env : EV.Env} {st : EV.St}, I xs env st → (∀ env st, I [] env st → O (.next env) st) →
    (∀ x xs env st, I (x :: xs) env st → ∃ env', bindTg tg x env = some env' ∧ OkR (body env' st) fun o s1 => match o with
      | .next e2 => I xs e2 s1
      | .ret v => O (.ret v) s1) → OkR (forL body tg xs env st) O
  | [], env, st, h, h0, _ => h0 env st h
  | x :: xs, env, st, h, h0, h1 => by
    obtain ⟨env', e1, q⟩ := h1 x xs env st h
    rw [forL, e1]
    refine OkR.bind (q.mono fun o s1 q => ?_)
    cases o with
    | next e2 => exact for_inv I q h0 h1
    | ret v => exact q
theorem xs_fors {tg : Tg} {it : It} {its : List E} {body : List S} (h : VL cl txt call its env st fun ovs s1 => ∃ vs xs, taks its ovs = some vs ∧ itItems it vs = some xs ∧ OkR (forL (fun env st => exss cl txt call body env st) tg xs env s1) O) : XS cl txt call (.fors tg it its body) env st O := by
  simp only [VE, VL, VT, VA, VO, XS, XL] at *
  rw [exs]
  refine OkR.bind (h.mono fun ovs s1 ⟨vs, xs, h1, h2, q⟩ => ?_)
  rw [h1]
  show OkR (match itItems it vs with | some xs => _ | none => _) O
  rw [h2]
  exact q
/-- a loop in the text, by what stays -/
theorem xs_forI {tg : Tg} {it : It} {its : List E} {body : List S} (I : List PV → EV.Env → EV.St → Prop) (h : VL cl txt call its env st fun ovs s1 => ∃ vs xs, taks its ovs = some vs ∧ itItems it vs = some xs ∧ I xs env s1) (h0 : ∀ env st, I [] env st → O (.next env) st)
    (h1 : ∀ x xs env st, I (x :: xs) env st → ∃ env', bindTg tg x env = some env' ∧ XL cl txt call body env' st fun o s1 => match o with
      | .next e2 => I xs e2 s1
      | .ret v => O (.ret v) s1) : XS cl txt call (.fors tg it its body) env st O :=
  xs_fors (h.mono fun ovs s1 ⟨vs, xs, q1, q2, q3⟩ => ⟨vs, xs, q1, q2, for_inv I q3 h0 fun x xs env st q => by
    obtain ⟨env', e1, q⟩ := h1 x xs env st q
    exact ⟨env', e1, q.r⟩⟩)
/-- a comprehension whose parts are the same wherever they are run -/
theorem ve_compP {elt : E} {tg : Tg} {it : It} {its : List E} {ifs : List T} {P : OV → EV.St → Prop} (keep : PV → Bool) (val : PV → PV) (h : VL cl txt call its env st fun ovs s1 => ∃ vs xs, taks its ovs = some vs ∧ itItems it vs = some xs ∧
    (∀ x ∈ xs, ∃ env', bindTg tg x env = some env' ∧ OkR (evTs cl txt call ifs env' s1) (fun b s => b = keep x ∧ s = s1) ∧ (keep x = true → VE cl txt call elt env' s1 fun ov s => tak elt ov = some (val x) ∧ s = s1)) ∧ xs.length ≤ cap ∧ P (.ol ((xs.filter keep).map val)) s1) : VE cl txt call (.comp elt tg it its ifs) env st P := by
  refine ve_comp (h.mono fun ovs s1 ⟨vs, xs, q1, q2, q3, q4, q5⟩ => ⟨vs, xs, q1, q2, ?_⟩)
  rw [comp_pure (keep := keep) (val := val)]
  · refine ⟨?_, q5⟩
    rw [List.length_map]
    exact Nat.le_trans (List.length_filter_le _ _) q4
  · intro x hx
    obtain ⟨env', z1, z2, z3⟩ := q3 x hx
    refine ⟨env', z1, ?_, fun hk => ?_⟩
    · obtain ⟨b, s, e, rfl, rfl⟩ := z2.get
      exact e
    · obtain ⟨ov, s, e, z4, rfl⟩ := (z3 hk).r.get
      exact ⟨ov, e, z4⟩
end
/-! ### defs -/
section
variable {cl : Cls} {txt : PV → Option Str} {tab : Tab} {st : EV.St} {P : OV → EV.St → Prop}
theorem run_def {n f : Nat} {vs : List PV} {d : Def} (hf : f < 1000) (hd : tab f = some d) (hl : vs.length = d.np ∧ d.np ≤ d.nv) (h : XL cl txt (callN cl txt tab n) d.body (start d vs) st fun o s1 => match o with
    | .next _ => P (.sh .non) s1
    | .ret v => P v s1) : OkR (callN cl txt tab (n + 1) f vs st) P := by
  simp only [VE, VL, VT, VA, VO, XS, XL] at *
  rw [callN]
  simp only [if_pos hf, hd]
  rw [runDef, if_pos hl]
  obtain ⟨o, s1, e, q⟩ := h.get
  rw [e]
  cases o <;> exact q
theorem run_init {n c fi : Nat} {vs : List PV} {d : Def} (hi : cl.init c = some fi) (hd : tab fi = some d) (hl : vs.length + 1 = d.np ∧ d.np ≤ d.nv) (h : XL cl txt (callN cl txt tab n) d.body (some (.oi c [] []) :: (vs.map (fun v => some (.sh v)) ++ List.replicate (d.nv - d.np) none)) st fun o s1 => match o with
    | .next env => ∃ c ns us, env[0]?.join = some (.oi c ns us) ∧ P (.oi c ns us) s1
    | .ret v => False) : OkR (callN cl txt tab (n + 1) (1000 + c) vs st) P := by
  simp only [VE, VL, VT, VA, VO, XS, XL] at *
  rw [callN]
  have h1 : ¬ 1000 + c < 1000 := by omega
  have h2 : 1000 + c - 1000 = c := by omega
  simp only [if_neg h1, h2, hi, Option.bind_some, hd]
  rw [runInit, if_pos hl]
  obtain ⟨o, s1, e, q⟩ := h.get
  rw [e]
  cases o with
  | next env =>
    obtain ⟨c', ns, us, e0, q⟩ := q
    simp only [e0]
    exact q
  | ret v => exact q.elim
end
end EV

set_option Elab.async false
set_option linter.all false
set_option maxRecDepth 100000
set_option maxHeartbeats 1000000
/-! N00: runs compared in the kernel; texts of data; picks out of written lists. -/
namespace EV
open PySem
/-! ### one value is another one -/
mutual
def pvB : PV → PV → Bool
  | .non, y => (match y with | .non => true | _ => false)
  | .bl a, y => (match y with | .bl b => a == b | _ => false)
  | .int i, y => (match y with | .int j => decide (i = j) | _ => false)
  | .str s, y => (match y with | .str z => decide (s = z) | _ => false)
  | .tup xs, y => (match y with | .tup ys => pvsB xs ys | _ => false)
  | .lst f xs, y => (match y with | .lst g ys => f == g && pvsB xs ys | _ => false)
  | .dct f ks vs, y => (match y with | .dct g ls us => f == g && (pvsB ks ls && pvsB vs us) | _ => false)
  | .ins f c ns vs, y => (match y with | .ins g d ms us => f == g && (c == d && (decide (ns = ms) && pvsB vs us)) | _ => false)
  | _, _ => false
def pvsB : List PV → List PV → Bool
  | [], ys => ys.isEmpty
  | x :: xs, ys => (match ys with
    | [] => false
    | y :: ys => pvB x y && pvsB xs ys)
end
mutual
theorem pvB_eq : ∀ {x y : PV}, pvB x y = true → x = y
  | .non, y, h => by cases y <;> simp [pvB] at h ⊢
  | .bl a, y, h => by cases y <;> simp [pvB] at h ⊢; exact h
  | .int a, y, h => by cases y <;> simp [pvB] at h ⊢; exact h
  | .str a, y, h => by cases y <;> simp [pvB] at h ⊢; exact h
  | .tup xs, y, h => by
    cases y <;> simp [pvB] at h ⊢
    exact pvsB_eq h
  | .lst f xs, y, h => by
    cases y <;> simp [pvB] at h ⊢
    exact ⟨h.1, pvsB_eq h.2⟩
  | .dct f ks vs, y, h => by
    cases y <;> simp [pvB] at h ⊢
    exact ⟨h.1, pvsB_eq h.2.1, pvsB_eq h.2.2⟩
  | .ins f c ns vs, y, h => by
    cases y <;> simp [pvB] at h ⊢
    exact ⟨h.1, h.2.1, h.2.2.1, pvsB_eq h.2.2.2⟩
  | .ref k, y, h => by simp [pvB] at h
  | .exc .., y, h => by simp [pvB] at h
  | .scr .., y, h => by simp [pvB] at h
theorem pvsB_eq : ∀ {xs ys : List PV}, pvsB xs ys = true → xs = ys
  | [], [], h => rfl
  | [], _ :: _, h => by simp [pvsB] at h
  | x :: xs, [], h => by simp [pvsB] at h
  | x :: xs, y :: ys, h => by
    simp [pvsB] at h
    rw [pvB_eq h.1, pvsB_eq h.2]
end
/-- a run over an empty store gives this value -/
def gives (r : R OV) (d : PV) : Bool := match r with
  | .ok (.sh v) [] => pvB v d
  | _ => false
theorem gives_eq {r : R OV} {d : PV} (h : gives r d = true) : r = .ok (.sh d) [] := by
  unfold gives at h
  split at h
  · rw [pvB_eq h]
  · cases h
/-! ### texts of data -/
def Sh (n k : Nat) (v : PV) : Prop := ∃ d, toPD v = some d ∧ d.showable = true ∧ d.depth ≤ k ∧ d.leavesShort 1000 = true ∧ d.weight ≤ n
def Shs (n k : Nat) (vs : List PV) : Prop := ∃ ds, toPDs vs = some ds ∧ PyData.showableAll ds = true ∧ PyData.depthAll ds ≤ k ∧ PyData.leavesShortAll 1000 ds = true ∧ PyData.weightAll ds ≤ n
theorem Sh.mono {n k m j : Nat} {v : PV} (h : Sh n k v) (h1 : n ≤ m) (h2 : k ≤ j) : Sh m j v := by
  obtain ⟨d, a, b, c, e, f⟩ := h
  exact ⟨d, a, b, by omega, e, by omega⟩
theorem Shs.mono {n k m j : Nat} {v : List PV} (h : Shs n k v) (h1 : n ≤ m) (h2 : k ≤ j) : Shs m j v := by
  obtain ⟨d, a, b, c, e, f⟩ := h
  exact ⟨d, a, b, by omega, e, by omega⟩
theorem Shs.nil {k : Nat} : Shs 0 k [] := ⟨[], rfl, rfl, Nat.zero_le _, rfl, Nat.le_refl _⟩
theorem Shs.cons {n m k : Nat} {v : PV} {vs : List PV} (h : Sh n k v) (q : Shs m k vs) : Shs (n + 1 + m) k (v :: vs) := by
  obtain ⟨d, a1, a2, a3, a4, a5⟩ := h
  obtain ⟨ds, b1, b2, b3, b4, b5⟩ := q
  refine ⟨d :: ds, by rw [toPDs, a1, b1], ?_, ?_, ?_, ?_⟩
  · rw [PyData.showableAll, a2, b2]; rfl
  · rw [PyData.depthAll]; omega
  · rw [PyData.leavesShortAll, a4, b4]; rfl
  · rw [PyData.weightAll]; omega
theorem Shs.all {n k : Nat} : ∀ {vs : List PV}, (∀ v ∈ vs, Sh n k v) → Shs (vs.length * (n + 1)) k vs
  | [], _ => by rw [List.length_nil, Nat.zero_mul]; exact Shs.nil
  | v :: vs, h => by
    have := Shs.cons (h v List.mem_cons_self) (Shs.all fun u hu => h u (List.mem_cons_of_mem _ hu))
    exact this.mono (by rw [List.length_cons, Nat.succ_mul]; omega) (Nat.le_refl _)
theorem Sh.lst {n k : Nat} {f : Bool} {vs : List PV} (h : Shs n k vs) : Sh n (k + 1) (.lst f vs) := by
  obtain ⟨ds, b1, b2, b3, b4, b5⟩ := h
  exact ⟨.list ds, by rw [toPD, b1]; rfl, b2, by rw [PyData.depth]; omega, b4, b5⟩
theorem Sh.tup {n k : Nat} {vs : List PV} (h : Shs n k vs) : Sh n (k + 1) (.tup vs) := by
  obtain ⟨ds, b1, b2, b3, b4, b5⟩ := h
  exact ⟨.tuple ds, by rw [toPD, b1]; rfl, b2, by rw [PyData.depth]; omega, b4, b5⟩
theorem Shs.text {n k : Nat} {f : Bool} {vs : List PV} (h : Shs n k vs) (hn : n ≤ 16000) (hk : k ≤ 50) : ∃ s, txtPV (.lst f vs) = some s := by
  obtain ⟨ds, b1, b2, b3, b4, b5⟩ := h
  have l := PyData.shown_le 1000 (by decide) (.list ds) b4
  have w : (PyData.list ds).weight ≤ n := b5
  have dd : (PyData.list ds).depth ≤ 60 := by rw [PyData.depth]; omega
  have lc : (PyData.list ds).shown.length ≤ cap := by
    have := Nat.mul_le_mul_left (1000 + 2) (Nat.le_trans w hn)
    unfold cap
    omega
  refine ⟨(PyData.list ds).shown, ?_⟩
  unfold txtPV
  simp only [b1]
  rw [if_pos]
  rw [Bool.and_eq_true, Bool.and_eq_true, decide_eq_true_eq, decide_eq_true_eq]
  exact ⟨b2, dd, lc⟩
/-- looked at in the kernel -/
def shB (n k : Nat) (v : PV) : Bool := match toPD v with
  | some d => d.showable && (decide (d.depth ≤ k) && (d.leavesShort 1000 && decide (d.weight ≤ n)))
  | none => false
theorem shB_ok {n k : Nat} {v : PV} (h : shB n k v = true) : Sh n k v := by
  unfold shB at h
  split at h
  · rename_i d e
    rw [Bool.and_eq_true, Bool.and_eq_true, Bool.and_eq_true, decide_eq_true_eq, decide_eq_true_eq] at h
    exact ⟨d, e, h.1, h.2.1, h.2.2.1, h.2.2.2⟩
  · cases h
/-- two texts that are one -/
theorem o_strEq {cl : Cls} {txt : PV → Option Str} {call : Call} {st : EV.St} {s : Str} : opV cl txt call st (.cmp .eq) [.str s, .str s] = some (.sh (.bl true)) := by
  show (cmpI cl call .eq (.str s) (.str s)).map OV.sh = _
  unfold cmpI
  have e : cmp .eq (.str s) (.str s) = if strOk s = true then some (PV.bl true) else none := by
    show (if (strOk s && strOk s) = true then some (decide (s = s)) else none).map PV.bl = _
    cases strOk s <;> simp
  rw [e]
  split
  · rename_i v q
    split at q
    · cases q; rfl
    · cases q
  · show (if (strEq (.str s) (.str s)).isSome then (strEq (.str s) (.str s)).map PV.bl else _).map OV.sh = _
    show (some (PV.bl (decide (s = s)))).map OV.sh = _
    simp
/-! ### picks -/
theorem getD_mem {α : Type} {xs : List α} {i : Nat} {d : α} (h : i < xs.length) : xs.getD i d ∈ xs := by
  rw [List.getD_eq_getElem?_getD, List.getElem?_eq_getElem h]
  exact List.getElem_mem h
theorem o_pick {cl : Cls} {txt : PV → Option Str} {call : Call} {st : EV.St} {f : Bool} {xs : List PV} {r : Int} (h1 : 0 ≤ r) (h2 : r < xs.length) : ∃ x, x ∈ xs ∧ opV cl txt call st .idx [.lst f xs, .int r] = some (.sh x) ∧ xs[r.toNat]? = some x := by
  obtain ⟨z, rfl⟩ := Int.eq_ofNat_of_zero_le h1
  have hz : z < xs.length := by omega
  refine ⟨xs[z], List.getElem_mem hz, ?_, by simp [hz]⟩
  show (at? xs (z : Int)).map OV.sh = _
  unfold at?
  rw [if_pos h1]
  simp [hz]
/-! ### a comprehension, item by item -/
inductive Each {α β : Type} (R : α → β → Prop) : List α → List β → Prop
  | nil : Each R [] []
  | cons {x : α} {y : β} {xs : List α} {ys : List β} (h : R x y) (r : Each R xs ys) : Each R (x :: xs) (y :: ys)
theorem comp_each {cl : Cls} {txt : PV → Option Str} {call : Call} {el : EV.Env → EV.St → R OV} {e : E} {tg : Tg} {env : EV.Env} {st : EV.St} : ∀ {xs ds : List PV}, Each (fun x d => ∃ env', bindTg tg x env = some env' ∧ ∃ ov, el env' st = .ok ov st ∧ tak e ov = some d) xs ds →
    compL el e (fun env st => evTs cl txt call [] env st) tg env xs st = .ok ds st
  | [], _, .nil => rfl
  | x :: xs, _, .cons h r => by
    obtain ⟨env', h1, ov, h2, h3⟩ := h
    have ih := comp_each (cl := cl) (txt := txt) (call := call) r
    have e0 : evTs cl txt call [] env' st = .ok true st := by rw [evTs]
    rw [compL, h1]
    simp only [e0, h2, h3, ih]
theorem Each.len {α β : Type} {R : α → β → Prop} : ∀ {xs : List α} {ys : List β}, Each R xs ys → xs.length = ys.length
  | _, _, .nil => rfl
  | _, _, .cons _ r => by rw [List.length_cons, List.length_cons, r.len]
theorem xs_setT {cl : Cls} {txt : PV → Option Str} {call : Call} {env : EV.Env} {st : EV.St} {O : Out → EV.St → Prop} {is : List Nat} {e : E} (h : VE cl txt call e env st fun x s1 => ∃ vs, tak e x = some (.tup vs) ∧ ∃ env', bindMany is vs env = some env' ∧ O (.next env') s1) : XS cl txt call (.setT is e) env st O := by
  simp only [VE, VL, VT, VA, VO, XS, XL] at *
  rw [exs]
  refine OkR.bind (h.mono fun x s1 ⟨vs, e1, env', e2, q⟩ => ?_)
  rw [e1]
  exact OkR.lift (by rw [e2]; rfl) q
theorem exss_app {cl : Cls} {txt : PV → Option Str} {call : Call} : ∀ {a b : List S} {env : EV.Env} {st : EV.St}, exss cl txt call (a ++ b) env st = (exss cl txt call a env st).bind fun o st => match o with
    | .next env' => exss cl txt call b env' st
    | .ret v => .ok (.ret v) st
  | [], b, env, st => by
    rw [List.nil_append, exss]; rfl
  | s :: a, b, env, st => by
    rw [List.cons_append, exss, exss]
    cases exs cl txt call s env st with
    | bad => rfl
    | exc c ns vs st1 => rfl
    | ok o st1 =>
      cases o with
      | next env' => exact exss_app
      | ret v => rfl
/-- the first n statements, then the others -/
theorem xl_split {cl : Cls} {txt : PV → Option Str} {call : Call} {env : EV.Env} {st : EV.St} {O : Out → EV.St → Prop} (n : Nat) {ss : List S} (h : XL cl txt call (ss.take n) env st fun o s1 => match o with
    | .next env' => XL cl txt call (ss.drop n) env' s1 O
    | .ret v => O (.ret v) s1) : XL cl txt call ss env st O := by
  have e : ss = ss.take n ++ ss.drop n := (List.take_append_drop n ss).symm
  refine XL.of ?_
  rw [e, exss_app]
  refine OkR.bind (h.r.mono fun o s1 q => ?_)
  cases o with
  | next env' => exact XL.r q
  | ret v => exact q
theorem app_at {i : Nat} {env : EV.Env} {st : EV.St} {v : PV} {xs : List PV} {O : Out → EV.St → Prop} (h : env[i]?.join = some (.ol xs)) (hl : xs.length < cap) (q : O (.next (env.set i (some (.ol (xs ++ [v]))))) st) : OkR (upPl (.var i) (appV v) env st) O := by
  have h1 : getPl (.var i) env st = some (.ol xs) := by simp only [getPl, h]
  have h2 : setPl (.var i) (.ol (xs ++ [v])) env st = (env.set i (some (.ol (xs ++ [v]))), st) := by simp only [setPl, h]
  exact upPl_of h1 (if_pos hl) (by rw [h2]; exact q)
theorem ext_at {i : Nat} {env : EV.Env} {st : EV.St} {ys xs : List PV} {O : Out → EV.St → Prop} (h : env[i]?.join = some (.ol xs)) (hl : xs.length + ys.length ≤ cap) (q : O (.next (env.set i (some (.ol (xs ++ ys))))) st) : OkR (upPl (.var i) (extV ys) env st) O := by
  have h1 : getPl (.var i) env st = some (.ol xs) := by simp only [getPl, h]
  have h2 : setPl (.var i) (.ol (xs ++ ys)) env st = (env.set i (some (.ol (xs ++ ys))), st) := by simp only [setPl, h]
  exact upPl_of h1 (if_pos hl) (by rw [h2]; exact q)
theorem plOk_at {i : Nat} {env : EV.Env} {st : EV.St} {xs : List PV} {pu : Bool} (h : env[i]?.join = some (.ol xs)) : plOk isOl (.var i) env st pu = true := by
  simp only [plOk, getPl, h]
  cases pu <;> rfl
/-! ### lists -/
theorem add_lst {cl : Cls} {txt : PV → Option Str} {call : Call} {st : EV.St} {f g : Bool} {xs ys : List PV} (h : xs.length + ys.length ≤ cap) : opV cl txt call st (.bop .add) [.lst f xs, .lst g ys] = some (.ol (xs ++ ys)) := if_pos h
theorem add_tup {cl : Cls} {txt : PV → Option Str} {call : Call} {st : EV.St} {xs ys : List PV} (h : xs.length + ys.length ≤ cap) : opV cl txt call st (.bop .add) [.tup xs, .tup ys] = some (.sh (.tup (xs ++ ys))) := if_pos h
theorem cut_to (xs : List PV) (a : Nat) : cut xs none (some (a : Int)) = xs.take a := by
  show (xs.drop 0).take ((if 0 ≤ (a : Int) then min (a : Int).toNat xs.length else ((a : Int) + (xs.length : Int)).toNat) - 0) = _
  rw [if_pos (by omega), List.drop_zero, Int.toNat_natCast, Nat.sub_zero]
  rcases Nat.le_total a xs.length with h | h
  · rw [Nat.min_eq_left h]
  · rw [Nat.min_eq_right h, List.take_length, List.take_of_length_le h]
theorem cut_from (xs : List PV) (a : Nat) : cut xs (some (a : Int)) none = xs.drop a := by
  show (xs.drop (if 0 ≤ (a : Int) then min (a : Int).toNat xs.length else ((a : Int) + (xs.length : Int)).toNat)).take (xs.length - (if 0 ≤ (a : Int) then min (a : Int).toNat xs.length else ((a : Int) + (xs.length : Int)).toNat)) = _
  rw [if_pos (by omega), Int.toNat_natCast]
  rcases Nat.le_total a xs.length with h | h
  · rw [Nat.min_eq_left h, ← List.length_drop, List.take_length]
  · rw [Nat.min_eq_right h, List.drop_length, List.drop_of_length_le h]; simp
theorem slc_to {cl : Cls} {txt : PV → Option Str} {call : Call} {st : EV.St} {f : Bool} {xs : List PV} {a : Nat} : opV cl txt call st (.slc false true false) [.lst f xs, .int (a : Int)] = some (.ol (xs.take a)) := by
  show some (OV.ol (cut xs none (some (a : Int)))) = _
  rw [cut_to]
theorem slc_from {cl : Cls} {txt : PV → Option Str} {call : Call} {st : EV.St} {f : Bool} {xs : List PV} {a : Nat} : opV cl txt call st (.slc true false false) [.lst f xs, .int (a : Int)] = some (.ol (xs.drop a)) := by
  show some (OV.ol (cut xs (some (a : Int)) none)) = _
  rw [cut_from]
theorem slcT_to {cl : Cls} {txt : PV → Option Str} {call : Call} {st : EV.St} {xs : List PV} {a : Nat} : opV cl txt call st (.slc false true false) [.tup xs, .int (a : Int)] = some (.sh (.tup (xs.take a))) := by
  show some (OV.sh (.tup (cut xs none (some (a : Int))))) = _
  rw [cut_to]
theorem slcT_from {cl : Cls} {txt : PV → Option Str} {call : Call} {st : EV.St} {xs : List PV} {a : Nat} : opV cl txt call st (.slc true false false) [.tup xs, .int (a : Int)] = some (.sh (.tup (xs.drop a))) := by
  show some (OV.sh (.tup (cut xs (some (a : Int)) none))) = _
  rw [cut_from]
end EV

set_option Elab.async false
set_option linter.all false
set_option maxRecDepth 100000
set_option maxHeartbeats 1000000
/-! S01: draws, purses. -/
namespace L02
open PySem EV
abbrev tx : PV → Option Str := txtPV
abbrev run (n f : Nat) (vs : List PV) (st : EV.St) : R OV := callN pCls tx tab n f vs st
section
variable {n : Nat} {st : EV.St} {P : OV → EV.St → Prop}
/-- what a run of a def needs -/
theorem rd {f : Nat} {vs : List PV} {d : Def} (hf : f < 1000) (hd : tab f = some d) (hl : vs.length = d.np ∧ d.np ≤ d.nv) (h : XL pCls tx (callN pCls tx tab n) d.body (start d vs) st fun o s1 => match o with
    | .next _ => P (.sh .non) s1
    | .ret v => P v s1) : OkR (run (n + 1) f vs st) P := run_def hf hd hl h
/-! numbers -/
variable {call : Call} {cl : Cls} {txt : PV → Option Str}
theorem o_mul {i j : Int} (h : (-(2 ^ 64) < i ∧ i < 2 ^ 64) ∨ (-(2 ^ 64) < j ∧ j < 2 ^ 64)) : opV cl txt call st (.bop .mul) [.int i, .int j] = some (.sh (.int (i * j))) := by
  show (if okMul i j = true then some (OV.sh (PV.int (i * j))) else none) = _
  rw [if_pos]
  unfold okMul
  rw [Bool.or_eq_true, decide_eq_true_eq, decide_eq_true_eq]
  exact h
theorem o_eq {i j : Int} : opV cl txt call st (.cmp .eq) [.int i, .int j] = some (.sh (.bl (decide (i = j)))) := rfl
theorem o_gt {i j : Int} : opV cl txt call st (.cmp .gt) [.int i, .int j] = some (.sh (.bl (decide (j < i)))) := rfl
theorem o_lt {i j : Int} : opV cl txt call st (.cmp .lt) [.int i, .int j] = some (.sh (.bl (decide (i < j)))) := rfl
theorem o_ge {i j : Int} : opV cl txt call st (.cmp .ge) [.int i, .int j] = some (.sh (.bl (decide (j ≤ i)))) := rfl
theorem o_mod {i j : Int} (h : 0 < j) : opV cl txt call st (.bop .mod) [.int i, .int j] = some (.sh (.int (i % j))) := if_pos h
theorem o_fdiv {i j : Int} (h : 0 < j ∧ j < 1073741824) : opV cl txt call st (.bop .fdiv) [.int i, .int j] = some (.sh (.int (i / j))) := if_pos h
end
/-- what stands in a purse -/
abbrev purse (g c t : Int) : OV := .ol [.int g, .int c, .int t]
theorem idx_purse {n k : Nat} {st : EV.St} {g c t i : Int} {v : PV} (h : st[k]? = some (purse g c t)) (e : getIdx (.lst true [.int g, .int c, .int t]) (.int i) = some v) : opV pCls tx (callN pCls tx tab n) st .idx [.ref k, .int i] = some (.sh v) := by
  show (getIdx (match st[k]? with | some v => v.lend | none => .ref k) (.int i)).map OV.sh = _
  rw [h]
  show (getIdx (.lst true [.int g, .int c, .int t]) (.int i)).map OV.sh = _
  rw [e]; rfl
theorem mixed {n : Nat} {c k : Int} (hk : -(2 ^ 64) < k ∧ k < 2 ^ 64) : OkR (run (n + 1) 200 [.int c, .int k] []) fun v s => s = [] ∧ ∃ r, v = .sh (.int r) := by
  refine rd (d := d_law_mixed) (by decide) rfl ⟨rfl, by decide⟩ ?_
  repeat (first | refine xss_cons (xs_set ?_) | refine xss_cons (xs_ret ?_) | refine xss_cons (xs_own ?_) | refine xss_cons (xs_ifs ?_) | refine vt_or (vto_cons ?_) | refine vto_cons ?_ | refine vt_and (vta_cons ?_) | refine vta_cons ?_ | refine xss_cons (xs_setP ?_) | refine xss_cons (xs_setT ?_) | refine xss_cons (xs_app (plOk_at rfl) ?_) | refine xss_cons (xs_frz rfl ?_) | refine app_at rfl (by first | (simp [cap]; done) | (simp; unfold cap; omega)) ?_ | refine xss_cons (xs_ex ?_) | refine ve_op2 ?_ | refine ve_op1 ?_ | refine ve_var rfl ?_ | refine ve_lit ?_ | refine ve_call ?_ | refine ve_callK ?_ | refine ves_cons ?_ | refine ves_nil ?_ | refine ve_tup ?_ | refine ve_lst ?_ | refine ve_dct0 ?_ | refine ve_new rfl ?_ | refine ve_and2 ?_ | refine ve_and1 ?_ | refine ve_or2 ?_ | refine ve_or1 ?_ | refine ve_fld ?_ | refine ve_ifx ?_ | refine vt_val ?_ | refine vt_not ?_ | ((with_reducible apply And.intro); (· rfl)) | ((with_reducible apply Exists.intro); (with_reducible apply And.intro); (· first | exact add_lst (by first | (simp [cap]; done) | (simp; unfold cap; omega)) | exact add_tup (by first | (simp [cap]; done) | (simp; unfold cap; omega)) | exact o_eq | exact o_gt | exact o_lt | exact o_ge | exact ne_of (eq_bl _) | exact ne_of (eq_int_self _) | exact ne_of (eq_selfT _) | exact ne_net_self | exact o_eqN | exact o_eqT (noRefs2 rfl (noRef_lst _ _)) rfl | rfl | exact idx_purse (by assumption) rfl | exact o_mul (by omega) | exact o_mod (by first | decide | omega) | exact o_fdiv (by first | decide | omega))))
  exact ⟨_, rfl⟩
theorem put_purse {k : Nat} {env : EV.Env} {st : EV.St} {v v' : OV} {x : PV} {i : Int} {O : Out → EV.St → Prop} (he : env[0]?.join = some (.sh (.ref k))) (h : st[k]? = some v) (e : putV (.int i) x v = some v') (q : O (.next env) (st.set k v')) : OkR (upPl (.var 0) (putV (.int i) x) env st) O := by
  have h1 : getPl (.var 0) env st = some v := by
    simp only [getPl, he]
    exact h
  have h2 : setPl (.var 0) v' env st = (env, st.set k v') := by
    simp only [setPl, he]
  exact upPl_of h1 e (by rw [h2]; exact q)
theorem plOk_purse {k : Nat} {env : EV.Env} {st : EV.St} {g c t : Int} {pu : Bool} (he : env[0]?.join = some (.sh (.ref k))) (h : st[k]? = some (purse g c t)) : plOk isOlOd (.var 0) env st pu = true := by
  simp only [plOk, getPl, he, h]
  cases pu <;> rfl
theorem draw {n k : Nat} {st : EV.St} {g c t m : Int} (h : st[k]? = some (purse g c t)) (hm : 0 < m) (hm2 : m < 1073741824) (ht : 0 ≤ t ∧ t < 1000000) :
    OkR (run (n + 2) 202 [.ref k, .int m] st) fun v s => ∃ r g' t', v = .sh (.int r) ∧ s = st.set k (purse g' c t') ∧ 0 ≤ r ∧ r < m ∧ t ≤ t' ∧ t' ≤ t + 1 := by
  refine rd (d := d_law_draw) (by decide) rfl ⟨rfl, by decide⟩ ?_
  have hk : k < st.length := (List.getElem?_eq_some_iff.mp h).1
  repeat (first | refine xss_cons (xs_set ?_) | refine xss_cons (xs_ret ?_) | refine xss_cons (xs_own ?_) | refine xss_cons (xs_ifs ?_) | refine vt_or (vto_cons ?_) | refine vto_cons ?_ | refine vt_and (vta_cons ?_) | refine vta_cons ?_ | refine xss_cons (xs_setP ?_) | refine xss_cons (xs_setT ?_) | refine xss_cons (xs_app (plOk_at rfl) ?_) | refine xss_cons (xs_frz rfl ?_) | refine app_at rfl (by first | (simp [cap]; done) | (simp; unfold cap; omega)) ?_ | refine xss_cons (xs_ex ?_) | refine ve_op2 ?_ | refine ve_op1 ?_ | refine ve_var rfl ?_ | refine ve_lit ?_ | refine ve_call ?_ | refine ve_callK ?_ | refine ves_cons ?_ | refine ves_nil ?_ | refine ve_tup ?_ | refine ve_lst ?_ | refine ve_dct0 ?_ | refine ve_new rfl ?_ | refine ve_and2 ?_ | refine ve_and1 ?_ | refine ve_or2 ?_ | refine ve_or1 ?_ | refine ve_fld ?_ | refine ve_ifx ?_ | refine vt_val ?_ | refine vt_not ?_ | ((with_reducible apply And.intro); (· rfl)) | ((with_reducible apply Exists.intro); (with_reducible apply And.intro); (· first | exact add_lst (by first | (simp [cap]; done) | (simp; unfold cap; omega)) | exact add_tup (by first | (simp [cap]; done) | (simp; unfold cap; omega)) | exact o_eq | exact o_gt | exact o_lt | exact o_ge | exact ne_of (eq_bl _) | exact ne_of (eq_int_self _) | exact ne_of (eq_selfT _) | exact ne_net_self | exact o_eqN | exact o_eqT (noRefs2 rfl (noRef_lst _ _)) rfl | rfl | exact idx_purse (by assumption) rfl | exact o_mul (by omega) | exact o_mod (by first | decide | omega) | exact o_fdiv (by first | decide | omega))))
  by_cases hg : 0 < g
  · simp only [hg, decide_true]
    repeat (first | refine xss_cons (xs_set ?_) | refine xss_cons (xs_ret ?_) | refine xss_cons (xs_own ?_) | refine xss_cons (xs_ifs ?_) | refine vt_or (vto_cons ?_) | refine vto_cons ?_ | refine vt_and (vta_cons ?_) | refine vta_cons ?_ | refine xss_cons (xs_setP ?_) | refine xss_cons (xs_setT ?_) | refine xss_cons (xs_app (plOk_at rfl) ?_) | refine xss_cons (xs_frz rfl ?_) | refine app_at rfl (by first | (simp [cap]; done) | (simp; unfold cap; omega)) ?_ | refine xss_cons (xs_ex ?_) | refine ve_op2 ?_ | refine ve_op1 ?_ | refine ve_var rfl ?_ | refine ve_lit ?_ | refine ve_call ?_ | refine ve_callK ?_ | refine ves_cons ?_ | refine ves_nil ?_ | refine ve_tup ?_ | refine ve_lst ?_ | refine ve_dct0 ?_ | refine ve_new rfl ?_ | refine ve_and2 ?_ | refine ve_and1 ?_ | refine ve_or2 ?_ | refine ve_or1 ?_ | refine ve_fld ?_ | refine ve_ifx ?_ | refine vt_val ?_ | refine vt_not ?_ | ((with_reducible apply And.intro); (· rfl)) | ((with_reducible apply Exists.intro); (with_reducible apply And.intro); (· first | exact add_lst (by first | (simp [cap]; done) | (simp; unfold cap; omega)) | exact add_tup (by first | (simp [cap]; done) | (simp; unfold cap; omega)) | exact o_eq | exact o_gt | exact o_lt | exact o_ge | exact ne_of (eq_bl _) | exact ne_of (eq_int_self _) | exact ne_of (eq_selfT _) | exact ne_net_self | exact o_eqN | exact o_eqT (noRefs2 rfl (noRef_lst _ _)) rfl | rfl | exact idx_purse (by assumption) rfl | exact o_mul (by omega) | exact o_mod (by first | decide | omega) | exact o_fdiv (by first | decide | omega))))
    refine xss_cons (xs_put (plOk_purse (k := k) rfl h) ?_)
    repeat (first | refine xss_cons (xs_set ?_) | refine xss_cons (xs_ret ?_) | refine xss_cons (xs_own ?_) | refine xss_cons (xs_ifs ?_) | refine vt_or (vto_cons ?_) | refine vto_cons ?_ | refine vt_and (vta_cons ?_) | refine vta_cons ?_ | refine xss_cons (xs_setP ?_) | refine xss_cons (xs_setT ?_) | refine xss_cons (xs_app (plOk_at rfl) ?_) | refine xss_cons (xs_frz rfl ?_) | refine app_at rfl (by first | (simp [cap]; done) | (simp; unfold cap; omega)) ?_ | refine xss_cons (xs_ex ?_) | refine ve_op2 ?_ | refine ve_op1 ?_ | refine ve_var rfl ?_ | refine ve_lit ?_ | refine ve_call ?_ | refine ve_callK ?_ | refine ves_cons ?_ | refine ves_nil ?_ | refine ve_tup ?_ | refine ve_lst ?_ | refine ve_dct0 ?_ | refine ve_new rfl ?_ | refine ve_and2 ?_ | refine ve_and1 ?_ | refine ve_or2 ?_ | refine ve_or1 ?_ | refine ve_fld ?_ | refine ve_ifx ?_ | refine vt_val ?_ | refine vt_not ?_ | ((with_reducible apply And.intro); (· rfl)) | ((with_reducible apply Exists.intro); (with_reducible apply And.intro); (· first | exact add_lst (by first | (simp [cap]; done) | (simp; unfold cap; omega)) | exact add_tup (by first | (simp [cap]; done) | (simp; unfold cap; omega)) | exact o_eq | exact o_gt | exact o_lt | exact o_ge | exact ne_of (eq_bl _) | exact ne_of (eq_int_self _) | exact ne_of (eq_selfT _) | exact ne_net_self | exact o_eqN | exact o_eqT (noRefs2 rfl (noRef_lst _ _)) rfl | rfl | exact idx_purse (by assumption) rfl | exact o_mul (by omega) | exact o_mod (by first | decide | omega) | exact o_fdiv (by first | decide | omega))))
    refine ⟨.int (g / m), .int 0, rfl, put_purse rfl h rfl ?_⟩
    repeat (first | refine xss_cons (xs_set ?_) | refine xss_cons (xs_ret ?_) | refine xss_cons (xs_own ?_) | refine xss_cons (xs_ifs ?_) | refine vt_or (vto_cons ?_) | refine vto_cons ?_ | refine vt_and (vta_cons ?_) | refine vta_cons ?_ | refine xss_cons (xs_setP ?_) | refine xss_cons (xs_setT ?_) | refine xss_cons (xs_app (plOk_at rfl) ?_) | refine xss_cons (xs_frz rfl ?_) | refine app_at rfl (by first | (simp [cap]; done) | (simp; unfold cap; omega)) ?_ | refine xss_cons (xs_ex ?_) | refine ve_op2 ?_ | refine ve_op1 ?_ | refine ve_var rfl ?_ | refine ve_lit ?_ | refine ve_call ?_ | refine ve_callK ?_ | refine ves_cons ?_ | refine ves_nil ?_ | refine ve_tup ?_ | refine ve_lst ?_ | refine ve_dct0 ?_ | refine ve_new rfl ?_ | refine ve_and2 ?_ | refine ve_and1 ?_ | refine ve_or2 ?_ | refine ve_or1 ?_ | refine ve_fld ?_ | refine ve_ifx ?_ | refine vt_val ?_ | refine vt_not ?_ | ((with_reducible apply And.intro); (· rfl)) | ((with_reducible apply Exists.intro); (with_reducible apply And.intro); (· first | exact add_lst (by first | (simp [cap]; done) | (simp; unfold cap; omega)) | exact add_tup (by first | (simp [cap]; done) | (simp; unfold cap; omega)) | exact o_eq | exact o_gt | exact o_lt | exact o_ge | exact ne_of (eq_bl _) | exact ne_of (eq_int_self _) | exact ne_of (eq_selfT _) | exact ne_net_self | exact o_eqN | exact o_eqT (noRefs2 rfl (noRef_lst _ _)) rfl | rfl | exact idx_purse (by assumption) rfl | exact o_mul (by omega) | exact o_mod (by first | decide | omega) | exact o_fdiv (by first | decide | omega))))
    exact ⟨_, _, _, rfl, rfl, Int.emod_nonneg _ (by omega), Int.emod_lt_of_pos _ hm, by omega, by omega⟩
  · simp only [hg, decide_false]
    refine xss_nil ?_
    refine xss_cons (xs_put (plOk_purse (k := k) rfl h) ?_)
    repeat (first | refine xss_cons (xs_set ?_) | refine xss_cons (xs_ret ?_) | refine xss_cons (xs_own ?_) | refine xss_cons (xs_ifs ?_) | refine vt_or (vto_cons ?_) | refine vto_cons ?_ | refine vt_and (vta_cons ?_) | refine vta_cons ?_ | refine xss_cons (xs_setP ?_) | refine xss_cons (xs_setT ?_) | refine xss_cons (xs_app (plOk_at rfl) ?_) | refine xss_cons (xs_frz rfl ?_) | refine app_at rfl (by first | (simp [cap]; done) | (simp; unfold cap; omega)) ?_ | refine xss_cons (xs_ex ?_) | refine ve_op2 ?_ | refine ve_op1 ?_ | refine ve_var rfl ?_ | refine ve_lit ?_ | refine ve_call ?_ | refine ve_callK ?_ | refine ves_cons ?_ | refine ves_nil ?_ | refine ve_tup ?_ | refine ve_lst ?_ | refine ve_dct0 ?_ | refine ve_new rfl ?_ | refine ve_and2 ?_ | refine ve_and1 ?_ | refine ve_or2 ?_ | refine ve_or1 ?_ | refine ve_fld ?_ | refine ve_ifx ?_ | refine vt_val ?_ | refine vt_not ?_ | ((with_reducible apply And.intro); (· rfl)) | ((with_reducible apply Exists.intro); (with_reducible apply And.intro); (· first | exact add_lst (by first | (simp [cap]; done) | (simp; unfold cap; omega)) | exact add_tup (by first | (simp [cap]; done) | (simp; unfold cap; omega)) | exact o_eq | exact o_gt | exact o_lt | exact o_ge | exact ne_of (eq_bl _) | exact ne_of (eq_int_self _) | exact ne_of (eq_selfT _) | exact ne_net_self | exact o_eqN | exact o_eqT (noRefs2 rfl (noRef_lst _ _)) rfl | rfl | exact idx_purse (by assumption) rfl | exact o_mul (by omega) | exact o_mod (by first | decide | omega) | exact o_fdiv (by first | decide | omega))))
    refine ⟨.int (t + 1), .int 2, rfl, put_purse rfl h rfl ?_⟩
    have h2 : (st.set k (purse g c (t + 1)))[k]? = some (purse g c (t + 1)) := by
      rw [List.getElem?_set_self hk]
    repeat (first | refine xss_cons (xs_set ?_) | refine xss_cons (xs_ret ?_) | refine xss_cons (xs_own ?_) | refine xss_cons (xs_ifs ?_) | refine vt_or (vto_cons ?_) | refine vto_cons ?_ | refine vt_and (vta_cons ?_) | refine vta_cons ?_ | refine xss_cons (xs_setP ?_) | refine xss_cons (xs_setT ?_) | refine xss_cons (xs_app (plOk_at rfl) ?_) | refine xss_cons (xs_frz rfl ?_) | refine app_at rfl (by first | (simp [cap]; done) | (simp; unfold cap; omega)) ?_ | refine xss_cons (xs_ex ?_) | refine ve_op2 ?_ | refine ve_op1 ?_ | refine ve_var rfl ?_ | refine ve_lit ?_ | refine ve_call ?_ | refine ve_callK ?_ | refine ves_cons ?_ | refine ves_nil ?_ | refine ve_tup ?_ | refine ve_lst ?_ | refine ve_dct0 ?_ | refine ve_new rfl ?_ | refine ve_and2 ?_ | refine ve_and1 ?_ | refine ve_or2 ?_ | refine ve_or1 ?_ | refine ve_fld ?_ | refine ve_ifx ?_ | refine vt_val ?_ | refine vt_not ?_ | ((with_reducible apply And.intro); (· rfl)) | ((with_reducible apply Exists.intro); (with_reducible apply And.intro); (· first | exact add_lst (by first | (simp [cap]; done) | (simp; unfold cap; omega)) | exact add_tup (by first | (simp [cap]; done) | (simp; unfold cap; omega)) | exact o_eq | exact o_gt | exact o_lt | exact o_ge | exact ne_of (eq_bl _) | exact ne_of (eq_int_self _) | exact ne_of (eq_selfT _) | exact ne_net_self | exact o_eqN | exact o_eqT (noRefs2 rfl (noRef_lst _ _)) rfl | rfl | exact idx_purse (by assumption) rfl | exact o_mul (by omega) | exact o_mod (by first | decide | omega) | exact o_fdiv (by first | decide | omega))))
    refine callB_pure rfl ((mixed (by omega)).mono ?_)
    rintro v s ⟨rfl, r, rfl⟩
    repeat (first | refine xss_cons (xs_set ?_) | refine xss_cons (xs_ret ?_) | refine xss_cons (xs_own ?_) | refine xss_cons (xs_ifs ?_) | refine vt_or (vto_cons ?_) | refine vto_cons ?_ | refine vt_and (vta_cons ?_) | refine vta_cons ?_ | refine xss_cons (xs_setP ?_) | refine xss_cons (xs_setT ?_) | refine xss_cons (xs_app (plOk_at rfl) ?_) | refine xss_cons (xs_frz rfl ?_) | refine app_at rfl (by first | (simp [cap]; done) | (simp; unfold cap; omega)) ?_ | refine xss_cons (xs_ex ?_) | refine ve_op2 ?_ | refine ve_op1 ?_ | refine ve_var rfl ?_ | refine ve_lit ?_ | refine ve_call ?_ | refine ve_callK ?_ | refine ves_cons ?_ | refine ves_nil ?_ | refine ve_tup ?_ | refine ve_lst ?_ | refine ve_dct0 ?_ | refine ve_new rfl ?_ | refine ve_and2 ?_ | refine ve_and1 ?_ | refine ve_or2 ?_ | refine ve_or1 ?_ | refine ve_fld ?_ | refine ve_ifx ?_ | refine vt_val ?_ | refine vt_not ?_ | ((with_reducible apply And.intro); (· rfl)) | ((with_reducible apply Exists.intro); (with_reducible apply And.intro); (· first | exact add_lst (by first | (simp [cap]; done) | (simp; unfold cap; omega)) | exact add_tup (by first | (simp [cap]; done) | (simp; unfold cap; omega)) | exact o_eq | exact o_gt | exact o_lt | exact o_ge | exact ne_of (eq_bl _) | exact ne_of (eq_int_self _) | exact ne_of (eq_selfT _) | exact ne_net_self | exact o_eqN | exact o_eqT (noRefs2 rfl (noRef_lst _ _)) rfl | rfl | exact idx_purse (by assumption) rfl | exact o_mul (by omega) | exact o_mod (by first | decide | omega) | exact o_fdiv (by first | decide | omega))))
    exact ⟨_, _, _, rfl, rfl, Int.emod_nonneg _ (by omega), Int.emod_lt_of_pos _ hm, by omega, by omega⟩
/-- the purse at k, drawn from at most up to T -/
def PS (st : EV.St) (k : Nat) (c T : Int) (s : EV.St) : Prop := ∃ g t, s = st.set k (purse g c t) ∧ 0 ≤ t ∧ t ≤ T
theorem PS.mono {st s : EV.St} {k : Nat} {c T T' : Int} (h : PS st k c T s) (l : T ≤ T') : PS st k c T' s := by
  obtain ⟨g, t, e, h1, h2⟩ := h
  exact ⟨g, t, e, h1, by omega⟩
theorem PS.start {st : EV.St} {k : Nat} {g c t T : Int} (h : st[k]? = some (purse g c t)) (ht : 0 ≤ t ∧ t ≤ T) : PS st k c T st := by
  refine ⟨g, t, ?_, ht.1, ht.2⟩
  obtain ⟨hk, e⟩ := List.getElem?_eq_some_iff.mp h
  rw [← e, List.set_getElem_self]
theorem drawS {n k : Nat} {st s : EV.St} {c T m : Int} (hk : k < st.length) (p : PS st k c T s) (hT : T < 1000000) (hm : 0 < m) (hm2 : m < 1073741824) :
    OkR (run (n + 2) 202 [.ref k, .int m] s) fun v s' => ∃ r, v = .sh (.int r) ∧ 0 ≤ r ∧ r < m ∧ PS st k c (T + 1) s' := by
  obtain ⟨g, t, rfl, h1, h2⟩ := p
  have h : (st.set k (purse g c t))[k]? = some (purse g c t) := List.getElem?_set_self hk
  refine (draw h hm hm2 ⟨h1, by omega⟩).mono ?_
  rintro v s ⟨r, g', t', rfl, rfl, h3, h4, h5, h6⟩
  exact ⟨r, rfl, h3, h4, g', t', by rw [List.set_set], by omega, by omega⟩
theorem purse_ok {n : Nat} {st : EV.St} {is : List Int} {i : Nat} (hi : i ≤ 8) : OkR (run (n + 1) 201 [.scr is, .int i] st) fun v s => v = .sh (.ref st.length) ∧ ∃ g c, s = st ++ [purse g c (1000 * (i : Int))] := by
  refine rd (d := d_law_purse) (by decide) rfl ⟨rfl, by decide⟩ ?_
  repeat (first | refine xss_cons (xs_set ?_) | refine xss_cons (xs_ret ?_) | refine xss_cons (xs_own ?_) | refine xss_cons (xs_ifs ?_) | refine vt_or (vto_cons ?_) | refine vto_cons ?_ | refine vt_and (vta_cons ?_) | refine vta_cons ?_ | refine xss_cons (xs_setP ?_) | refine xss_cons (xs_setT ?_) | refine xss_cons (xs_app (plOk_at rfl) ?_) | refine xss_cons (xs_frz rfl ?_) | refine app_at rfl (by first | (simp [cap]; done) | (simp; unfold cap; omega)) ?_ | refine xss_cons (xs_ex ?_) | refine ve_op2 ?_ | refine ve_op1 ?_ | refine ve_var rfl ?_ | refine ve_lit ?_ | refine ve_call ?_ | refine ve_callK ?_ | refine ves_cons ?_ | refine ves_nil ?_ | refine ve_tup ?_ | refine ve_lst ?_ | refine ve_dct0 ?_ | refine ve_new rfl ?_ | refine ve_and2 ?_ | refine ve_and1 ?_ | refine ve_or2 ?_ | refine ve_or1 ?_ | refine ve_fld ?_ | refine ve_ifx ?_ | refine vt_val ?_ | refine vt_not ?_ | ((with_reducible apply And.intro); (· rfl)) | ((with_reducible apply Exists.intro); (with_reducible apply And.intro); (· first | exact add_lst (by first | (simp [cap]; done) | (simp; unfold cap; omega)) | exact add_tup (by first | (simp [cap]; done) | (simp; unfold cap; omega)) | exact o_eq | exact o_gt | exact o_lt | exact o_ge | exact ne_of (eq_bl _) | exact ne_of (eq_int_self _) | exact ne_of (eq_selfT _) | exact ne_net_self | exact o_eqN | exact o_eqT (noRefs2 rfl (noRef_lst _ _)) rfl | rfl | exact idx_purse (by assumption) rfl | exact o_mul (by omega) | exact o_mod (by first | decide | omega) | exact o_fdiv (by first | decide | omega))))
  by_cases h : (i : Int) < (is.length : Int)
  · simp only [h, decide_true]
    have hl : i < is.length := by omega
    have e : opV pCls tx (callN pCls tx tab n) st .idx [.scr is, .int i] = some (.sh (.int is[i])) := by
      show (if 0 ≤ (i : Int) then (is[(i : Int).toNat]?).map PV.int else none).map OV.sh = _
      rw [if_pos (by omega), Int.toNat_natCast, List.getElem?_eq_getElem hl]
      rfl
    repeat (first | refine xss_cons (xs_set ?_) | refine xss_cons (xs_ret ?_) | refine xss_cons (xs_own ?_) | refine xss_cons (xs_ifs ?_) | refine vt_or (vto_cons ?_) | refine vto_cons ?_ | refine vt_and (vta_cons ?_) | refine vta_cons ?_ | refine xss_cons (xs_setP ?_) | refine xss_cons (xs_setT ?_) | refine xss_cons (xs_app (plOk_at rfl) ?_) | refine xss_cons (xs_frz rfl ?_) | refine app_at rfl (by first | (simp [cap]; done) | (simp; unfold cap; omega)) ?_ | refine xss_cons (xs_ex ?_) | refine ve_op2 ?_ | refine ve_op1 ?_ | refine ve_var rfl ?_ | refine ve_lit ?_ | refine ve_call ?_ | refine ve_callK ?_ | refine ves_cons ?_ | refine ves_nil ?_ | refine ve_tup ?_ | refine ve_lst ?_ | refine ve_dct0 ?_ | refine ve_new rfl ?_ | refine ve_and2 ?_ | refine ve_and1 ?_ | refine ve_or2 ?_ | refine ve_or1 ?_ | refine ve_fld ?_ | refine ve_ifx ?_ | refine vt_val ?_ | refine vt_not ?_ | ((with_reducible apply And.intro); (· rfl)) | ((with_reducible apply Exists.intro); (with_reducible apply And.intro); (· first | exact add_lst (by first | (simp [cap]; done) | (simp; unfold cap; omega)) | exact add_tup (by first | (simp [cap]; done) | (simp; unfold cap; omega)) | exact o_eq | exact o_gt | exact o_lt | exact o_ge | exact ne_of (eq_bl _) | exact ne_of (eq_int_self _) | exact ne_of (eq_selfT _) | exact ne_net_self | exact o_eqN | exact o_eqT (noRefs2 rfl (noRef_lst _ _)) rfl | rfl | exact idx_purse (by assumption) rfl | exact o_mul (by omega) | exact o_mod (by first | decide | omega) | exact o_fdiv (by first | decide | omega))))
    refine ⟨_, e, ?_⟩
    repeat (first | refine xss_cons (xs_set ?_) | refine xss_cons (xs_ret ?_) | refine xss_cons (xs_own ?_) | refine xss_cons (xs_ifs ?_) | refine vt_or (vto_cons ?_) | refine vto_cons ?_ | refine vt_and (vta_cons ?_) | refine vta_cons ?_ | refine xss_cons (xs_setP ?_) | refine xss_cons (xs_setT ?_) | refine xss_cons (xs_app (plOk_at rfl) ?_) | refine xss_cons (xs_frz rfl ?_) | refine app_at rfl (by first | (simp [cap]; done) | (simp; unfold cap; omega)) ?_ | refine xss_cons (xs_ex ?_) | refine ve_op2 ?_ | refine ve_op1 ?_ | refine ve_var rfl ?_ | refine ve_lit ?_ | refine ve_call ?_ | refine ve_callK ?_ | refine ves_cons ?_ | refine ves_nil ?_ | refine ve_tup ?_ | refine ve_lst ?_ | refine ve_dct0 ?_ | refine ve_new rfl ?_ | refine ve_and2 ?_ | refine ve_and1 ?_ | refine ve_or2 ?_ | refine ve_or1 ?_ | refine ve_fld ?_ | refine ve_ifx ?_ | refine vt_val ?_ | refine vt_not ?_ | ((with_reducible apply And.intro); (· rfl)) | ((with_reducible apply Exists.intro); (with_reducible apply And.intro); (· first | exact add_lst (by first | (simp [cap]; done) | (simp; unfold cap; omega)) | exact add_tup (by first | (simp [cap]; done) | (simp; unfold cap; omega)) | exact o_eq | exact o_gt | exact o_lt | exact o_ge | exact ne_of (eq_bl _) | exact ne_of (eq_int_self _) | exact ne_of (eq_selfT _) | exact ne_net_self | exact o_eqN | exact o_eqT (noRefs2 rfl (noRef_lst _ _)) rfl | rfl | exact idx_purse (by assumption) rfl | exact o_mul (by omega) | exact o_mod (by first | decide | omega) | exact o_fdiv (by first | decide | omega))))
    refine xss_nil ?_
    repeat (first | refine xss_cons (xs_set ?_) | refine xss_cons (xs_ret ?_) | refine xss_cons (xs_own ?_) | refine xss_cons (xs_ifs ?_) | refine vt_or (vto_cons ?_) | refine vto_cons ?_ | refine vt_and (vta_cons ?_) | refine vta_cons ?_ | refine xss_cons (xs_setP ?_) | refine xss_cons (xs_setT ?_) | refine xss_cons (xs_app (plOk_at rfl) ?_) | refine xss_cons (xs_frz rfl ?_) | refine app_at rfl (by first | (simp [cap]; done) | (simp; unfold cap; omega)) ?_ | refine xss_cons (xs_ex ?_) | refine ve_op2 ?_ | refine ve_op1 ?_ | refine ve_var rfl ?_ | refine ve_lit ?_ | refine ve_call ?_ | refine ve_callK ?_ | refine ves_cons ?_ | refine ves_nil ?_ | refine ve_tup ?_ | refine ve_lst ?_ | refine ve_dct0 ?_ | refine ve_new rfl ?_ | refine ve_and2 ?_ | refine ve_and1 ?_ | refine ve_or2 ?_ | refine ve_or1 ?_ | refine ve_fld ?_ | refine ve_ifx ?_ | refine vt_val ?_ | refine vt_not ?_ | ((with_reducible apply And.intro); (· rfl)) | ((with_reducible apply Exists.intro); (with_reducible apply And.intro); (· first | exact add_lst (by first | (simp [cap]; done) | (simp; unfold cap; omega)) | exact add_tup (by first | (simp [cap]; done) | (simp; unfold cap; omega)) | exact o_eq | exact o_gt | exact o_lt | exact o_ge | exact ne_of (eq_bl _) | exact ne_of (eq_int_self _) | exact ne_of (eq_selfT _) | exact ne_net_self | exact o_eqN | exact o_eqT (noRefs2 rfl (noRef_lst _ _)) rfl | rfl | exact idx_purse (by assumption) rfl | exact o_mul (by omega) | exact o_mod (by first | decide | omega) | exact o_fdiv (by first | decide | omega))))
    exact ⟨_, _, rfl⟩
  · simp only [h, decide_false]
    refine xss_nil ?_
    repeat (first | refine xss_cons (xs_set ?_) | refine xss_cons (xs_ret ?_) | refine xss_cons (xs_own ?_) | refine xss_cons (xs_ifs ?_) | refine vt_or (vto_cons ?_) | refine vto_cons ?_ | refine vt_and (vta_cons ?_) | refine vta_cons ?_ | refine xss_cons (xs_setP ?_) | refine xss_cons (xs_setT ?_) | refine xss_cons (xs_app (plOk_at rfl) ?_) | refine xss_cons (xs_frz rfl ?_) | refine app_at rfl (by first | (simp [cap]; done) | (simp; unfold cap; omega)) ?_ | refine xss_cons (xs_ex ?_) | refine ve_op2 ?_ | refine ve_op1 ?_ | refine ve_var rfl ?_ | refine ve_lit ?_ | refine ve_call ?_ | refine ve_callK ?_ | refine ves_cons ?_ | refine ves_nil ?_ | refine ve_tup ?_ | refine ve_lst ?_ | refine ve_dct0 ?_ | refine ve_new rfl ?_ | refine ve_and2 ?_ | refine ve_and1 ?_ | refine ve_or2 ?_ | refine ve_or1 ?_ | refine ve_fld ?_ | refine ve_ifx ?_ | refine vt_val ?_ | refine vt_not ?_ | ((with_reducible apply And.intro); (· rfl)) | ((with_reducible apply Exists.intro); (with_reducible apply And.intro); (· first | exact add_lst (by first | (simp [cap]; done) | (simp; unfold cap; omega)) | exact add_tup (by first | (simp [cap]; done) | (simp; unfold cap; omega)) | exact o_eq | exact o_gt | exact o_lt | exact o_ge | exact ne_of (eq_bl _) | exact ne_of (eq_int_self _) | exact ne_of (eq_selfT _) | exact ne_net_self | exact o_eqN | exact o_eqT (noRefs2 rfl (noRef_lst _ _)) rfl | rfl | exact idx_purse (by assumption) rfl | exact o_mul (by omega) | exact o_mod (by first | decide | omega) | exact o_fdiv (by first | decide | omega))))
    exact ⟨_, _, rfl⟩
/-- a run that gives v and stores nothing -/
abbrev Is (v : OV) : OV → EV.St → Prop := fun w s => w = v ∧ s = []
theorem Is.pure {es : List E} {ovs : List OV} {f n : Nat} {vs : List PV} {st : EV.St} {P : OV → EV.St → Prop} {v : OV} (h : OkR (run n f vs []) (Is v)) (hn : PV.noRefs vs = true) (hl : (lents es ovs && !v.clean) = false) (hP : P v st) : OkR (callB (callN pCls tx tab n) es ovs f vs st) P :=
  callB_pure hn (h.mono fun w s ⟨e1, e2⟩ => by
    subst e1 e2
    exact ⟨rfl, hl, hP⟩)
end L02

set_option Elab.async false
set_option linter.all false
set_option maxRecDepth 100000
set_option maxHeartbeats 1000000
/-! M02a: what is asked, what is caught, looked at one by one. -/
namespace L02
open PySem EV
def oddL : List PV := [.int 2, .int 0, .int (-1), .non, .bl true, .str "3", .tup [.int 4]]
def noneL : List PV := [.non, .int 5, .str "links", .dct false [] [], .bl true]
def wrongL : List PV := [.tup [.int 1, .int 0], .tup [.int 1, .int 1], .tup [.int 0, .int 4], .tup [.int (-1), .int 2], .tup [.int 0], .tup [.int 0, .int 1, .int 2], .lst false [.int 0, .int 1], .non, .tup [.int 0, .bl true], .tup [.str "0", .int 1]]
def spotL : List PV := [.int 4, .int (-1), .non, .bl true, .str "0", .tup [.int 0]]
def lowL : List PV := [.int (-1), .non, .bl true, .str "1"]
def badL : List PV := [.tup [.int 1, .int 0], .tup [.int 0, .int 0], .tup [.int 4], .lst false [.int 0], .non, .int 5, .tup [.str "0"], .tup [.bl true]]
def fewL : List PV := [.tup [.int 1, .int 0], .tup [.int 0, .int 0], .tup [.int 4], .lst false [.int 0], .non, .int 5, .tup [.str "0"], .tup [.bl true], .tup [.int (-1)]]
def g1 : List PV := [.tup [.int 0, .int 2], .tup [.int 1, .int 3]]
def g2 : List PV := [.tup [.int 0, .int 1], .tup [], .tup [.int 0, .int 1, .int 2, .int 3]]
/-- a right list with a wrong thing in it -/
def spL (good wrong : List PV) : List (List PV × Nat) := (List.range (good.length + 1)).flatMap fun a => wrong.map fun w => (good.take a ++ [w] ++ good.drop a ++ [.non], a)
theorem spL_mem {good wrong : List PV} {a : Nat} {w : PV} (ha : a ≤ good.length) (hw : w ∈ wrong) : (good.take a ++ [w] ++ good.drop a ++ [.non], a) ∈ spL good wrong :=
  List.mem_flatMap.mpr ⟨a, List.mem_range.mpr (by omega), List.mem_map.mpr ⟨w, hw, rfl⟩⟩
def pairsL : List (List PV × Nat) := (List.range 3).flatMap fun z => spL (g1.take z) wrongL
def setsL : List (List PV × Nat) := (List.range 4).flatMap fun z => spL (g2.take z) badL
def net4 : PV := .ins false 0 [5, 6] [.int 4, .tup [.tup [.int 0, .int 1], .tup [.int 1, .int 3]]]
def ask (k : Int) (xs : List PV) : PV := .tup [.int k, .lst false xs]
def err (x : Str) (v : PV) : PV := .lst false [.str x, v]
def chk (q : PV) (d : PV) : Bool := match q with
  | .tup [k, s] => PV.noRefs [k, s] && gives (run 18 205 [k, s] []) d
  | _ => false
theorem chk_ok {q d : PV} (h : chk q d = true) {env : EV.Env} {st : EV.St} (hl : env.length = 17) : ∃ env', bindTg (.many [15, 16]) q env = some env' ∧ ∃ ov, ev pCls tx (callN pCls tx tab 18) (.call 205 [.var 15, .var 16]) env' st = .ok ov st ∧ tak (.call 205 [.var 15, .var 16]) ov = some d := by
  unfold chk at h
  split at h
  · rename_i k s
    rw [Bool.and_eq_true] at h
    obtain ⟨h1, h2⟩ := h
    have e := gives_eq h2
    refine ⟨_, rfl, .sh d, ?_, rfl⟩
    have e1 : ((env.set 15 (some (OV.sh k))).set 16 (some (OV.sh s)))[15]?.join = some (OV.sh k) := by simp [hl]
    have e2 : ((env.set 15 (some (OV.sh k))).set 16 (some (OV.sh s)))[16]?.join = some (OV.sh s) := by simp [hl]
    simp only [ev, evs, e1, e2, lift, EV.R.bind, isFld, OV.own, Bool.false_and, Bool.false_eq_true, if_false, opns, opn, isPl, if_true, OV.lend]
    unfold callB
    rw [h1]
    show (match run 18 205 [k, s] [] with
      | .ok v [] => _
      | .ok _ (_ :: _) => _
      | .exc c ns xs [] => _
      | _ => _) = _
    rw [e]
    rfl
  · cases h
theorem k00 : (oddL.all fun o => pairsL.all fun p => chk (ask 0 [o, .lst false p.1]) (err "number" o)) = true := by kernel_rfl
theorem k01 : (noneL.all fun o => chk (ask 0 [.int 4, o]) (err "links" .non)) = true := by kernel_rfl
theorem k02 : (pairsL.all fun p => chk (ask 0 [.int 4, .lst false p.1]) (err "links" (.int p.2)) && chk (ask 0 [.int 4, .tup p.1]) (err "links" (.int p.2))) = true := by kernel_rfl
theorem k04 : chk (ask 0 [.int 4, .lst false [.tup [.int 2, .int 3], .tup [.int 0, .int 1], .tup [.int 2, .int 3]]]) (err "links" (.int 2)) = true := by kernel_rfl
theorem k05 : (spotL.all fun o => chk (ask 1 [net4, o]) (err "number" o)) = true := by kernel_rfl
theorem k06 : chk (ask 1 [net4, .int 3]) .non = true := by kernel_rfl
theorem k07 : (noneL.all fun o => spotL.all fun p => chk (ask 2 [o, p]) (err "net" o)) = true := by kernel_rfl
theorem k08 : (lowL.all fun o => chk (ask 2 [net4, o]) (err "number" o)) = true := by kernel_rfl
theorem k09a : (setsL.all fun p => fewL.all fun f => chk (ask 3 [.non, .lst false p.1, f]) (err "net" (.non))) = true := by kernel_rfl
theorem k09b : (setsL.all fun p => fewL.all fun f => chk (ask 3 [.int 5, .lst false p.1, f]) (err "net" (.int 5))) = true := by kernel_rfl
theorem k09c : (setsL.all fun p => fewL.all fun f => chk (ask 3 [.str "links", .lst false p.1, f]) (err "net" (.str "links"))) = true := by kernel_rfl
theorem k09d : (setsL.all fun p => fewL.all fun f => chk (ask 3 [.dct false [] [], .lst false p.1, f]) (err "net" (.dct false [] []))) = true := by kernel_rfl
theorem k09e : (setsL.all fun p => fewL.all fun f => chk (ask 3 [.bl true, .lst false p.1, f]) (err "net" (.bl true))) = true := by kernel_rfl
theorem k09 {o : PV} (h : o ∈ noneL) {p : List PV × Nat} (hp : p ∈ setsL) {f : PV} (hf : f ∈ fewL) : chk (ask 3 [o, .lst false p.1, f]) (err "net" o) = true := by
  have go : ∀ {v : PV}, (setsL.all fun p => fewL.all fun f => chk (ask 3 [v, .lst false p.1, f]) (err "net" v)) = true → chk (ask 3 [v, .lst false p.1, f]) (err "net" v) = true := fun h => List.all_eq_true.mp (List.all_eq_true.mp h p hp) f hf
  simp only [noneL, List.mem_cons, List.not_mem_nil, or_false] at h
  rcases h with rfl | rfl | rfl | rfl | rfl
  · exact go k09a
  · exact go k09b
  · exact go k09c
  · exact go k09d
  · exact go k09e
theorem k10 : (noneL.all fun o => fewL.all fun f => chk (ask 3 [net4, o, f]) (err "lots" .non)) = true := by kernel_rfl
theorem k11 : (setsL.all fun p => fewL.all fun f => chk (ask 3 [net4, .lst false p.1, f]) (err "lots" (.int p.2))) = true := by kernel_rfl
theorem k12 : (fewL.all fun f => chk (ask 3 [net4, .lst false [.tup [.int 0, .int 1]], f]) (err "liars" f)) = true := by kernel_rfl
theorem k13 : (chk (ask 3 [net4, .tup [], .tup []]) .non && (chk (ask 0 [.int 3, .tup []]) .non && chk (ask 2 [net4, .int 0]) .non)) = true := by kernel_rfl
theorem kN : run 18 1000 [.int 4, .lst false [.tup [.int 0, .int 1], .tup [.int 1, .int 3]]] [] = .ok (.oi 0 [5, 6] [.sh (.int 4), .sh (.tup [.tup [.int 0, .int 1], .tup [.int 1, .int 3]])]) [] := by kernel_rfl
end L02

set_option Elab.async false
set_option linter.all false
set_option maxRecDepth 100000
set_option maxHeartbeats 1000000
/-! M02b: a right list is spoilt. -/
namespace L02
open PySem EV
theorem spoilt_ok {n k : Nat} {st s : EV.St} {c T : Int} {good wrong : List PV} (hk : k < st.length) (hT : T + 10 < 1000000) (hg : good.length ≤ 10) (hw : 0 < wrong.length ∧ wrong.length ≤ 20) (p : PS st k c T s) :
    OkR (run (n + 3) 206 [.ref k, .lst false good, .lst false wrong] s) fun v s' => ∃ q ∈ spL good wrong, v = .sh (.tup [.lst false q.1, .int q.2]) ∧ PS st k c (T + 2) s' := by
  refine rd (d := d_law_spoilt) (by decide) rfl ⟨rfl, by decide⟩ ?_
  repeat (first | refine xss_cons (xs_set ?_) | refine xss_cons (xs_ret ?_) | refine xss_cons (xs_own ?_) | refine xss_cons (xs_ifs ?_) | refine vt_or (vto_cons ?_) | refine vto_cons ?_ | refine vt_and (vta_cons ?_) | refine vta_cons ?_ | refine xss_cons (xs_setP ?_) | refine xss_cons (xs_setT ?_) | refine xss_cons (xs_app (plOk_at rfl) ?_) | refine xss_cons (xs_frz rfl ?_) | refine app_at rfl (by first | (simp [cap]; done) | (simp; unfold cap; omega)) ?_ | refine xss_cons (xs_ex ?_) | refine ve_op2 ?_ | refine ve_op1 ?_ | refine ve_var rfl ?_ | refine ve_lit ?_ | refine ve_call ?_ | refine ve_callK ?_ | refine ves_cons ?_ | refine ves_nil ?_ | refine ve_tup ?_ | refine ve_lst ?_ | refine ve_dct0 ?_ | refine ve_new rfl ?_ | refine ve_and2 ?_ | refine ve_and1 ?_ | refine ve_or2 ?_ | refine ve_or1 ?_ | refine ve_fld ?_ | refine ve_ifx ?_ | refine vt_val ?_ | refine vt_not ?_ | ((with_reducible apply And.intro); (· rfl)) | ((with_reducible apply Exists.intro); (with_reducible apply And.intro); (· first | exact add_lst (by first | (simp [cap]; done) | (simp; unfold cap; omega)) | exact add_tup (by first | (simp [cap]; done) | (simp; unfold cap; omega)) | exact o_eq | exact o_gt | exact o_lt | exact o_ge | exact ne_of (eq_bl _) | exact ne_of (eq_int_self _) | exact ne_of (eq_selfT _) | exact ne_net_self | exact o_eqN | exact o_eqT (noRefs2 rfl (noRef_lst _ _)) rfl | rfl | exact idx_purse (by assumption) rfl | exact o_mul (by omega) | exact o_mod (by first | decide | omega) | exact o_fdiv (by first | decide | omega))))
  refine callB_ref rfl rfl ((drawS (m := (((good.length : Nat) : Int) + 1)) hk p (by omega) (by omega) (by omega)).mono ?_)
  rintro v s2 ⟨r, rfl, ra, rb, q⟩
  obtain ⟨a, rfl⟩ := Int.eq_ofNat_of_zero_le ra
  repeat (first | refine xss_cons (xs_set ?_) | refine xss_cons (xs_ret ?_) | refine xss_cons (xs_own ?_) | refine xss_cons (xs_ifs ?_) | refine vt_or (vto_cons ?_) | refine vto_cons ?_ | refine vt_and (vta_cons ?_) | refine vta_cons ?_ | refine xss_cons (xs_setP ?_) | refine xss_cons (xs_setT ?_) | refine xss_cons (xs_app (plOk_at rfl) ?_) | refine xss_cons (xs_frz rfl ?_) | refine app_at rfl (by first | (simp [cap]; done) | (simp; unfold cap; omega)) ?_ | refine xss_cons (xs_ex ?_) | refine ve_op2 ?_ | refine ve_op1 ?_ | refine ve_var rfl ?_ | refine ve_lit ?_ | refine ve_call ?_ | refine ve_callK ?_ | refine ves_cons ?_ | refine ves_nil ?_ | refine ve_tup ?_ | refine ve_lst ?_ | refine ve_dct0 ?_ | refine ve_new rfl ?_ | refine ve_and2 ?_ | refine ve_and1 ?_ | refine ve_or2 ?_ | refine ve_or1 ?_ | refine ve_fld ?_ | refine ve_ifx ?_ | refine vt_val ?_ | refine vt_not ?_ | ((with_reducible apply And.intro); (· rfl)) | ((with_reducible apply Exists.intro); (with_reducible apply And.intro); (· first | exact add_lst (by first | (simp [cap]; done) | (simp; unfold cap; omega)) | exact add_tup (by first | (simp [cap]; done) | (simp; unfold cap; omega)) | exact o_eq | exact o_gt | exact o_lt | exact o_ge | exact ne_of (eq_bl _) | exact ne_of (eq_int_self _) | exact ne_of (eq_selfT _) | exact ne_net_self | exact o_eqN | exact o_eqT (noRefs2 rfl (noRef_lst _ _)) rfl | rfl | exact idx_purse (by assumption) rfl | exact o_mul (by omega) | exact o_mod (by first | decide | omega) | exact o_fdiv (by first | decide | omega))))
  rw [cut_to]
  refine callB_ref rfl rfl ((drawS (m := ((wrong.length : Nat) : Int)) hk q (by omega) (by omega) (by omega)).mono ?_)
  rintro v s2 ⟨w, rfl, wa, wb, q2⟩
  obtain ⟨x, hx, e1, _⟩ := o_pick (cl := pCls) (txt := tx) (call := callN pCls tx tab (n + 2)) (st := s2) (f := false) wa wb
  refine ⟨_, e1, ?_⟩
  repeat (first | refine xss_cons (xs_set ?_) | refine xss_cons (xs_ret ?_) | refine xss_cons (xs_own ?_) | refine xss_cons (xs_ifs ?_) | refine vt_or (vto_cons ?_) | refine vto_cons ?_ | refine vt_and (vta_cons ?_) | refine vta_cons ?_ | refine xss_cons (xs_setP ?_) | refine xss_cons (xs_setT ?_) | refine xss_cons (xs_app (plOk_at rfl) ?_) | refine xss_cons (xs_frz rfl ?_) | refine app_at rfl (by first | (simp [cap]; done) | (simp; unfold cap; omega)) ?_ | refine xss_cons (xs_ex ?_) | refine ve_op2 ?_ | refine ve_op1 ?_ | refine ve_var rfl ?_ | refine ve_lit ?_ | refine ve_call ?_ | refine ve_callK ?_ | refine ves_cons ?_ | refine ves_nil ?_ | refine ve_tup ?_ | refine ve_lst ?_ | refine ve_dct0 ?_ | refine ve_new rfl ?_ | refine ve_and2 ?_ | refine ve_and1 ?_ | refine ve_or2 ?_ | refine ve_or1 ?_ | refine ve_fld ?_ | refine ve_ifx ?_ | refine vt_val ?_ | refine vt_not ?_ | ((with_reducible apply And.intro); (· rfl)) | ((with_reducible apply Exists.intro); (with_reducible apply And.intro); (· first | exact add_lst (by first | (simp [cap]; done) | (simp; unfold cap; omega)) | exact add_tup (by first | (simp [cap]; done) | (simp; unfold cap; omega)) | exact o_eq | exact o_gt | exact o_lt | exact o_ge | exact ne_of (eq_bl _) | exact ne_of (eq_int_self _) | exact ne_of (eq_selfT _) | exact ne_net_self | exact o_eqN | exact o_eqT (noRefs2 rfl (noRef_lst _ _)) rfl | rfl | exact idx_purse (by assumption) rfl | exact o_mul (by omega) | exact o_mod (by first | decide | omega) | exact o_fdiv (by first | decide | omega))))
  rw [cut_from]
  repeat (first | refine xss_cons (xs_set ?_) | refine xss_cons (xs_ret ?_) | refine xss_cons (xs_own ?_) | refine xss_cons (xs_ifs ?_) | refine vt_or (vto_cons ?_) | refine vto_cons ?_ | refine vt_and (vta_cons ?_) | refine vta_cons ?_ | refine xss_cons (xs_setP ?_) | refine xss_cons (xs_setT ?_) | refine xss_cons (xs_app (plOk_at rfl) ?_) | refine xss_cons (xs_frz rfl ?_) | refine app_at rfl (by first | (simp [cap]; done) | (simp; unfold cap; omega)) ?_ | refine xss_cons (xs_ex ?_) | refine ve_op2 ?_ | refine ve_op1 ?_ | refine ve_var rfl ?_ | refine ve_lit ?_ | refine ve_call ?_ | refine ve_callK ?_ | refine ves_cons ?_ | refine ves_nil ?_ | refine ve_tup ?_ | refine ve_lst ?_ | refine ve_dct0 ?_ | refine ve_new rfl ?_ | refine ve_and2 ?_ | refine ve_and1 ?_ | refine ve_or2 ?_ | refine ve_or1 ?_ | refine ve_fld ?_ | refine ve_ifx ?_ | refine vt_val ?_ | refine vt_not ?_ | ((with_reducible apply And.intro); (· rfl)) | ((with_reducible apply Exists.intro); (with_reducible apply And.intro); (· first | exact add_lst (by first | (simp [cap]; done) | (simp; unfold cap; omega)) | exact add_tup (by first | (simp [cap]; done) | (simp; unfold cap; omega)) | exact o_eq | exact o_gt | exact o_lt | exact o_ge | exact ne_of (eq_bl _) | exact ne_of (eq_int_self _) | exact ne_of (eq_selfT _) | exact ne_net_self | exact o_eqN | exact o_eqT (noRefs2 rfl (noRef_lst _ _)) rfl | rfl | exact idx_purse (by assumption) rfl | exact o_mul (by omega) | exact o_mod (by first | decide | omega) | exact o_fdiv (by first | decide | omega))))
  exact ⟨(good.take a ++ [x] ++ good.drop a ++ [.non], a), spL_mem (by omega) hx, rfl, q2.mono (by omega)⟩
end L02

set_option Elab.async false
set_option linter.all false
set_option maxRecDepth 100000
set_option maxHeartbeats 4000000
/-! M02c: a turn is right. -/
namespace L02
open PySem EV
theorem mem_all {α : Type} {l : List α} {p : α → Bool} (h : l.all p = true) {x : α} (hx : x ∈ l) : p x = true := List.all_eq_true.mp h x hx
theorem odd_sh : (oddL ++ noneL ++ spotL ++ lowL ++ fewL).all (shB 100 10) = true := by decide +kernel
theorem sh_of {x : PV} (h : x ∈ oddL ++ noneL ++ spotL ++ lowL ++ fewL) : Sh 100 10 x := shB_ok (mem_all odd_sh h)
theorem err_sh {x : Str} {v : PV} (h : Sh 100 10 v) (hx : shB 100 10 (.str x) = true) : Sh 250 11 (err x v) := by
  have := Sh.lst (f := false) (Shs.cons (shB_ok hx) (Shs.cons h Shs.nil))
  exact this.mono (by omega) (by omega)
theorem nat_sh {a : Nat} (h : a ≤ 3) : Sh 100 10 (.int a) := by
  have : a = 0 ∨ a = 1 ∨ a = 2 ∨ a = 3 := by omega
  rcases this with rfl | rfl | rfl | rfl <;> exact shB_ok (by decide +kernel)
theorem sp_at {good wrong : List PV} {q : List PV × Nat} (h : q ∈ spL good wrong) : q.2 ≤ good.length := by
  obtain ⟨a, ha, h⟩ := List.mem_flatMap.mp h
  obtain ⟨w, hw, rfl⟩ := List.mem_map.mp h
  have := List.mem_range.mp ha
  show a ≤ _
  omega
/-- what is asked, and what is due -/
def AD (A D : List PV) : Prop := Each (fun q d => chk q d = true ∧ Sh 250 11 d) A D
theorem AD.app {A D A' D' : List PV} (h : AD A D) (q : AD A' D') : AD (A ++ A') (D ++ D') := by
  induction h with
  | nil => exact q
  | cons h r ih => exact .cons h ih
theorem AD.sh {A D : List PV} (h : AD A D) : ∀ d ∈ D, Sh 250 11 d := by
  induction h with
  | nil => intro d hd; cases hd
  | cons h r ih =>
    intro d hd
    rcases List.mem_cons.mp hd with z | z
    · rw [z]; exact h.2
    · exact ih d z
abbrev eR (k : Nat) (v2 v3 v4 v5 v6 v7 v8 v9 v10 v11 v12 v13 v14 : Option OV) : EV.Env := [some (.sh (.ref k)), some (.sh net4), v2, v3, v4, v5, v6, v7, v8, v9, v10, v11, v12, v13, v14, none, none]
abbrev pv (x : PV) : Option OV := some (.sh x)
abbrev cl18 : Call := callN pCls tx tab 18
section
variable {k : Nat} {st s : EV.St} {c T : Int} {O : Out → EV.St → Prop} {v4 v5 v6 v7 v8 v9 v10 v13 v14 : Option OV}
theorem non_sh : Sh 250 11 .non := shB_ok (by decide +kernel)
/-- the end -/
theorem p4 {A D : List PV} {v2 v3 v7 v8 v11 v12 : Option OV} (h : AD A D) (hl : A.length ≤ 30) (hO : O (.ret (.sh (.bl true))) s) :
    XL pCls tx cl18 (d_law_right.body.drop 20) (eR k v2 v3 v4 (pv (.lst false A)) (pv (.lst false D)) v7 v8 v9 v10 v11 v12 v13 v14) s O := by
  have hD : D.length ≤ 30 := by rw [← Each.len h]; exact hl
  have hc : ∀ m : Nat, m ≤ 40 → m ≤ cap := fun m h => by unfold cap; omega
  have k13 := k13
  rw [Bool.and_eq_true, Bool.and_eq_true] at k13
  have h2 := AD.app h (.cons ⟨k13.1, non_sh⟩ (.cons ⟨k13.2.1, non_sh⟩ (.cons ⟨k13.2.2, non_sh⟩ .nil)))
  repeat (first | refine xss_cons (xs_set ?_) | refine xss_cons (xs_ret ?_) | refine xss_cons (xs_own ?_) | refine xss_cons (xs_ifs ?_) | refine vt_or (vto_cons ?_) | refine vto_cons ?_ | refine vt_and (vta_cons ?_) | refine vta_cons ?_ | refine xss_cons (xs_setP ?_) | refine xss_cons (xs_setT ?_) | refine xss_cons (xs_app (plOk_at rfl) ?_) | refine xss_cons (xs_frz rfl ?_) | refine app_at rfl (by first | (simp [cap]; done) | (simp; unfold cap; omega)) ?_ | refine xss_cons (xs_ex ?_) | refine ve_op2 ?_ | refine ve_op1 ?_ | refine ve_var rfl ?_ | refine ve_lit ?_ | refine ve_call ?_ | refine ve_callK ?_ | refine ves_cons ?_ | refine ves_nil ?_ | refine ve_tup ?_ | refine ve_lst ?_ | refine ve_dct0 ?_ | refine ve_new rfl ?_ | refine ve_and2 ?_ | refine ve_and1 ?_ | refine ve_or2 ?_ | refine ve_or1 ?_ | refine ve_fld ?_ | refine ve_ifx ?_ | refine vt_val ?_ | refine vt_not ?_ | ((with_reducible apply And.intro); (· rfl)) | ((with_reducible apply Exists.intro); (with_reducible apply And.intro); (· first | exact add_lst (by first | (simp [cap]; done) | (simp; unfold cap; omega)) | exact add_tup (by first | (simp [cap]; done) | (simp; unfold cap; omega)) | exact o_eq | exact o_gt | exact o_lt | exact o_ge | exact ne_of (eq_bl _) | exact ne_of (eq_int_self _) | exact ne_of (eq_selfT _) | exact ne_net_self | exact o_eqN | exact o_eqT (noRefs2 rfl (noRef_lst _ _)) rfl | rfl | exact idx_purse (by assumption) rfl | exact o_mul (by omega) | exact o_mod (by first | decide | omega) | exact o_fdiv (by first | decide | omega))))
  refine ve_comp ?_
  repeat (first | refine xss_cons (xs_set ?_) | refine xss_cons (xs_ret ?_) | refine xss_cons (xs_own ?_) | refine xss_cons (xs_ifs ?_) | refine vt_or (vto_cons ?_) | refine vto_cons ?_ | refine vt_and (vta_cons ?_) | refine vta_cons ?_ | refine xss_cons (xs_setP ?_) | refine xss_cons (xs_setT ?_) | refine xss_cons (xs_app (plOk_at rfl) ?_) | refine xss_cons (xs_frz rfl ?_) | refine app_at rfl (by first | (simp [cap]; done) | (simp; unfold cap; omega)) ?_ | refine xss_cons (xs_ex ?_) | refine ve_op2 ?_ | refine ve_op1 ?_ | refine ve_var rfl ?_ | refine ve_lit ?_ | refine ve_call ?_ | refine ve_callK ?_ | refine ves_cons ?_ | refine ves_nil ?_ | refine ve_tup ?_ | refine ve_lst ?_ | refine ve_dct0 ?_ | refine ve_new rfl ?_ | refine ve_and2 ?_ | refine ve_and1 ?_ | refine ve_or2 ?_ | refine ve_or1 ?_ | refine ve_fld ?_ | refine ve_ifx ?_ | refine vt_val ?_ | refine vt_not ?_ | ((with_reducible apply And.intro); (· rfl)) | ((with_reducible apply Exists.intro); (with_reducible apply And.intro); (· first | exact add_lst (by first | (simp [cap]; done) | (simp; unfold cap; omega)) | exact add_tup (by first | (simp [cap]; done) | (simp; unfold cap; omega)) | exact o_eq | exact o_gt | exact o_lt | exact o_ge | exact ne_of (eq_bl _) | exact ne_of (eq_int_self _) | exact ne_of (eq_selfT _) | exact ne_net_self | exact o_eqN | exact o_eqT (noRefs2 rfl (noRef_lst _ _)) rfl | rfl | exact idx_purse (by assumption) rfl | exact o_mul (by omega) | exact o_mod (by first | decide | omega) | exact o_fdiv (by first | decide | omega))))
  refine ⟨_, _, rfl, rfl, OkR.of (comp_each (ds := D ++ [.non, .non, .non]) ?_) ⟨hc _ (by simp; omega), ?_⟩⟩
  · have : ∀ {X Y : List PV}, AD X Y → Each (fun x d => ∃ env', bindTg (.many [15, 16]) x (eR k v2 v3 v4 (pv (.lst false (A ++ [ask 3 [net4, .tup [], .tup []], ask 0 [.int 3, .tup []], ask 2 [net4, .int 0]]))) (pv (.lst false D)) v7 v8 v9 v10 v11 v12 v13 v14) = some env' ∧ ∃ ov, ev pCls tx cl18 (.call 205 [.var 15, .var 16]) env' s = .ok ov s ∧ tak (.call 205 [.var 15, .var 16]) ov = some d) X Y := fun h => by
      induction h with
      | nil => exact .nil
      | cons h r ih => exact .cons (chk_ok h.1 rfl) ih
    exact this h2
  obtain ⟨t, ht⟩ := Shs.text (f := false) (Shs.all (AD.sh h2)) (by simp; omega) (by omega)
  refine ⟨.sh (.str t), ?_, ?_⟩
  · show (tx (.lst false (D ++ [.non, .non, .non]))).map (fun s => OV.sh (.str s)) = _
    rw [show tx (.lst false (D ++ [.non, .non, .non])) = some t from ht]; rfl
  repeat (first | refine xss_cons (xs_set ?_) | refine xss_cons (xs_ret ?_) | refine xss_cons (xs_own ?_) | refine xss_cons (xs_ifs ?_) | refine vt_or (vto_cons ?_) | refine vto_cons ?_ | refine vt_and (vta_cons ?_) | refine vta_cons ?_ | refine xss_cons (xs_setP ?_) | refine xss_cons (xs_setT ?_) | refine xss_cons (xs_app (plOk_at rfl) ?_) | refine xss_cons (xs_frz rfl ?_) | refine app_at rfl (by first | (simp [cap]; done) | (simp; unfold cap; omega)) ?_ | refine xss_cons (xs_ex ?_) | refine ve_op2 ?_ | refine ve_op1 ?_ | refine ve_var rfl ?_ | refine ve_lit ?_ | refine ve_call ?_ | refine ve_callK ?_ | refine ves_cons ?_ | refine ves_nil ?_ | refine ve_tup ?_ | refine ve_lst ?_ | refine ve_dct0 ?_ | refine ve_new rfl ?_ | refine ve_and2 ?_ | refine ve_and1 ?_ | refine ve_or2 ?_ | refine ve_or1 ?_ | refine ve_fld ?_ | refine ve_ifx ?_ | refine vt_val ?_ | refine vt_not ?_ | ((with_reducible apply And.intro); (· rfl)) | ((with_reducible apply Exists.intro); (with_reducible apply And.intro); (· first | exact add_lst (by first | (simp [cap]; done) | (simp; unfold cap; omega)) | exact add_tup (by first | (simp [cap]; done) | (simp; unfold cap; omega)) | exact o_eq | exact o_gt | exact o_lt | exact o_ge | exact ne_of (eq_bl _) | exact ne_of (eq_int_self _) | exact ne_of (eq_selfT _) | exact ne_net_self | exact o_eqN | exact o_eqT (noRefs2 rfl (noRef_lst _ _)) rfl | rfl | exact idx_purse (by assumption) rfl | exact o_mul (by omega) | exact o_mod (by first | decide | omega) | exact o_fdiv (by first | decide | omega))))
  refine ⟨.sh (.str t), ?_, ?_⟩
  · show (tx (.lst false (D ++ [.non, .non, .non]))).map (fun s => OV.sh (.str s)) = _
    rw [show tx (.lst false (D ++ [.non, .non, .non])) = some t from ht]; rfl
  refine ⟨_, o_strEq, ?_⟩
  exact ⟨rfl, hO⟩
theorem p1 {odd non : PV} {L : List PV} {a : Nat} (ho : odd ∈ oddL) (hn : non ∈ noneL) (hp : (L, a) ∈ pairsL) (ha : a ≤ 3)
    (hO : ∀ A D, AD A D → A.length ≤ 5 → XL pCls tx cl18 (d_law_right.body.drop 9) (eR k (pv odd) (pv non) v4 (pv (.lst false A)) (pv (.lst false D)) v7 v8 v9 v10 (pv (.lst false L)) (pv (.int a)) v13 v14) s O) :
    XL pCls tx cl18 (d_law_right.body.drop 5) (eR k (pv odd) (pv non) v4 v5 v6 v7 v8 v9 v10 (pv (.lst false L)) (pv (.int a)) v13 v14) s O := by
  refine xl_split 4 ?_
  repeat (first | refine xss_cons (xs_set ?_) | refine xss_cons (xs_ret ?_) | refine xss_cons (xs_own ?_) | refine xss_cons (xs_ifs ?_) | refine vt_or (vto_cons ?_) | refine vto_cons ?_ | refine vt_and (vta_cons ?_) | refine vta_cons ?_ | refine xss_cons (xs_setP ?_) | refine xss_cons (xs_setT ?_) | refine xss_cons (xs_app (plOk_at rfl) ?_) | refine xss_cons (xs_frz rfl ?_) | refine app_at rfl (by first | (simp [cap]; done) | (simp; unfold cap; omega)) ?_ | refine xss_cons (xs_ex ?_) | refine ve_op2 ?_ | refine ve_op1 ?_ | refine ve_var rfl ?_ | refine ve_lit ?_ | refine ve_call ?_ | refine ve_callK ?_ | refine ves_cons ?_ | refine ves_nil ?_ | refine ve_tup ?_ | refine ve_lst ?_ | refine ve_dct0 ?_ | refine ve_new rfl ?_ | refine ve_and2 ?_ | refine ve_and1 ?_ | refine ve_or2 ?_ | refine ve_or1 ?_ | refine ve_fld ?_ | refine ve_ifx ?_ | refine vt_val ?_ | refine vt_not ?_ | ((with_reducible apply And.intro); (· rfl)) | ((with_reducible apply Exists.intro); (with_reducible apply And.intro); (· first | exact add_lst (by first | (simp [cap]; done) | (simp; unfold cap; omega)) | exact add_tup (by first | (simp [cap]; done) | (simp; unfold cap; omega)) | exact o_eq | exact o_gt | exact o_lt | exact o_ge | exact ne_of (eq_bl _) | exact ne_of (eq_int_self _) | exact ne_of (eq_selfT _) | exact ne_net_self | exact o_eqN | exact o_eqT (noRefs2 rfl (noRef_lst _ _)) rfl | rfl | exact idx_purse (by assumption) rfl | exact o_mul (by omega) | exact o_mod (by first | decide | omega) | exact o_fdiv (by first | decide | omega))))
  refine xss_nil ?_
  refine hO _ _ (.cons ⟨mem_all (mem_all k00 ho) hp, ?_⟩ (.cons ⟨mem_all k01 hn, ?_⟩ (.cons ⟨(Bool.and_eq_true_iff.mp (mem_all k02 hp)).1, ?_⟩ (.cons ⟨(Bool.and_eq_true_iff.mp (mem_all k02 hp)).2, ?_⟩ (.cons ⟨k04, ?_⟩ .nil))))) (Nat.le_refl 5)
  · exact err_sh (sh_of (by simp [ho])) (by decide +kernel)
  · exact err_sh (shB_ok (by decide +kernel)) (by decide +kernel)
  · exact err_sh (nat_sh ha) (by decide +kernel)
  · exact err_sh (nat_sh ha) (by decide +kernel)
  · exact err_sh (nat_sh (a := 2) (by omega)) (by decide +kernel)
theorem p2 {odd non : PV} {L : List PV} {a : Nat} {A D : List PV} (hk : k < st.length) (hT : T + 2000 < 1000000) (p : PS st k c T s) (hn : non ∈ noneL) (h : AD A D) (hl : A.length ≤ 5)
    (hO : ∀ A D spot low s', AD A D → A.length ≤ 9 → PS st k c (T + 2) s' → XL pCls tx cl18 (d_law_right.body.drop 13) (eR k (pv odd) (pv non) v4 (pv (.lst false A)) (pv (.lst false D)) (pv spot) (pv low) v9 v10 (pv (.lst false L)) (pv (.int a)) v13 v14) s' O) :
    XL pCls tx cl18 (d_law_right.body.drop 9) (eR k (pv odd) (pv non) v4 (pv (.lst false A)) (pv (.lst false D)) v7 v8 v9 v10 (pv (.lst false L)) (pv (.int a)) v13 v14) s O := by
  have hD : D.length ≤ 5 := by rw [← Each.len h]; exact hl
  refine xl_split 4 ?_
  repeat (first | refine xss_cons (xs_set ?_) | refine xss_cons (xs_ret ?_) | refine xss_cons (xs_own ?_) | refine xss_cons (xs_ifs ?_) | refine vt_or (vto_cons ?_) | refine vto_cons ?_ | refine vt_and (vta_cons ?_) | refine vta_cons ?_ | refine xss_cons (xs_setP ?_) | refine xss_cons (xs_setT ?_) | refine xss_cons (xs_app (plOk_at rfl) ?_) | refine xss_cons (xs_frz rfl ?_) | refine app_at rfl (by first | (simp [cap]; done) | (simp; unfold cap; omega)) ?_ | refine xss_cons (xs_ex ?_) | refine ve_op2 ?_ | refine ve_op1 ?_ | refine ve_var rfl ?_ | refine ve_lit ?_ | refine ve_call ?_ | refine ve_callK ?_ | refine ves_cons ?_ | refine ves_nil ?_ | refine ve_tup ?_ | refine ve_lst ?_ | refine ve_dct0 ?_ | refine ve_new rfl ?_ | refine ve_and2 ?_ | refine ve_and1 ?_ | refine ve_or2 ?_ | refine ve_or1 ?_ | refine ve_fld ?_ | refine ve_ifx ?_ | refine vt_val ?_ | refine vt_not ?_ | ((with_reducible apply And.intro); (· rfl)) | ((with_reducible apply Exists.intro); (with_reducible apply And.intro); (· first | exact add_lst (by first | (simp [cap]; done) | (simp; unfold cap; omega)) | exact add_tup (by first | (simp [cap]; done) | (simp; unfold cap; omega)) | exact o_eq | exact o_gt | exact o_lt | exact o_ge | exact ne_of (eq_bl _) | exact ne_of (eq_int_self _) | exact ne_of (eq_selfT _) | exact ne_net_self | exact o_eqN | exact o_eqT (noRefs2 rfl (noRef_lst _ _)) rfl | rfl | exact idx_purse (by assumption) rfl | exact o_mul (by omega) | exact o_mod (by first | decide | omega) | exact o_fdiv (by first | decide | omega))))
  refine callB_ref rfl rfl ((drawS (m := 6) hk p (by omega) (by omega) (by omega)).mono ?_)
  rintro v s2 ⟨r6, rfl, r6a, r6b, q5⟩
  obtain ⟨spot, hs, e1, _⟩ := o_pick (cl := pCls) (txt := tx) (call := callN pCls tx tab 18) (st := s2) (f := false) (xs := spotL) r6a r6b
  refine ⟨_, e1, ?_⟩
  clear e1
  repeat (first | refine xss_cons (xs_set ?_) | refine xss_cons (xs_ret ?_) | refine xss_cons (xs_own ?_) | refine xss_cons (xs_ifs ?_) | refine vt_or (vto_cons ?_) | refine vto_cons ?_ | refine vt_and (vta_cons ?_) | refine vta_cons ?_ | refine xss_cons (xs_setP ?_) | refine xss_cons (xs_setT ?_) | refine xss_cons (xs_app (plOk_at rfl) ?_) | refine xss_cons (xs_frz rfl ?_) | refine app_at rfl (by first | (simp [cap]; done) | (simp; unfold cap; omega)) ?_ | refine xss_cons (xs_ex ?_) | refine ve_op2 ?_ | refine ve_op1 ?_ | refine ve_var rfl ?_ | refine ve_lit ?_ | refine ve_call ?_ | refine ve_callK ?_ | refine ves_cons ?_ | refine ves_nil ?_ | refine ve_tup ?_ | refine ve_lst ?_ | refine ve_dct0 ?_ | refine ve_new rfl ?_ | refine ve_and2 ?_ | refine ve_and1 ?_ | refine ve_or2 ?_ | refine ve_or1 ?_ | refine ve_fld ?_ | refine ve_ifx ?_ | refine vt_val ?_ | refine vt_not ?_ | ((with_reducible apply And.intro); (· rfl)) | ((with_reducible apply Exists.intro); (with_reducible apply And.intro); (· first | exact add_lst (by first | (simp [cap]; done) | (simp; unfold cap; omega)) | exact add_tup (by first | (simp [cap]; done) | (simp; unfold cap; omega)) | exact o_eq | exact o_gt | exact o_lt | exact o_ge | exact ne_of (eq_bl _) | exact ne_of (eq_int_self _) | exact ne_of (eq_selfT _) | exact ne_net_self | exact o_eqN | exact o_eqT (noRefs2 rfl (noRef_lst _ _)) rfl | rfl | exact idx_purse (by assumption) rfl | exact o_mul (by omega) | exact o_mod (by first | decide | omega) | exact o_fdiv (by first | decide | omega))))
  refine callB_ref rfl rfl ((drawS (m := 4) hk q5 (by omega) (by omega) (by omega)).mono ?_)
  rintro v s2 ⟨r7, rfl, r7a, r7b, q6⟩
  obtain ⟨low, hlo, e1, _⟩ := o_pick (cl := pCls) (txt := tx) (call := callN pCls tx tab 18) (st := s2) (f := false) (xs := lowL) r7a r7b
  refine ⟨_, e1, ?_⟩
  clear e1
  repeat (first | refine xss_cons (xs_set ?_) | refine xss_cons (xs_ret ?_) | refine xss_cons (xs_own ?_) | refine xss_cons (xs_ifs ?_) | refine vt_or (vto_cons ?_) | refine vto_cons ?_ | refine vt_and (vta_cons ?_) | refine vta_cons ?_ | refine xss_cons (xs_setP ?_) | refine xss_cons (xs_setT ?_) | refine xss_cons (xs_app (plOk_at rfl) ?_) | refine xss_cons (xs_frz rfl ?_) | refine app_at rfl (by first | (simp [cap]; done) | (simp; unfold cap; omega)) ?_ | refine xss_cons (xs_ex ?_) | refine ve_op2 ?_ | refine ve_op1 ?_ | refine ve_var rfl ?_ | refine ve_lit ?_ | refine ve_call ?_ | refine ve_callK ?_ | refine ves_cons ?_ | refine ves_nil ?_ | refine ve_tup ?_ | refine ve_lst ?_ | refine ve_dct0 ?_ | refine ve_new rfl ?_ | refine ve_and2 ?_ | refine ve_and1 ?_ | refine ve_or2 ?_ | refine ve_or1 ?_ | refine ve_fld ?_ | refine ve_ifx ?_ | refine vt_val ?_ | refine vt_not ?_ | ((with_reducible apply And.intro); (· rfl)) | ((with_reducible apply Exists.intro); (with_reducible apply And.intro); (· first | exact add_lst (by first | (simp [cap]; done) | (simp; unfold cap; omega)) | exact add_tup (by first | (simp [cap]; done) | (simp; unfold cap; omega)) | exact o_eq | exact o_gt | exact o_lt | exact o_ge | exact ne_of (eq_bl _) | exact ne_of (eq_int_self _) | exact ne_of (eq_selfT _) | exact ne_net_self | exact o_eqN | exact o_eqT (noRefs2 rfl (noRef_lst _ _)) rfl | rfl | exact idx_purse (by assumption) rfl | exact o_mul (by omega) | exact o_mod (by first | decide | omega) | exact o_fdiv (by first | decide | omega))))
  refine xss_nil ?_
  refine hO _ _ _ _ _ (AD.app h (.cons ⟨mem_all k05 hs, ?_⟩ (.cons ⟨k06, non_sh⟩ (.cons ⟨mem_all (mem_all k07 hn) hs, ?_⟩ (.cons ⟨mem_all k08 hlo, ?_⟩ .nil))))) (by simp; omega) (q6.mono (by omega))
  · exact err_sh (sh_of (by simp [hs])) (by decide +kernel)
  · exact err_sh (sh_of (by simp [hn])) (by decide +kernel)
  · exact err_sh (sh_of (by simp [hlo])) (by decide +kernel)
theorem p3 {odd non spot low : PV} {L : List PV} {a : Nat} {A D : List PV} (hk : k < st.length) (hT : T + 2000 < 1000000) (p : PS st k c T s) (hn : non ∈ noneL) (h : AD A D) (hl : A.length ≤ 9)
    (hO : ∀ A D v9 v10 v13 v14 s', AD A D → A.length ≤ 13 → PS st k c (T + 4) s' → XL pCls tx cl18 (d_law_right.body.drop 20) (eR k (pv odd) (pv non) v4 (pv (.lst false A)) (pv (.lst false D)) (pv spot) (pv low) v9 v10 (pv (.lst false L)) (pv (.int a)) v13 v14) s' O) :
    XL pCls tx cl18 (d_law_right.body.drop 13) (eR k (pv odd) (pv non) v4 (pv (.lst false A)) (pv (.lst false D)) (pv spot) (pv low) v9 v10 (pv (.lst false L)) (pv (.int a)) v13 v14) s O := by
  have hD : D.length ≤ 9 := by rw [← Each.len h]; exact hl
  refine xl_split 7 ?_
  repeat (first | refine xss_cons (xs_set ?_) | refine xss_cons (xs_ret ?_) | refine xss_cons (xs_own ?_) | refine xss_cons (xs_ifs ?_) | refine vt_or (vto_cons ?_) | refine vto_cons ?_ | refine vt_and (vta_cons ?_) | refine vta_cons ?_ | refine xss_cons (xs_setP ?_) | refine xss_cons (xs_setT ?_) | refine xss_cons (xs_app (plOk_at rfl) ?_) | refine xss_cons (xs_frz rfl ?_) | refine app_at rfl (by first | (simp [cap]; done) | (simp; unfold cap; omega)) ?_ | refine xss_cons (xs_ex ?_) | refine ve_op2 ?_ | refine ve_op1 ?_ | refine ve_var rfl ?_ | refine ve_lit ?_ | refine ve_call ?_ | refine ve_callK ?_ | refine ves_cons ?_ | refine ves_nil ?_ | refine ve_tup ?_ | refine ve_lst ?_ | refine ve_dct0 ?_ | refine ve_new rfl ?_ | refine ve_and2 ?_ | refine ve_and1 ?_ | refine ve_or2 ?_ | refine ve_or1 ?_ | refine ve_fld ?_ | refine ve_ifx ?_ | refine vt_val ?_ | refine vt_not ?_ | ((with_reducible apply And.intro); (· rfl)) | ((with_reducible apply Exists.intro); (with_reducible apply And.intro); (· first | exact add_lst (by first | (simp [cap]; done) | (simp; unfold cap; omega)) | exact add_tup (by first | (simp [cap]; done) | (simp; unfold cap; omega)) | exact o_eq | exact o_gt | exact o_lt | exact o_ge | exact ne_of (eq_bl _) | exact ne_of (eq_int_self _) | exact ne_of (eq_selfT _) | exact ne_net_self | exact o_eqN | exact o_eqT (noRefs2 rfl (noRef_lst _ _)) rfl | rfl | exact idx_purse (by assumption) rfl | exact o_mul (by omega) | exact o_mod (by first | decide | omega) | exact o_fdiv (by first | decide | omega))))
  refine callB_ref rfl rfl ((drawS (m := 4) hk p (by omega) (by omega) (by omega)).mono ?_)
  rintro v s2 ⟨z, rfl, za, zb, q3⟩
  obtain ⟨z, rfl⟩ := Int.eq_ofNat_of_zero_le za
  repeat (first | refine xss_cons (xs_set ?_) | refine xss_cons (xs_ret ?_) | refine xss_cons (xs_own ?_) | refine xss_cons (xs_ifs ?_) | refine vt_or (vto_cons ?_) | refine vto_cons ?_ | refine vt_and (vta_cons ?_) | refine vta_cons ?_ | refine xss_cons (xs_setP ?_) | refine xss_cons (xs_setT ?_) | refine xss_cons (xs_app (plOk_at rfl) ?_) | refine xss_cons (xs_frz rfl ?_) | refine app_at rfl (by first | (simp [cap]; done) | (simp; unfold cap; omega)) ?_ | refine xss_cons (xs_ex ?_) | refine ve_op2 ?_ | refine ve_op1 ?_ | refine ve_var rfl ?_ | refine ve_lit ?_ | refine ve_call ?_ | refine ve_callK ?_ | refine ves_cons ?_ | refine ves_nil ?_ | refine ve_tup ?_ | refine ve_lst ?_ | refine ve_dct0 ?_ | refine ve_new rfl ?_ | refine ve_and2 ?_ | refine ve_and1 ?_ | refine ve_or2 ?_ | refine ve_or1 ?_ | refine ve_fld ?_ | refine ve_ifx ?_ | refine vt_val ?_ | refine vt_not ?_ | ((with_reducible apply And.intro); (· rfl)) | ((with_reducible apply Exists.intro); (with_reducible apply And.intro); (· first | exact add_lst (by first | (simp [cap]; done) | (simp; unfold cap; omega)) | exact add_tup (by first | (simp [cap]; done) | (simp; unfold cap; omega)) | exact o_eq | exact o_gt | exact o_lt | exact o_ge | exact ne_of (eq_bl _) | exact ne_of (eq_int_self _) | exact ne_of (eq_selfT _) | exact ne_net_self | exact o_eqN | exact o_eqT (noRefs2 rfl (noRef_lst _ _)) rfl | rfl | exact idx_purse (by assumption) rfl | exact o_mul (by omega) | exact o_mod (by first | decide | omega) | exact o_fdiv (by first | decide | omega))))
  rw [show cut [PV.tup [PV.int 0, PV.int 1], PV.tup [], PV.tup [PV.int 0, PV.int 1, PV.int 2, PV.int 3]] none (some (z : Int)) = g2.take z from cut_to g2 z]
  refine callB_ref rfl rfl ((spoilt_ok (n := 15) (good := g2.take z) (wrong := badL) hk (by omega) (by rw [List.length_take]; show min z 3 ≤ 10; omega) (by decide) q3).mono ?_)
  rintro v s2 ⟨⟨M, b⟩, hp, rfl, q4⟩
  have hb : b ≤ 3 := by
    have := sp_at hp
    rw [List.length_take] at this
    have h2 : g2.length = 3 := rfl
    simp only at this
    omega
  have hpl : (M, b) ∈ setsL := List.mem_flatMap.mpr ⟨z, List.mem_range.mpr (by omega), hp⟩
  repeat (first | refine xss_cons (xs_set ?_) | refine xss_cons (xs_ret ?_) | refine xss_cons (xs_own ?_) | refine xss_cons (xs_ifs ?_) | refine vt_or (vto_cons ?_) | refine vto_cons ?_ | refine vt_and (vta_cons ?_) | refine vta_cons ?_ | refine xss_cons (xs_setP ?_) | refine xss_cons (xs_setT ?_) | refine xss_cons (xs_app (plOk_at rfl) ?_) | refine xss_cons (xs_frz rfl ?_) | refine app_at rfl (by first | (simp [cap]; done) | (simp; unfold cap; omega)) ?_ | refine xss_cons (xs_ex ?_) | refine ve_op2 ?_ | refine ve_op1 ?_ | refine ve_var rfl ?_ | refine ve_lit ?_ | refine ve_call ?_ | refine ve_callK ?_ | refine ves_cons ?_ | refine ves_nil ?_ | refine ve_tup ?_ | refine ve_lst ?_ | refine ve_dct0 ?_ | refine ve_new rfl ?_ | refine ve_and2 ?_ | refine ve_and1 ?_ | refine ve_or2 ?_ | refine ve_or1 ?_ | refine ve_fld ?_ | refine ve_ifx ?_ | refine vt_val ?_ | refine vt_not ?_ | ((with_reducible apply And.intro); (· rfl)) | ((with_reducible apply Exists.intro); (with_reducible apply And.intro); (· first | exact add_lst (by first | (simp [cap]; done) | (simp; unfold cap; omega)) | exact add_tup (by first | (simp [cap]; done) | (simp; unfold cap; omega)) | exact o_eq | exact o_gt | exact o_lt | exact o_ge | exact ne_of (eq_bl _) | exact ne_of (eq_int_self _) | exact ne_of (eq_selfT _) | exact ne_net_self | exact o_eqN | exact o_eqT (noRefs2 rfl (noRef_lst _ _)) rfl | rfl | exact idx_purse (by assumption) rfl | exact o_mul (by omega) | exact o_mod (by first | decide | omega) | exact o_fdiv (by first | decide | omega))))
  refine callB_ref rfl rfl ((drawS (m := 9) hk q4 (by omega) (by omega) (by omega)).mono ?_)
  rintro v s2 ⟨r9, rfl, r9a, r9b, q5⟩
  obtain ⟨few, hf, e1, _⟩ := o_pick (cl := pCls) (txt := tx) (call := callN pCls tx tab 18) (st := s2) (f := false) (xs := fewL) r9a r9b
  refine ⟨_, e1, ?_⟩
  clear e1
  repeat (first | refine xss_cons (xs_set ?_) | refine xss_cons (xs_ret ?_) | refine xss_cons (xs_own ?_) | refine xss_cons (xs_ifs ?_) | refine vt_or (vto_cons ?_) | refine vto_cons ?_ | refine vt_and (vta_cons ?_) | refine vta_cons ?_ | refine xss_cons (xs_setP ?_) | refine xss_cons (xs_setT ?_) | refine xss_cons (xs_app (plOk_at rfl) ?_) | refine xss_cons (xs_frz rfl ?_) | refine app_at rfl (by first | (simp [cap]; done) | (simp; unfold cap; omega)) ?_ | refine xss_cons (xs_ex ?_) | refine ve_op2 ?_ | refine ve_op1 ?_ | refine ve_var rfl ?_ | refine ve_lit ?_ | refine ve_call ?_ | refine ve_callK ?_ | refine ves_cons ?_ | refine ves_nil ?_ | refine ve_tup ?_ | refine ve_lst ?_ | refine ve_dct0 ?_ | refine ve_new rfl ?_ | refine ve_and2 ?_ | refine ve_and1 ?_ | refine ve_or2 ?_ | refine ve_or1 ?_ | refine ve_fld ?_ | refine ve_ifx ?_ | refine vt_val ?_ | refine vt_not ?_ | ((with_reducible apply And.intro); (· rfl)) | ((with_reducible apply Exists.intro); (with_reducible apply And.intro); (· first | exact add_lst (by first | (simp [cap]; done) | (simp; unfold cap; omega)) | exact add_tup (by first | (simp [cap]; done) | (simp; unfold cap; omega)) | exact o_eq | exact o_gt | exact o_lt | exact o_ge | exact ne_of (eq_bl _) | exact ne_of (eq_int_self _) | exact ne_of (eq_selfT _) | exact ne_net_self | exact o_eqN | exact o_eqT (noRefs2 rfl (noRef_lst _ _)) rfl | rfl | exact idx_purse (by assumption) rfl | exact o_mul (by omega) | exact o_mod (by first | decide | omega) | exact o_fdiv (by first | decide | omega))))
  refine xss_nil ?_
  rw [List.append_assoc]
  refine hO _ _ _ _ _ _ _ (AD.app h (.cons ⟨k09 hn hpl hf, ?_⟩ (.cons ⟨mem_all (mem_all k10 hn) hf, ?_⟩ (.cons ⟨mem_all (mem_all k11 hpl) hf, ?_⟩ (.cons ⟨mem_all k12 hf, ?_⟩ .nil))))) (by simp; omega) (q5.mono (by omega))
  · exact err_sh (sh_of (by simp [hn])) (by decide +kernel)
  · exact err_sh (shB_ok (by decide +kernel)) (by decide +kernel)
  · exact err_sh (nat_sh hb) (by decide +kernel)
  · exact err_sh (sh_of (by simp [hf])) (by decide +kernel)
end
theorem right_ok {k : Nat} {st s : EV.St} {c T : Int} (hk : k < st.length) (hT : T + 4000 < 1000000) (p : PS st k c T s) : OkR (run 19 207 [.ref k] s) fun v s' => v = .sh (.bl true) ∧ PS st k c (T + 300) s' := by
  refine rd (n := 18) (d := d_law_right) (by decide) rfl ⟨rfl, by decide⟩ ?_
  refine xl_split 5 ?_
  repeat (first | refine xss_cons (xs_set ?_) | refine xss_cons (xs_ret ?_) | refine xss_cons (xs_own ?_) | refine xss_cons (xs_ifs ?_) | refine vt_or (vto_cons ?_) | refine vto_cons ?_ | refine vt_and (vta_cons ?_) | refine vta_cons ?_ | refine xss_cons (xs_setP ?_) | refine xss_cons (xs_setT ?_) | refine xss_cons (xs_app (plOk_at rfl) ?_) | refine xss_cons (xs_frz rfl ?_) | refine app_at rfl (by first | (simp [cap]; done) | (simp; unfold cap; omega)) ?_ | refine xss_cons (xs_ex ?_) | refine ve_op2 ?_ | refine ve_op1 ?_ | refine ve_var rfl ?_ | refine ve_lit ?_ | refine ve_call ?_ | refine ve_callK ?_ | refine ves_cons ?_ | refine ves_nil ?_ | refine ve_tup ?_ | refine ve_lst ?_ | refine ve_dct0 ?_ | refine ve_new rfl ?_ | refine ve_and2 ?_ | refine ve_and1 ?_ | refine ve_or2 ?_ | refine ve_or1 ?_ | refine ve_fld ?_ | refine ve_ifx ?_ | refine vt_val ?_ | refine vt_not ?_ | ((with_reducible apply And.intro); (· rfl)) | ((with_reducible apply Exists.intro); (with_reducible apply And.intro); (· first | exact add_lst (by first | (simp [cap]; done) | (simp; unfold cap; omega)) | exact add_tup (by first | (simp [cap]; done) | (simp; unfold cap; omega)) | exact o_eq | exact o_gt | exact o_lt | exact o_ge | exact ne_of (eq_bl _) | exact ne_of (eq_int_self _) | exact ne_of (eq_selfT _) | exact ne_net_self | exact o_eqN | exact o_eqT (noRefs2 rfl (noRef_lst _ _)) rfl | rfl | exact idx_purse (by assumption) rfl | exact o_mul (by omega) | exact o_mod (by first | decide | omega) | exact o_fdiv (by first | decide | omega))))
  refine callB_pure rfl (OkR.of kN ⟨rfl, rfl, ?_⟩)
  repeat (first | refine xss_cons (xs_set ?_) | refine xss_cons (xs_ret ?_) | refine xss_cons (xs_own ?_) | refine xss_cons (xs_ifs ?_) | refine vt_or (vto_cons ?_) | refine vto_cons ?_ | refine vt_and (vta_cons ?_) | refine vta_cons ?_ | refine xss_cons (xs_setP ?_) | refine xss_cons (xs_setT ?_) | refine xss_cons (xs_app (plOk_at rfl) ?_) | refine xss_cons (xs_frz rfl ?_) | refine app_at rfl (by first | (simp [cap]; done) | (simp; unfold cap; omega)) ?_ | refine xss_cons (xs_ex ?_) | refine ve_op2 ?_ | refine ve_op1 ?_ | refine ve_var rfl ?_ | refine ve_lit ?_ | refine ve_call ?_ | refine ve_callK ?_ | refine ves_cons ?_ | refine ves_nil ?_ | refine ve_tup ?_ | refine ve_lst ?_ | refine ve_dct0 ?_ | refine ve_new rfl ?_ | refine ve_and2 ?_ | refine ve_and1 ?_ | refine ve_or2 ?_ | refine ve_or1 ?_ | refine ve_fld ?_ | refine ve_ifx ?_ | refine vt_val ?_ | refine vt_not ?_ | ((with_reducible apply And.intro); (· rfl)) | ((with_reducible apply Exists.intro); (with_reducible apply And.intro); (· first | exact add_lst (by first | (simp [cap]; done) | (simp; unfold cap; omega)) | exact add_tup (by first | (simp [cap]; done) | (simp; unfold cap; omega)) | exact o_eq | exact o_gt | exact o_lt | exact o_ge | exact ne_of (eq_bl _) | exact ne_of (eq_int_self _) | exact ne_of (eq_selfT _) | exact ne_net_self | exact o_eqN | exact o_eqT (noRefs2 rfl (noRef_lst _ _)) rfl | rfl | exact idx_purse (by assumption) rfl | exact o_mul (by omega) | exact o_mod (by first | decide | omega) | exact o_fdiv (by first | decide | omega))))
  refine callB_ref rfl rfl ((drawS (m := 7) hk p (by omega) (by omega) (by omega)).mono ?_)
  rintro v s2 ⟨r, rfl, ra, rb, q⟩
  obtain ⟨odd, ho, e1, _⟩ := o_pick (cl := pCls) (txt := tx) (call := callN pCls tx tab 18) (st := s2) (f := false) (xs := oddL) ra rb
  refine ⟨_, e1, ?_⟩
  clear e1
  repeat (first | refine xss_cons (xs_set ?_) | refine xss_cons (xs_ret ?_) | refine xss_cons (xs_own ?_) | refine xss_cons (xs_ifs ?_) | refine vt_or (vto_cons ?_) | refine vto_cons ?_ | refine vt_and (vta_cons ?_) | refine vta_cons ?_ | refine xss_cons (xs_setP ?_) | refine xss_cons (xs_setT ?_) | refine xss_cons (xs_app (plOk_at rfl) ?_) | refine xss_cons (xs_frz rfl ?_) | refine app_at rfl (by first | (simp [cap]; done) | (simp; unfold cap; omega)) ?_ | refine xss_cons (xs_ex ?_) | refine ve_op2 ?_ | refine ve_op1 ?_ | refine ve_var rfl ?_ | refine ve_lit ?_ | refine ve_call ?_ | refine ve_callK ?_ | refine ves_cons ?_ | refine ves_nil ?_ | refine ve_tup ?_ | refine ve_lst ?_ | refine ve_dct0 ?_ | refine ve_new rfl ?_ | refine ve_and2 ?_ | refine ve_and1 ?_ | refine ve_or2 ?_ | refine ve_or1 ?_ | refine ve_fld ?_ | refine ve_ifx ?_ | refine vt_val ?_ | refine vt_not ?_ | ((with_reducible apply And.intro); (· rfl)) | ((with_reducible apply Exists.intro); (with_reducible apply And.intro); (· first | exact add_lst (by first | (simp [cap]; done) | (simp; unfold cap; omega)) | exact add_tup (by first | (simp [cap]; done) | (simp; unfold cap; omega)) | exact o_eq | exact o_gt | exact o_lt | exact o_ge | exact ne_of (eq_bl _) | exact ne_of (eq_int_self _) | exact ne_of (eq_selfT _) | exact ne_net_self | exact o_eqN | exact o_eqT (noRefs2 rfl (noRef_lst _ _)) rfl | rfl | exact idx_purse (by assumption) rfl | exact o_mul (by omega) | exact o_mod (by first | decide | omega) | exact o_fdiv (by first | decide | omega))))
  refine callB_ref rfl rfl ((drawS (m := 5) hk q (by omega) (by omega) (by omega)).mono ?_)
  rintro v s2 ⟨w, rfl, wa, wb, q2⟩
  obtain ⟨non, hn, e1, _⟩ := o_pick (cl := pCls) (txt := tx) (call := callN pCls tx tab 18) (st := s2) (f := false) (xs := noneL) wa wb
  refine ⟨_, e1, ?_⟩
  clear e1
  repeat (first | refine xss_cons (xs_set ?_) | refine xss_cons (xs_ret ?_) | refine xss_cons (xs_own ?_) | refine xss_cons (xs_ifs ?_) | refine vt_or (vto_cons ?_) | refine vto_cons ?_ | refine vt_and (vta_cons ?_) | refine vta_cons ?_ | refine xss_cons (xs_setP ?_) | refine xss_cons (xs_setT ?_) | refine xss_cons (xs_app (plOk_at rfl) ?_) | refine xss_cons (xs_frz rfl ?_) | refine app_at rfl (by first | (simp [cap]; done) | (simp; unfold cap; omega)) ?_ | refine xss_cons (xs_ex ?_) | refine ve_op2 ?_ | refine ve_op1 ?_ | refine ve_var rfl ?_ | refine ve_lit ?_ | refine ve_call ?_ | refine ve_callK ?_ | refine ves_cons ?_ | refine ves_nil ?_ | refine ve_tup ?_ | refine ve_lst ?_ | refine ve_dct0 ?_ | refine ve_new rfl ?_ | refine ve_and2 ?_ | refine ve_and1 ?_ | refine ve_or2 ?_ | refine ve_or1 ?_ | refine ve_fld ?_ | refine ve_ifx ?_ | refine vt_val ?_ | refine vt_not ?_ | ((with_reducible apply And.intro); (· rfl)) | ((with_reducible apply Exists.intro); (with_reducible apply And.intro); (· first | exact add_lst (by first | (simp [cap]; done) | (simp; unfold cap; omega)) | exact add_tup (by first | (simp [cap]; done) | (simp; unfold cap; omega)) | exact o_eq | exact o_gt | exact o_lt | exact o_ge | exact ne_of (eq_bl _) | exact ne_of (eq_int_self _) | exact ne_of (eq_selfT _) | exact ne_net_self | exact o_eqN | exact o_eqT (noRefs2 rfl (noRef_lst _ _)) rfl | rfl | exact idx_purse (by assumption) rfl | exact o_mul (by omega) | exact o_mod (by first | decide | omega) | exact o_fdiv (by first | decide | omega))))
  refine callB_ref rfl rfl ((drawS (m := 3) hk q2 (by omega) (by omega) (by omega)).mono ?_)
  rintro v s2 ⟨z, rfl, za, zb, q3⟩
  obtain ⟨z, rfl⟩ := Int.eq_ofNat_of_zero_le za
  repeat (first | refine xss_cons (xs_set ?_) | refine xss_cons (xs_ret ?_) | refine xss_cons (xs_own ?_) | refine xss_cons (xs_ifs ?_) | refine vt_or (vto_cons ?_) | refine vto_cons ?_ | refine vt_and (vta_cons ?_) | refine vta_cons ?_ | refine xss_cons (xs_setP ?_) | refine xss_cons (xs_setT ?_) | refine xss_cons (xs_app (plOk_at rfl) ?_) | refine xss_cons (xs_frz rfl ?_) | refine app_at rfl (by first | (simp [cap]; done) | (simp; unfold cap; omega)) ?_ | refine xss_cons (xs_ex ?_) | refine ve_op2 ?_ | refine ve_op1 ?_ | refine ve_var rfl ?_ | refine ve_lit ?_ | refine ve_call ?_ | refine ve_callK ?_ | refine ves_cons ?_ | refine ves_nil ?_ | refine ve_tup ?_ | refine ve_lst ?_ | refine ve_dct0 ?_ | refine ve_new rfl ?_ | refine ve_and2 ?_ | refine ve_and1 ?_ | refine ve_or2 ?_ | refine ve_or1 ?_ | refine ve_fld ?_ | refine ve_ifx ?_ | refine vt_val ?_ | refine vt_not ?_ | ((with_reducible apply And.intro); (· rfl)) | ((with_reducible apply Exists.intro); (with_reducible apply And.intro); (· first | exact add_lst (by first | (simp [cap]; done) | (simp; unfold cap; omega)) | exact add_tup (by first | (simp [cap]; done) | (simp; unfold cap; omega)) | exact o_eq | exact o_gt | exact o_lt | exact o_ge | exact ne_of (eq_bl _) | exact ne_of (eq_int_self _) | exact ne_of (eq_selfT _) | exact ne_net_self | exact o_eqN | exact o_eqT (noRefs2 rfl (noRef_lst _ _)) rfl | rfl | exact idx_purse (by assumption) rfl | exact o_mul (by omega) | exact o_mod (by first | decide | omega) | exact o_fdiv (by first | decide | omega))))
  refine ⟨.ol (g1.take z), ?_, ?_⟩
  · show (if _ then some (OV.ol (cut _ none (some 0) ++ cut g1 none (some (z : Int)))) else none) = _
    rw [cut_to g1 z]
    exact if_pos (by show _ + (cut g1 none (some (z : Int))).length ≤ cap; rw [cut_to g1 z, List.length_take]; show 0 + min z 2 ≤ 16777216; omega)
  repeat (first | refine xss_cons (xs_set ?_) | refine xss_cons (xs_ret ?_) | refine xss_cons (xs_own ?_) | refine xss_cons (xs_ifs ?_) | refine vt_or (vto_cons ?_) | refine vto_cons ?_ | refine vt_and (vta_cons ?_) | refine vta_cons ?_ | refine xss_cons (xs_setP ?_) | refine xss_cons (xs_setT ?_) | refine xss_cons (xs_app (plOk_at rfl) ?_) | refine xss_cons (xs_frz rfl ?_) | refine app_at rfl (by first | (simp [cap]; done) | (simp; unfold cap; omega)) ?_ | refine xss_cons (xs_ex ?_) | refine ve_op2 ?_ | refine ve_op1 ?_ | refine ve_var rfl ?_ | refine ve_lit ?_ | refine ve_call ?_ | refine ve_callK ?_ | refine ves_cons ?_ | refine ves_nil ?_ | refine ve_tup ?_ | refine ve_lst ?_ | refine ve_dct0 ?_ | refine ve_new rfl ?_ | refine ve_and2 ?_ | refine ve_and1 ?_ | refine ve_or2 ?_ | refine ve_or1 ?_ | refine ve_fld ?_ | refine ve_ifx ?_ | refine vt_val ?_ | refine vt_not ?_ | ((with_reducible apply And.intro); (· rfl)) | ((with_reducible apply Exists.intro); (with_reducible apply And.intro); (· first | exact add_lst (by first | (simp [cap]; done) | (simp; unfold cap; omega)) | exact add_tup (by first | (simp [cap]; done) | (simp; unfold cap; omega)) | exact o_eq | exact o_gt | exact o_lt | exact o_ge | exact ne_of (eq_bl _) | exact ne_of (eq_int_self _) | exact ne_of (eq_selfT _) | exact ne_net_self | exact o_eqN | exact o_eqT (noRefs2 rfl (noRef_lst _ _)) rfl | rfl | exact idx_purse (by assumption) rfl | exact o_mul (by omega) | exact o_mod (by first | decide | omega) | exact o_fdiv (by first | decide | omega))))
  refine callB_ref rfl rfl ((spoilt_ok (n := 15) (good := g1.take z) (wrong := wrongL) hk (by omega) (by rw [List.length_take]; show min z 2 ≤ 10; omega) (by decide) q3).mono ?_)
  rintro v s2 ⟨⟨L, a⟩, hp, rfl, q4⟩
  have ha : a ≤ 3 := by
    have := sp_at hp
    rw [List.length_take] at this
    have h2 : g1.length = 2 := rfl
    simp only at this
    omega
  have hpl : (L, a) ∈ pairsL := List.mem_flatMap.mpr ⟨z, List.mem_range.mpr (by omega), hp⟩
  repeat (first | refine xss_cons (xs_set ?_) | refine xss_cons (xs_ret ?_) | refine xss_cons (xs_own ?_) | refine xss_cons (xs_ifs ?_) | refine vt_or (vto_cons ?_) | refine vto_cons ?_ | refine vt_and (vta_cons ?_) | refine vta_cons ?_ | refine xss_cons (xs_setP ?_) | refine xss_cons (xs_setT ?_) | refine xss_cons (xs_app (plOk_at rfl) ?_) | refine xss_cons (xs_frz rfl ?_) | refine app_at rfl (by first | (simp [cap]; done) | (simp; unfold cap; omega)) ?_ | refine xss_cons (xs_ex ?_) | refine ve_op2 ?_ | refine ve_op1 ?_ | refine ve_var rfl ?_ | refine ve_lit ?_ | refine ve_call ?_ | refine ve_callK ?_ | refine ves_cons ?_ | refine ves_nil ?_ | refine ve_tup ?_ | refine ve_lst ?_ | refine ve_dct0 ?_ | refine ve_new rfl ?_ | refine ve_and2 ?_ | refine ve_and1 ?_ | refine ve_or2 ?_ | refine ve_or1 ?_ | refine ve_fld ?_ | refine ve_ifx ?_ | refine vt_val ?_ | refine vt_not ?_ | ((with_reducible apply And.intro); (· rfl)) | ((with_reducible apply Exists.intro); (with_reducible apply And.intro); (· first | exact add_lst (by first | (simp [cap]; done) | (simp; unfold cap; omega)) | exact add_tup (by first | (simp [cap]; done) | (simp; unfold cap; omega)) | exact o_eq | exact o_gt | exact o_lt | exact o_ge | exact ne_of (eq_bl _) | exact ne_of (eq_int_self _) | exact ne_of (eq_selfT _) | exact ne_net_self | exact o_eqN | exact o_eqT (noRefs2 rfl (noRef_lst _ _)) rfl | rfl | exact idx_purse (by assumption) rfl | exact o_mul (by omega) | exact o_mod (by first | decide | omega) | exact o_fdiv (by first | decide | omega))))
  refine xss_nil ?_
  refine p1 ho hn hpl ha fun A D h hl => ?_
  refine p2 hk (by omega) q4 hn h hl fun A D spot low s' h hl q => ?_
  refine p3 hk (by omega) q hn h hl fun A D v9 v10 v13 v14 s' h hl q => ?_
  exact p4 h (by omega) ⟨rfl, q.mono (by omega)⟩
end L02

set_option Elab.async false
set_option linter.all false
set_option maxRecDepth 100000
set_option maxHeartbeats 1000000
/-! M02d: the law. -/
namespace L02
open PySem EV
theorem callB_grow {call : Call} {es : List E} {ovs : List OV} {f : Nat} {vs : List PV} {st : EV.St} {P : OV → EV.St → Prop} (hn : PV.noRefs vs = true) (h0 : OkR (call f vs []) fun v s => ∃ x xs, s = x :: xs) (h1 : (fldOwn es ovs || lents es ovs) = false) (h : OkR (call f vs st) P) : OkR (callB call es ovs f vs st) P := by
  obtain ⟨v, s, e, x, xs, rfl⟩ := h0.get
  unfold callB
  rw [hn, e]
  show OkR (if (fldOwn es ovs || lents es ovs) = true then R.bad else call f vs st) P
  rw [h1]
  exact h
abbrev eW (is : List Int) (v1 v2 v3 : Option OV) : EV.Env := [some (.sh (.scr is)), v1, v2, v3]
theorem law_ok {is : List Int} (hl : is.length ≤ 63) : OkR (run 20 208 [.scr is] []) fun v s => v = .sh (.bl true) := by
  refine rd (n := 19) (d := d_law) (by decide) rfl ⟨rfl, by decide⟩ ?_
  refine xss_cons (xs_forI (fun xs env s => ∃ a j : Nat, xs = rangeL a j ∧ a + j ≤ 9 ∧ ∃ v1 v2 v3, env = eW is v1 v2 v3) ?_ ?_ ?_)
  · obtain ⟨m, hm, hm9⟩ : ∃ m : Nat, (1 : Int) + (if (is.length : Int) < 8 then (is.length : Int) else 8) = (m : Int) ∧ m ≤ 9 := by
      by_cases h : (is.length : Int) < 8
      · exact ⟨1 + is.length, by rw [if_pos h]; omega, by omega⟩
      · exact ⟨9, by rw [if_neg h]; omega, by omega⟩
    repeat (first | refine xss_cons (xs_set ?_) | refine xss_cons (xs_ret ?_) | refine xss_cons (xs_own ?_) | refine xss_cons (xs_ifs ?_) | refine vt_or (vto_cons ?_) | refine vto_cons ?_ | refine vt_and (vta_cons ?_) | refine vta_cons ?_ | refine xss_cons (xs_setP ?_) | refine xss_cons (xs_setT ?_) | refine xss_cons (xs_app (plOk_at rfl) ?_) | refine xss_cons (xs_frz rfl ?_) | refine app_at rfl (by first | (simp [cap]; done) | (simp; unfold cap; omega)) ?_ | refine xss_cons (xs_ex ?_) | refine ve_op2 ?_ | refine ve_op1 ?_ | refine ve_var rfl ?_ | refine ve_lit ?_ | refine ve_call ?_ | refine ve_callK ?_ | refine ves_cons ?_ | refine ves_nil ?_ | refine ve_tup ?_ | refine ve_lst ?_ | refine ve_dct0 ?_ | refine ve_new rfl ?_ | refine ve_and2 ?_ | refine ve_and1 ?_ | refine ve_or2 ?_ | refine ve_or1 ?_ | refine ve_fld ?_ | refine ve_ifx ?_ | refine vt_val ?_ | refine vt_not ?_ | ((with_reducible apply And.intro); (· rfl)) | ((with_reducible apply Exists.intro); (with_reducible apply And.intro); (· first | exact add_lst (by first | (simp [cap]; done) | (simp; unfold cap; omega)) | exact add_tup (by first | (simp [cap]; done) | (simp; unfold cap; omega)) | exact o_eq | exact o_gt | exact o_lt | exact o_ge | exact ne_of (eq_bl _) | exact ne_of (eq_int_self _) | exact ne_of (eq_selfT _) | exact ne_net_self | exact o_eqN | exact o_eqT (noRefs2 rfl (noRef_lst _ _)) rfl | rfl | exact idx_purse (by assumption) rfl | exact o_mul (by omega) | exact o_mod (by first | decide | omega) | exact o_fdiv (by first | decide | omega))))
    refine ⟨_, rangeL 0 m, rfl, ?_, 0, m, rfl, by omega, none, none, none, rfl⟩
    show (if -16777216 ≤ (1 : Int) + (if (is.length : Int) < 8 then (is.length : Int) else 8) ∧ (1 : Int) + (if (is.length : Int) < 8 then (is.length : Int) else 8) ≤ 16777216 then some (rangeL 0 ((1 : Int) + (if (is.length : Int) < 8 then (is.length : Int) else 8)).toNat) else none) = _
    rw [hm, if_pos (by omega), Int.toNat_natCast]
  · rintro env s ⟨a, j, e, haj, v1, v2, v3, rfl⟩
    repeat (first | refine xss_cons (xs_set ?_) | refine xss_cons (xs_ret ?_) | refine xss_cons (xs_own ?_) | refine xss_cons (xs_ifs ?_) | refine vt_or (vto_cons ?_) | refine vto_cons ?_ | refine vt_and (vta_cons ?_) | refine vta_cons ?_ | refine xss_cons (xs_setP ?_) | refine xss_cons (xs_setT ?_) | refine xss_cons (xs_app (plOk_at rfl) ?_) | refine xss_cons (xs_frz rfl ?_) | refine app_at rfl (by first | (simp [cap]; done) | (simp; unfold cap; omega)) ?_ | refine xss_cons (xs_ex ?_) | refine ve_op2 ?_ | refine ve_op1 ?_ | refine ve_var rfl ?_ | refine ve_lit ?_ | refine ve_call ?_ | refine ve_callK ?_ | refine ves_cons ?_ | refine ves_nil ?_ | refine ve_tup ?_ | refine ve_lst ?_ | refine ve_dct0 ?_ | refine ve_new rfl ?_ | refine ve_and2 ?_ | refine ve_and1 ?_ | refine ve_or2 ?_ | refine ve_or1 ?_ | refine ve_fld ?_ | refine ve_ifx ?_ | refine vt_val ?_ | refine vt_not ?_ | ((with_reducible apply And.intro); (· rfl)) | ((with_reducible apply Exists.intro); (with_reducible apply And.intro); (· first | exact add_lst (by first | (simp [cap]; done) | (simp; unfold cap; omega)) | exact add_tup (by first | (simp [cap]; done) | (simp; unfold cap; omega)) | exact o_eq | exact o_gt | exact o_lt | exact o_ge | exact ne_of (eq_bl _) | exact ne_of (eq_int_self _) | exact ne_of (eq_selfT _) | exact ne_net_self | exact o_eqN | exact o_eqT (noRefs2 rfl (noRef_lst _ _)) rfl | rfl | exact idx_purse (by assumption) rfl | exact o_mul (by omega) | exact o_mod (by first | decide | omega) | exact o_fdiv (by first | decide | omega))))
    rfl
  · rintro x xs env s ⟨a, j, e, haj, v1, v2, v3, rfl⟩
    cases j with
    | zero => cases e
    | succ j =>
      cases e
      refine ⟨_, rfl, ?_⟩
      repeat (first | refine xss_cons (xs_set ?_) | refine xss_cons (xs_ret ?_) | refine xss_cons (xs_own ?_) | refine xss_cons (xs_ifs ?_) | refine vt_or (vto_cons ?_) | refine vto_cons ?_ | refine vt_and (vta_cons ?_) | refine vta_cons ?_ | refine xss_cons (xs_setP ?_) | refine xss_cons (xs_setT ?_) | refine xss_cons (xs_app (plOk_at rfl) ?_) | refine xss_cons (xs_frz rfl ?_) | refine app_at rfl (by first | (simp [cap]; done) | (simp; unfold cap; omega)) ?_ | refine xss_cons (xs_ex ?_) | refine ve_op2 ?_ | refine ve_op1 ?_ | refine ve_var rfl ?_ | refine ve_lit ?_ | refine ve_call ?_ | refine ve_callK ?_ | refine ves_cons ?_ | refine ves_nil ?_ | refine ve_tup ?_ | refine ve_lst ?_ | refine ve_dct0 ?_ | refine ve_new rfl ?_ | refine ve_and2 ?_ | refine ve_and1 ?_ | refine ve_or2 ?_ | refine ve_or1 ?_ | refine ve_fld ?_ | refine ve_ifx ?_ | refine vt_val ?_ | refine vt_not ?_ | ((with_reducible apply And.intro); (· rfl)) | ((with_reducible apply Exists.intro); (with_reducible apply And.intro); (· first | exact add_lst (by first | (simp [cap]; done) | (simp; unfold cap; omega)) | exact add_tup (by first | (simp [cap]; done) | (simp; unfold cap; omega)) | exact o_eq | exact o_gt | exact o_lt | exact o_ge | exact ne_of (eq_bl _) | exact ne_of (eq_int_self _) | exact ne_of (eq_selfT _) | exact ne_net_self | exact o_eqN | exact o_eqT (noRefs2 rfl (noRef_lst _ _)) rfl | rfl | exact idx_purse (by assumption) rfl | exact o_mul (by omega) | exact o_mod (by first | decide | omega) | exact o_fdiv (by first | decide | omega))))
      refine callB_grow rfl ((purse_ok (n := 18) (by omega)).mono ?_) rfl ((purse_ok (n := 18) (by omega)).mono ?_)
      · rintro v s' ⟨_, g, c, rfl⟩
        exact ⟨_, _, rfl⟩
      rintro v s' ⟨rfl, g, c, rfl⟩
      repeat (first | refine xss_cons (xs_set ?_) | refine xss_cons (xs_ret ?_) | refine xss_cons (xs_own ?_) | refine xss_cons (xs_ifs ?_) | refine vt_or (vto_cons ?_) | refine vto_cons ?_ | refine vt_and (vta_cons ?_) | refine vta_cons ?_ | refine xss_cons (xs_setP ?_) | refine xss_cons (xs_setT ?_) | refine xss_cons (xs_app (plOk_at rfl) ?_) | refine xss_cons (xs_frz rfl ?_) | refine app_at rfl (by first | (simp [cap]; done) | (simp; unfold cap; omega)) ?_ | refine xss_cons (xs_ex ?_) | refine ve_op2 ?_ | refine ve_op1 ?_ | refine ve_var rfl ?_ | refine ve_lit ?_ | refine ve_call ?_ | refine ve_callK ?_ | refine ves_cons ?_ | refine ves_nil ?_ | refine ve_tup ?_ | refine ve_lst ?_ | refine ve_dct0 ?_ | refine ve_new rfl ?_ | refine ve_and2 ?_ | refine ve_and1 ?_ | refine ve_or2 ?_ | refine ve_or1 ?_ | refine ve_fld ?_ | refine ve_ifx ?_ | refine vt_val ?_ | refine vt_not ?_ | ((with_reducible apply And.intro); (· rfl)) | ((with_reducible apply Exists.intro); (with_reducible apply And.intro); (· first | exact add_lst (by first | (simp [cap]; done) | (simp; unfold cap; omega)) | exact add_tup (by first | (simp [cap]; done) | (simp; unfold cap; omega)) | exact o_eq | exact o_gt | exact o_lt | exact o_ge | exact ne_of (eq_bl _) | exact ne_of (eq_int_self _) | exact ne_of (eq_selfT _) | exact ne_net_self | exact o_eqN | exact o_eqT (noRefs2 rfl (noRef_lst _ _)) rfl | rfl | exact idx_purse (by assumption) rfl | exact o_mul (by omega) | exact o_mod (by first | decide | omega) | exact o_fdiv (by first | decide | omega))))
      have hk : s.length < (s ++ [purse g c (1000 * (a : Int))]).length := by rw [List.length_append]; simp
      have hp : PS (s ++ [purse g c (1000 * (a : Int))]) s.length c (1000 * (a : Int)) (s ++ [purse g c (1000 * (a : Int))]) := PS.start (g := g) (t := 1000 * (a : Int)) (by simp) ⟨by omega, by omega⟩
      refine xss_cons (xs_forI (fun xs env s' => ∃ b i : Nat, xs = rangeL b i ∧ i ≤ 3 ∧ (∃ v3, env = eW is (some (.sh (.int a))) (some (.sh (.ref s.length))) v3) ∧ PS (s ++ [purse g c (1000 * (a : Int))]) s.length c (1000 * (a : Int) + 900 - 300 * i) s') ?_ ?_ ?_)
      · refine ves_cons (ve_lit ⟨rfl, ves_nil ⟨_, rangeL 0 3, rfl, rfl, 0, 3, rfl, by omega, ⟨_, rfl⟩, hp.mono (by omega)⟩⟩)
      · rintro env s' ⟨b, i, e, hi, ⟨v3, rfl⟩, q⟩
        refine xss_nil ?_
        exact ⟨a + 1, j, rfl, by omega, _, _, _, rfl⟩
      · rintro x xs env s' ⟨b, i, e, hi, ⟨v3, rfl⟩, q⟩
        cases i with
        | zero => cases e
        | succ i =>
          cases e
          refine ⟨_, rfl, ?_⟩
          repeat (first | refine xss_cons (xs_set ?_) | refine xss_cons (xs_ret ?_) | refine xss_cons (xs_own ?_) | refine xss_cons (xs_ifs ?_) | refine vt_or (vto_cons ?_) | refine vto_cons ?_ | refine vt_and (vta_cons ?_) | refine vta_cons ?_ | refine xss_cons (xs_setP ?_) | refine xss_cons (xs_setT ?_) | refine xss_cons (xs_app (plOk_at rfl) ?_) | refine xss_cons (xs_frz rfl ?_) | refine app_at rfl (by first | (simp [cap]; done) | (simp; unfold cap; omega)) ?_ | refine xss_cons (xs_ex ?_) | refine ve_op2 ?_ | refine ve_op1 ?_ | refine ve_var rfl ?_ | refine ve_lit ?_ | refine ve_call ?_ | refine ve_callK ?_ | refine ves_cons ?_ | refine ves_nil ?_ | refine ve_tup ?_ | refine ve_lst ?_ | refine ve_dct0 ?_ | refine ve_new rfl ?_ | refine ve_and2 ?_ | refine ve_and1 ?_ | refine ve_or2 ?_ | refine ve_or1 ?_ | refine ve_fld ?_ | refine ve_ifx ?_ | refine vt_val ?_ | refine vt_not ?_ | ((with_reducible apply And.intro); (· rfl)) | ((with_reducible apply Exists.intro); (with_reducible apply And.intro); (· first | exact add_lst (by first | (simp [cap]; done) | (simp; unfold cap; omega)) | exact add_tup (by first | (simp [cap]; done) | (simp; unfold cap; omega)) | exact o_eq | exact o_gt | exact o_lt | exact o_ge | exact ne_of (eq_bl _) | exact ne_of (eq_int_self _) | exact ne_of (eq_selfT _) | exact ne_net_self | exact o_eqN | exact o_eqT (noRefs2 rfl (noRef_lst _ _)) rfl | rfl | exact idx_purse (by assumption) rfl | exact o_mul (by omega) | exact o_mod (by first | decide | omega) | exact o_fdiv (by first | decide | omega))))
          refine callB_ref rfl rfl ((right_ok hk (by omega) q).mono ?_)
          rintro v s2 ⟨rfl, q⟩
          repeat (first | refine xss_cons (xs_set ?_) | refine xss_cons (xs_ret ?_) | refine xss_cons (xs_own ?_) | refine xss_cons (xs_ifs ?_) | refine vt_or (vto_cons ?_) | refine vto_cons ?_ | refine vt_and (vta_cons ?_) | refine vta_cons ?_ | refine xss_cons (xs_setP ?_) | refine xss_cons (xs_setT ?_) | refine xss_cons (xs_app (plOk_at rfl) ?_) | refine xss_cons (xs_frz rfl ?_) | refine app_at rfl (by first | (simp [cap]; done) | (simp; unfold cap; omega)) ?_ | refine xss_cons (xs_ex ?_) | refine ve_op2 ?_ | refine ve_op1 ?_ | refine ve_var rfl ?_ | refine ve_lit ?_ | refine ve_call ?_ | refine ve_callK ?_ | refine ves_cons ?_ | refine ves_nil ?_ | refine ve_tup ?_ | refine ve_lst ?_ | refine ve_dct0 ?_ | refine ve_new rfl ?_ | refine ve_and2 ?_ | refine ve_and1 ?_ | refine ve_or2 ?_ | refine ve_or1 ?_ | refine ve_fld ?_ | refine ve_ifx ?_ | refine vt_val ?_ | refine vt_not ?_ | ((with_reducible apply And.intro); (· rfl)) | ((with_reducible apply Exists.intro); (with_reducible apply And.intro); (· first | exact add_lst (by first | (simp [cap]; done) | (simp; unfold cap; omega)) | exact add_tup (by first | (simp [cap]; done) | (simp; unfold cap; omega)) | exact o_eq | exact o_gt | exact o_lt | exact o_ge | exact ne_of (eq_bl _) | exact ne_of (eq_int_self _) | exact ne_of (eq_selfT _) | exact ne_net_self | exact o_eqN | exact o_eqT (noRefs2 rfl (noRef_lst _ _)) rfl | rfl | exact idx_purse (by assumption) rfl | exact o_mul (by omega) | exact o_mod (by first | decide | omega) | exact o_fdiv (by first | decide | omega))))
          refine xss_nil (xss_nil ?_)
          exact ⟨b + 1, i, rfl, by omega, ⟨_, rfl⟩, q.mono (by omega)⟩
theorem pure_ok : ∀ is : List Int, is.length ≤ 63 → ∃ st, callN pCls txtPV tab 20 208 [.scr is] [] = .ok (.sh (.bl true)) st := fun is hl => by
  obtain ⟨v, st, e, h⟩ := (law_ok hl).get
  subst h
  exact ⟨st, e⟩
end L02

set_option Elab.async false
set_option linter.all false
set_option maxRecDepth 100000
set_option maxHeartbeats 0
/-! K02: the row's defs, the tables (printed by gen9.py). -/
namespace L02
open PySem PySem.Spec PyProof.Rows L2 EV
def top (i : Nat) : Stmt := PySem.Challenge.pw_sixcopies_k02_nets_and_sets_refused.main.body.getD i (.Pass ⟨0, 0, 0, 0⟩)
def f_is_count : He.DefD := ⟨("is_count", none), "is_count", "is_count", defArgs (top 8), defBody (top 8), defScope (top 8), [], []⟩
def n_is_count : List PySem.Str := ["thing", "least"]
def f_is_below : He.DefD := ⟨("is_below", none), "is_below", "is_below", defArgs (top 9), defBody (top 9), defScope (top 9), [], []⟩
def n_is_below : List PySem.Str := ["thing", "most"]
def f_require_count : He.DefD := ⟨("require_count", none), "require_count", "require_count", defArgs (top 10), defBody (top 10), defScope (top 10), [], []⟩
def n_require_count : List PySem.Str := ["thing", "least"]
def f_is_rising : He.DefD := ⟨("is_rising", none), "is_rising", "is_rising", defArgs (top 11), defBody (top 11), defScope (top 11), [], []⟩
def n_is_rising : List PySem.Str := ["thing", "most", "first", "second", "one"]
def f_is_link : He.DefD := ⟨("is_link", none), "is_link", "is_link", defArgs (top 12), defBody (top 12), defScope (top 12), [], []⟩
def n_is_link : List PySem.Str := ["thing", "nodes"]
def f_checked_links : He.DefD := ⟨("checked_links", none), "checked_links", "checked_links", defArgs (top 13), defBody (top 13), defScope (top 13), [], []⟩
def n_checked_links : List PySem.Str := ["thing", "nodes", "seen", "place", "link"]
def f_Net_init : He.DefD := ⟨("Net", some "__init__"), "__init__", "Net.__init__", defArgs (inClass (top 14) 0), defBody (inClass (top 14) 0), defScope (inClass (top 14) 0), [], []⟩
def n_Net_init : List PySem.Str := ["self", "nodes", "links"]
def f_Net_eq : He.DefD := ⟨("Net", some "__eq__"), "__eq__", "Net.__eq__", defArgs (inClass (top 14) 1), defBody (inClass (top 14) 1), defScope (inClass (top 14) 1), [], []⟩
def n_Net_eq : List PySem.Str := ["self", "other"]
def f_Net_ends : He.DefD := ⟨("Net", some "ends"), "ends", "Net.ends", defArgs (inClass (top 14) 2), defBody (inClass (top 14) 2), defScope (inClass (top 14) 2), [], []⟩
def n_Net_ends : List PySem.Str := ["self", "node", "found", "first", "second"]
def f_Net_neighbours : He.DefD := ⟨("Net", some "neighbours"), "neighbours", "Net.neighbours", defArgs (inClass (top 14) 3), defBody (inClass (top 14) 3), defScope (inClass (top 14) 3), [], []⟩
def n_Net_neighbours : List PySem.Str := ["self", "node"]
def f_require_net : He.DefD := ⟨("require_net", none), "require_net", "require_net", defArgs (top 15), defBody (top 15), defScope (top 15), [], []⟩
def n_require_net : List PySem.Str := ["thing"]
def f_require_lots : He.DefD := ⟨("require_lots", none), "require_lots", "require_lots", defArgs (top 16), defBody (top 16), defScope (top 16), [], []⟩
def n_require_lots : List PySem.Str := ["thing", "net", "place", "lot"]
def f_require_liars : He.DefD := ⟨("require_liars", none), "require_liars", "require_liars", defArgs (top 17), defBody (top 17), defScope (top 17), [], []⟩
def n_require_liars : List PySem.Str := ["thing", "net"]
def f_choices : He.DefD := ⟨("choices", none), "choices", "choices", defArgs (top 18), defBody (top 18), defScope (top 18), [], []⟩
def n_choices : List PySem.Str := ["nodes", "number", "found", "turn", "longer", "lot", "first", "node"]
def f_at_most : He.DefD := ⟨("at_most", none), "at_most", "at_most", defArgs (top 19), defBody (top 19), defScope (top 19), [], []⟩
def n_at_most : List PySem.Str := ["net", "number"]
def f_is_let : He.DefD := ⟨("is_let", none), "is_let", "is_let", defArgs (top 20), defBody (top 20), defScope (top 20), [], []⟩
def n_is_let : List PySem.Str := ["lots", "nodes", "lot", "node"]
def f_may_lie : He.DefD := ⟨("may_lie", none), "may_lie", "may_lie", defArgs (top 21), defBody (top 21), defScope (top 21), [], []⟩
def n_may_lie : List PySem.Str := ["net", "lots", "liars"]
def f_law_mixed : He.DefD := ⟨("_law_mixed", none), "_law_mixed", "_law_mixed", defArgs (top 23), defBody (top 23), defScope (top 23), [], []⟩
def n_law_mixed : List PySem.Str := ["_law_cell", "_law_k", "_law_stirred"]
def f_law_purse : He.DefD := ⟨("_law_purse", none), "_law_purse", "_law_purse", defArgs (top 24), defBody (top 24), defScope (top 24), [], []⟩
def n_law_purse : List PySem.Str := ["_law_cells", "_law_at", "_law_cell"]
def f_law_draw : He.DefD := ⟨("_law_draw", none), "_law_draw", "_law_draw", defArgs (top 25), defBody (top 25), defScope (top 25), [], []⟩
def n_law_draw : List PySem.Str := ["_law_purse_here", "_law_out_of", "_law_drawn"]
def f_law_great : He.DefD := ⟨("_law_great", none), "_law_great", "_law_great", defArgs (top 26), defBody (top 26), defScope (top 26), [], []⟩
def n_law_great : List PySem.Str := ["_law_purse_here", "_law_figures", "_law_found", "_law_turn"]
def f_law_asked : He.DefD := ⟨("_law_asked", none), "_law_asked", "_law_asked", defArgs (top 27), defBody (top 27), defScope (top 27), [], []⟩
def n_law_asked : List PySem.Str := ["_law_kind", "_law_some"]
def f_law_caught : He.DefD := ⟨("_law_caught", none), "_law_caught", "_law_caught", defArgs (top 28), defBody (top 28), defScope (top 28), [], []⟩
def n_law_caught : List PySem.Str := ["_law_kind", "_law_some", "_law_caught_here", "error"]
def f_law_spoilt : He.DefD := ⟨("_law_spoilt", none), "_law_spoilt", "_law_spoilt", defArgs (top 29), defBody (top 29), defScope (top 29), [], []⟩
def n_law_spoilt : List PySem.Str := ["_law_purse_here", "_law_good", "_law_wrong", "_law_at"]
def f_law_right : He.DefD := ⟨("_law_right", none), "_law_right", "_law_right", defArgs (top 30), defBody (top 30), defScope (top 30), [], []⟩
def n_law_right : List PySem.Str := ["_law_purse_here", "_law_made", "_law_odd", "_law_none", "_law_wrong", "_law_asked_here", "_law_due", "_law_spot", "_law_low", "_law_bad", "_law_few", "_law_pairs", "_law_at", "_law_sets_told", "_law_place", "_law_kind", "_law_some"]
def f_law : He.DefD := ⟨("law", none), "law", "law", defArgs (top 31), defBody (top 31), defScope (top 31), [], []⟩
def n_law : List PySem.Str := ["_law_script", "_law_at", "_law_purse_here", "_law_turn"]
def x_InvalidNumber : He.DefD := ⟨("InvalidNumber", some "__init__"), "__init__", "InvalidNumber.__init__", defArgs (inClass (top 2) 0), defBody (inClass (top 2) 0), defScope (inClass (top 2) 0), [], []⟩
def x_InvalidLinks : He.DefD := ⟨("InvalidLinks", some "__init__"), "__init__", "InvalidLinks.__init__", defArgs (inClass (top 3) 0), defBody (inClass (top 3) 0), defScope (inClass (top 3) 0), [], []⟩
def x_InvalidNet : He.DefD := ⟨("InvalidNet", some "__init__"), "__init__", "InvalidNet.__init__", defArgs (inClass (top 4) 0), defBody (inClass (top 4) 0), defScope (inClass (top 4) 0), [], []⟩
def x_InvalidLots : He.DefD := ⟨("InvalidLots", some "__init__"), "__init__", "InvalidLots.__init__", defArgs (inClass (top 5) 0), defBody (inClass (top 5) 0), defScope (inClass (top 5) 0), [], []⟩
def x_InvalidLiars : He.DefD := ⟨("InvalidLiars", some "__init__"), "__init__", "InvalidLiars.__init__", defArgs (inClass (top 6) 0), defBody (inClass (top 6) 0), defScope (inClass (top 6) 0), [], []⟩
def fn : List He.DefD := (([f_is_count, f_is_below, f_require_count, f_is_rising, f_is_link, f_checked_links, f_Net_init, f_Net_eq, f_Net_ends, f_Net_neighbours, f_require_net, f_require_lots, f_require_liars, f_choices, f_at_most, f_is_let, f_may_lie, f_law_mixed, f_law_purse, f_law_draw, f_law_great, f_law_asked, f_law_caught, f_law_spoilt, f_law_right, f_law, x_InvalidNumber, x_InvalidLinks, x_InvalidNet, x_InvalidLots] : List He.DefD) ++ ([x_InvalidLiars] : List He.DefD))
def gFn : Nat → Option (PySem.Str × Nat)
  | 0 => some ("is_count", 2)
  | 1 => some ("is_below", 2)
  | 2 => some ("require_count", 2)
  | 3 => some ("is_rising", 2)
  | 4 => some ("is_link", 2)
  | 5 => some ("checked_links", 2)
  | 10 => some ("require_net", 1)
  | 11 => some ("require_lots", 2)
  | 12 => some ("require_liars", 2)
  | 13 => some ("choices", 2)
  | 14 => some ("at_most", 2)
  | 15 => some ("is_let", 2)
  | 16 => some ("may_lie", 3)
  | 200 => some ("_law_mixed", 2)
  | 201 => some ("_law_purse", 2)
  | 202 => some ("_law_draw", 2)
  | 203 => some ("_law_great", 2)
  | 204 => some ("_law_asked", 2)
  | 205 => some ("_law_caught", 2)
  | 206 => some ("_law_spoilt", 3)
  | 207 => some ("_law_right", 1)
  | 208 => some ("law", 1)
  | _ => none
def gCl : Nat → Option (PySem.Str × Nat)
  | 0 => some ("Net", 2)
  | _ => none
def gMt : Nat → Option (PySem.Str × Nat)
  | 17 => some ("__eq__", 2)
  | 0 => some ("ends", 2)
  | 1 => some ("neighbours", 2)
  | _ => none
def gEx : Nat → Option PySem.Str
  | 1 => some "InvalidNumber"
  | 2 => some "InvalidLinks"
  | 3 => some "InvalidNet"
  | 4 => some "InvalidLots"
  | 8 => some "InvalidLiars"
  | _ => none
def gFld : Nat → PySem.Str
  | 0 => "thing"
  | 1 => "place"
  | 2 => "name"
  | 3 => "first_node"
  | 4 => "second_node"
  | 5 => "nodes"
  | 6 => "links"
  | 7 => "sends"
  | 8 => "hears"
  | 9 => "decides"
  | 10 => "starts"
  | 11 => "ports"
  | 12 => "net"
  | 13 => "kinds"
  | 14 => "rounds"
  | 15 => "programs"
  | 16 => "system"
  | 17 => "liars"
  | 18 => "begins"
  | 19 => "steps"
  | 20 => "numbers"
  | 21 => "times"
  | 22 => "rows"
  | 23 => "sent"
  | _ => ""
def gCln : Nat → PySem.Str
  | 0 => "Net"
  | 1 => "Program"
  | 2 => "System"
  | 3 => "Attack"
  | 4 => "Cover"
  | 5 => "Live"
  | _ => ""
def gExn : Nat → PySem.Str
  | 0 => "CopyError"
  | 1 => "InvalidNumber"
  | 2 => "InvalidLinks"
  | 3 => "InvalidNet"
  | 4 => "InvalidLots"
  | 5 => "InvalidTable"
  | 6 => "InvalidPrograms"
  | 7 => "InvalidSystem"
  | 8 => "InvalidLiars"
  | 9 => "InvalidBegins"
  | 10 => "InvalidRounds"
  | 11 => "InvalidAttack"
  | 12 => "InvalidPromise"
  | 13 => "InvalidRaised"
  | 14 => "InvalidChosen"
  | 15 => "UnlinkedCopies"
  | 16 => "InvalidParting"
  | 17 => "TalkOver"
  | 18 => "NothingDone"
  | _ => ""
def nm : Nm := ⟨gCln, gFld, fun _ => "", fun _ => "", gExn, [0], [5, 6], [.int, .list, .tuple, .cls 0, .bool], [0, 1, 2, 3, 4, 8]⟩
def G : Gt := ⟨gFn, gCl, gMt, gEx, [], [], gFld, gCln, [5, 6], [.int, .list, .tuple, .cls 0, .bool], fun _ => true, [0, 1, 2, 3, 4, 8], [0, 1], gExn⟩
theorem r_is_count : rowB G tab false 0 f_is_count n_is_count 2 = true := by kernel_rfl
theorem r_is_below : rowB G tab false 1 f_is_below n_is_below 2 = true := by kernel_rfl
theorem r_require_count : rowB G tab false 2 f_require_count n_require_count 2 = true := by kernel_rfl
theorem r_is_rising : rowB G tab false 3 f_is_rising n_is_rising 2 = true := by kernel_rfl
theorem r_is_link : rowB G tab false 4 f_is_link n_is_link 2 = true := by kernel_rfl
theorem r_checked_links : rowB G tab false 5 f_checked_links n_checked_links 2 = true := by kernel_rfl
theorem r_Net_init : rowB G tab true 6 f_Net_init n_Net_init 3 = true := by kernel_rfl
theorem r_Net_eq : rowB G tab false 7 f_Net_eq n_Net_eq 2 = true := by kernel_rfl
theorem r_Net_ends : rowB G tab false 8 f_Net_ends n_Net_ends 2 = true := by kernel_rfl
theorem r_Net_neighbours : rowB G tab false 9 f_Net_neighbours n_Net_neighbours 2 = true := by kernel_rfl
theorem r_require_net : rowB G tab false 10 f_require_net n_require_net 1 = true := by kernel_rfl
theorem r_require_lots : rowB G tab false 11 f_require_lots n_require_lots 2 = true := by kernel_rfl
theorem r_require_liars : rowB G tab false 12 f_require_liars n_require_liars 2 = true := by kernel_rfl
theorem r_choices : rowB G tab false 13 f_choices n_choices 2 = true := by kernel_rfl
theorem r_at_most : rowB G tab false 14 f_at_most n_at_most 2 = true := by kernel_rfl
theorem r_is_let : rowB G tab false 15 f_is_let n_is_let 2 = true := by kernel_rfl
theorem r_may_lie : rowB G tab false 16 f_may_lie n_may_lie 3 = true := by kernel_rfl
theorem r_law_mixed : rowB G tab false 200 f_law_mixed n_law_mixed 2 = true := by kernel_rfl
theorem r_law_purse : rowB G tab false 201 f_law_purse n_law_purse 2 = true := by kernel_rfl
theorem r_law_draw : rowB G tab false 202 f_law_draw n_law_draw 2 = true := by kernel_rfl
theorem r_law_great : rowB G tab false 203 f_law_great n_law_great 2 = true := by kernel_rfl
theorem r_law_asked : rowB G tab false 204 f_law_asked n_law_asked 2 = true := by kernel_rfl
theorem r_law_caught : rowB G tab false 205 f_law_caught n_law_caught 2 = true := by kernel_rfl
theorem r_law_spoilt : rowB G tab false 206 f_law_spoilt n_law_spoilt 3 = true := by kernel_rfl
theorem r_law_right : rowB G tab false 207 f_law_right n_law_right 1 = true := by kernel_rfl
theorem r_law : rowB G tab false 208 f_law n_law 1 = true := by kernel_rfl
end L02

set_option Elab.async false
set_option linter.all false
set_option maxRecDepth 100000
set_option maxHeartbeats 0
/-! H02: the head, the facts, the row from the pure law (printed by gen9.py). -/
namespace L02
open PySem PySem.Spec PyProof.Rows L2 EV
def fa : List He.Fa := (([.glo "is_count", .glo "is_below", .glo "require_count", .glo "is_rising", .glo "is_link", .glo "checked_links", .glo "require_net", .glo "require_lots", .glo "require_liars", .glo "choices", .glo "at_most", .glo "is_let", .glo "may_lie", .glo "_law_mixed", .glo "_law_purse", .glo "_law_draw", .glo "_law_great", .glo "_law_asked", .glo "_law_caught", .glo "_law_spoilt", .glo "_law_right", .glo "law", .glo "Net", .mkr "Net", .meth "Net" "__eq__", .meth "Net" "ends", .meth "Net" "neighbours", .glo "CopyError", .glo "InvalidNumber", .glo "InvalidLinks"] : List He.Fa) ++ ([.glo "InvalidNet", .glo "InvalidLots", .glo "InvalidLiars", .free "range", .free "enumerate", .free "zip", .free "isinstance", .free "len", .free "int", .free "max", .free "min", .free "tuple", .free "list", .free "sorted", .free "set", .free "all", .free "any", .free "str", .free "bool", .free "dict", .free "sum"] : List He.Fa))
def ex (K : PySem.W.Frag) : Bool := (factB K nm && (nfB K nm && (xnB K nm G.xfs && (smB K && (eqcB K (ca K nm 0) (He.ma K (He.ga K "Net") "__eq__") && (excfB K nm 1 [0] && (excfB K nm 2 [1] && (excfB K nm 3 [0] && (excfB K nm 4 [1] && excfB K nm 8 [0])))))))))
section
variable {P : Program} {w : World} {K : PySem.W.Frag} {mg : PySem.Str → Option Value} {base : Heap}
theorem q_is_count (c : He.SaysD fa fn K) : ∃ fd, FnI P w K G tab false 0 (He.fAd K f_is_count.at_) fd ["thing", "least"] ∧ PySem.W.keepIn K (.ref (He.fAd K f_is_count.at_)) = true ∧ (∀ (s : Shared) (us : List Value), us.length = 2 → BindsTo s fd ⟨us, []⟩ ((["thing", "least"] : List PySem.Str).zip us)) ∧ ∀ t ∈ G.kw, t.1 = 0 → KwB K fd (["thing", "least"] : List PySem.Str) t.2.1 t.2.2.1 t.2.2.2 := by
  obtain ⟨fd, F⟩ := c.def_ 0 (d := f_is_count) rfl
  obtain ⟨r, _⟩ := row_ok (P := P) (w := w) r_is_count F
  refine ⟨fd, r, F.kp, FunD.bindsA (ps := ["thing", "least"]) F fun _ _ _ _ _ _ us hl => match us, hl with | [_, _], _ => rfl, fun t ht hf => ?_⟩
  ·
    cases ht
theorem q_is_below (c : He.SaysD fa fn K) : ∃ fd, FnI P w K G tab false 1 (He.fAd K f_is_below.at_) fd ["thing", "most"] ∧ PySem.W.keepIn K (.ref (He.fAd K f_is_below.at_)) = true ∧ (∀ (s : Shared) (us : List Value), us.length = 2 → BindsTo s fd ⟨us, []⟩ ((["thing", "most"] : List PySem.Str).zip us)) ∧ ∀ t ∈ G.kw, t.1 = 1 → KwB K fd (["thing", "most"] : List PySem.Str) t.2.1 t.2.2.1 t.2.2.2 := by
  obtain ⟨fd, F⟩ := c.def_ 1 (d := f_is_below) rfl
  obtain ⟨r, _⟩ := row_ok (P := P) (w := w) r_is_below F
  refine ⟨fd, r, F.kp, FunD.bindsA (ps := ["thing", "most"]) F fun _ _ _ _ _ _ us hl => match us, hl with | [_, _], _ => rfl, fun t ht hf => ?_⟩
  ·
    cases ht
theorem q_require_count (c : He.SaysD fa fn K) : ∃ fd, FnI P w K G tab false 2 (He.fAd K f_require_count.at_) fd ["thing", "least"] ∧ PySem.W.keepIn K (.ref (He.fAd K f_require_count.at_)) = true ∧ (∀ (s : Shared) (us : List Value), us.length = 2 → BindsTo s fd ⟨us, []⟩ ((["thing", "least"] : List PySem.Str).zip us)) ∧ ∀ t ∈ G.kw, t.1 = 2 → KwB K fd (["thing", "least"] : List PySem.Str) t.2.1 t.2.2.1 t.2.2.2 := by
  obtain ⟨fd, F⟩ := c.def_ 2 (d := f_require_count) rfl
  obtain ⟨r, _⟩ := row_ok (P := P) (w := w) r_require_count F
  refine ⟨fd, r, F.kp, FunD.bindsA (ps := ["thing", "least"]) F fun _ _ _ _ _ _ us hl => match us, hl with | [_, _], _ => rfl, fun t ht hf => ?_⟩
  ·
    cases ht
theorem q_is_rising (c : He.SaysD fa fn K) : ∃ fd, FnI P w K G tab false 3 (He.fAd K f_is_rising.at_) fd ["thing", "most"] ∧ PySem.W.keepIn K (.ref (He.fAd K f_is_rising.at_)) = true ∧ (∀ (s : Shared) (us : List Value), us.length = 2 → BindsTo s fd ⟨us, []⟩ ((["thing", "most"] : List PySem.Str).zip us)) ∧ ∀ t ∈ G.kw, t.1 = 3 → KwB K fd (["thing", "most"] : List PySem.Str) t.2.1 t.2.2.1 t.2.2.2 := by
  obtain ⟨fd, F⟩ := c.def_ 3 (d := f_is_rising) rfl
  obtain ⟨r, _⟩ := row_ok (P := P) (w := w) r_is_rising F
  refine ⟨fd, r, F.kp, FunD.bindsA (ps := ["thing", "most"]) F fun _ _ _ _ _ _ us hl => match us, hl with | [_, _], _ => rfl, fun t ht hf => ?_⟩
  ·
    cases ht
theorem q_is_link (c : He.SaysD fa fn K) : ∃ fd, FnI P w K G tab false 4 (He.fAd K f_is_link.at_) fd ["thing", "nodes"] ∧ PySem.W.keepIn K (.ref (He.fAd K f_is_link.at_)) = true ∧ (∀ (s : Shared) (us : List Value), us.length = 2 → BindsTo s fd ⟨us, []⟩ ((["thing", "nodes"] : List PySem.Str).zip us)) ∧ ∀ t ∈ G.kw, t.1 = 4 → KwB K fd (["thing", "nodes"] : List PySem.Str) t.2.1 t.2.2.1 t.2.2.2 := by
  obtain ⟨fd, F⟩ := c.def_ 4 (d := f_is_link) rfl
  obtain ⟨r, _⟩ := row_ok (P := P) (w := w) r_is_link F
  refine ⟨fd, r, F.kp, FunD.bindsA (ps := ["thing", "nodes"]) F fun _ _ _ _ _ _ us hl => match us, hl with | [_, _], _ => rfl, fun t ht hf => ?_⟩
  ·
    cases ht
theorem q_checked_links (c : He.SaysD fa fn K) : ∃ fd, FnI P w K G tab false 5 (He.fAd K f_checked_links.at_) fd ["thing", "nodes"] ∧ PySem.W.keepIn K (.ref (He.fAd K f_checked_links.at_)) = true ∧ (∀ (s : Shared) (us : List Value), us.length = 2 → BindsTo s fd ⟨us, []⟩ ((["thing", "nodes"] : List PySem.Str).zip us)) ∧ ∀ t ∈ G.kw, t.1 = 5 → KwB K fd (["thing", "nodes"] : List PySem.Str) t.2.1 t.2.2.1 t.2.2.2 := by
  obtain ⟨fd, F⟩ := c.def_ 5 (d := f_checked_links) rfl
  obtain ⟨r, _⟩ := row_ok (P := P) (w := w) r_checked_links F
  refine ⟨fd, r, F.kp, FunD.bindsA (ps := ["thing", "nodes"]) F fun _ _ _ _ _ _ us hl => match us, hl with | [_, _], _ => rfl, fun t ht hf => ?_⟩
  ·
    cases ht
theorem q_Net_init (c : He.SaysD fa fn K) : ∃ fd, FnI P w K G tab true 6 (He.fAd K f_Net_init.at_) fd ["self", "nodes", "links"] ∧ PySem.W.keepIn K (.ref (He.fAd K f_Net_init.at_)) = true ∧ (∀ (s : Shared) (us : List Value), us.length = 3 → BindsTo s fd ⟨us, []⟩ ((["self", "nodes", "links"] : List PySem.Str).zip us)) ∧ ∀ t ∈ G.kw, t.1 = 1000 → KwB K fd (["self", "nodes", "links"] : List PySem.Str) (t.2.1 + 1) t.2.2.1 (.at 0 :: shiftPm t.2.2.2) := by
  obtain ⟨fd, F⟩ := c.def_ 6 (d := f_Net_init) rfl
  obtain ⟨r, _⟩ := row_ok (P := P) (w := w) r_Net_init F
  refine ⟨fd, r, F.kp, FunD.bindsA (ps := ["self", "nodes", "links"]) F fun _ _ _ _ _ _ us hl => match us, hl with | [_, _, _], _ => rfl, fun t ht hf => ?_⟩
  ·
    cases ht
theorem q_Net_eq (c : He.SaysD fa fn K) : ∃ fd, FnI P w K G tab false 7 (He.fAd K f_Net_eq.at_) fd ["self", "other"] ∧ PySem.W.keepIn K (.ref (He.fAd K f_Net_eq.at_)) = true ∧ (∀ (s : Shared) (us : List Value), us.length = 2 → BindsTo s fd ⟨us, []⟩ ((["self", "other"] : List PySem.Str).zip us)) ∧ ∀ t ∈ G.mkw, t.1 = 17 → KwB K fd (["self", "other"] : List PySem.Str) (t.2.1 + 1) t.2.2.1 (.at 0 :: shiftPm t.2.2.2) ∧ t.2.2.2.length + 1 = 2 := by
  obtain ⟨fd, F⟩ := c.def_ 7 (d := f_Net_eq) rfl
  obtain ⟨r, _⟩ := row_ok (P := P) (w := w) r_Net_eq F
  refine ⟨fd, r, F.kp, FunD.bindsA (ps := ["self", "other"]) F fun _ _ _ _ _ _ us hl => match us, hl with | [_, _], _ => rfl, fun t ht hf => ?_⟩
  ·
    cases ht
theorem q_Net_ends (c : He.SaysD fa fn K) : ∃ fd, FnI P w K G tab false 8 (He.fAd K f_Net_ends.at_) fd ["self", "node"] ∧ PySem.W.keepIn K (.ref (He.fAd K f_Net_ends.at_)) = true ∧ (∀ (s : Shared) (us : List Value), us.length = 2 → BindsTo s fd ⟨us, []⟩ ((["self", "node"] : List PySem.Str).zip us)) ∧ ∀ t ∈ G.mkw, t.1 = 0 → KwB K fd (["self", "node"] : List PySem.Str) (t.2.1 + 1) t.2.2.1 (.at 0 :: shiftPm t.2.2.2) ∧ t.2.2.2.length + 1 = 2 := by
  obtain ⟨fd, F⟩ := c.def_ 8 (d := f_Net_ends) rfl
  obtain ⟨r, _⟩ := row_ok (P := P) (w := w) r_Net_ends F
  refine ⟨fd, r, F.kp, FunD.bindsA (ps := ["self", "node"]) F fun _ _ _ _ _ _ us hl => match us, hl with | [_, _], _ => rfl, fun t ht hf => ?_⟩
  ·
    cases ht
theorem q_Net_neighbours (c : He.SaysD fa fn K) : ∃ fd, FnI P w K G tab false 9 (He.fAd K f_Net_neighbours.at_) fd ["self", "node"] ∧ PySem.W.keepIn K (.ref (He.fAd K f_Net_neighbours.at_)) = true ∧ (∀ (s : Shared) (us : List Value), us.length = 2 → BindsTo s fd ⟨us, []⟩ ((["self", "node"] : List PySem.Str).zip us)) ∧ ∀ t ∈ G.mkw, t.1 = 1 → KwB K fd (["self", "node"] : List PySem.Str) (t.2.1 + 1) t.2.2.1 (.at 0 :: shiftPm t.2.2.2) ∧ t.2.2.2.length + 1 = 2 := by
  obtain ⟨fd, F⟩ := c.def_ 9 (d := f_Net_neighbours) rfl
  obtain ⟨r, _⟩ := row_ok (P := P) (w := w) r_Net_neighbours F
  refine ⟨fd, r, F.kp, FunD.bindsA (ps := ["self", "node"]) F fun _ _ _ _ _ _ us hl => match us, hl with | [_, _], _ => rfl, fun t ht hf => ?_⟩
  ·
    cases ht
theorem q_require_net (c : He.SaysD fa fn K) : ∃ fd, FnI P w K G tab false 10 (He.fAd K f_require_net.at_) fd ["thing"] ∧ PySem.W.keepIn K (.ref (He.fAd K f_require_net.at_)) = true ∧ (∀ (s : Shared) (us : List Value), us.length = 1 → BindsTo s fd ⟨us, []⟩ ((["thing"] : List PySem.Str).zip us)) ∧ ∀ t ∈ G.kw, t.1 = 10 → KwB K fd (["thing"] : List PySem.Str) t.2.1 t.2.2.1 t.2.2.2 := by
  obtain ⟨fd, F⟩ := c.def_ 10 (d := f_require_net) rfl
  obtain ⟨r, _⟩ := row_ok (P := P) (w := w) r_require_net F
  refine ⟨fd, r, F.kp, FunD.bindsA (ps := ["thing"]) F fun _ _ _ _ _ _ us hl => match us, hl with | [_], _ => rfl, fun t ht hf => ?_⟩
  ·
    cases ht
theorem q_require_lots (c : He.SaysD fa fn K) : ∃ fd, FnI P w K G tab false 11 (He.fAd K f_require_lots.at_) fd ["thing", "net"] ∧ PySem.W.keepIn K (.ref (He.fAd K f_require_lots.at_)) = true ∧ (∀ (s : Shared) (us : List Value), us.length = 2 → BindsTo s fd ⟨us, []⟩ ((["thing", "net"] : List PySem.Str).zip us)) ∧ ∀ t ∈ G.kw, t.1 = 11 → KwB K fd (["thing", "net"] : List PySem.Str) t.2.1 t.2.2.1 t.2.2.2 := by
  obtain ⟨fd, F⟩ := c.def_ 11 (d := f_require_lots) rfl
  obtain ⟨r, _⟩ := row_ok (P := P) (w := w) r_require_lots F
  refine ⟨fd, r, F.kp, FunD.bindsA (ps := ["thing", "net"]) F fun _ _ _ _ _ _ us hl => match us, hl with | [_, _], _ => rfl, fun t ht hf => ?_⟩
  ·
    cases ht
theorem q_require_liars (c : He.SaysD fa fn K) : ∃ fd, FnI P w K G tab false 12 (He.fAd K f_require_liars.at_) fd ["thing", "net"] ∧ PySem.W.keepIn K (.ref (He.fAd K f_require_liars.at_)) = true ∧ (∀ (s : Shared) (us : List Value), us.length = 2 → BindsTo s fd ⟨us, []⟩ ((["thing", "net"] : List PySem.Str).zip us)) ∧ ∀ t ∈ G.kw, t.1 = 12 → KwB K fd (["thing", "net"] : List PySem.Str) t.2.1 t.2.2.1 t.2.2.2 := by
  obtain ⟨fd, F⟩ := c.def_ 12 (d := f_require_liars) rfl
  obtain ⟨r, _⟩ := row_ok (P := P) (w := w) r_require_liars F
  refine ⟨fd, r, F.kp, FunD.bindsA (ps := ["thing", "net"]) F fun _ _ _ _ _ _ us hl => match us, hl with | [_, _], _ => rfl, fun t ht hf => ?_⟩
  ·
    cases ht
theorem q_choices (c : He.SaysD fa fn K) : ∃ fd, FnI P w K G tab false 13 (He.fAd K f_choices.at_) fd ["nodes", "number"] ∧ PySem.W.keepIn K (.ref (He.fAd K f_choices.at_)) = true ∧ (∀ (s : Shared) (us : List Value), us.length = 2 → BindsTo s fd ⟨us, []⟩ ((["nodes", "number"] : List PySem.Str).zip us)) ∧ ∀ t ∈ G.kw, t.1 = 13 → KwB K fd (["nodes", "number"] : List PySem.Str) t.2.1 t.2.2.1 t.2.2.2 := by
  obtain ⟨fd, F⟩ := c.def_ 13 (d := f_choices) rfl
  obtain ⟨r, _⟩ := row_ok (P := P) (w := w) r_choices F
  refine ⟨fd, r, F.kp, FunD.bindsA (ps := ["nodes", "number"]) F fun _ _ _ _ _ _ us hl => match us, hl with | [_, _], _ => rfl, fun t ht hf => ?_⟩
  ·
    cases ht
theorem q_at_most (c : He.SaysD fa fn K) : ∃ fd, FnI P w K G tab false 14 (He.fAd K f_at_most.at_) fd ["net", "number"] ∧ PySem.W.keepIn K (.ref (He.fAd K f_at_most.at_)) = true ∧ (∀ (s : Shared) (us : List Value), us.length = 2 → BindsTo s fd ⟨us, []⟩ ((["net", "number"] : List PySem.Str).zip us)) ∧ ∀ t ∈ G.kw, t.1 = 14 → KwB K fd (["net", "number"] : List PySem.Str) t.2.1 t.2.2.1 t.2.2.2 := by
  obtain ⟨fd, F⟩ := c.def_ 14 (d := f_at_most) rfl
  obtain ⟨r, _⟩ := row_ok (P := P) (w := w) r_at_most F
  refine ⟨fd, r, F.kp, FunD.bindsA (ps := ["net", "number"]) F fun _ _ _ _ _ _ us hl => match us, hl with | [_, _], _ => rfl, fun t ht hf => ?_⟩
  ·
    cases ht
theorem q_is_let (c : He.SaysD fa fn K) : ∃ fd, FnI P w K G tab false 15 (He.fAd K f_is_let.at_) fd ["lots", "nodes"] ∧ PySem.W.keepIn K (.ref (He.fAd K f_is_let.at_)) = true ∧ (∀ (s : Shared) (us : List Value), us.length = 2 → BindsTo s fd ⟨us, []⟩ ((["lots", "nodes"] : List PySem.Str).zip us)) ∧ ∀ t ∈ G.kw, t.1 = 15 → KwB K fd (["lots", "nodes"] : List PySem.Str) t.2.1 t.2.2.1 t.2.2.2 := by
  obtain ⟨fd, F⟩ := c.def_ 15 (d := f_is_let) rfl
  obtain ⟨r, _⟩ := row_ok (P := P) (w := w) r_is_let F
  refine ⟨fd, r, F.kp, FunD.bindsA (ps := ["lots", "nodes"]) F fun _ _ _ _ _ _ us hl => match us, hl with | [_, _], _ => rfl, fun t ht hf => ?_⟩
  ·
    cases ht
theorem q_may_lie (c : He.SaysD fa fn K) : ∃ fd, FnI P w K G tab false 16 (He.fAd K f_may_lie.at_) fd ["net", "lots", "liars"] ∧ PySem.W.keepIn K (.ref (He.fAd K f_may_lie.at_)) = true ∧ (∀ (s : Shared) (us : List Value), us.length = 3 → BindsTo s fd ⟨us, []⟩ ((["net", "lots", "liars"] : List PySem.Str).zip us)) ∧ ∀ t ∈ G.kw, t.1 = 16 → KwB K fd (["net", "lots", "liars"] : List PySem.Str) t.2.1 t.2.2.1 t.2.2.2 := by
  obtain ⟨fd, F⟩ := c.def_ 16 (d := f_may_lie) rfl
  obtain ⟨r, _⟩ := row_ok (P := P) (w := w) r_may_lie F
  refine ⟨fd, r, F.kp, FunD.bindsA (ps := ["net", "lots", "liars"]) F fun _ _ _ _ _ _ us hl => match us, hl with | [_, _, _], _ => rfl, fun t ht hf => ?_⟩
  ·
    cases ht
theorem q_law_mixed (c : He.SaysD fa fn K) : ∃ fd, FnI P w K G tab false 200 (He.fAd K f_law_mixed.at_) fd ["_law_cell", "_law_k"] ∧ PySem.W.keepIn K (.ref (He.fAd K f_law_mixed.at_)) = true ∧ (∀ (s : Shared) (us : List Value), us.length = 2 → BindsTo s fd ⟨us, []⟩ ((["_law_cell", "_law_k"] : List PySem.Str).zip us)) ∧ ∀ t ∈ G.kw, t.1 = 200 → KwB K fd (["_law_cell", "_law_k"] : List PySem.Str) t.2.1 t.2.2.1 t.2.2.2 := by
  obtain ⟨fd, F⟩ := c.def_ 17 (d := f_law_mixed) rfl
  obtain ⟨r, _⟩ := row_ok (P := P) (w := w) r_law_mixed F
  refine ⟨fd, r, F.kp, FunD.bindsA (ps := ["_law_cell", "_law_k"]) F fun _ _ _ _ _ _ us hl => match us, hl with | [_, _], _ => rfl, fun t ht hf => ?_⟩
  ·
    cases ht
theorem q_law_purse (c : He.SaysD fa fn K) : ∃ fd, FnI P w K G tab false 201 (He.fAd K f_law_purse.at_) fd ["_law_cells", "_law_at"] ∧ PySem.W.keepIn K (.ref (He.fAd K f_law_purse.at_)) = true ∧ (∀ (s : Shared) (us : List Value), us.length = 2 → BindsTo s fd ⟨us, []⟩ ((["_law_cells", "_law_at"] : List PySem.Str).zip us)) ∧ ∀ t ∈ G.kw, t.1 = 201 → KwB K fd (["_law_cells", "_law_at"] : List PySem.Str) t.2.1 t.2.2.1 t.2.2.2 := by
  obtain ⟨fd, F⟩ := c.def_ 18 (d := f_law_purse) rfl
  obtain ⟨r, _⟩ := row_ok (P := P) (w := w) r_law_purse F
  refine ⟨fd, r, F.kp, FunD.bindsA (ps := ["_law_cells", "_law_at"]) F fun _ _ _ _ _ _ us hl => match us, hl with | [_, _], _ => rfl, fun t ht hf => ?_⟩
  ·
    cases ht
theorem q_law_draw (c : He.SaysD fa fn K) : ∃ fd, FnI P w K G tab false 202 (He.fAd K f_law_draw.at_) fd ["_law_purse_here", "_law_out_of"] ∧ PySem.W.keepIn K (.ref (He.fAd K f_law_draw.at_)) = true ∧ (∀ (s : Shared) (us : List Value), us.length = 2 → BindsTo s fd ⟨us, []⟩ ((["_law_purse_here", "_law_out_of"] : List PySem.Str).zip us)) ∧ ∀ t ∈ G.kw, t.1 = 202 → KwB K fd (["_law_purse_here", "_law_out_of"] : List PySem.Str) t.2.1 t.2.2.1 t.2.2.2 := by
  obtain ⟨fd, F⟩ := c.def_ 19 (d := f_law_draw) rfl
  obtain ⟨r, _⟩ := row_ok (P := P) (w := w) r_law_draw F
  refine ⟨fd, r, F.kp, FunD.bindsA (ps := ["_law_purse_here", "_law_out_of"]) F fun _ _ _ _ _ _ us hl => match us, hl with | [_, _], _ => rfl, fun t ht hf => ?_⟩
  ·
    cases ht
theorem q_law_great (c : He.SaysD fa fn K) : ∃ fd, FnI P w K G tab false 203 (He.fAd K f_law_great.at_) fd ["_law_purse_here", "_law_figures"] ∧ PySem.W.keepIn K (.ref (He.fAd K f_law_great.at_)) = true ∧ (∀ (s : Shared) (us : List Value), us.length = 2 → BindsTo s fd ⟨us, []⟩ ((["_law_purse_here", "_law_figures"] : List PySem.Str).zip us)) ∧ ∀ t ∈ G.kw, t.1 = 203 → KwB K fd (["_law_purse_here", "_law_figures"] : List PySem.Str) t.2.1 t.2.2.1 t.2.2.2 := by
  obtain ⟨fd, F⟩ := c.def_ 20 (d := f_law_great) rfl
  obtain ⟨r, _⟩ := row_ok (P := P) (w := w) r_law_great F
  refine ⟨fd, r, F.kp, FunD.bindsA (ps := ["_law_purse_here", "_law_figures"]) F fun _ _ _ _ _ _ us hl => match us, hl with | [_, _], _ => rfl, fun t ht hf => ?_⟩
  ·
    cases ht
theorem q_law_asked (c : He.SaysD fa fn K) : ∃ fd, FnI P w K G tab false 204 (He.fAd K f_law_asked.at_) fd ["_law_kind", "_law_some"] ∧ PySem.W.keepIn K (.ref (He.fAd K f_law_asked.at_)) = true ∧ (∀ (s : Shared) (us : List Value), us.length = 2 → BindsTo s fd ⟨us, []⟩ ((["_law_kind", "_law_some"] : List PySem.Str).zip us)) ∧ ∀ t ∈ G.kw, t.1 = 204 → KwB K fd (["_law_kind", "_law_some"] : List PySem.Str) t.2.1 t.2.2.1 t.2.2.2 := by
  obtain ⟨fd, F⟩ := c.def_ 21 (d := f_law_asked) rfl
  obtain ⟨r, _⟩ := row_ok (P := P) (w := w) r_law_asked F
  refine ⟨fd, r, F.kp, FunD.bindsA (ps := ["_law_kind", "_law_some"]) F fun _ _ _ _ _ _ us hl => match us, hl with | [_, _], _ => rfl, fun t ht hf => ?_⟩
  ·
    cases ht
theorem q_law_caught (c : He.SaysD fa fn K) : ∃ fd, FnI P w K G tab false 205 (He.fAd K f_law_caught.at_) fd ["_law_kind", "_law_some"] ∧ PySem.W.keepIn K (.ref (He.fAd K f_law_caught.at_)) = true ∧ (∀ (s : Shared) (us : List Value), us.length = 2 → BindsTo s fd ⟨us, []⟩ ((["_law_kind", "_law_some"] : List PySem.Str).zip us)) ∧ ∀ t ∈ G.kw, t.1 = 205 → KwB K fd (["_law_kind", "_law_some"] : List PySem.Str) t.2.1 t.2.2.1 t.2.2.2 := by
  obtain ⟨fd, F⟩ := c.def_ 22 (d := f_law_caught) rfl
  obtain ⟨r, _⟩ := row_ok (P := P) (w := w) r_law_caught F
  refine ⟨fd, r, F.kp, FunD.bindsA (ps := ["_law_kind", "_law_some"]) F fun _ _ _ _ _ _ us hl => match us, hl with | [_, _], _ => rfl, fun t ht hf => ?_⟩
  ·
    cases ht
theorem q_law_spoilt (c : He.SaysD fa fn K) : ∃ fd, FnI P w K G tab false 206 (He.fAd K f_law_spoilt.at_) fd ["_law_purse_here", "_law_good", "_law_wrong"] ∧ PySem.W.keepIn K (.ref (He.fAd K f_law_spoilt.at_)) = true ∧ (∀ (s : Shared) (us : List Value), us.length = 3 → BindsTo s fd ⟨us, []⟩ ((["_law_purse_here", "_law_good", "_law_wrong"] : List PySem.Str).zip us)) ∧ ∀ t ∈ G.kw, t.1 = 206 → KwB K fd (["_law_purse_here", "_law_good", "_law_wrong"] : List PySem.Str) t.2.1 t.2.2.1 t.2.2.2 := by
  obtain ⟨fd, F⟩ := c.def_ 23 (d := f_law_spoilt) rfl
  obtain ⟨r, _⟩ := row_ok (P := P) (w := w) r_law_spoilt F
  refine ⟨fd, r, F.kp, FunD.bindsA (ps := ["_law_purse_here", "_law_good", "_law_wrong"]) F fun _ _ _ _ _ _ us hl => match us, hl with | [_, _, _], _ => rfl, fun t ht hf => ?_⟩
  ·
    cases ht
theorem q_law_right (c : He.SaysD fa fn K) : ∃ fd, FnI P w K G tab false 207 (He.fAd K f_law_right.at_) fd ["_law_purse_here"] ∧ PySem.W.keepIn K (.ref (He.fAd K f_law_right.at_)) = true ∧ (∀ (s : Shared) (us : List Value), us.length = 1 → BindsTo s fd ⟨us, []⟩ ((["_law_purse_here"] : List PySem.Str).zip us)) ∧ ∀ t ∈ G.kw, t.1 = 207 → KwB K fd (["_law_purse_here"] : List PySem.Str) t.2.1 t.2.2.1 t.2.2.2 := by
  obtain ⟨fd, F⟩ := c.def_ 24 (d := f_law_right) rfl
  obtain ⟨r, _⟩ := row_ok (P := P) (w := w) r_law_right F
  refine ⟨fd, r, F.kp, FunD.bindsA (ps := ["_law_purse_here"]) F fun _ _ _ _ _ _ us hl => match us, hl with | [_], _ => rfl, fun t ht hf => ?_⟩
  ·
    cases ht
theorem q_law (c : He.SaysD fa fn K) : ∃ fd, FnI P w K G tab false 208 (He.fAd K f_law.at_) fd ["_law_script"] ∧ PySem.W.keepIn K (.ref (He.fAd K f_law.at_)) = true ∧ (∀ (s : Shared) (us : List Value), us.length = 1 → BindsTo s fd ⟨us, []⟩ ((["_law_script"] : List PySem.Str).zip us)) ∧ ∀ t ∈ G.kw, t.1 = 208 → KwB K fd (["_law_script"] : List PySem.Str) t.2.1 t.2.2.1 t.2.2.2 := by
  obtain ⟨fd, F⟩ := c.def_ 25 (d := f_law) rfl
  obtain ⟨r, _⟩ := row_ok (P := P) (w := w) r_law F
  refine ⟨fd, r, F.kp, FunD.bindsA (ps := ["_law_script"]) F fun _ _ _ _ _ _ us hl => match us, hl with | [_], _ => rfl, fun t ht hf => ?_⟩
  ·
    cases ht
theorem e_InvalidNumber (c : He.SaysD fa fn K) (h : excfB K nm 1 [0] = true) : ExcF P w K mg base nm 1 (pCls.excF 1) := by
  obtain ⟨fd, F⟩ := c.def_ 26 (d := x_InvalidNumber) rfl
  obtain ⟨h1, h2, h3, h4⟩ := excf_ok h
  exact excF_of h (exc_one F (scope_ok (by kernel_rfl)) (by kernel_rfl) (by kernel_rfl) ⟨by decide, by decide⟩ ⟨by decide, by decide⟩ rfl h1 (h2 0 (by decide))) (FunD.bindsN (ps := ["self", "thing"]) F fun _ _ _ _ _ _ us hl => match us, hl with | [_, _], _ => rfl) (by decide +kernel) (by decide +kernel)
theorem e_InvalidLinks (c : He.SaysD fa fn K) (h : excfB K nm 2 [1] = true) : ExcF P w K mg base nm 2 (pCls.excF 2) := by
  obtain ⟨fd, F⟩ := c.def_ 27 (d := x_InvalidLinks) rfl
  obtain ⟨h1, h2, h3, h4⟩ := excf_ok h
  exact excF_of h (exc_one F (scope_ok (by kernel_rfl)) (by kernel_rfl) (by kernel_rfl) ⟨by decide, by decide⟩ ⟨by decide, by decide⟩ rfl h1 (h2 1 (by decide))) (FunD.bindsN (ps := ["self", "place"]) F fun _ _ _ _ _ _ us hl => match us, hl with | [_, _], _ => rfl) (by decide +kernel) (by decide +kernel)
theorem e_InvalidNet (c : He.SaysD fa fn K) (h : excfB K nm 3 [0] = true) : ExcF P w K mg base nm 3 (pCls.excF 3) := by
  obtain ⟨fd, F⟩ := c.def_ 28 (d := x_InvalidNet) rfl
  obtain ⟨h1, h2, h3, h4⟩ := excf_ok h
  exact excF_of h (exc_one F (scope_ok (by kernel_rfl)) (by kernel_rfl) (by kernel_rfl) ⟨by decide, by decide⟩ ⟨by decide, by decide⟩ rfl h1 (h2 0 (by decide))) (FunD.bindsN (ps := ["self", "thing"]) F fun _ _ _ _ _ _ us hl => match us, hl with | [_, _], _ => rfl) (by decide +kernel) (by decide +kernel)
theorem e_InvalidLots (c : He.SaysD fa fn K) (h : excfB K nm 4 [1] = true) : ExcF P w K mg base nm 4 (pCls.excF 4) := by
  obtain ⟨fd, F⟩ := c.def_ 29 (d := x_InvalidLots) rfl
  obtain ⟨h1, h2, h3, h4⟩ := excf_ok h
  exact excF_of h (exc_one F (scope_ok (by kernel_rfl)) (by kernel_rfl) (by kernel_rfl) ⟨by decide, by decide⟩ ⟨by decide, by decide⟩ rfl h1 (h2 1 (by decide))) (FunD.bindsN (ps := ["self", "place"]) F fun _ _ _ _ _ _ us hl => match us, hl with | [_, _], _ => rfl) (by decide +kernel) (by decide +kernel)
theorem e_InvalidLiars (c : He.SaysD fa fn K) (h : excfB K nm 8 [0] = true) : ExcF P w K mg base nm 8 (pCls.excF 8) := by
  obtain ⟨fd, F⟩ := c.def_ 30 (d := x_InvalidLiars) rfl
  obtain ⟨h1, h2, h3, h4⟩ := excf_ok h
  exact excF_of h (exc_one F (scope_ok (by kernel_rfl)) (by kernel_rfl) (by kernel_rfl) ⟨by decide, by decide⟩ ⟨by decide, by decide⟩ rfl h1 (h2 0 (by decide))) (FunD.bindsN (ps := ["self", "thing"]) F fun _ _ _ _ _ _ us hl => match us, hl with | [_, _], _ => rfl) (by decide +kernel) (by decide +kernel)
theorem prg {h : Heap} (X : K.In h) (Gm : h.Ns mainGlobals mg) (c : He.SaysD fa fn K) (hx : ex K = true) : Prg P w K mg base nm pCls tab G := by
  unfold ex at hx
  rw [Bool.and_eq_true, Bool.and_eq_true, Bool.and_eq_true, Bool.and_eq_true, Bool.and_eq_true, Bool.and_eq_true, Bool.and_eq_true, Bool.and_eq_true, Bool.and_eq_true] at hx
  obtain ⟨h0, h1, h2, h3, h4, h5, h6, h7, h8, h9⟩ := hx
  refine ⟨fact_ok (by decide +kernel) h0, fun n hn => ?_, fun f n np h => ?_, fun k n np h => ?_, fun m n np h => ?_, fun k hk m hm => ?_, (nf_ok h1).1, (nf_ok h1).2, fun k n h => ?_, fun f => rfl, fun f h => h, fun k => ?_, fun t h => h, sm_ok h3, fun k hk => ⟨hk, rfl⟩, fun k hk => ?_⟩
  · simp only [List.mem_cons, List.not_mem_nil, or_false] at hn
    rcases hn with rfl | rfl | rfl | rfl | rfl | rfl | rfl | rfl | rfl | rfl | rfl | rfl | rfl | rfl | rfl | rfl | rfl | rfl
    · exact He.free_ok X Gm (c.fact 33 (f := .free "range") rfl)
    · exact He.free_ok X Gm (c.fact 34 (f := .free "enumerate") rfl)
    · exact He.free_ok X Gm (c.fact 35 (f := .free "zip") rfl)
    · exact He.free_ok X Gm (c.fact 36 (f := .free "isinstance") rfl)
    · exact He.free_ok X Gm (c.fact 37 (f := .free "len") rfl)
    · exact He.free_ok X Gm (c.fact 38 (f := .free "int") rfl)
    · exact He.free_ok X Gm (c.fact 39 (f := .free "max") rfl)
    · exact He.free_ok X Gm (c.fact 40 (f := .free "min") rfl)
    · exact He.free_ok X Gm (c.fact 41 (f := .free "tuple") rfl)
    · exact He.free_ok X Gm (c.fact 42 (f := .free "list") rfl)
    · exact He.free_ok X Gm (c.fact 43 (f := .free "sorted") rfl)
    · exact He.free_ok X Gm (c.fact 44 (f := .free "set") rfl)
    · exact He.free_ok X Gm (c.fact 45 (f := .free "all") rfl)
    · exact He.free_ok X Gm (c.fact 46 (f := .free "any") rfl)
    · exact He.free_ok X Gm (c.fact 47 (f := .free "str") rfl)
    · exact He.free_ok X Gm (c.fact 48 (f := .free "bool") rfl)
    · exact He.free_ok X Gm (c.fact 49 (f := .free "dict") rfl)
    · exact He.free_ok X Gm (c.fact 50 (f := .free "sum") rfl)
  · replace h : gFn f = some (n, np) := h
    unfold gFn at h
    split at h
    · cases h
      obtain ⟨fd, r, kp, bd, kw⟩ := q_is_count (P := P) (w := w) c
      exact ⟨by decide, _, fd, _, r, rfl, He.glo_ok X Gm (c.fact 0 (f := .glo "is_count") rfl), kp, fun _ => bd, fun m ks pm hm => kw _ hm rfl⟩
    · cases h
      obtain ⟨fd, r, kp, bd, kw⟩ := q_is_below (P := P) (w := w) c
      exact ⟨by decide, _, fd, _, r, rfl, He.glo_ok X Gm (c.fact 1 (f := .glo "is_below") rfl), kp, fun _ => bd, fun m ks pm hm => kw _ hm rfl⟩
    · cases h
      obtain ⟨fd, r, kp, bd, kw⟩ := q_require_count (P := P) (w := w) c
      exact ⟨by decide, _, fd, _, r, rfl, He.glo_ok X Gm (c.fact 2 (f := .glo "require_count") rfl), kp, fun _ => bd, fun m ks pm hm => kw _ hm rfl⟩
    · cases h
      obtain ⟨fd, r, kp, bd, kw⟩ := q_is_rising (P := P) (w := w) c
      exact ⟨by decide, _, fd, _, r, rfl, He.glo_ok X Gm (c.fact 3 (f := .glo "is_rising") rfl), kp, fun _ => bd, fun m ks pm hm => kw _ hm rfl⟩
    · cases h
      obtain ⟨fd, r, kp, bd, kw⟩ := q_is_link (P := P) (w := w) c
      exact ⟨by decide, _, fd, _, r, rfl, He.glo_ok X Gm (c.fact 4 (f := .glo "is_link") rfl), kp, fun _ => bd, fun m ks pm hm => kw _ hm rfl⟩
    · cases h
      obtain ⟨fd, r, kp, bd, kw⟩ := q_checked_links (P := P) (w := w) c
      exact ⟨by decide, _, fd, _, r, rfl, He.glo_ok X Gm (c.fact 5 (f := .glo "checked_links") rfl), kp, fun _ => bd, fun m ks pm hm => kw _ hm rfl⟩
    · cases h
      obtain ⟨fd, r, kp, bd, kw⟩ := q_require_net (P := P) (w := w) c
      exact ⟨by decide, _, fd, _, r, rfl, He.glo_ok X Gm (c.fact 6 (f := .glo "require_net") rfl), kp, fun _ => bd, fun m ks pm hm => kw _ hm rfl⟩
    · cases h
      obtain ⟨fd, r, kp, bd, kw⟩ := q_require_lots (P := P) (w := w) c
      exact ⟨by decide, _, fd, _, r, rfl, He.glo_ok X Gm (c.fact 7 (f := .glo "require_lots") rfl), kp, fun _ => bd, fun m ks pm hm => kw _ hm rfl⟩
    · cases h
      obtain ⟨fd, r, kp, bd, kw⟩ := q_require_liars (P := P) (w := w) c
      exact ⟨by decide, _, fd, _, r, rfl, He.glo_ok X Gm (c.fact 8 (f := .glo "require_liars") rfl), kp, fun _ => bd, fun m ks pm hm => kw _ hm rfl⟩
    · cases h
      obtain ⟨fd, r, kp, bd, kw⟩ := q_choices (P := P) (w := w) c
      exact ⟨by decide, _, fd, _, r, rfl, He.glo_ok X Gm (c.fact 9 (f := .glo "choices") rfl), kp, fun _ => bd, fun m ks pm hm => kw _ hm rfl⟩
    · cases h
      obtain ⟨fd, r, kp, bd, kw⟩ := q_at_most (P := P) (w := w) c
      exact ⟨by decide, _, fd, _, r, rfl, He.glo_ok X Gm (c.fact 10 (f := .glo "at_most") rfl), kp, fun _ => bd, fun m ks pm hm => kw _ hm rfl⟩
    · cases h
      obtain ⟨fd, r, kp, bd, kw⟩ := q_is_let (P := P) (w := w) c
      exact ⟨by decide, _, fd, _, r, rfl, He.glo_ok X Gm (c.fact 11 (f := .glo "is_let") rfl), kp, fun _ => bd, fun m ks pm hm => kw _ hm rfl⟩
    · cases h
      obtain ⟨fd, r, kp, bd, kw⟩ := q_may_lie (P := P) (w := w) c
      exact ⟨by decide, _, fd, _, r, rfl, He.glo_ok X Gm (c.fact 12 (f := .glo "may_lie") rfl), kp, fun _ => bd, fun m ks pm hm => kw _ hm rfl⟩
    · cases h
      obtain ⟨fd, r, kp, bd, kw⟩ := q_law_mixed (P := P) (w := w) c
      exact ⟨by decide, _, fd, _, r, rfl, He.glo_ok X Gm (c.fact 13 (f := .glo "_law_mixed") rfl), kp, fun _ => bd, fun m ks pm hm => kw _ hm rfl⟩
    · cases h
      obtain ⟨fd, r, kp, bd, kw⟩ := q_law_purse (P := P) (w := w) c
      exact ⟨by decide, _, fd, _, r, rfl, He.glo_ok X Gm (c.fact 14 (f := .glo "_law_purse") rfl), kp, fun _ => bd, fun m ks pm hm => kw _ hm rfl⟩
    · cases h
      obtain ⟨fd, r, kp, bd, kw⟩ := q_law_draw (P := P) (w := w) c
      exact ⟨by decide, _, fd, _, r, rfl, He.glo_ok X Gm (c.fact 15 (f := .glo "_law_draw") rfl), kp, fun _ => bd, fun m ks pm hm => kw _ hm rfl⟩
    · cases h
      obtain ⟨fd, r, kp, bd, kw⟩ := q_law_great (P := P) (w := w) c
      exact ⟨by decide, _, fd, _, r, rfl, He.glo_ok X Gm (c.fact 16 (f := .glo "_law_great") rfl), kp, fun _ => bd, fun m ks pm hm => kw _ hm rfl⟩
    · cases h
      obtain ⟨fd, r, kp, bd, kw⟩ := q_law_asked (P := P) (w := w) c
      exact ⟨by decide, _, fd, _, r, rfl, He.glo_ok X Gm (c.fact 17 (f := .glo "_law_asked") rfl), kp, fun _ => bd, fun m ks pm hm => kw _ hm rfl⟩
    · cases h
      obtain ⟨fd, r, kp, bd, kw⟩ := q_law_caught (P := P) (w := w) c
      exact ⟨by decide, _, fd, _, r, rfl, He.glo_ok X Gm (c.fact 18 (f := .glo "_law_caught") rfl), kp, fun _ => bd, fun m ks pm hm => kw _ hm rfl⟩
    · cases h
      obtain ⟨fd, r, kp, bd, kw⟩ := q_law_spoilt (P := P) (w := w) c
      exact ⟨by decide, _, fd, _, r, rfl, He.glo_ok X Gm (c.fact 19 (f := .glo "_law_spoilt") rfl), kp, fun _ => bd, fun m ks pm hm => kw _ hm rfl⟩
    · cases h
      obtain ⟨fd, r, kp, bd, kw⟩ := q_law_right (P := P) (w := w) c
      exact ⟨by decide, _, fd, _, r, rfl, He.glo_ok X Gm (c.fact 20 (f := .glo "_law_right") rfl), kp, fun _ => bd, fun m ks pm hm => kw _ hm rfl⟩
    · cases h
      obtain ⟨fd, r, kp, bd, kw⟩ := q_law (P := P) (w := w) c
      exact ⟨by decide, _, fd, _, r, rfl, He.glo_ok X Gm (c.fact 21 (f := .glo "law") rfl), kp, fun _ => bd, fun m ks pm hm => kw _ hm rfl⟩
    · cases h
  · replace h : gCl k = some (n, np) := h
    unfold gCl at h
    split at h
    · cases h
      obtain ⟨fd, r, kp, bd, kw⟩ := q_Net_init (P := P) (w := w) c
      exact ⟨by decide, by decide, _, _, fd, _, rfl, He.mkr_ok (c.fact 23 (f := .mkr "Net") rfl), r, rfl, He.glo_ok X Gm (c.fact 22 (f := .glo "Net") rfl), bd, fun m ks pm hm => kw _ hm rfl⟩
    · cases h
  · replace h : gMt m = some (n, np) := h
    unfold gMt at h
    split at h
    · cases h
      refine ⟨by decide, fun k hk f hf => ?_⟩
      rcases List.mem_cons.mp hk with rfl | hk
      · cases hf
        obtain ⟨fd, r, kp, bd, kw⟩ := q_Net_eq (P := P) (w := w) c
        exact ⟨by decide, _, fd, _, He.meth_ok (c.fact 24 (f := .meth "Net" "__eq__") rfl), r, rfl, bd, fun m ks pm hm => ⟨(kw _ hm rfl).2, (kw _ hm rfl).1⟩⟩
      cases hk
    · cases h
      refine ⟨by decide, fun k hk f hf => ?_⟩
      rcases List.mem_cons.mp hk with rfl | hk
      · cases hf
        obtain ⟨fd, r, kp, bd, kw⟩ := q_Net_ends (P := P) (w := w) c
        exact ⟨by decide, _, fd, _, He.meth_ok (c.fact 25 (f := .meth "Net" "ends") rfl), r, rfl, bd, fun m ks pm hm => ⟨(kw _ hm rfl).2, (kw _ hm rfl).1⟩⟩
      cases hk
    · cases h
      refine ⟨by decide, fun k hk f hf => ?_⟩
      rcases List.mem_cons.mp hk with rfl | hk
      · cases hf
        obtain ⟨fd, r, kp, bd, kw⟩ := q_Net_neighbours (P := P) (w := w) c
        exact ⟨by decide, _, fd, _, He.meth_ok (c.fact 26 (f := .meth "Net" "neighbours") rfl), r, rfl, bd, fun m ks pm hm => ⟨(kw _ hm rfl).2, (kw _ hm rfl).1⟩⟩
      cases hk
    · cases h
  · rcases List.mem_cons.mp hk with rfl | hk
    · cases hm
      obtain ⟨fd, r, kp, bd, kw⟩ := q_Net_eq (P := P) (w := w) c
      exact ⟨by decide, _, fd, _, eqc_ok h4, r, rfl, bd⟩
    cases hk
  · replace h : gEx k = some n := h
    unfold gEx at h
    split at h
    · cases h
      exact ⟨e_InvalidNumber c h5, He.glo_ok X Gm (c.fact 28 (f := .glo "InvalidNumber") rfl)⟩
    · cases h
      exact ⟨e_InvalidLinks c h6, He.glo_ok X Gm (c.fact 29 (f := .glo "InvalidLinks") rfl)⟩
    · cases h
      exact ⟨e_InvalidNet c h7, He.glo_ok X Gm (c.fact 30 (f := .glo "InvalidNet") rfl)⟩
    · cases h
      exact ⟨e_InvalidLots c h8, He.glo_ok X Gm (c.fact 31 (f := .glo "InvalidLots") rfl)⟩
    · cases h
      exact ⟨e_InvalidLiars c h9, He.glo_ok X Gm (c.fact 32 (f := .glo "InvalidLiars") rfl)⟩
    · cases h
  · match k with
    | 0 => exact .inl (He.glo_ok X Gm (c.fact 22 (f := .glo "Net") rfl))
    | k + 1 => exact .inr (by
        show Ty.cls (k + 1) ∉ ([.int, .list, .tuple, .cls 0, .bool] : List Ty)
        simp)
  · have q := xn_ok h2 k hk
    rcases List.mem_cons.mp hk with rfl | hk
    · exact ⟨He.glo_ok X Gm (c.fact 27 (f := .glo "CopyError") rfl), q⟩
    rcases List.mem_cons.mp hk with rfl | hk
    · exact ⟨He.glo_ok X Gm (c.fact 28 (f := .glo "InvalidNumber") rfl), q⟩
    rcases List.mem_cons.mp hk with rfl | hk
    · exact ⟨He.glo_ok X Gm (c.fact 29 (f := .glo "InvalidLinks") rfl), q⟩
    rcases List.mem_cons.mp hk with rfl | hk
    · exact ⟨He.glo_ok X Gm (c.fact 30 (f := .glo "InvalidNet") rfl), q⟩
    rcases List.mem_cons.mp hk with rfl | hk
    · exact ⟨He.glo_ok X Gm (c.fact 31 (f := .glo "InvalidLots") rfl), q⟩
    rcases List.mem_cons.mp hk with rfl | hk
    · exact ⟨He.glo_ok X Gm (c.fact 32 (f := .glo "InvalidLiars") rfl), q⟩
    cases hk
end
abbrev R : PySem.W.OpenRow := PySem.W.OpenLaw.row PySem.Challenge.rw_sixcopies_k02_nets_and_sets_refused
abbrev hk : PySem.W.Hook := hookE 5 fa fn ex
def ob (s : PySem.W.SharedT) : AlE := obsE 5 fa fn ex (HandSHeadRun.getT s)
theorem ob_eq (s : PySem.W.SharedT) : ob s = hk.obs s.abs := obsE_eq (HandSHeadRun.getT_eq s)
def names : List PySem.Str := (["CopyError", "InvalidNumber", "InvalidLinks", "InvalidNet", "InvalidLots", "InvalidLiars", "is_count", "is_below", "require_count", "is_rising", "is_link", "checked_links", "Net", "require_net", "require_lots", "require_liars", "choices", "at_most", "is_let", "may_lie", "_law_mixed", "_law_purse", "_law_draw", "_law_great", "_law_asked", "_law_caught", "_law_spoilt", "_law_right"] : List PySem.Str)
theorem headRun (w : World) : HandSHeadRun.RunEq R (PySem.W.view R.prog [31]) hk ob 4000 names w := by
  intro os
  kernel_rfl
theorem facts (txt : PV → Option PySem.Str) (ht : TxtOk txt) {n : Nat} (hp : PureLaw txt tab n 208 63) {P : Program} {w : World} {K : PySem.W.Frag} {h : Heap} {mg : PySem.Str → Option Value} {f : Addr} (X : K.In h) (Gm : h.Ns mainGlobals mg) (hf : mg ("law" : PySem.Str) = some (.ref f)) (c : He.SaysD fa fn K) (hx : ex K = true) :
    ∃ (fd : FuncData) (sp : Sp), (∀ (s : Shared) (u : Value), BindsTo s fd ⟨[u], []⟩ [("_law_script", u)]) ∧ (∀ (H : Hp) (a : Addr) (ns : List Int), ns.length ≤ 63 → ((∃ o, H a = some (.frz o (.lst (ns.map V.int)))) ∨ KL K a (ns.map V.int)) → sp [.ref a] H (fun v _ => v = .bl true) fun _ _ _ => False) ∧
      ∀ base : Heap, K.In base → base.Ns mainGlobals mg → FnG P w K mg base (L2.CX P w) (2 * n + 1) f fd ["_law_script"] sp := by
  obtain ⟨fd, r, kp, bd, kw⟩ := q_law (P := P) (w := w) c
  have e := hf.symm.trans (He.glo_ok X Gm (c.fact 21 (f := .glo "law") rfl))
  cases e
  exact ⟨fd, spC P w K nm (callN pCls txt tab n) 208 1, fun s u => bd s [u] rfl, fun H a ns hl hS => law_sp hp hl hS, fun base _ _ => (allG ht (prg (mg := mg) (base := base) X Gm c hx) n).fn 208 _ fd _ (by decide) r⟩
theorem end_of (txt : PV → Option PySem.Str) (ht : TxtOk txt) (hp : PureLaw txt tab 20 208 63) : PySem.Challenge.rw_sixcopies_k02_nets_and_sets_refused.Holds := by
  w_on; o_law
  refine HandSHeadRun.head_any (r := PySem.W.OpenLaw.row PySem.Challenge.rw_sixcopies_k02_nets_and_sets_refused) (q := PySem.W.view R.prog [31]) (H := hk) (ob := ob) (M := 4000) (loose := names) (d := HandSHeadRun.topDef R.prog 31) (kwd := []) ob_eq (by kernel_rfl) (fun s => by kernel_rfl) headRun (by kernel_rfl) (by kernel_rfl) (by kernel_rfl) (by rfl) (by first | assumption | decide +kernel) (by decide +kernel) ⟨rfl, rfl, rfl, rfl, rfl, by decide +kernel⟩ ?hw ?hc
  case hw => w_witness2
  case hc =>
    refine ev_walk (l := PySem.Challenge.rw_sixcopies_k02_nets_and_sets_refused) (n := 63) (k := 41) (x := "_law_script") rfl (by decide) (by kernel_rfl) ⟨rfl, by decide, by decide⟩ ?F
    intro w mg f h Y Gm hm0
    obtain ⟨K, KX, c, hx⟩ := Y
    have hm : mg ("law" : PySem.Str) = some (.ref f) := by
      have e : (HandSHeadRun.topDef R.prog 31).name = ("law" : PySem.Str) := by kernel_rfl
      rw [← e]
      exact hm0
    obtain ⟨fd, sp, h1, h2, h3⟩ := facts txt ht hp (P := (PySem.Challenge.rw_sixcopies_k02_nets_and_sets_refused).prog) (w := w) KX Gm hm c hx
    exact ⟨K, fd, sp, KX, h1, h2, h3⟩
end L02

theorem PySem.Challenge.cw_sixcopies_k02_nets_and_sets_refused_holds : PySem.Challenge.rw_sixcopies_k02_nets_and_sets_refused.Holds :=
  L02.end_of EV.txtPV (fun _ _ h => h) L02.pure_ok
