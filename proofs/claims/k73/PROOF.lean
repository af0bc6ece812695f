import PyProof.Rows.All
import Wide.All
import OpenK.AllK
import Wide.FinOn
import KE.RegKIsAll
import HandS.Codes
import HandS.Conv
import HandS.Flow
import HandS.ForMost
import HandS.IsInst
import HandS.NoneIn
import HandS.Property
import HandS.SetFor
import HandS.SortInts
import HandS.Star
import HandS.Style
import HandS.TupAny
import HandS.TupLe
import HandS.TupMul
import HandS.TupSets
import HandS.Words
import HandS.Zip
import KE.GoesEnum
import KE.GoesMore
import KE.KTupSum
import PyProof.ReprLen
import PyProof.StrLawsRepr
import PySem.Challenge.RW_startgaps_k73_works_with_given_bars
set_option Elab.async false
set_option linter.all false
set_option maxRecDepth 100000
set_option maxHeartbeats 4000000
/-! MI: a small interpreter with trees for values. -/
namespace MI
open PySem L2

/-- values as trees; scr: the script -/
inductive D where
  | non | bl (b : Bool) | int (i : Int) | str (x : Str)
  | tup (xs : List D) | lst (xs : List D) | scr (xs : List Int)
  | dk (ks : List Key) (vs : List D) | dt (ks : List (List Key)) (vs : List D)
  | ins (C : Addr) (ns : List Str) (vs : List D)

/-- what a local name holds: nothing; a value that nobody changes any more; an object of its own; an object that a caller lends -/
inductive Sl where
  | un | val (d : D) | own (d : D) | bor (d : D)
abbrev Env := List Sl
inductive RD where
  | old (d : D) | new (d : D)
def RD.d : RD → D
  | .old d => d
  | .new d => d
inductive PV where
  | d (d : D) | s (i : Nat)
inductive AV where
  | d (d : D) | b (d : D)
abbrev CallS := Str → List AV → Option (RD × List D)

inductive Bi where
  | len | max | min | abs | sum | all | any | tuple | list | repr | sorted | int | str
  deriving DecidableEq

inductive Ty where
  | int | bool | str | tuple | list | dict
  deriving DecidableEq
def Ty.nm : Ty → String
  | .int => "int" | .bool => "bool" | .str => "str" | .tuple => "tuple" | .list => "list" | .dict => "dict"

inductive Mt where
  | count | join | split
  deriving DecidableEq
def Mt.nm : Mt → Str
  | .count => "count" | .join => "join" | .split => "split"

inductive T where
  | nm (i : Nat) | tp (ts : List T) | tl (ts : List T)

mutual
inductive E where
  | var (i : Nat)
  | cst (d : D)
  | glo (x : Str)
  | bin (op : Operator) (a b : E)
  | neg (a : E)
  | cmp (op : CmpOp) (a b : E)
  | chain (op op' : CmpOp) (a b c : E)
  | boo (isAnd : Bool) (es : List E)
  | nt (a : E)
  | ite (c a b : E)
  | tup (es : List E)
  | lst (es : List E)
  | sub (a i : E)
  | sli (a lo hi : E)
  | rev (a : E)
  | call (f : Str) (es : List E)
  | bi (b : Bi) (es : List E)
  | lrng (ty : Bi) (es : List E)
  | isi (e : E) (ty : Ty)
  | popAt (i : Nat) (e : E)
  | lc (own : List Nat) (elt : E) (tg : T) (it : I) (cnd : E)
  | lc2 (own own2 : List Nat) (elt : E) (tg : T) (it : I) (tg2 : T) (it2 : I) (cnd : E)
  | dnew (t : Bool)
  | star (a : E)
  | mt (m : Mt) (a : E) (es : List E)
  | dget (a k x : E)
  | callK (f : Str) (ks : List Str) (es : List E)
  | make (c : Str) (es : List E)
  | attr (c f : Str) (a : E)
  | isC (a : E) (c : Str)
  | callO (c : Str) (a : E) (es : List E)
  | prop (c nm : Str) (a : E)
  | orV (a b : E)
  | dst (a k1 v1 k2 v2 : E)
  | eqE (a : E)
inductive I where
  | seq (e : E)
  | rng (es : List E)
  | enum (e : E)
  | zip (a b : E)
  | chars (e : E)
end

def isObj : D → Bool
  | .lst _ => true
  | .dk _ _ => true
  | .dt _ _ => true
  | .ins _ _ _ => true
  | _ => false
/-! ### reading and freezing -/
def slotD : Sl → Option D
  | .un => none
  | .val d => some d
  | .own d => some d
  | .bor d => some d
def getP (p : PV) (env : Env) : Option D := match p with
  | .d d => some d
  | .s i => (env[i]?).bind slotD
def isSet (env : Env) (i : Nat) : Bool := match env[i]? with
  | some .un => false
  | none => false
  | some _ => true
def toP (e : E) (r : Env → Option (RD × Env)) (env : Env) : Option (PV × Env) := match e with
  | .var i => if isSet env i then some (.s i, env) else none
  | _ => (r env).map fun x => (.d x.1.d, x.2)
def isMut : Sl → Bool
  | .own _ => true
  | .bor _ => true
  | _ => false
/-- a list that may change -/
def isL : Sl → Bool
  | .own (.lst _) => true
  | .bor (.lst _) => true
  | _ => false
def mutAt (env : Env) (i : Nat) : Bool := match env[i]? with
  | some s => isL s
  | none => false
/-! ### operations on trees -/
/-- the same truth value, but one that no reduction opens (great numbers stay closed for the kernel) -/
noncomputable def lk (b : Bool) : Bool := @decide (b = true) (Classical.propDecidable _)
theorem lk_eq (b : Bool) : lk b = b := by
  unfold lk
  cases b
  · exact @decide_eq_false _ (Classical.propDecidable _) (fun z => by cases z)
  · exact @decide_eq_true _ (Classical.propDecidable _) rfl
noncomputable section
def szOk (n : Nat) : Bool := lk (decide (n ≤ sizeLine))
theorem szOk_le {n : Nat} (h : szOk n = true) : n ≤ sizeLine := by
  unfold szOk at h
  rw [lk_eq] at h
  exact of_decide_eq_true h
def mulOk (i j : Int) : Bool := lk ((decide (-(2 ^ 64) < i) && decide (i < 2 ^ 64)) || (decide (-(2 ^ 64) < j) && decide (j < 2 ^ 64)))
def arith (op : Operator) (a b : D) : Option RD := match op, a, b with
  | .Add, .int i, .int j => some (.old (.int (i + j)))
  | .Sub, .int i, .int j => some (.old (.int (i - j)))
  | .Mult, .int i, .int j => if mulOk i j then some (.old (.int (i * j))) else none
  | .FloorDiv, .int i, .int j => if lk (decide (0 < j) && decide (j < 1073741824)) then some (.old (.int (i / j))) else none
  | .Mod, .int i, .int j => if lk (decide (0 < j)) then some (.old (.int (i % j))) else none
  | .Pow, .int i, .int j => if lk (decide (0 ≤ j) && decide (j ≤ 1000000) && decide (i.natAbs < 2 ^ 64)) then some (.old (.int (i ^ j.toNat))) else none
  | .Add, .str x, .str y => if szOk (x.length + y.length) then some (.old (.str (x ++ y))) else none
  | .Add, .lst xs, .lst ys => if szOk (xs.length + ys.length) then some (.new (.lst (xs ++ ys))) else none
  | .Add, .tup xs, .tup ys => if szOk (xs.length + ys.length) then some (.old (.tup (xs ++ ys))) else none
  | .Mult, .lst xs, .int k => if lk (decide (-(2 ^ 63) ≤ k) && decide (k < 2 ^ 63) && szOk (xs.length * k.toNat)) then some (.new (.lst (List.replicate k.toNat xs).flatten)) else none
  | .Mult, .tup xs, .int k => if lk (decide (-(2 ^ 63) ≤ k) && decide (k < 2 ^ 63) && szOk (xs.length * k.toNat)) then some (.old (.tup (List.replicate k.toNat xs).flatten)) else none
  | _, _, _ => none

/-! keys of dicts -/
def keyD : D → Option Key
  | .int i => some (.inl i)
  | .str x => some (.inr x)
  | _ => none
def keysD : List D → Option (List Key)
  | [] => some []
  | d :: r => (keyD d).bind fun k => (keysD r).map (k :: ·)
def repD {κ : Type} [DecidableEq κ] : List κ → List D → κ → D → List D
  | k :: ks, v :: vs, x, d => (if k = x then d else v) :: repD ks vs x d
  | _, _, _, _ => []
/-- in its place, or at the end -/
def putD {κ : Type} [DecidableEq κ] (ks : List κ) (vs : List D) (x : κ) (d : D) : List κ × List D := if x ∈ ks then (ks, repD ks vs x d) else (ks ++ [x], vs ++ [d])
def getD? {κ : Type} [DecidableEq κ] : List κ → List D → κ → Option D
  | k :: ks, v :: vs, x => if k = x then some v else getD? ks vs x
  | _, _, _ => none
/-- d[k] of a dict -/
def lookD (a k : D) : Option (Option D) := match a, k with
  | .dk ks vs, k => (keyD k).map fun x => getD? ks vs x
  | .dt ks vs, .tup ts => (keysD ts).map fun x => getD? ks vs x
  | _, _ => none
/-- the dict behind d[k] = v -/
def storeD (a k v : D) : Option D := match a, k with
  | .dk ks vs, k => (keyD k).bind fun x => if lk (decide (ks.length < sizeLine)) then some (.dk (putD ks vs x v).1 (putD ks vs x v).2) else none
  | .dt ks vs, .tup ts => (keysD ts).bind fun x => if lk (decide (ks.length < sizeLine)) then some (.dt (putD ks vs x v).1 (putD ks vs x v).2) else none
  | _, _ => none
/-- {**d, k1: v1, k2: v2} -/
def dstD (d k1 v1 k2 v2 : D) : Option D := match d with
  | .dk ks vs => (keyD k1).bind fun c1 => (keyD k2).bind fun c2 => if c1 = c2 then none else
      if lk (decide (ks.length + 15 ≤ sizeLine)) then some (.dk (putD (putD ks vs c1 v1).1 (putD ks vs c1 v1).2 c2 v2).1 (putD (putD ks vs c1 v1).1 (putD ks vs c1 v1).2 c2 v2).2) else none
  | _ => none
def emptyD : D → Option Bool
  | .dk ks _ => some ks.isEmpty
  | _ => none
/-! equality of data: None, bools, ints, texts, tuples, lists (True == 1) -/
mutual
def eqD : D → D → Bool
  | .non, .non => true
  | .bl a, .bl b => a == b
  | .int a, .int b => decide (a = b)
  | .str a, .str b => decide (a = b)
  | .tup xs, .tup ys => eqDs xs ys
  | .lst xs, .lst ys => eqDs xs ys
  | .bl a, .int b => decide ((if a then 1 else 0) = b)
  | .int a, .bl b => decide (a = (if b then 1 else 0))
  | _, _ => false
def eqDs : List D → List D → Bool
  | [], [] => true
  | x :: xs, y :: ys => eqD x y && eqDs xs ys
  | _, _ => false
end
/-! data without the script, nested at most so deep -/
mutual
def flatD : Nat → D → Bool
  | _, .non => true
  | _, .bl _ => true
  | _, .int _ => true
  | _, .str x => PyData.strOk x
  | n + 1, .tup xs => flatDs n xs
  | n + 1, .lst xs => flatDs n xs
  | _, _ => false
def flatDs : Nat → List D → Bool
  | _, [] => true
  | n, x :: xs => flatD n x && flatDs n xs
end
def isScal : D → Bool
  | .non => true
  | .bl _ => true
  | .int _ => true
  | .str _ => true
  | _ => false
def dataOk (d : D) : Bool := flatD 40 d
def cmpD (op : CmpOp) (a b : D) : Option Bool := match op, a, b with
  | .Eq, .int i, .int j => some (decide (i = j))
  | .NotEq, .int i, .int j => some (!decide (i = j))
  | .Eq, .str i, .str j => some (decide (i = j))
  | .NotEq, .str i, .str j => some (!decide (i = j))
  | .Eq, a, b => if dataOk a && dataOk b then some (eqD a b) else none
  | .NotEq, a, b => if dataOk a && dataOk b then some (!eqD a b) else none
  | .Lt, .int i, .int j => some (decide (i < j))
  | .LtE, .int i, .int j => some (decide (i ≤ j))
  | .Gt, .int i, .int j => some (decide (j < i))
  | .GtE, .int i, .int j => some (decide (j ≤ i))
  | .Is, d, .non => some (match d with | .non => true | _ => false)
  | .IsNot, d, .non => some (match d with | .non => false | _ => true)
  | .In, d, .dk ks vs => (lookD (.dk ks vs) d).map (·.isSome)
  | .In, d, .dt ks vs => (lookD (.dt ks vs) d).map (·.isSome)
  | .NotIn, d, .dk ks vs => (lookD (.dk ks vs) d).map (!·.isSome)
  | .NotIn, d, .dt ks vs => (lookD (.dt ks vs) d).map (!·.isSome)
  | .In, d, .lst xs => if isScal d && xs.all isScal then some (xs.any fun y => eqD y d) else if flatD 39 d && flatDs 39 xs then some (xs.any fun y => eqD y d) else none
  | .In, d, .tup xs => if isScal d && xs.all isScal then some (xs.any fun y => eqD y d) else if flatD 39 d && flatDs 39 xs then some (xs.any fun y => eqD y d) else none
  | .NotIn, d, .lst xs => if isScal d && xs.all isScal then some (!xs.any fun y => eqD y d) else if flatD 39 d && flatDs 39 xs then some (!xs.any fun y => eqD y d) else none
  | .NotIn, d, .tup xs => if isScal d && xs.all isScal then some (!xs.any fun y => eqD y d) else if flatD 39 d && flatDs 39 xs then some (!xs.any fun y => eqD y d) else none
  | .In, .str a, .str b => match a.cps.toList with
    | [c] => some (decide (c ∈ b.cps.toList))
    | _ => none
  | _, _, _ => none
def truth : D → Option Bool
  | .non => some false
  | .bl b => some b
  | .int i => some (i != 0)
  | .lst xs => some (!xs.isEmpty)
  | .tup xs => some (!xs.isEmpty)
  | .str x => if szOk x.length then some ((x.length : Int) != 0) else none
  | _ => none
def itemD (a i : D) : Option D := match a, i with
  | .dk ks vs, k => (lookD (.dk ks vs) k).bind id
  | .dt ks vs, k => (lookD (.dt ks vs) k).bind id
  | .tup xs, .int k => atI xs k
  | .lst xs, .int k => atI xs k
  | .scr xs, .int k => (atI xs k).map .int
  | .str z, .int k => if lk (decide (z.length ≤ sizeLine)) then (atI z.cps.toList k).map fun c => .str ⟨#[c]⟩ else none
  | _, _ => none
def cut {α : Type} (xs : List α) (lo hi : Option Int) : List α := (xs.drop (HT.sIx xs.length 0 lo)).take (HT.sIx xs.length xs.length hi - HT.sIx xs.length 0 lo)
def partD : Option D → Option (Option Int)
  | none => some none
  | some (.int i) => some (some i)
  | _ => none
def sliceD (a : D) (lo hi : Option Int) : Option RD := match a with
  | .tup xs => some (.old (.tup (cut xs lo hi)))
  | .lst xs => some (.new (.lst (cut xs lo hi)))
  | .scr xs => some (.new (.lst ((cut xs lo hi).map .int)))
  | _ => none
def revD : D → Option RD
  | .tup xs => some (.old (.tup xs.reverse))
  | .lst xs => some (.new (.lst xs.reverse))
  | _ => none
def intsOf : List D → Option (List Int)
  | [] => some []
  | .int i :: r => (intsOf r).map (i :: ·)
  | _ => none
def boolsOf : List D → Option (List Bool)
  | [] => some []
  | .bl i :: r => (boolsOf r).map (i :: ·)
  | _ => none
/-- the greatest of a list with a first -/
def topOf : Int → List Int → Int
  | m, [] => m
  | m, x :: r => topOf (if x > m then x else m) r
def lowOf : Int → List Int → Int
  | m, [] => m
  | m, x :: r => lowOf (if x < m then x else m) r
mutual
def pyOf : D → PyData
  | .non => .none
  | .bl b => .bool b
  | .int i => .int i
  | .str x => .str x
  | .tup xs => .tuple (pyOfs xs)
  | .lst xs => .list (pyOfs xs)
  | .scr _ => .none
  | .dk _ _ => .none
  | .dt _ _ => .none
  | .ins _ _ _ => .none
def pyOfs : List D → List PyData
  | [] => []
  | x :: xs => pyOf x :: pyOfs xs
end
/-- what repr gives: its length must lie within the line, ints be of a size -/
def reprD (d : D) : Option Str := if dataOk d && (pyOf d).showable && szOk (pyOf d).shown.length then some (pyOf d).shown else none
/-! sorting: ints, or tuples of ints of one length -/
def tupsOf : List D → Option (List (List Int))
  | [] => some []
  | .tup xs :: r => (intsOf xs).bind fun ns => (tupsOf r).map (ns :: ·)
  | _ => none
def leI : List Int → List Int → Bool
  | [], _ => true
  | _ :: _, [] => false
  | x :: xs, y :: ys => decide (x < y) || (decide (x = y) && leI xs ys)
def insB {α : Type} (le : α → α → Bool) (x : α) : List α → List α
  | [] => [x]
  | y :: ys => if le x y then x :: y :: ys else y :: insB le x ys
def srtB {α : Type} (le : α → α → Bool) : List α → List α
  | [] => []
  | x :: xs => insB le x (srtB le xs)
def sortD (xs : List D) : Option (List D) := match intsOf xs with
  | some ns => some ((srtB (fun a b => decide (a ≤ b)) ns).map .int)
  | none => match tupsOf xs with
    | some tss => if tss.all (fun t => t.length == (tss.headD []).length && !t.isEmpty) then some ((srtB leI tss).map fun ns => .tup (ns.map .int)) else none
    | none => none
def keysI : List Key → Option (List Int)
  | [] => some []
  | .inl i :: r => (keysI r).map (i :: ·)
  | _ => none
def strsOf : List D → Option (List Str)
  | [] => some []
  | .str i :: r => (strsOf r).map (i :: ·)
  | _ => none
def biD (b : Bi) (as : List D) : Option RD := match b, as with
  | .len, [.tup xs] => some (.old (.int xs.length))
  | .len, [.lst xs] => some (.old (.int xs.length))
  | .len, [.scr xs] => some (.old (.int xs.length))
  | .max, [.int i, .int j] => some (.old (.int (if j > i then j else i)))
  | .min, [.int i, .int j] => some (.old (.int (if j < i then j else i)))
  | .abs, [.int i] => some (.old (.int (if i < 0 then -i else i)))
  | .max, [.lst xs] => (match intsOf xs with | some (m :: r) => some (.old (.int (topOf m r))) | _ => none)
  | .min, [.lst xs] => (match intsOf xs with | some (m :: r) => some (.old (.int (lowOf m r))) | _ => none)
  | .sum, [.lst xs] => (intsOf xs).map fun ns => .old (.int ns.sum)
  | .sum, [.tup xs] => (intsOf xs).map fun ns => .old (.int ns.sum)
  | .all, [.lst xs] => (boolsOf xs).map fun bs => .old (.bl (bs.all id))
  | .any, [.lst xs] => (boolsOf xs).map fun bs => .old (.bl (bs.any id))
  | .tuple, [.lst xs] => some (.old (.tup xs))
  | .tuple, [.tup xs] => some (.old (.tup xs))
  | .list, [.lst xs] => some (.new (.lst xs))
  | .list, [.tup xs] => some (.new (.lst xs))
  | .repr, [d] => (reprD d).map fun x => .old (.str x)
  | .sorted, [.lst xs] => (sortD xs).map fun ys => .new (.lst ys)
  | .sorted, [.dk ks _] => (keysI ks).bind fun ns => if ns.length < 64 then some (.new (.lst ((srtB (fun a b => decide (a ≤ b)) ns).map .int))) else none
  | .int, [.int i] => some (.old (.int i))
  | .int, [.bl b] => some (.old (.int (if b then 1 else 0)))
  | .int, [.str x] => (if lk (decide (x.length ≤ 640)) then (PySem.intText? x).map fun n => .old (.int n) else none)
  | .str, [.int i] => if lk (decide (i.natAbs.log2 < 1920)) then some (.old (.str (toString i))) else none
  | _, _ => none
def tyD : D → String
  | .non => "NoneType"
  | .bl _ => "bool"
  | .int _ => "int"
  | .str _ => "str"
  | .tup _ => "tuple"
  | .lst _ => "list"
  | .scr _ => "list"
  | .dk _ _ => "dict"
  | .dt _ _ => "dict"
  | .ins _ _ _ => "object"
def isiD : D → Ty → Option Bool
  | .scr _, _ => none
  | .dk _ _, _ => none
  | .dt _ _, _ => none
  | .ins _ _ _, _ => none
  | .bl _, .bool => some true
  | .bl _, .int => some true
  | .int _, .int => some true
  | .str _, .str => some true
  | .tup _, .tuple => some true
  | .lst _, .list => some true
  | _, _ => some false
/-- methods of built-in values -/
def mtD (m : Mt) (a : D) (as : List D) : Option RD := match m, a, as with
  | .count, .lst xs, [.int k] => (intsOf xs).map fun ns => .old (.int (ns.count k : Nat))
  | .join, .str a, [.lst xs] => (strsOf xs).bind fun ys => if lk (decide ((ys.map (·.length)).sum + ys.length * a.length ≤ 16777216)) then some (.old (.str (Txt.join a ys))) else none
  | .split, .str a, [.str b] => if lk (!(b.length == 0) && decide (a.length + 2 ≤ sizeLine)) then some (.new (.lst ((Txt.split a b).map .str))) else none
  | _, _, _ => none
def isDic : D → Bool
  | .dk _ _ => true
  | .dt _ _ => true
  | _ => false
/-- what a method is called of -/
def mtK : Mt → D → Bool
  | .count, .lst _ => true
  | .join, .str _ => true
  | .split, .str _ => true
  | _, _ => false
/-- a field of an instance -/
def attrD (a : D) (f : Str) : Option D := match a with
  | .ins _ ns vs => (ns.zip vs).lookup f
  | _ => none
def insC : D → Option Addr
  | .ins C _ _ => some C
  | _ => none
/-- isinstance(x, C), C a class of the program's -/
def isCD : D → Addr → Option Bool
  | .ins C _ _, a => if C = a then some true else none
  | .scr _, _ => none
  | .dk _ _, _ => none
  | .dt _ _, _ => none
  | _, _ => some false
def rgD (a b : Int) : List D := (List.range (b - a).toNat).map fun i => D.int (a + (i : Nat))
def rgOk (a b : Int) : Bool := lk (decide (-(2 ^ 62) ≤ a) && decide (a < 2 ^ 62) && decide (-(2 ^ 62) ≤ b) && decide (b < 2 ^ 62) && decide ((b - a).toNat ≤ 2 ^ 24))
def rngD : List D → Option (List D)
  | [.int n] => if rgOk 0 n then some (rgD 0 n) else none
  | [.int a, .int b] => if rgOk a b then some (rgD a b) else none
  | _ => none
def itemsD : D → Option (List D)
  | .tup xs => some xs
  | .lst xs => some xs
  | .scr xs => some (xs.map .int)
  | _ => none
/-- the items of a tuple or list -/
def itemsT : D → Option (List D)
  | .tup xs => some xs
  | .lst xs => some xs
  | _ => none
/-- a tuple -/
def isT : D → Bool
  | .tup _ => true
  | _ => false
def enumD : Int → List D → List D
  | _, [] => []
  | k, d :: r => .tup [.int k, d] :: enumD (k + 1) r
def zipD : List D → List D → List D
  | x :: xs, y :: ys => .tup [x, y] :: zipD xs ys
  | _, _ => []

/-! ### environments -/
mutual
def bindT : T → D → Env → Option Env
  | .nm i, d, env => if i < env.length then some (env.set i (.val d)) else none
  | .tp ts, .tup xs, env => bindTs ts xs env
  | .tl ts, .lst xs, env => bindTs ts xs env
  | _, _, _ => none
def bindTs : List T → List D → Env → Option Env
  | [], [], env => some env
  | t :: ts, d :: ds, env => (bindT t d env).bind (bindTs ts ds)
  | _, _, _ => none
end
def wipeE (env : Env) : List Nat → Env
  | [] => env
  | v :: vs => (wipeE env vs).set v .un
def wipeable (env : Env) (vs : List Nat) : Bool := vs.all fun i => match env[i]? with | some s => !isMut s | none => true
def wiped (own : List Nat) (o : Option D) (env : Env) : Option (Option D × Env) := if wipeable env own then some (o, wipeE env own) else none
/-- the slots vs as they were in env0 -/
def restoreE (env0 env : Env) : List Nat → Env
  | [] => env
  | v :: vs => match env0[v]? with | some s => (restoreE env0 env vs).set v s | none => restoreE env0 env vs
def reslot (d : D) : Sl → Sl
  | .own _ => .own d
  | .bor _ => .bor d
  | s => s
def putBack : List PV → List D → Env → Option Env
  | [], [], env => some env
  | .d _ :: ps, os, env => putBack ps os env
  | .s i :: ps, xs :: os, env => match env[i]? with
    | some s => putBack ps os (env.set i (reslot xs s))
    | none => none
  | _, _, _ => none
def argV (env : Env) : List PV → Option (List AV)
  | [] => some []
  | .d d :: ps => (argV env ps).map (.d d :: ·)
  | .s i :: ps => match env[i]? with
    | some (.own d) => (argV env ps).map (.b d :: ·)
    | some (.bor d) => (argV env ps).map (.b d :: ·)
    | _ => none
def sRefs : List PV → List Nat
  | [] => []
  | .d _ :: ps => sRefs ps
  | .s i :: ps => i :: sRefs ps
def lcGo (f : D → Env → Option (Option D × Env)) : List D → Env → Option (List D × Env)
  | [], env => some ([], env)
  | d :: r, env => (f d env).bind fun x => (lcGo f r x.2).map fun y => (x.1.toList ++ y.1, y.2)
def lc2Go (f : D → Env → Option (List D × Env)) : List D → Env → Option (List D × Env)
  | [], env => some ([], env)
  | d :: r, env => (f d env).bind fun x => (lc2Go f r x.2).map fun y => (x.1 ++ y.1, y.2)
def testOf (e : E) (r : Env → Option (RD × Env)) (env : Env) : Option (Bool × Env) :=
  (toP e r env).bind fun x => (getP x.1 x.2).bind fun d => (truth d).map fun b => (b, x.2)
def frz (r : Env → Option (RD × Env)) (env : Env) : Option (D × Env) := (r env).map fun x => (x.1.d, x.2)
def isNon : E → Bool
  | .cst .non => true
  | _ => false
/-- a slice's part: None is none -/
def partOf (e : E) (r : Env → Option (RD × Env)) (env : Env) : Option (Option Int × Env) :=
  if isNon e then some (none, env) else (frz r env).bind fun x => match x.1 with | .int i => some (some i, x.2) | _ => none

def popOf (i : Nat) (d : D) (env : Env) : Option (RD × Env) := match d, env[i]? with
  | .int k, some (.own (.lst xs)) => if szOk xs.length then (ixN xs.length k).bind fun j => (xs[j]?).map fun y => (.old y, env.set i (.own (.lst (xs.eraseIdx j)))) else none
  | _, _ => none
def evG : List PV → Env → Option (List D)
  | [], _ => some []
  | p :: ps, env => (getP p env).bind fun d => (evG ps env).map (d :: ·)

/-! ### expressions -/
/-- the parameters of a call by names, in the order of the def; pk ks vs: the values of the names ks in the order of ps -/
def pickK {α : Type} (ks : List Str) (vs : List α) : List Str → Option (List α)
  | [] => some []
  | p :: ps => ((ks.zip vs).lookup p).bind fun v => (pickK ks vs ps).map (v :: ·)
/-- a class: its place, its __init__, its instances' fields, its __call__, its properties -/
structure CI where
  at_ : Addr
  ini : Str
  fl : List Str
  call : Option Str
  props : List (Str × Str)
structure Ctx where
  call : CallS
  glob : Str → Option D
  modes : Str → Option (List Bool)
  names : Str → Option (List Str)
  cls : Str → Option CI
  kws : List (Str × List Str)

mutual
def evR (C : Ctx) : E → Env → Option (RD × Env)
  | .var i, env => (match env[i]? with
    | some (.val d) => some (.old d, env)
    | some (.own d) => if isObj d then some (.old d, env.set i (.val d)) else none
    | _ => none)
  | .cst d, env => some (.old d, env)
  | .glo x, env => (C.glob x).map fun d => (.old d, env)
  | .bin op a b, env => (toP a (evR C a) env).bind fun p => (toP b (evR C b) p.2).bind fun q =>
      (getP p.1 q.2).bind fun x => (getP q.1 q.2).bind fun y => (arith op x y).map fun z => (z, q.2)
  | .neg a, env => (frz (evR C a) env).bind fun x => (match x.1 with | .int i => some (.old (.int (-i)), x.2) | _ => none)
  | .cmp op a b, env => (toP a (evR C a) env).bind fun p => (toP b (evR C b) p.2).bind fun q =>
      (getP p.1 q.2).bind fun x => (getP q.1 q.2).bind fun y => (cmpD op x y).map fun z => (.old (.bl z), q.2)
  | .chain op op' a b c, env => (toP a (evR C a) env).bind fun p => (frz (evR C b) p.2).bind fun q =>
      (getP p.1 q.2).bind fun x => (cmpD op x q.1).bind fun z =>
        if z then (toP c (evR C c) q.2).bind fun r => (getP r.1 r.2).bind fun y => (cmpD op' q.1 y).map fun z' => (.old (.bl z'), r.2)
        else some (.old (.bl false), q.2)
  | .boo isAnd es, env => evB C isAnd es env
  | .nt a, env => (testOf a (evR C a) env).map fun x => (.old (.bl (!x.1)), x.2)
  | .ite c a b, env => (testOf c (evR C c) env).bind fun x => if x.1 then evR C a x.2 else evR C b x.2
  | .tup es, env => (evS C es env).bind fun x => if szOk x.1.length then some (.old (.tup x.1), x.2) else none
  | .lst es, env => (evS C es env).bind fun x => if szOk x.1.length then some (.new (.lst x.1), x.2) else none
  | .sub a i, env => (toP a (evR C a) env).bind fun p => (frz (evR C i) p.2).bind fun k =>
      (getP p.1 k.2).bind fun x => (itemD x k.1).map fun z => (.old z, k.2)
  | .sli a lo hi, env => (toP a (evR C a) env).bind fun p => (partOf lo (evR C lo) p.2).bind fun l => (partOf hi (evR C hi) l.2).bind fun h =>
      (getP p.1 h.2).bind fun x => (sliceD x l.1 h.1).map fun z => (z, h.2)
  | .rev a, env => (toP a (evR C a) env).bind fun p => (getP p.1 p.2).bind fun x => (revD x).map fun z => (z, p.2)
  | .call f es, env => (C.modes f).bind fun ms => (evA C ms es env).bind fun x => (argV x.2 x.1).bind fun as =>
      if (sRefs x.1).Nodup then (C.call f as).bind fun y => (putBack x.1 y.2 x.2).map fun env' => (y.1, env') else none
  | .bi b es, env => (evPs C es env).bind fun x => (evG x.1 x.2).bind fun ds => (biD b ds).map fun z => (z, x.2)
  | .lrng ty es, env => (evD C es env).bind fun x => (rngD x.1).bind fun ds => (match ty with
      | .list => some (.new (.lst ds), x.2)
      | .tuple => some (.old (.tup ds), x.2)
      | _ => none)
  | .isi e ty, env => (toP e (evR C e) env).bind fun p => (getP p.1 p.2).bind fun x => (isiD x ty).map fun z => (.old (.bl z), p.2)
  | .popAt i e, env => if mutAt env i then (frz (evR C e) env).bind fun x => popOf i x.1 x.2 else none
  | .lc own elt tg it cnd, env => (evI C it env).bind fun x =>
      if wipeable x.2 own && szOk x.1.length then
        (lcGo (fun d e => (bindT tg d e).bind fun e1 => (testOf cnd (evR C cnd) e1).bind fun b =>
          if b.1 then (frz (evR C elt) b.2).bind fun y => wiped own (some y.1) y.2 else wiped own none b.2) x.1 (wipeE x.2 own)).map fun y => (.new (.lst y.1), restoreE x.2 y.2 own)
      else none
  | .lc2 own own2 elt tg it tg2 it2 cnd, env => (evI C it env).bind fun x =>
      if wipeable x.2 own && szOk x.1.length then
        (lc2Go (fun d e => (bindT tg d e).bind fun e1 => (evI C it2 e1).bind fun z => if wipeable z.2 own2 then (lcGo (fun d e => (bindT tg2 d e).bind fun e1 => (testOf cnd (evR C cnd) e1).bind fun b =>
          if b.1 then (frz (evR C elt) b.2).bind fun y => wiped own2 (some y.1) y.2 else wiped own2 none b.2) z.1 (wipeE z.2 own2)).bind fun y => if wipeable y.2 own then some (y.1, wipeE y.2 own) else none else none) x.1 (wipeE x.2 own)).bind fun y =>
            if lk (decide (y.1.length < sizeLine)) then some (.new (.lst y.1), restoreE x.2 y.2 own) else none
      else none
  | .dnew t, env => some (.new (if t then .dt [] [] else .dk [] []), env)
  | .star _, _ => none
  | .mt m a es, env => (toP a (evR C a) env).bind fun p => (getP p.1 p.2).bind fun d0 => if mtK m d0 then (evPs C es p.2).bind fun x => (getP p.1 x.2).bind fun d => (evG x.1 x.2).bind fun ds => (mtD m d ds).map fun z => (z, x.2) else none
  | .dget a k x, env => (toP a (evR C a) env).bind fun p => (getP p.1 p.2).bind fun d0 => if isDic d0 then (frz (evR C k) p.2).bind fun kk => (frz (evR C x) kk.2).bind fun y => (getP p.1 y.2).bind fun d => (lookD d kk.1).map fun o => (.old (o.getD y.1), y.2) else none
  | .callK f ks es, env => (C.modes f).bind fun ms => (C.names f).bind fun ps => if ms.all (!·) && decide ((f, ks) ∈ C.kws) && decide (ks.length = es.length) then (evD C es env).bind fun x => (pickK ks x.1 ps).bind fun ds =>
      (C.call f (ds.map .d)).bind fun y => if y.2.isEmpty then some (y.1, x.2) else none else none
  | .make c es, env => (evD C es env).bind fun x => if szOk x.1.length then (C.cls c).bind fun ci => (C.call ci.ini [.b (.ins ci.at_ [] []), .d (.tup x.1)]).bind fun y => (match y with
      | (.old .non, [d]) => some (.new d, x.2)
      | _ => none) else none
  | .attr c f a, env => (toP a (evR C a) env).bind fun p => (getP p.1 p.2).bind fun x => (C.cls c).bind fun ci => if insC x = some ci.at_ ∧ f ∈ ci.fl then (attrD x f).map fun z => (.old z, p.2) else none
  | .isC a c, env => (toP a (evR C a) env).bind fun p => (getP p.1 p.2).bind fun x => (C.cls c).bind fun ci => (isCD x ci.at_).map fun b => (.old (.bl b), p.2)
  | .callO c a es, env => (frz (evR C a) env).bind fun p => (evD C es p.2).bind fun x => (C.cls c).bind fun ci => ci.call.bind fun f => if insC p.1 = some ci.at_ then (C.call f (.d p.1 :: x.1.map .d)).bind fun y => if y.2.isEmpty then some (y.1, x.2) else none else none
  | .prop c nm a, env => (frz (evR C a) env).bind fun p => (C.cls c).bind fun ci => (ci.props.lookup nm).bind fun f => if insC p.1 = some ci.at_ then (C.call f [.d p.1]).bind fun y => if y.2.isEmpty then some (y.1, p.2) else none else none
  | .orV a b, env => (frz (evR C a) env).bind fun x => (truth x.1).bind fun t => if t then some (.old x.1, x.2) else evR C b x.2
  | .dst a k1 v1 k2 v2, env => (toP a (evR C a) env).bind fun p => (getP p.1 p.2).bind fun d => (frz (evR C k1) p.2).bind fun x1 => (frz (evR C v1) x1.2).bind fun y1 => (frz (evR C k2) y1.2).bind fun x2 => (frz (evR C v2) x2.2).bind fun y2 => (dstD d x1.1 y1.1 x2.1 y2.1).map fun z => (.new z, y2.2)
  | .eqE a, env => (toP a (evR C a) env).bind fun p => (getP p.1 p.2).bind fun x => (emptyD x).map fun z => (.old (.bl z), p.2)
def evB (C : Ctx) (isAnd : Bool) : List E → Env → Option (RD × Env)
  | [], _ => none
  | [e], env => (frz (evR C e) env).bind fun x => (match x.1 with | .bl b => some (.old (.bl b), x.2) | _ => none)
  | e :: es, env => (frz (evR C e) env).bind fun x => (match x.1 with
    | .bl b => if b == isAnd then evB C isAnd es x.2 else some (.old (.bl b), x.2)
    | _ => none)
def evS (C : Ctx) : List E → Env → Option (List D × Env)
  | [], env => some ([], env)
  | .star e :: es, env => (frz (evR C e) env).bind fun x => (itemsT x.1).bind fun ds => (evS C es x.2).map fun y => (ds ++ y.1, y.2)
  | e :: es, env => (frz (evR C e) env).bind fun x => (evS C es x.2).map fun y => (x.1 :: y.1, y.2)
def evD (C : Ctx) : List E → Env → Option (List D × Env)
  | [], env => some ([], env)
  | e :: es, env => (frz (evR C e) env).bind fun x => (evD C es x.2).map fun y => (x.1 :: y.1, y.2)
def evPs (C : Ctx) : List E → Env → Option (List PV × Env)
  | [], env => some ([], env)
  | e :: es, env => (toP e (evR C e) env).bind fun x => (evPs C es x.2).map fun y => (x.1 :: y.1, y.2)
def evA (C : Ctx) : List Bool → List E → Env → Option (List PV × Env)
  | [], [], env => some ([], env)
  | true :: ms, .var i :: es, env => if isSet env i then (evA C ms es env).map fun y => (.s i :: y.1, y.2) else none
  | false :: ms, e :: es, env => (frz (evR C e) env).bind fun x => (evA C ms es x.2).map fun y => (.d x.1 :: y.1, y.2)
  | _, _, _ => none
def evI (C : Ctx) : I → Env → Option (List D × Env)
  | .seq e, env => (frz (evR C e) env).bind fun x => (itemsD x.1).map fun ds => (ds, x.2)
  | .rng es, env => (evD C es env).bind fun x => (rngD x.1).map fun ds => (ds, x.2)
  | .enum e, env => (frz (evR C e) env).bind fun x => (itemsD x.1).map fun ds => (enumD 0 ds, x.2)
  | .zip a b, env => (frz (evR C a) env).bind fun x => (frz (evR C b) x.2).bind fun y => (itemsD x.1).bind fun ds => (itemsD y.1).bind fun es => if isT x.1 == isT y.1 then some (zipD ds es, y.2) else none
  | .chars e, env => (frz (evR C e) env).bind fun x => (match x.1 with | .str z => some (z.cps.toList.map (fun c => D.str ⟨#[c]⟩), x.2) | _ => none)
end

/-! ### statements -/
inductive S where
  | asg (i : Nat) (e : E)
  | asgT (t : T) (e : E)
  | par (is : List Nat) (es : List E)
  | setI (i : Nat) (ix e : E)
  | set2 (i : Nat) (ix e : E) (i' : Nat) (ix' e' : E)
  | aug (i : Nat) (op : Operator) (e : E)
  | app (i : Nat) (e : E)
  | ext (i : Nat) (e : E)
  | expr (e : E)
  | ret (e : E)
  | ifs (c : E) (a b : List S)
  | for_ (t : T) (it : I) (body : List S)
  | while_ (c : E) (body : List S)
  | dput (i : Nat) (k e : E)
  | fld (c : Str) (i : Nat) (f : Str) (e : E)
  | parT (ts : List T) (es : List E)
  | pass | brk | cont | stop
inductive Out where
  | nx (e : Env) | rt (r : RD) (e : Env) | bk (e : Env) | ct (e : Env)
def slOf : RD → Sl
  | .old d => .val d
  | .new d => .own d
/-- x[k] = d of a list that the slot may change -/
def setAt (env : Env) (i : Nat) (k d : D) : Option Env := match k, env[i]? with
  | .int z, some (.own (.lst xs)) => (ixN xs.length z).map fun j => env.set i (.own (.lst (xs.set j d)))
  | .int z, some (.bor (.lst xs)) => (ixN xs.length z).map fun j => env.set i (.bor (.lst (xs.set j d)))
  | _, _ => none
def appAt (env : Env) (i : Nat) (ds : List D) : Option Env := match env[i]? with
  | some (.own (.lst xs)) => if lk (decide (xs.length + ds.length < sizeLine)) then some (env.set i (.own (.lst (xs ++ ds)))) else none
  | some (.bor (.lst xs)) => if lk (decide (xs.length + ds.length < sizeLine)) then some (env.set i (.bor (.lst (xs ++ ds)))) else none
  | _ => none
def dicAt (env : Env) (i : Nat) : Bool := match env[i]? with
  | some (.own d) => isDic d
  | some (.bor d) => isDic d
  | _ => false
def dputAt (env : Env) (i : Nat) (k v : D) : Option Env := match env[i]? with
  | some (.own d) => (storeD d k v).map fun d' => env.set i (.own d')
  | some (.bor d) => (storeD d k v).map fun d' => env.set i (.bor d')
  | _ => none
/-- the instance behind o.f = v -/
def putF : List Str → List D → Str → D → List Str × List D
  | n :: ns, v :: vs, x, d => if n = x then (n :: ns, d :: vs) else (n :: (putF ns vs x d).1, v :: (putF ns vs x d).2)
  | _, _, x, d => ([x], [d])
def isIns : D → Bool
  | .ins _ _ _ => true
  | _ => false
def fldD (a : D) (f : Str) (v : D) : Option D := match a with
  | .ins C ns vs => if lk (decide (ns.length < 900)) then some (.ins C (putF ns vs f v).1 (putF ns vs f v).2) else none
  | _ => none
def insAt (env : Env) (i : Nat) (a : Addr) : Bool := match env[i]? with
  | some (.own d) => decide (insC d = some a)
  | some (.bor d) => decide (insC d = some a)
  | _ => false
def fldAt (env : Env) (i : Nat) (f : Str) (v : D) : Option Env := match env[i]? with
  | some (.own d) => (fldD d f v).map fun d' => env.set i (.own d')
  | some (.bor d) => (fldD d f v).map fun d' => env.set i (.bor d')
  | _ => none
def augD (op : Operator) (a : Int) (d : D) : Option D := match op, d with
  | .Add, .int b => some (.int (a + b))
  | .Sub, .int b => some (.int (a - b))
  | _, _ => none
def setIs (env : Env) : List Nat → List RD → Option Env
  | [], [] => some env
  | i :: is, r :: rs => if i < env.length then setIs (env.set i (slOf r)) is rs else none
  | _, _ => none
def evRs (C : Ctx) : List E → Env → Option (List RD × Env)
  | [], env => some ([], env)
  | e :: es, env => (evR C e env).bind fun x => (evRs C es x.2).map fun y => (x.1 :: y.1, y.2)
def forGo (f : D → Env → Option Out) : List D → Env → Option Out
  | [], env => some (.nx env)
  | d :: r, env => (f d env).bind fun o => match o with
    | .nx e => forGo f r e
    | .ct e => forGo f r e
    | .bk e => some (.nx e)
    | .rt v e => some (.rt v e)
def whileGo (t : Env → Option (Bool × Env)) (f : Env → Option Out) : Nat → Env → Option Out
  | 0, _ => none
  | n + 1, env => (t env).bind fun b => if b.1 then (f b.2).bind fun o => (match o with
      | .nx e => whileGo t f n e
      | .ct e => whileGo t f n e
      | .bk e => some (.nx e)
      | .rt v e => some (.rt v e)) else some (.nx b.2)
mutual
def exS (C : Ctx) (w : Nat) : S → Env → Option Out
  | .asg i e, env => (evR C e env).bind fun x => if i < x.2.length then some (.nx (x.2.set i (slOf x.1))) else none
  | .asgT t e, env => (frz (evR C e) env).bind fun x => (bindT t x.1 x.2).map .nx
  | .par is es, env => if is.Nodup then (evRs C es env).bind fun x => (setIs x.2 is x.1).map .nx else none
  | .setI i ix e, env => (frz (evR C e) env).bind fun x => if mutAt x.2 i then (frz (evR C ix) x.2).bind fun k => (setAt k.2 i k.1 x.1).map .nx else none
  | .set2 i ix e i' ix' e', env => (frz (evR C e) env).bind fun x => (frz (evR C e') x.2).bind fun x' => if mutAt x'.2 i then (frz (evR C ix) x'.2).bind fun k =>
      (setAt k.2 i k.1 x.1).bind fun e1 => if mutAt e1 i' then (frz (evR C ix') e1).bind fun k' => (setAt k'.2 i' k'.1 x'.1).map .nx else none else none
  | .aug i op e, env => (match env[i]? with
      | some (.val (.int a)) => (frz (evR C e) env).bind fun x => (augD op a x.1).bind fun d => if i < x.2.length then some (.nx (x.2.set i (.val d))) else none
      | _ => none)
  | .app i e, env => if mutAt env i then (frz (evR C e) env).bind fun x => (appAt x.2 i [x.1]).map .nx else none
  | .ext i e, env => if mutAt env i then (frz (evR C e) env).bind fun x => (match x.1 with | .lst ds => (appAt x.2 i ds).map .nx | _ => none) else none
  | .expr e, env => (evR C e env).map fun x => .nx x.2
  | .ret e, env => (match e with
      | .var i => (match env[i]? with
        | some (.own d) => some (.rt (.new d) env)
        | some (.val d) => some (.rt (.old d) env)
        | _ => none)
      | _ => (evR C e env).map fun x => .rt x.1 x.2)
  | .ifs c a b, env => (testOf c (evR C c) env).bind fun x => if x.1 then exSs C w a x.2 else exSs C w b x.2
  | .for_ t it body, env => (evI C it env).bind fun x => forGo (fun d e => (bindT t d e).bind (exSs C w body)) x.1 x.2
  | .while_ c body, env => whileGo (testOf c (evR C c)) (exSs C w body) w env
  | .dput i ix e, env => (frz (evR C e) env).bind fun x => if dicAt x.2 i then (frz (evR C ix) x.2).bind fun k => (dputAt k.2 i k.1 x.1).map .nx else none
  | .fld c i f e, env => (frz (evR C e) env).bind fun x => (C.cls c).bind fun ci => if insAt x.2 i ci.at_ && decide (f ∈ ci.fl) then (fldAt x.2 i f x.1).map .nx else none
  | .parT ts es, env => (evD C es env).bind fun x => (bindTs ts x.1 x.2).map .nx
  | .pass, env => some (.nx env)
  | .brk, env => some (.bk env)
  | .cont, env => some (.ct env)
  | .stop, _ => none
def exSs (C : Ctx) (w : Nat) : List S → Env → Option Out
  | [], env => some (.nx env)
  | s :: ss, env => (exS C w s env).bind fun o => match o with
    | .nx e => exSs C w ss e
    | o => some o
end

/-! ### defs -/
structure Fn where
  ms : List Bool
  ps : List Str
  n : Nat
  body : List S
def argSl : AV → Sl
  | .d d => .val d
  | .b d => .bor d
def outsOf : List Bool → Env → Option (List D)
  | [], _ => some []
  | true :: ms, .bor xs :: env => (outsOf ms env).map (xs :: ·)
  | false :: ms, _ :: env => outsOf ms env
  | _, _ => none
def modesOf : List AV → List Bool
  | [] => []
  | .d _ :: r => false :: modesOf r
  | .b _ :: r => true :: modesOf r
def runFn (C : Ctx) (w : Nat) (f : Fn) (as : List AV) : Option (RD × List D) :=
  if modesOf as = f.ms then (exSs C w f.body (as.map argSl ++ List.replicate (f.n - as.length) .un)).bind fun o => match o with
    | .nx e => (outsOf f.ms e).map fun os => (.old .non, os)
    | .rt r e => (outsOf f.ms e).map fun os => (r, os)
    | _ => none
  else none
structure Prg where
  fns : List (Str × Fn)
  mths : List (Str × Fn)
  glob : Str → Option D
  cls : Str → Option CI
  kws : List (Str × List Str)
  w : Nat
def Prg.find (P : Prg) (f : Str) : Option Fn := match P.fns.lookup f with
  | some F => some F
  | none => P.mths.lookup f
def Prg.modes (P : Prg) (f : Str) : Option (List Bool) := (P.fns.lookup f).map (·.ms)
def Prg.names (P : Prg) (f : Str) : Option (List Str) := (P.fns.lookup f).map (·.ps)
def Prg.calls (P : Prg) : Nat → CallS
  | 0 => fun _ _ => none
  | n + 1 => fun f as => (P.find f).bind fun fn => runFn ⟨P.calls n, P.glob, P.modes, P.names, P.cls, P.kws⟩ P.w fn as
def Prg.ctx (P : Prg) (n : Nat) : Ctx := ⟨P.calls n, P.glob, P.modes, P.names, P.cls, P.kws⟩
end
end MI

namespace MI
open PySem PySem.Spec PyProof.Rows L2

variable {K : PySem.W.Frag}
/-! ### a tree at a value -/
mutual
def Rp (K : PySem.W.Frag) (F : Hp) : D → V → Prop
  | .non, v => v = .non
  | .bl b, v => v = .bl b
  | .int i, v => v = .int i
  | .str x, v => v = .str x
  | .tup ds, v => ∃ a vs, v = .ref a ∧ F a = some (.tup vs) ∧ RpL K F ds vs
  | .lst ds, v => ∃ a vs, v = .ref a ∧ F a = some (.lst vs) ∧ RpL K F ds vs
  | .scr ns, v => ∃ a, v = .ref a ∧ SqL K F a (ns.map V.int)
  | .dk ks ds, v => ∃ a vs, v = .ref a ∧ F a = some (.dK (ks.zip vs)) ∧ ks.length = ds.length ∧ RpL K F ds vs
  | .dt ks ds, v => ∃ a vs, v = .ref a ∧ F a = some (.dT (ks.zip vs)) ∧ ks.length = ds.length ∧ RpL K F ds vs
  | .ins C ns ds, v => ∃ a dx vs, v = .ref a ∧ F a = some (.ins C dx (ns.zip vs)) ∧ F dx = some (.own a) ∧ ns.length = ds.length ∧ RpL K F ds vs
def RpL (K : PySem.W.Frag) (F : Hp) : List D → List V → Prop
  | [], vs => vs = []
  | d :: ds, vs => ∃ v vs', vs = v :: vs' ∧ Rp K F d v ∧ RpL K F ds vs'
end
mutual
theorem Rp.mono {F F' : Hp} (e : Same F F') : ∀ (d : D) (v : V), Rp K F d v → Rp K F' d v
  | .non, _, h => h
  | .bl _, _, h => h
  | .int _, _, h => h
  | .str _, _, h => h
  | .tup ds, v, h => by
    unfold Rp at h ⊢
    obtain ⟨a, vs, h1, h2, h3⟩ := h
    exact ⟨a, vs, h1, e _ _ h2, RpL.mono e ds vs h3⟩
  | .lst ds, v, h => by
    unfold Rp at h ⊢
    obtain ⟨a, vs, h1, h2, h3⟩ := h
    exact ⟨a, vs, h1, e _ _ h2, RpL.mono e ds vs h3⟩
  | .scr ns, v, h => by
    unfold Rp at h ⊢
    obtain ⟨a, h1, h2⟩ := h
    exact ⟨a, h1, Same.seq e h2⟩
  | .dk ks ds, v, h => by
    unfold Rp at h ⊢
    obtain ⟨a, vs, h1, h2, h3, h4⟩ := h
    exact ⟨a, vs, h1, e _ _ h2, h3, RpL.mono e ds vs h4⟩
  | .dt ks ds, v, h => by
    unfold Rp at h ⊢
    obtain ⟨a, vs, h1, h2, h3, h4⟩ := h
    exact ⟨a, vs, h1, e _ _ h2, h3, RpL.mono e ds vs h4⟩
  | .ins C ns ds, v, h => by
    unfold Rp at h ⊢
    obtain ⟨a, dx, vs, h1, h2, h3, h4, h5⟩ := h
    exact ⟨a, dx, vs, h1, e _ _ h2, e _ _ h3, h4, RpL.mono e ds vs h5⟩
theorem RpL.mono {F F' : Hp} (e : Same F F') : ∀ (ds : List D) (vs : List V), RpL K F ds vs → RpL K F' ds vs
  | [], _, h => h
  | d :: ds, vs, h => by
    unfold RpL at h ⊢
    obtain ⟨v, vs', h1, h2, h3⟩ := h
    exact ⟨v, vs', h1, Rp.mono e d v h2, RpL.mono e ds vs' h3⟩
end
theorem RpL.len {F : Hp} : ∀ {ds : List D} {vs : List V}, RpL K F ds vs → ds.length = vs.length
  | [], vs, h => by unfold RpL at h; subst h; rfl
  | d :: ds, vs, h => by
    unfold RpL at h
    obtain ⟨v, vs', rfl, _, h3⟩ := h
    rw [List.length_cons, List.length_cons, RpL.len h3]
theorem RpL.nil {F : Hp} : RpL K F [] [] := by unfold RpL; rfl
theorem RpL.cons {F : Hp} {d : D} {ds : List D} {v : V} {vs : List V} (h : Rp K F d v) (t : RpL K F ds vs) : RpL K F (d :: ds) (v :: vs) := by
  unfold RpL
  exact ⟨v, vs, rfl, h, t⟩
theorem RpL.one {F : Hp} {d : D} {v : V} (h : Rp K F d v) : RpL K F [d] [v] := .cons h .nil
theorem RpL.cons_inv {F : Hp} {d : D} {ds : List D} {vs : List V} (h : RpL K F (d :: ds) vs) : ∃ v vs', vs = v :: vs' ∧ Rp K F d v ∧ RpL K F ds vs' := by
  unfold RpL at h
  exact h
theorem RpL.nil_inv {F : Hp} {vs : List V} (h : RpL K F [] vs) : vs = [] := by
  unfold RpL at h
  exact h
theorem RpL.at {F : Hp} : ∀ {ds : List D} {vs : List V}, RpL K F ds vs → ∀ {i : Nat} {d : D}, ds[i]? = some d → ∃ v, vs[i]? = some v ∧ Rp K F d v
  | [], _, _, _, _, e => by simp at e
  | d :: ds, vs, h, i, x, e => by
    obtain ⟨v, vs', rfl, h2, h3⟩ := h.cons_inv
    cases i with
    | zero =>
      simp at e
      subst e
      exact ⟨v, rfl, h2⟩
    | succ i =>
      simp at e
      obtain ⟨w, e1, e2⟩ := RpL.at h3 e
      exact ⟨w, by simpa using e1, e2⟩
theorem RpL.of_at {F : Hp} : ∀ {ds : List D} {vs : List V}, ds.length = vs.length → (∀ (i : Nat) (d : D) (v : V), ds[i]? = some d → vs[i]? = some v → Rp K F d v) → RpL K F ds vs
  | [], [], _, _ => .nil
  | d :: ds, v :: vs, hl, h => .cons (h 0 d v rfl rfl) (RpL.of_at (by simpa using hl) fun i x y e1 e2 => h (i + 1) x y (by simpa using e1) (by simpa using e2))
  | [], _ :: _, hl, _ => by simp at hl
  | _ :: _, [], hl, _ => by simp at hl
theorem RpL.append {F : Hp} : ∀ {ds : List D} {vs : List V} {es : List D} {ws : List V}, RpL K F ds vs → RpL K F es ws → RpL K F (ds ++ es) (vs ++ ws)
  | [], vs, _, _, h, g => by rw [h.nil_inv]; exact g
  | d :: ds, vs, _, _, h, g => by
    obtain ⟨v, vs', rfl, h2, h3⟩ := h.cons_inv
    exact .cons h2 (RpL.append h3 g)
theorem RpL.take {F : Hp} : ∀ {ds : List D} {vs : List V} (n : Nat), RpL K F ds vs → RpL K F (ds.take n) (vs.take n)
  | ds, vs, 0, h => by simp [List.take_zero]; exact .nil
  | [], vs, n + 1, h => by rw [h.nil_inv]; simp; exact .nil
  | d :: ds, vs, n + 1, h => by
    obtain ⟨v, vs', rfl, h2, h3⟩ := h.cons_inv
    exact .cons h2 (RpL.take n h3)
theorem RpL.drop {F : Hp} : ∀ {ds : List D} {vs : List V} (n : Nat), RpL K F ds vs → RpL K F (ds.drop n) (vs.drop n)
  | ds, vs, 0, h => h
  | [], vs, n + 1, h => by rw [h.nil_inv]; simp; exact .nil
  | d :: ds, vs, n + 1, h => by
    obtain ⟨v, vs', rfl, h2, h3⟩ := h.cons_inv
    exact RpL.drop n h3
theorem RpL.set {F : Hp} {d : D} {v : V} (r : Rp K F d v) : ∀ {ds : List D} {vs : List V} (n : Nat), RpL K F ds vs → RpL K F (ds.set n d) (vs.set n v)
  | [], vs, n, h => by rw [h.nil_inv]; exact .nil
  | x :: ds, vs, 0, h => by
    obtain ⟨w, vs', rfl, h2, h3⟩ := h.cons_inv
    exact .cons r h3
  | x :: ds, vs, n + 1, h => by
    obtain ⟨w, vs', rfl, h2, h3⟩ := h.cons_inv
    exact .cons h2 (RpL.set r n h3)
theorem RpL.eraseIdx {F : Hp} : ∀ {ds : List D} {vs : List V} (n : Nat), RpL K F ds vs → RpL K F (ds.eraseIdx n) (vs.eraseIdx n)
  | [], vs, n, h => by rw [h.nil_inv]; exact .nil
  | x :: ds, vs, 0, h => by
    obtain ⟨w, vs', rfl, h2, h3⟩ := h.cons_inv
    exact h3
  | x :: ds, vs, n + 1, h => by
    obtain ⟨w, vs', rfl, h2, h3⟩ := h.cons_inv
    exact .cons h2 (RpL.eraseIdx n h3)
theorem RpL.reverse {F : Hp} : ∀ {ds : List D} {vs : List V}, RpL K F ds vs → RpL K F ds.reverse vs.reverse
  | [], vs, h => by rw [h.nil_inv]; exact .nil
  | x :: ds, vs, h => by
    obtain ⟨w, vs', rfl, h2, h3⟩ := h.cons_inv
    rw [List.reverse_cons, List.reverse_cons]
    exact RpL.append (RpL.reverse h3) (.one h2)
theorem RpL.rep {F : Hp} {ds : List D} {vs : List V} (h : RpL K F ds vs) : ∀ k : Nat, RpL K F (List.replicate k ds).flatten (List.replicate k vs).flatten
  | 0 => .nil
  | k + 1 => by
    rw [List.replicate_succ, List.replicate_succ, List.flatten_cons, List.flatten_cons]
    exact RpL.append h (RpL.rep h k)
theorem RpL.ints {F : Hp} : ∀ (ns : List Int), RpL K F (ns.map D.int) (ns.map V.int)
  | [] => .nil
  | n :: ns => .cons (by unfold Rp; rfl) (RpL.ints ns)
theorem RpL.int_inv {F : Hp} : ∀ {ds : List D} {vs : List V} {ns : List Int}, RpL K F ds vs → intsOf ds = some ns → vs = ns.map V.int
  | [], vs, ns, h, e => by
    simp [intsOf] at e
    subst e
    rw [h.nil_inv]
    rfl
  | d :: ds, vs, ns, h, e => by
    obtain ⟨w, vs', rfl, h2, h3⟩ := h.cons_inv
    cases d <;> simp [intsOf] at e
    obtain ⟨ms, e1, e2⟩ := e
    subst e2
    unfold Rp at h2
    rw [h2, RpL.int_inv h3 e1]
    rfl
theorem RpL.bool_inv {F : Hp} : ∀ {ds : List D} {vs : List V} {bs : List Bool}, RpL K F ds vs → boolsOf ds = some bs → vs = bs.map V.bl
  | [], vs, ns, h, e => by
    simp [boolsOf] at e
    subst e
    rw [h.nil_inv]
    rfl
  | d :: ds, vs, ns, h, e => by
    obtain ⟨w, vs', rfl, h2, h3⟩ := h.cons_inv
    cases d <;> simp [boolsOf] at e
    obtain ⟨ms, e1, e2⟩ := e
    subst e2
    unfold Rp at h2
    rw [h2, RpL.bool_inv h3 e1]
    rfl
theorem atI_rp {F : Hp} {ds : List D} {vs : List V} {i : Int} {d : D} (h : RpL K F ds vs) (e : atI ds i = some d) : ∃ v, atI vs i = some v ∧ Rp K F d v := by
  unfold atI at e ⊢
  rw [← h.len]
  cases q : ixN ds.length i with
  | none => rw [q] at e; cases e
  | some j =>
    rw [q] at e
    exact h.at e
theorem cut_rp {F : Hp} {ds : List D} {vs : List V} (lo hi : Option Int) (h : RpL K F ds vs) : RpL K F (cut ds lo hi) (cutV vs lo hi) := by
  unfold cut cutV
  rw [← h.len]
  exact RpL.take _ (RpL.drop _ h)

/-- what stands at the place p of an object that may change -/
def Cont (K : PySem.W.Frag) (F : Hp) (p : Addr) : D → HO → Prop
  | .lst ds, o => ∃ vs, o = .lst vs ∧ RpL K F ds vs
  | .dk ks ds, o => ∃ vs, o = .dK (ks.zip vs) ∧ ks.length = ds.length ∧ RpL K F ds vs
  | .dt ks ds, o => ∃ vs, o = .dT (ks.zip vs) ∧ ks.length = ds.length ∧ RpL K F ds vs
  | .ins C ns ds, o => ∃ dx vs, o = .ins C dx (ns.zip vs) ∧ F dx = some (.own p) ∧ ns.length = ds.length ∧ RpL K F ds vs
  | _, _ => False
theorem Cont.mono {F F' : Hp} (e : Same F F') {p : Addr} {d : D} {o : HO} (h : Cont K F p d o) : Cont K F' p d o := by
  cases d <;> first | exact False.elim h | skip
  · obtain ⟨vs, h1, h3⟩ := h
    exact ⟨vs, h1, RpL.mono e _ _ h3⟩
  · obtain ⟨vs, h1, h2, h3⟩ := h
    exact ⟨vs, h1, h2, RpL.mono e _ _ h3⟩
  · obtain ⟨vs, h1, h2, h3⟩ := h
    exact ⟨vs, h1, h2, RpL.mono e _ _ h3⟩
  · obtain ⟨dx, vs, h1, h2, h3, h4⟩ := h
    exact ⟨dx, vs, h1, e _ _ h2, h3, RpL.mono e _ _ h4⟩
theorem Cont.rp {F : Hp} {d : D} {o : HO} {a : Addr} (h : Cont K F a d o) (ha : F a = some o) : Rp K F d (.ref a) := by
  cases d <;> first | exact False.elim h | skip
  · obtain ⟨vs, rfl, h3⟩ := h
    unfold Rp
    exact ⟨a, vs, rfl, ha, h3⟩
  · obtain ⟨vs, rfl, h2, h3⟩ := h
    unfold Rp
    exact ⟨a, vs, rfl, ha, h2, h3⟩
  · obtain ⟨vs, rfl, h2, h3⟩ := h
    unfold Rp
    exact ⟨a, vs, rfl, ha, h2, h3⟩
  · obtain ⟨dx, vs, rfl, h2, h3, h4⟩ := h
    unfold Rp
    exact ⟨a, dx, vs, rfl, ha, h2, h3, h4⟩
/-! ### an operand: a frozen value, or a list that may still change, as it stands now -/
def Ov (K : PySem.W.Frag) (F H : Hp) (d : D) (v : V) : Prop := match d with
  | .tup ds => ∃ a vs, v = .ref a ∧ F a = some (.tup vs) ∧ H a = some (.tup vs) ∧ RpL K F ds vs
  | .lst ds => ∃ a vs, v = .ref a ∧ H a = some (.lst vs) ∧ RpL K F ds vs
  | .scr ns => ∃ a, v = .ref a ∧ SqL K F a (ns.map V.int) ∧ SqL K H a (ns.map V.int)
  | .dk ks ds => ∃ a o, v = .ref a ∧ H a = some o ∧ Cont K F a (.dk ks ds) o
  | .dt ks ds => ∃ a o, v = .ref a ∧ H a = some o ∧ Cont K F a (.dt ks ds) o
  | .ins C ns ds => ∃ a o, v = .ref a ∧ H a = some o ∧ Cont K F a (.ins C ns ds) o
  | d => Rp K F d v
theorem Cont.ov {F H : Hp} {d : D} {o : HO} {a : Addr} (h : Cont K F a d o) (ha : H a = some o) : Ov K F H d (.ref a) := by
  cases d <;> first | exact False.elim h | exact ⟨a, o, rfl, ha, h⟩ | skip
  obtain ⟨vs, rfl, h3⟩ := h
  exact ⟨a, vs, rfl, ha, h3⟩
theorem Rp.ov {F H : Hp} (e : Same F H) {d : D} {v : V} (h : Rp K F d v) : Ov K F H d v := by
  cases d with
  | tup ds =>
    unfold Rp at h
    obtain ⟨a, vs, h1, h2, h3⟩ := h
    exact ⟨a, vs, h1, h2, e _ _ h2, h3⟩
  | lst ds =>
    unfold Rp at h
    obtain ⟨a, vs, h1, h2, h3⟩ := h
    exact ⟨a, vs, h1, e _ _ h2, h3⟩
  | scr ns =>
    unfold Rp at h
    obtain ⟨a, h1, h2⟩ := h
    exact ⟨a, h1, h2, Same.seq e h2⟩
  | dk ks ds =>
    unfold Rp at h
    obtain ⟨a, vs, h1, h2, h3, h4⟩ := h
    exact ⟨a, _, h1, e _ _ h2, vs, rfl, h3, h4⟩
  | dt ks ds =>
    unfold Rp at h
    obtain ⟨a, vs, h1, h2, h3, h4⟩ := h
    exact ⟨a, _, h1, e _ _ h2, vs, rfl, h3, h4⟩
  | ins C ns ds =>
    unfold Rp at h
    obtain ⟨a, dx, vs, h1, h2, h3, h4, h5⟩ := h
    exact ⟨a, _, h1, e _ _ h2, dx, vs, rfl, h3, h4, h5⟩
  | _ => exact h

/-! ### the state: what a def's entry knew (H0: the heap, F0: what is frozen, B: what it may change), kp: what must stay, F: frozen -/
structure Gh where
  H0 : Hp
  F0 : Hp
  B : List Addr
  bs : Nat → Option (Option V)
def SlOk (K : PySem.W.Frag) (g : Gh) (F H : Hp) (s : Sl) (o : Option (Option V)) : Prop := match s with
  | .un => True
  | .val d => ∃ v, o = some (some v) ∧ Rp K F d v
  | .own d => ∃ p x, o = some (some (.ref p)) ∧ F p = none ∧ g.H0 p = none ∧ H p = some x ∧ Cont K F p d x
  | .bor d => ∃ p x, o = some (some (.ref p)) ∧ F p = none ∧ p ∈ g.B ∧ H p = some x ∧ Cont K F p d x
/-- p is the list of a slot that may change it -/
def Owns (env : Env) (σ : L2.St) (p : Addr) : Prop := ∃ (i : Nat) (s : Sl), env[i]? = some s ∧ isMut s = true ∧ σ[i]? = some (some (.ref p))
structure Rel (K : PySem.W.Frag) (g : Gh) (kp F : Hp) (env : Env) (σ : L2.St) (H : Hp) : Prop where
  f0 : Same g.F0 F
  fh : Same F H
  fnew : ∀ a, F a ≠ none → g.F0 a ≠ none ∨ g.H0 a = none
  dom : ∀ a, g.H0 a ≠ none → H a ≠ none
  kept : ∀ a o, kp a = some o → H a = some o
  kpo : ∀ p, Owns env σ p → kp p = none
  fk : ∀ a, kp a ≠ none → F a ≠ none → g.F0 a ≠ none
  len : env.length = σ.length
  sl : ∀ (i : Nat) (s : Sl), env[i]? = some s → SlOk K g F H s (σ[i]?)
  bo : ∀ (i : Nat) (xs : D), env[i]? = some (.bor xs) → σ[i]? = g.bs i
  ds : ∀ (i j : Nat) (s t : Sl) (p : Addr), i ≠ j → env[i]? = some s → env[j]? = some t → isMut s = true → isMut t = true → σ[i]? = some (some (.ref p)) → σ[j]? = some (some (.ref p)) → False

def PostP (K : PySem.W.Frag) (F : Hp) (σ : L2.St) (p : PV) (v : V) : Prop := match p with
  | .d d => Rp K F d v
  | .s i => σ[i]? = some (some v)
theorem PostP.mono {F F' : Hp} {σ : L2.St} {p : PV} {v : V} (e : Same F F') (h : PostP K F σ p v) : PostP K F' σ p v := by
  cases p with
  | d d => exact Rp.mono e d v h
  | s i => exact h
theorem Rel.getP {g : Gh} {kp F : Hp} {env : Env} {σ : L2.St} {H : Hp} (R : Rel K g kp F env σ H) {p : PV} {v : V} {d : D} (h : PostP K F σ p v) (e : getP p env = some d) : Ov K F H d v := by
  cases p with
  | d x =>
    simp [MI.getP] at e
    subst e
    exact Rp.ov R.fh h
  | s i =>
    have h' : σ[i]? = some (some v) := h
    have e : (env[i]?).bind slotD = some d := e
    cases q : env[i]? with
    | none => rw [q] at e; cases e
    | some s =>
      rw [q] at e
      have z := R.sl i s q
      cases s with
      | un => cases e
      | val x =>
        have e' : some x = some d := e
        cases e'
        obtain ⟨w, e1, e2⟩ := z
        rw [h'] at e1
        cases e1
        exact Rp.ov R.fh e2
      | own x =>
        have e' : some x = some d := e
        cases e'
        obtain ⟨p, o, e1, _, _, e2, e3⟩ := z
        rw [h'] at e1
        cases e1
        exact e3.ov e2
      | bor x =>
        have e' : some x = some d := e
        cases e'
        obtain ⟨p, o, e1, _, _, e2, e3⟩ := z
        rw [h'] at e1
        cases e1
        exact e3.ov e2
/-- a result: a frozen value, or a new list that nobody holds -/
def PostR (K : PySem.W.Frag) (g : Gh) (kp F : Hp) (env : Env) (σ : L2.St) (H : Hp) (r : RD) (v : V) : Prop := match r with
  | .old d => Rp K F d v
  | .new d => ∃ p x, v = .ref p ∧ F p = none ∧ g.H0 p = none ∧ kp p = none ∧ H p = some x ∧ Cont K F p d x ∧ ¬ Owns env σ p

/-! ### changes -/
section
variable {g : Gh} {kp F : Hp} {env : Env} {σ : L2.St} {H : Hp}
theorem same_upd {H : Hp} {p : Addr} {o : HO} (h : H p = none) : Same H (upd H p o) := fun b x e => by
  rw [upd_ne (ne_of_none e h)]
  exact e
theorem same_mut {H H' : Hp} {p : Addr} {o : HO} (e : Same H H') (h : H p = none) : Same H (upd H' p o) := fun b x q => by
  rw [upd_ne (ne_of_none q h)]
  exact e b x q
theorem same_updB {F H : Hp} {p : Addr} {o : HO} (e : Same F H) (h : H p = some o) : Same (upd F p o) H := fun b x q => by
  by_cases hb : b = p
  · subst hb
    rw [upd_same] at q
    cases q
    exact h
  · rw [upd_ne hb] at q
    exact e b x q
theorem none_of {F H : Hp} (e : Same F H) {p : Addr} (h : H p = none) : F p = none := Same.free e h
theorem Rel.fresh (R : Rel K g kp F env σ H) {p : Addr} (h : H p = none) : F p = none ∧ g.H0 p = none ∧ kp p = none ∧ ¬ Owns env σ p := by
  refine ⟨none_of R.fh h, ?_, ?_, ?_⟩
  · cases q : g.H0 p with
    | none => rfl
    | some o => exact absurd h (R.dom p (by rw [q]; exact fun z => by cases z))
  · cases q : kp p with
    | none => rfl
    | some o => rw [R.kept p o q] at h; cases h
  · rintro ⟨i, s, e, m, es⟩
    have z := R.sl i s e
    cases s with
    | un => cases m
    | val d => cases m
    | own xs =>
      obtain ⟨q, vs, e1, _, _, e2, _⟩ := z
      rw [es] at e1
      cases e1
      rw [h] at e2
      cases e2
    | bor xs =>
      obtain ⟨q, vs, e1, _, _, e2, _⟩ := z
      rw [es] at e1
      cases e1
      rw [h] at e2
      cases e2
theorem SlOk.step {F' H' : Hp} {s : Sl} {o : Option (Option V)} (h : SlOk K g F H s o) (e : Same F F') (hp : ∀ p x, isMut s = true → o = some (some (.ref p)) → F p = none → H p = some x → F' p = none ∧ H' p = some x) : SlOk K g F' H' s o := by
  cases s with
  | un => trivial
  | val d =>
    obtain ⟨v, e1, e2⟩ := h
    exact ⟨v, e1, Rp.mono e d v e2⟩
  | own ds =>
    obtain ⟨p, vs, e1, e2, e3, e4, e5⟩ := h
    obtain ⟨a, b⟩ := hp p _ rfl e1 e2 e4
    exact ⟨p, vs, e1, a, e3, b, e5.mono e⟩
  | bor ds =>
    obtain ⟨p, vs, e1, e2, e3, e4, e5⟩ := h
    obtain ⟨a, b⟩ := hp p _ rfl e1 e2 e4
    exact ⟨p, vs, e1, a, e3, b, e5.mono e⟩
/-- a new object is made and frozen -/
theorem Rel.newF (R : Rel K g kp F env σ H) {p : Addr} {o : HO} (h : H p = none) : Rel K g kp (upd F p o) env σ (upd H p o) := by
  obtain ⟨h1, h2, h3, h4⟩ := R.fresh h
  refine ⟨fun b x q => ?_, fun b x q => ?_, fun a ha => ?_, fun a ha => ?_, fun a x q => ?_, R.kpo, fun a ka fa => R.fk a ka (by rw [upd_ne (fun z => ka (by rw [z]; exact h3))] at fa; exact fa), R.len, fun i s e => ?_, R.bo, R.ds⟩
  · rw [upd_ne (ne_of_none (R.f0 _ _ q) h1)]
    exact R.f0 _ _ q
  · by_cases hb : b = p
    · subst hb
      rw [upd_same] at q ⊢
      exact q
    · rw [upd_ne hb] at q ⊢
      exact R.fh _ _ q
  · by_cases hb : a = p
    · subst hb
      exact .inr h2
    · rw [upd_ne hb] at ha
      exact R.fnew a ha
  · by_cases hb : a = p
    · subst hb
      rw [upd_same]
      exact fun z => by cases z
    · rw [upd_ne hb]
      exact R.dom a ha
  · rw [upd_ne (ne_of_none q h3)]
    exact R.kept a x q
  · refine (R.sl i s e).step (same_upd h1) fun q vs m es hq hv => ?_
    have ne : q ≠ p := ne_of_none hv h
    exact ⟨by rw [upd_ne ne]; exact hq, by rw [upd_ne ne]; exact hv⟩
/-- a new object is made, and stays its maker's -/
theorem Rel.newC (R : Rel K g kp F env σ H) {p : Addr} {x : HO} {d : D} (h : H p = none) (hr : Cont K F p d x) : Rel K g kp F env σ (upd H p x) ∧ PostR K g kp F env σ (upd H p x) (.new d) (.ref p) := by
  obtain ⟨h1, h2, h3, h4⟩ := R.fresh h
  refine ⟨⟨R.f0, same_mut R.fh h1, R.fnew, fun a ha => ?_, fun a x q => ?_, R.kpo, R.fk, R.len, fun i s e => ?_, R.bo, R.ds⟩, p, x, rfl, h1, h2, h3, upd_same, hr, h4⟩
  · by_cases hb : a = p
    · subst hb
      rw [upd_same]
      exact fun z => by cases z
    · rw [upd_ne hb]
      exact R.dom a ha
  · rw [upd_ne (ne_of_none q h3)]
    exact R.kept a x q
  · refine (R.sl i s e).step (Same.refl F) fun q vs m es hq hv => ?_
    have ne : q ≠ p := ne_of_none hv h
    exact ⟨hq, by rw [upd_ne ne]; exact hv⟩
theorem Rel.newL (R : Rel K g kp F env σ H) {p : Addr} {vs : List V} {ds : List D} (h : H p = none) (hr : RpL K F ds vs) : Rel K g kp F env σ (upd H p (.lst vs)) ∧ PostR K g kp F env σ (upd H p (.lst vs)) (.new (.lst ds)) (.ref p) := R.newC h ⟨vs, rfl, hr⟩
/-- a list that nobody holds is frozen -/
theorem Rel.freeze (R : Rel K g kp F env σ H) {p : Addr} {x : HO} (h1 : F p = none) (h2 : g.H0 p = none) (h3 : kp p = none) (h : H p = some x) (ho : ¬ Owns env σ p) : Rel K g kp (upd F p x) env σ H := by
  refine ⟨fun b x q => ?_, same_updB R.fh h, fun a ha => ?_, R.dom, R.kept, R.kpo, fun a ka fa => R.fk a ka (by rw [upd_ne (fun z => ka (by rw [z]; exact h3))] at fa; exact fa), R.len, fun i s e => ?_, R.bo, R.ds⟩
  · rw [upd_ne (ne_of_none (R.f0 _ _ q) h1)]
    exact R.f0 _ _ q
  · by_cases hb : a = p
    · subst hb
      exact .inr h2
    · rw [upd_ne hb] at ha
      exact R.fnew a ha
  · refine (R.sl i s e).step (same_upd h1) fun q ws m es hq hv => ?_
    have ne : q ≠ p := fun z => ho ⟨i, s, e, m, by rw [← z]; exact es⟩
    exact ⟨by rw [upd_ne ne]; exact hq, hv⟩
/-! slots -/
theorem get_set_self {α : Type} {l : List α} {i : Nat} {a : α} (h : i < l.length) : (l.set i a)[i]? = some a := List.getElem?_set_self h
theorem get_set_ne {α : Type} {l : List α} {i j : Nat} {a : α} (h : i ≠ j) : (l.set i a)[j]? = l[j]? := List.getElem?_set_ne h
theorem Rel.setVal (R : Rel K g kp F env σ H) {i : Nat} {d : D} {v : V} (hi : i < env.length) (h : Rp K F d v) : Rel K g kp F (env.set i (.val d)) (σ.set i (some v)) H := by
  have hs : i < σ.length := by rw [← R.len]; exact hi
  have own : ∀ p, Owns (env.set i (.val d)) (σ.set i (some v)) p → Owns env σ p := fun p ⟨j, s, e, m, es⟩ => by
    by_cases hj : i = j
    · subst hj
      rw [get_set_self hi] at e
      cases e
      cases m
    · rw [get_set_ne hj] at e es
      exact ⟨j, s, e, m, es⟩
  refine ⟨R.f0, R.fh, R.fnew, R.dom, R.kept, fun p o => R.kpo p (own p o), R.fk, by rw [List.length_set, List.length_set, R.len], fun j s e => ?_, fun j xs e => ?_, fun j k s t p hjk e1 e2 m1 m2 s1 s2 => ?_⟩
  · by_cases hj : i = j
    · subst hj
      rw [get_set_self hi] at e
      cases e
      rw [get_set_self hs]
      exact ⟨v, rfl, h⟩
    · rw [get_set_ne hj] at e ⊢
      exact R.sl j s e
  · by_cases hj : i = j
    · subst hj
      rw [get_set_self hi] at e
      cases e
    · rw [get_set_ne hj] at e ⊢
      exact R.bo j xs e
  · by_cases hj : i = j
    · subst hj
      rw [get_set_self hi] at e1
      cases e1
      cases m1
    · by_cases hk : i = k
      · subst hk
        rw [get_set_self hi] at e2
        cases e2
        cases m2
      · rw [get_set_ne hj] at e1 s1
        rw [get_set_ne hk] at e2 s2
        exact R.ds j k s t p hjk e1 e2 m1 m2 s1 s2
theorem Rel.setNew (R : Rel K g kp F env σ H) {i : Nat} {s0 : Sl} {p : Addr} (hi : i < env.length) (hk : kp p = none) (no : ¬ Owns env σ p) (ok : SlOk K g F H s0 (some (some (.ref p)))) (nb : ∀ xs, s0 ≠ .bor xs) : Rel K g kp F (env.set i s0) (σ.set i (some (.ref p))) H := by
  have hs : i < σ.length := by rw [← R.len]; exact hi
  have own : ∀ q, Owns (env.set i s0) (σ.set i (some (.ref p))) q → q = p ∨ Owns env σ q := fun q ⟨j, s, e, m, es⟩ => by
    by_cases hj : i = j
    · subst hj
      rw [get_set_self hs] at es
      cases es
      exact .inl rfl
    · rw [get_set_ne hj] at e es
      exact .inr ⟨j, s, e, m, es⟩
  refine ⟨R.f0, R.fh, R.fnew, R.dom, R.kept, fun q o => ?_, R.fk, by rw [List.length_set, List.length_set, R.len], fun j s e => ?_, fun j xs e => ?_, fun j k s t q hjk e1 e2 m1 m2 s1 s2 => ?_⟩
  · rcases own q o with e | e
    · rw [e]; exact hk
    · exact R.kpo q e
  · by_cases hj : i = j
    · subst hj
      rw [get_set_self hi] at e
      cases e
      rw [get_set_self hs]
      exact ok
    · rw [get_set_ne hj] at e ⊢
      exact R.sl j s e
  · by_cases hj : i = j
    · subst hj
      rw [get_set_self hi] at e
      exact absurd (Option.some.inj e) (nb xs)
    · rw [get_set_ne hj] at e ⊢
      exact R.bo j xs e
  · by_cases hj : i = j
    · subst hj
      have hk : i ≠ k := hjk
      rw [get_set_self hs] at s1
      rw [get_set_ne hk] at e2 s2
      cases s1
      exact no ⟨k, t, e2, m2, s2⟩
    · by_cases hk : i = k
      · subst hk
        rw [get_set_self hs] at s2
        rw [get_set_ne hj] at e1 s1
        cases s2
        exact no ⟨j, s, e1, m1, s1⟩
      · rw [get_set_ne hj] at e1 s1
        rw [get_set_ne hk] at e2 s2
        exact R.ds j k s t q hjk e1 e2 m1 m2 s1 s2
theorem Rel.setOwn (R : Rel K g kp F env σ H) {i : Nat} {d : D} {v : V} (hi : i < env.length) (h : PostR K g kp F env σ H (.new d) v) : Rel K g kp F (env.set i (.own d)) (σ.set i (some v)) H := by
  obtain ⟨p, x, rfl, f1, h0, hk, hp, r, no⟩ := h
  exact R.setNew hi hk no ⟨p, x, rfl, f1, h0, hp, r⟩ fun xs z => by cases z
theorem Rel.set (R : Rel K g kp F env σ H) {i : Nat} {r : RD} {v : V} (hi : i < env.length) (h : PostR K g kp F env σ H r v) : Rel K g kp F (env.set i (slOf r)) (σ.set i (some v)) H := by
  cases r with
  | old d => exact R.setVal hi h
  | new d => exact R.setOwn hi h
/-- a slot's object is frozen -/
theorem Rel.frzS (R : Rel K g kp F env σ H) {i : Nat} {s0 : Sl} {d : D} {p : Addr} {x : HO} (e : env[i]? = some s0) (m0 : isMut s0 = true) (es : σ[i]? = some (some (.ref p))) (f1 : F p = none) (h0 : g.H0 p = none) (hp : H p = some x) (rp : Rp K (upd F p x) d (.ref p)) : Rel K g kp (upd F p x) (env.set i (.val d)) σ H := by
  have hi : i < env.length := (List.getElem?_eq_some_iff.mp e).1
  have sF : Same F (upd F p x) := MI.same_upd f1
  refine ⟨fun b y q => ?_, same_updB R.fh hp, fun a ha => ?_, R.dom, R.kept, fun q o => ?_, fun a ka fa => R.fk a ka (by rw [upd_ne (fun z => ka (by rw [z]; exact R.kpo p ⟨i, _, e, m0, es⟩))] at fa; exact fa), by rw [List.length_set, R.len], fun j s ej => ?_, fun j xs ej => ?_, fun j k s t q hjk e1 e2 m1 m2 s1 s2 => ?_⟩
  · exact sF _ _ (R.f0 _ _ q)
  · by_cases hb : a = p
    · subst hb
      exact .inr h0
    · rw [upd_ne hb] at ha
      exact R.fnew a ha
  · obtain ⟨j, s, ej, m, ejs⟩ := o
    by_cases hj : i = j
    · subst hj
      rw [get_set_self hi] at ej
      cases ej
      cases m
    · rw [get_set_ne hj] at ej
      exact R.kpo q ⟨j, s, ej, m, ejs⟩
  · by_cases hj : i = j
    · subst hj
      rw [get_set_self hi] at ej
      cases ej
      exact ⟨.ref p, es, rp⟩
    · rw [get_set_ne hj] at ej
      refine (R.sl j s ej).step sF fun q ws m ejs hq hw => ?_
      have ne : q ≠ p := fun z => by
        subst z
        exact R.ds i j _ s q hj e ej m0 m es ejs
      exact ⟨by rw [upd_ne ne]; exact hq, hw⟩
  · by_cases hj : i = j
    · subst hj
      rw [get_set_self hi] at ej
      cases ej
    · rw [get_set_ne hj] at ej
      exact R.bo j xs ej
  · by_cases hj : i = j
    · subst hj
      rw [get_set_self hi] at e1
      cases e1
      cases m1
    · by_cases hk : i = k
      · subst hk
        rw [get_set_self hi] at e2
        cases e2
        cases m2
      · rw [get_set_ne hj] at e1
        rw [get_set_ne hk] at e2
        exact R.ds j k s t q hjk e1 e2 m1 m2 s1 s2
theorem Rel.frzSlot (R : Rel K g kp F env σ H) {i : Nat} {d : D} (e : env[i]? = some (.own d)) : ∃ F' v, Same F F' ∧ σ[i]? = some (some v) ∧ Rp K F' d v ∧ Rel K g kp F' (env.set i (.val d)) σ H := by
  obtain ⟨p, x, es, f1, h0, hp, r⟩ := R.sl i _ e
  have sF : Same F (upd F p x) := MI.same_upd f1
  have rp : Rp K (upd F p x) d (.ref p) := (r.mono sF).rp upd_same
  exact ⟨upd F p x, .ref p, sF, es, rp, R.frzS e rfl es f1 h0 hp rp⟩
/-- a slot's object is changed in place -/
theorem Rel.mutS (R : Rel K g kp F env σ H) {i : Nat} {s s' : Sl} {p : Addr} {x' : HO} (e : env[i]? = some s) (m : isMut s = true) (es : σ[i]? = some (some (.ref p))) (m' : isMut s' = true) (ok : SlOk K g F (upd H p x') s' (some (some (.ref p)))) (bb : ∀ xs, s' = .bor xs → ∃ ys, s = .bor ys) :
    Rel K g kp F (env.set i s') σ (upd H p x') := by
  have hi : i < env.length := (List.getElem?_eq_some_iff.mp e).1
  have hown : Owns env σ p := ⟨i, s, e, m, es⟩
  have f1 : F p = none := by
    have z := R.sl i s e
    cases s with
    | un => cases m
    | val d => cases m
    | own xs => obtain ⟨q, ws, e1, e2, _⟩ := z; rw [es] at e1; cases e1; exact e2
    | bor xs => obtain ⟨q, ws, e1, e2, _⟩ := z; rw [es] at e1; cases e1; exact e2
  have back : ∀ {j : Nat} {t : Sl}, (env.set i s')[j]? = some t → isMut t = true → ∃ t', env[j]? = some t' ∧ isMut t' = true := fun {j t} ej mj => by
    by_cases hj : i = j
    · subst hj
      exact ⟨s, e, m⟩
    · rw [get_set_ne hj] at ej
      exact ⟨t, ej, mj⟩
  have own : ∀ q, Owns (env.set i s') σ q → Owns env σ q := fun q ⟨j, t, ej, mj, ejs⟩ => by
    obtain ⟨t', a, b⟩ := back ej mj
    exact ⟨j, t', a, b, ejs⟩
  refine ⟨R.f0, same_mut R.fh f1, R.fnew, fun a ha => ?_, fun a o q => ?_, fun q o => R.kpo q (own q o), R.fk, by rw [List.length_set, R.len], fun j t ej => ?_, fun j xs ej => ?_, fun j k t u q hjk e1 e2 m1 m2 s1 s2 => ?_⟩
  · by_cases hb : a = p
    · subst hb
      rw [upd_same]
      exact fun z => by cases z
    · rw [upd_ne hb]
      exact R.dom a ha
  · rw [upd_ne (ne_of_none q (R.kpo p hown))]
    exact R.kept a o q
  · by_cases hj : i = j
    · subst hj
      rw [get_set_self hi] at ej
      cases ej
      rw [es]
      exact ok
    · rw [get_set_ne hj] at ej
      refine (R.sl j t ej).step (Same.refl F) fun q us mj ejs hq hu => ?_
      have ne : q ≠ p := fun z => by
        subst z
        exact R.ds i j s t q hj e ej m mj es ejs
      exact ⟨hq, by rw [upd_ne ne]; exact hu⟩
  · by_cases hj : i = j
    · subst hj
      rw [get_set_self hi] at ej
      obtain ⟨ys, hy⟩ := bb xs (Option.some.inj ej)
      subst hy
      exact R.bo i ys e
    · rw [get_set_ne hj] at ej
      exact R.bo j xs ej
  · obtain ⟨t', a1, a2⟩ := back e1 m1
    obtain ⟨u', b1, b2⟩ := back e2 m2
    exact R.ds j k t' u' q hjk a1 b1 a2 b2 s1 s2
theorem isL_mut {s : Sl} (h : isL s = true) : isMut s = true := by
  cases s <;> first | rfl | cases h
/-- a slot's object is changed in place, by content -/
theorem Rel.mutC (R : Rel K g kp F env σ H) {i : Nat} {s : Sl} {p : Addr} {d : D} {x : HO} (e : env[i]? = some s) (m : isMut s = true) (es : σ[i]? = some (some (.ref p))) (c : Cont K F p d x) :
    Rel K g kp F (env.set i (reslot d s)) σ (upd H p x) := by
  have z := R.sl i s e
  cases s with
  | un => cases m
  | val d => cases m
  | own xs =>
    obtain ⟨q, us, e1, e2, e3, _, _⟩ := z
    rw [es] at e1
    cases e1
    exact R.mutS e rfl es rfl ⟨p, x, rfl, e2, e3, upd_same, c⟩ fun xs z => by cases z
  | bor xs =>
    obtain ⟨q, us, e1, e2, e3, _, _⟩ := z
    rw [es] at e1
    cases e1
    exact R.mutS e rfl es rfl ⟨p, x, rfl, e2, e3, upd_same, c⟩ fun _ _ => ⟨xs, rfl⟩
/-- a slot's list is changed in place -/
theorem Rel.mutate (R : Rel K g kp F env σ H) {i : Nat} {s : Sl} {p : Addr} {ds : List D} {vs : List V} (e : env[i]? = some s) (m : isMut s = true) (es : σ[i]? = some (some (.ref p))) (r : RpL K F ds vs) :
    Rel K g kp F (env.set i (reslot (.lst ds) s)) σ (upd H p (.lst vs)) := R.mutC e m es ⟨vs, rfl, r⟩
/-- the object of a slot that may change -/
theorem Rel.at_mut (R : Rel K g kp F env σ H) {i : Nat} {s : Sl} {d : D} (e : env[i]? = some s) (m : isMut s = true) (hs : slotD s = some d) : ∃ p x, σ[i]? = some (some (.ref p)) ∧ F p = none ∧ H p = some x ∧ Cont K F p d x := by
  have z := R.sl i s e
  cases s with
  | un => cases m
  | val d => cases m
  | own ys =>
    cases hs
    obtain ⟨p, vs, a, f, _, b, c⟩ := z
    exact ⟨p, vs, a, f, b, c⟩
  | bor ys =>
    cases hs
    obtain ⟨p, vs, a, f, _, b, c⟩ := z
    exact ⟨p, vs, a, f, b, c⟩
/-- an object that nobody holds is kept as it is -/
theorem Rel.keep (R : Rel K g kp F env σ H) {p : Addr} {o : HO} (f : F p = none) (h : H p = some o) (ho : ¬ Owns env σ p) : Rel K g (upd kp p o) F env σ H := by
  refine ⟨R.f0, R.fh, R.fnew, R.dom, fun a x q => ?_, fun q w => ?_, fun a ka fa => R.fk a (by rw [upd_ne (fun z => fa (by rw [z]; exact f))] at ka; exact ka) fa, R.len, R.sl, R.bo, R.ds⟩
  · by_cases hb : a = p
    · subst hb
      rw [upd_same] at q
      cases q
      exact h
    · rw [upd_ne hb] at q
      exact R.kept a x q
  · rw [upd_ne (fun z => ho (by rw [← z]; exact w))]
    exact R.kpo q w
theorem Rel.unkeep {p : Addr} {o : HO} (R : Rel K g (upd kp p o) F env σ H) (h : kp p = none) : Rel K g kp F env σ H := by
  refine ⟨R.f0, R.fh, R.fnew, R.dom, fun a x q => R.kept a x (by rw [upd_ne (ne_of_none q h)]; exact q), fun q w => ?_, fun a ka fa => R.fk a (by rw [upd_ne (fun z => ka (by rw [z]; exact h))]; exact ka) fa, R.len, R.sl, R.bo, R.ds⟩
  have z := R.kpo q w
  by_cases hb : q = p
  · rw [hb]; exact h
  · rw [upd_ne hb] at z
    exact z
theorem Rel.kept_owns {p : Addr} {o : HO} (R : Rel K g (upd kp p o) F env σ H) : ¬ Owns env σ p := fun w => by
  have z := R.kpo p w
  rw [upd_same] at z
  cases z
end
end MI

namespace MI
open PySem PySem.Spec PyProof.Rows L2

/-! ### which text a term stands for -/
def visB (sc : Scope) (x : Str) : Bool := match sc.names.lookup x with
  | some .local => true
  | some .cell => true
  | some .free => true
  | _ => false
def glB (sc : Scope) (x : Str) : Bool := match sc.names.lookup x with
  | some .globalImplicit => true
  | _ => false
def locB (sc : Scope) (fn : Str → Bool) (x : Str) : Bool := match sc.names.lookup x with
  | some .local => true
  | some .cell => fn x
  | _ => false
def nmB (x : Str) : Bool := !(x == ("__debug__" : Str)) && !(x == ("__classdict__" : Str)) && !(x == ("__name__" : Str))
def isAt (N : List Str) (i : Nat) (x : Str) : Bool := match N[i]? with
  | some y => decide (y = x)
  | none => false
def plainX : Expr → Bool
  | .Name .. => true | .Constant .. => true | .BinOp .. => true | .UnaryOp .. => true | .Compare .. => true | .BoolOp .. => true
  | .IfExp .. => true | .Tuple .. => true | .List .. => true | .Subscript .. => true | .Call .. => true | .ListComp .. => true | .Dict .. => true | .Attribute .. => true
  | _ => false
def isIte : E → Bool
  | .ite .. => true
  | .orV .. => true
  | _ => false
/-- no call without arguments (super()) -/
def baseX : Expr → Bool
  | .Call _ [] [] _ => false
  | _ => true
def isVarE : E → Bool
  | .var _ => true
  | _ => false
def isTrueE : E → Bool
  | .cst (.bl true) => true
  | _ => false
def biName : Bi → Str
  | .len => "len" | .max => "max" | .min => "min" | .abs => "abs" | .sum => "sum" | .all => "all" | .any => "any" | .tuple => "tuple" | .list => "list" | .repr => "repr" | .sorted => "sorted" | .int => "int" | .str => "str"
def ownN (N : List Str) (own : List Nat) : List (Str × Nat) := own.map fun i => ((N[i]?).getD "", i)
mutual
def mT (N : List Str) (sc : Scope) (fn : Str → Bool) : T → Expr → Bool
  | .nm i, .Name x _ => isAt N i x && locB sc fn x
  | .tp ts, .Tuple es _ _ => mTs N sc fn ts es
  | .tl ts, .Tuple es _ _ => mTs N sc fn ts es
  | _, _ => false
def mTs (N : List Str) (sc : Scope) (fn : Str → Bool) : List T → List Expr → Bool
  | [], [] => true
  | t :: ts, e :: es => mT N sc fn t e && mTs N sc fn ts es
  | _, _ => false
end
def isTupX : Expr → Bool
  | .Tuple .. => true
  | _ => false
/-! the slots of a target -/
mutual
def slotsT : T → List Nat
  | .nm i => [i]
  | .tp ts => slotsTs ts
  | .tl ts => slotsTs ts
def slotsTs : List T → List Nat
  | [] => []
  | t :: ts => slotsT t ++ slotsTs ts
end
mutual
def mE (N : List Str) (sc : Scope) : E → Expr → Bool
  | .var i, zz => (match zz with
    | .Name x _ => isAt N i x && visB sc x && nmB x
    | _ => false)
  | .cst .non, zz => (match zz with
    | .Constant .none _ _ => true
    | _ => false)
  | .cst (.bl b), zz => (match zz with
    | .Constant (.bool c) _ _ => b == c
    | _ => false)
  | .cst (.int i), zz => (match zz with
    | .Constant (.int j) _ _ => decide (i = j)
    | _ => false)
  | .cst (.str x), zz => (match zz with
    | .Constant (.str y) _ _ => decide (x = y)
    | _ => false)
  | .glo x, zz => (match zz with
    | .Name y _ => decide (x = y) && glB sc x && nmB x
    | _ => false)
  | .bin op a b, zz => (match zz with
    | .BinOp a' op' b' _ => decide (op = op') && mE N sc a a' && mE N sc b b'
    | _ => false)
  | .neg a, zz => (match zz with
    | .UnaryOp .USub a' _ => mE N sc a a'
    | _ => false)
  | .cmp op a b, zz => (match zz with
    | .Compare a' [op'] [b'] _ => decide (op = op') && mE N sc a a' && mE N sc b b'
    | _ => false)
  | .chain op1 op2 a b c, zz => (match zz with
    | .Compare a' [op1', op2'] [b', c'] _ => decide (op1 = op1') && decide (op2 = op2') && mE N sc a a' && mE N sc b b' && mE N sc c c'
    | _ => false)
  | .boo isAnd es, zz => (match zz with
    | .BoolOp op vs _ => decide (op = if isAnd then .And else .Or) && mEs N sc es vs && decide (2 ≤ es.length) && !es.any isIte
    | _ => false)
  | .nt a, zz => (match zz with
    | .UnaryOp .Not a' _ => mE N sc a a' && !isIte a
    | _ => false)
  | .ite c a b, zz => (match zz with
    | .IfExp c' a' b' _ => mE N sc c c' && mE N sc a a' && mE N sc b b' && !isIte c
    | _ => false)
  | .tup es, zz => (match zz with
    | .Tuple vs _ _ => mDs N sc es vs
    | _ => false)
  | .lst es, zz => (match zz with
    | .List vs _ => mDs N sc es vs
    | _ => false)
  | .rev a, zz => (match zz with
    | .Subscript a' (.Slice none none (some (.UnaryOp .USub (.Constant (.int 1) _ _) _)) _) _ => mE N sc a a'
    | _ => false)
  | .sub a i, zz => (match zz with
    | .Subscript a' i' _ => mE N sc a a' && mE N sc i i'
    | _ => false)
  | .sli a lo hi, zz => (match zz with
    | .Subscript a' (.Slice lo' hi' none _) _ => mE N sc a a' &&
      (match lo' with | none => isNon lo | some l => mE N sc lo l && !isNon lo) && (match hi' with | none => isNon hi | some l => mE N sc hi l && !isNon hi)
    | _ => false)
  | .call f es, zz => (match zz with
    | .Call (.Name x _) vs [] _ => decide (f = x) && glB sc x && nmB x && mEs N sc es vs
    | _ => false)
  | .bi b es, zz => (match zz with
    | .Call (.Name x _) vs [] _ => decide (x = biName b) && glB sc x && mEs N sc es vs && !es.isEmpty
    | _ => false)
  | .lrng ty es, zz => (match zz with
    | .Call (.Name x _) [.Call (.Name y _) vs [] _] [] _ => decide (x = biName ty) && decide (ty = .list ∨ ty = .tuple) && glB sc x && decide (y = "range") && glB sc y && mEs N sc es vs && decide (es.length = 1 ∨ es.length = 2)
    | _ => false)
  | .isi e ty, zz => (match zz with
    | .Call (.Name x _) [e', .Name y _] [] _ => decide (x = "isinstance") && glB sc x && decide (y = ty.nm) && glB sc y && mE N sc e e'
    | _ => false)
  | .popAt i e, zz => (match zz with
    | .Call (.Attribute (.Name x _) m apos) [e'] [] cpos => isAt N i x && visB sc x && nmB x && decide (m = "pop") && mE N sc e e' && (apos.endLine == cpos.line)
    | _ => false)
  | .lc own elt tg it cnd, zz => (match zz with
    | .ListComp elt' [⟨tg', iter', ifs', as⟩] scope _ => decide (as = 0) && blkC N sc scope (ownN N own) &&
      mT N (relS scope sc) (fun x => scope.names.lookup x == some .cell) tg tg' && (slotsT tg).all (fun i => own.contains i) && own.all (fun i => decide (i < N.length)) &&
      mI N sc it tg' iter' && mE N (relS scope sc) elt elt' &&
      (match ifs' with | [] => isTrueE cnd | [c] => mE N (relS scope sc) cnd c && !isIte cnd | _ => false)
    | _ => false)
  | .dnew _, zz => (match zz with
    | .Dict [] [] _ => true
    | _ => false)
  | .mt m a es, zz => (match zz with
    | .Call (.Attribute a' nm apos) vs [] cpos => decide (nm = m.nm) && mE N sc a a' && baseX a' && mEs N sc es vs && decide (es.length = 1) && (apos.endLine == cpos.line)
    | _ => false)
  | .dget a k x, zz => (match zz with
    | .Call (.Attribute a' nm apos) [k', x'] [] cpos => decide (nm = "get") && mE N sc a a' && baseX a' && mE N sc k k' && mE N sc x x' && (apos.endLine == cpos.line)
    | _ => false)
  | .callK f ks es, zz => (match zz with
    | .Call (.Name x _) [] kws _ => decide (f = x) && glB sc x && nmB x && mKs N sc ks es kws && !es.isEmpty
    | _ => false)
  | .make c es, zz => (match zz with
    | .Call (.Name x _) vs [] _ => decide (c = x) && glB sc x && nmB x && mEs N sc es vs && !es.isEmpty
    | _ => false)
  | .attr _ f a, zz => (match zz with
    | .Attribute a' f' _ => decide (f = f') && mE N sc a a' && baseX a'
    | _ => false)
  | .isC a c, zz => (match zz with
    | .Call (.Name x _) [e', .Name y _] [] _ => decide (x = "isinstance") && glB sc x && decide (y = c) && glB sc y && nmB y && mE N sc a e'
    | _ => false)
  | .callO _ a es, zz => (match zz with
    | .Call (.Name x _) vs [] _ => mE N sc a (.Name x ⟨0, 0, 0, 0⟩) && mEs N sc es vs && !es.isEmpty && isVarE a
    | _ => false)
  | .orV a b, zz => (match zz with
    | .BoolOp .Or [a', b'] _ => mE N sc a a' && mE N sc b b'
    | _ => false)
  | .dst a k1 v1 k2 v2, zz => (match zz with
    | .Dict [none, some k1', some k2'] [a', v1', v2'] _ => mE N sc a a' && mE N sc k1 k1' && mE N sc v1 v1' && mE N sc k2 k2' && mE N sc v2 v2'
    | _ => false)
  | .eqE a, zz => (match zz with
    | .Compare a' [.Eq] [.Dict [] [] _] _ => mE N sc a a'
    | _ => false)
  | .prop _ nm a, zz => (match zz with
    | .Attribute a' f' _ => decide (nm = f') && mE N sc a a' && baseX a'
    | _ => false)
  | .lc2 own own2 elt tg it tg2 it2 cnd, zz => (match zz with
    | .ListComp elt' [⟨tg', iter', [], as⟩, ⟨tg2', iter2', ifs2', as2⟩] scope _ => decide (as = 0) && decide (as2 = 0) && blkC N sc scope (ownN N own) &&
      mT N (relS scope sc) (fun x => scope.names.lookup x == some .cell) tg tg' && (slotsT tg).all (fun i => own.contains i) && own.all (fun i => decide (i < N.length)) &&
      mT N (relS scope sc) (fun x => scope.names.lookup x == some .cell) tg2 tg2' && (slotsT tg2).all (fun i => own2.contains i) && own2.all (fun i => own.contains i) &&
      mI N sc it tg' iter' && mI N (relS scope sc) it2 tg2' iter2' && mE N (relS scope sc) elt elt' &&
      (match ifs2' with | [] => isTrueE cnd | [c] => mE N (relS scope sc) cnd c && !isIte cnd | _ => false)
    | _ => false)
  | _, _ => false
def mDs (N : List Str) (sc : Scope) : List E → List Expr → Bool
  | [], [] => true
  | .star a :: es, .Starred x _ :: xs => mE N sc a x && mDs N sc es xs
  | e :: es, x :: xs => mE N sc e x && mDs N sc es xs
  | _, _ => false
def mKs (N : List Str) (sc : Scope) : List Str → List E → List Keyword → Bool
  | [], [], [] => true
  | k :: ks, e :: es, ⟨some n, x, _⟩ :: xs => decide (k = n) && mE N sc e x && mKs N sc ks es xs
  | _, _, _ => false
def mEs (N : List Str) (sc : Scope) : List E → List Expr → Bool
  | [], [] => true
  | e :: es, x :: xs => mE N sc e x && mEs N sc es xs
  | _, _ => false
def mI (N : List Str) (sc : Scope) : I → Expr → Expr → Bool
  | .seq e, _, x => mE N sc e x
  | .rng es, _, zz => (match zz with
    | .Call (.Name x _) vs [] _ => decide (x = "range") && glB sc x && mEs N sc es vs && decide (es.length = 1 ∨ es.length = 2)
    | _ => false)
  | .enum e, tg, zz => (match zz with
    | .Call (.Name x _) [v] [] _ => isTupX tg && decide (x = "enumerate") && glB sc x && mE N sc e v
    | _ => false)
  | .zip a b, tg, zz => (match zz with
    | .Call (.Name x _) [v, w] [] _ => isTupX tg && decide (x = "zip") && glB sc x && mE N sc a v && mE N sc b w
    | _ => false)
  | .chars e, _, x => mE N sc e x
end
/-- a, b, c = x, y, z where the order of the stores is told, or does not matter: all targets are tuples -/
def parOk (sc : Scope) (xs vs : List Expr) : Bool := xs.all isTupX && decide (xs.length = 2) && decide (vs.length = 2)
def isLoc (sc : Scope) (x : Str) : Bool := match sc.names.lookup x with
  | some .local => true
  | _ => false
def isLcX : Expr → Bool
  | .ListComp .. => true
  | _ => false
mutual
def mS (N : List Str) (sc : Scope) (fn : Str → Bool) : S → Stmt → Bool
  | .asg i e, zz => (match zz with
    | .Assign [.Name x _] v _ => isAt N i x && locB sc fn x && mE N sc e v
    | _ => false)
  | .asgT (.tp ts) e, zz => (match zz with
    | .Assign [.Tuple es k p] v _ => mT N sc fn (.tp ts) (.Tuple es k p) && mE N sc e v && !isTupX v && !isLcX v
    | _ => false)
  | .asgT (.tl ts) e, zz => (match zz with
    | .Assign [.Tuple es k p] v _ => mT N sc fn (.tl ts) (.Tuple es k p) && mE N sc e v && !isTupX v && !isLcX v
    | _ => false)
  | .par [i, j] [a, b], zz => (match zz with
    | .Assign [.Tuple [.Name x px, .Name y py] _ _] (.Tuple [a', b'] _ _) _ =>
      isAt N i x && isAt N j y && locB sc fn x && locB sc fn y && mE N sc a a' && mE N sc b b' && decide (i ≠ j) &&
        (!(isLoc sc x && isLoc sc y && (px.line == py.line)) || (foldedForSure 8 a' && foldedForSure 8 b') || !(constantsAlone 8 a' && constantsAlone 8 b'))
    | _ => false)
  | .par [i, j, l] [a, b, c], zz => (match zz with
    | .Assign [.Tuple [.Name x px, .Name y py, .Name z pz] _ _] (.Tuple [a', b', c'] _ _) _ =>
      isAt N i x && isAt N j y && isAt N l z && locB sc fn x && locB sc fn y && locB sc fn z && mE N sc a a' && mE N sc b b' && mE N sc c c' && decide (i ≠ j) && decide (i ≠ l) && decide (j ≠ l) &&
        (!(isLoc sc x && isLoc sc y && isLoc sc z && (py.line == px.line) && (pz.line == px.line)) || (foldedForSure 8 a' && foldedForSure 8 b' && foldedForSure 8 c') || !(constantsAlone 8 a' && constantsAlone 8 b' && constantsAlone 8 c'))
    | _ => false)
  | .setI i ix e, zz => (match zz with
    | .Assign [.Subscript (.Name x _) ix' _] v _ => isAt N i x && visB sc x && nmB x && mE N sc ix ix' && mE N sc e v && !isLcX v
    | _ => false)
  | .set2 i ix e i2 ix2 e2, zz => (match zz with
    | .Assign [.Tuple [.Subscript (.Name x _) ix' _, .Subscript (.Name y _) ix2' _] _ _] (.Tuple [v, v2] _ _) _ =>
      isAt N i x && visB sc x && nmB x && mE N sc ix ix' && mE N sc e v && isAt N i2 y && visB sc y && nmB y && mE N sc ix2 ix2' && mE N sc e2 v2
    | _ => false)
  | .aug i op e, zz => (match zz with
    | .AugAssign (.Name x _) op' v _ => isAt N i x && locB sc fn x && decide (op = op') && mE N sc e v
    | _ => false)
  | .app i e, zz => (match zz with
    | .Expr (.Call (.Attribute (.Name x _) m apos) [v] [] cpos) _ => isAt N i x && visB sc x && nmB x && decide (m = "append") && mE N sc e v && (apos.endLine == cpos.line)
    | _ => false)
  | .ext i e, zz => (match zz with
    | .Expr (.Call (.Attribute (.Name x _) m apos) [v] [] cpos) _ => isAt N i x && visB sc x && nmB x && decide (m = "extend") && mE N sc e v && (apos.endLine == cpos.line)
    | _ => false)
  | .expr e, zz => (match zz with
    | .Expr v _ => mE N sc e v && !isLcX v
    | _ => false)
  | .ret e, zz => (match zz with
    | .Return (some v) _ => mE N sc e v
    | .Return none _ => isNon e
    | _ => false)
  | .ifs c a b, zz => (match zz with
    | .If c' a' b' _ => mE N sc c c' && !isIte c && mSs N sc fn a a' && mSs N sc fn b b'
    | _ => false)
  | .for_ t it body, zz => (match zz with
    | .For t' it' body' [] _ => mT N sc fn t t' && mI N sc it t' it' && mSs N sc fn body body'
    | _ => false)
  | .while_ c body, zz => (match zz with
    | .While c' body' [] _ => mE N sc c c' && !isIte c && mSs N sc fn body body'
    | _ => false)
  | .dput i ix e, zz => (match zz with
    | .Assign [.Subscript (.Name x _) ix' _] v _ => isAt N i x && visB sc x && nmB x && mE N sc ix ix' && mE N sc e v && !isLcX v
    | _ => false)
  | .fld _ i f e, zz => (match zz with
    | .Assign [.Attribute (.Name x _) f' _] v _ => isAt N i x && visB sc x && nmB x && decide (f = f') && mE N sc e v && !isLcX v
    | _ => false)
  | .parT ts es, zz => (match zz with
    | .Assign [.Tuple xs k p] (.Tuple vs _ _) _ => mTs N sc fn ts xs && mEs N sc es vs && parOk sc xs vs
    | _ => false)
  | .pass, zz => (match zz with
    | .Pass _ => true
    | _ => false)
  | .brk, zz => (match zz with
    | .Break _ => true
    | _ => false)
  | .cont, zz => (match zz with
    | .Continue _ => true
    | _ => false)
  | .stop, _ => true
  | _, _ => false
def mSs (N : List Str) (sc : Scope) (fn : Str → Bool) : List S → List Stmt → Bool
  | [], [] => true
  | s :: ss, t :: ts => mS N sc fn s t && mSs N sc fn ss ts
  | _, _ => false
end
end MI

namespace MI
open PySem PySem.Spec PyProof.Rows L2
variable {K : PySem.W.Frag}

/-- what is wanted of a result -/
def Fin (K : PySem.W.Frag) (g : Gh) (kp F : Hp) (env : Env) (σ : L2.St) (rd : RD) (Q : VK) : Prop :=
  ∀ F' v H', Same F F' → Rel K g kp F' env σ H' → PostR K g kp F' env σ H' rd v → Q v H'
section
variable {g : Gh} {kp F : Hp} {env : Env} {σ : L2.St} {H : Hp} {Q : VK}
theorem Fin.old {d : D} {v : V} (R : Rel K g kp F env σ H) (q : Fin K g kp F env σ (.old d) Q) (h : Rp K F d v) : Q v H := q F v H (Same.refl F) R h
theorem Fin.newT {ds : List D} {vs : List V} (R : Rel K g kp F env σ H) (q : Fin K g kp F env σ (.old (.tup ds)) Q) (h : RpL K F ds vs) : ∀ p, H p = none → Q (.ref p) (upd H p (.tup vs)) := fun p hp =>
  q (upd F p (.tup vs)) (.ref p) _ (same_upd (R.fresh hp).1) (R.newF hp) (by
    unfold PostR Rp
    exact ⟨p, vs, rfl, upd_same, RpL.mono (same_upd (R.fresh hp).1) ds vs h⟩)
theorem Fin.newL {ds : List D} {vs : List V} (R : Rel K g kp F env σ H) (q : Fin K g kp F env σ (.new (.lst ds)) Q) (h : RpL K F ds vs) : ∀ p, H p = none → Q (.ref p) (upd H p (.lst vs)) := fun p hp =>
  q F (.ref p) _ (Same.refl F) (R.newL hp h).1 (R.newL hp h).2
end
theorem sqT_of {H : Hp} {a : Addr} {vs : List V} (h : H a = some (.tup vs)) : SqT K H a vs := .inl (.inl h)
theorem sqL_of {H : Hp} {a : Addr} {vs : List V} (h : H a = some (.lst vs)) : SqL K H a vs := .inl (.inl h)
theorem nil_of_len {ds : List D} {vs : List V} {F : Hp} (h : RpL K F ds vs) (e : vs = []) : ds = [] := List.eq_nil_of_length_eq_zero (by rw [h.len, e]; rfl)

/-! ### tuples times ints -/
section
variable {X : Cx}
theorem inv_tnew {pins : List (Addr × Obj)} {σ : L2.St} {H : Hp} {s : Shared} {ys : List V} {its : List Value} {t' : Nat} (I : Inv X pins σ H s) (hv : Vals ys its) (hz : ys.length ≤ sizeLine) :
    Inv X pins σ (upd H s.heap.objs.size (.tup ys)) { s with heap := s.heap.push { cls := .type "tuple", data := .seq its.toArray }, toks := t' } :=
  I.laid (fun _ _ q => Heap.get?_push_of_some _ q) (Nat.le_refl _) ⟨hz, its, hv, IsTup.new _ _⟩
theorem tuple_mul1 (l : Addr) (items : Array Value) (n : Nat) (dd : Option Addr) (sl : Array (Option Value)) (x : Int) (u : Tok) (c0 : (decide (x < -(2 ^ 63)) || decide (x ≥ 2 ^ 63)) = false) (c1 : (items.isEmpty || x == 1) = true) :
    Meets (Builtin.«tuple.__mul__» ⟨[.ref l, .int x u], []⟩) (fun _ R s => s.heap.get? l = some { cls := .type "tuple", dict := dd, data := .seq items n, slots := sl } ∧ R (.ok (.ret (Value.ref l))) s) :=
  .of_wp fun prog w A R s h => by
    obtain ⟨hp, g, d, tk, os⟩ := s
    obtain ⟨hl, h⟩ := h
    have f1 := AutoSeq1.idx_int
    wp_walk using wpAny_loadPart' hl
    repeat (first
      | (refine wpAny_ite_false (decide_eq_false (by rw [c0]; exact Bool.false_ne_true)) ?_; wp_walk using wpAny_loadPart' hl)
      | (refine wpAny_ite_true (decide_eq_true (by rw [c1])) ?_; wp_walk using wpAny_loadPart' hl))
    exact ⟨_, rfl, h⟩
theorem tuple_mul0 (l : Addr) (items : Array Value) (n : Nat) (dd : Option Addr) (sl : Array (Option Value)) (x : Int) (u : Tok) (c0 : (decide (x < -(2 ^ 63)) || decide (x ≥ 2 ^ 63)) = false) (c1 : (items.isEmpty || x == 1) = false) (c2 : (decide (x ≤ 0) || items.isEmpty) = true) :
    Meets (Builtin.«tuple.__mul__» ⟨[.ref l, .int x u], []⟩) (fun _ R s => s.heap.get? l = some { cls := .type "tuple", dict := dd, data := .seq items n, slots := sl } ∧
      R (.ok (.ret (Value.ref s.heap.objs.size))) { s with heap := s.heap.push { cls := Value.type "tuple", data := Data.seq #[] }, toks := s.toks }) :=
  .of_wp fun prog w A R s h => by
    obtain ⟨hp, g, d, tk, os⟩ := s
    obtain ⟨hl, h⟩ := h
    have f1 := AutoSeq1.idx_int
    wp_walk using wpAny_loadPart' hl
    repeat (first
      | (refine wpAny_ite_false (decide_eq_false (by rw [c0]; exact Bool.false_ne_true)) ?_; wp_walk using wpAny_loadPart' hl)
      | (refine wpAny_ite_false (decide_eq_false (by rw [c1]; exact Bool.false_ne_true)) ?_; wp_walk using wpAny_loadPart' hl)
      | (refine wpAny_ite_true (decide_eq_true (by rw [c2])) ?_; wp_walk using wpAny_loadPart' hl)
      | (refine wpAny_ite_false (decide_eq_false (by show ¬ ((#[] : Array Value).size > sizeLine); simp)) ?_; wp_walk using wpAny_loadPart' hl))
    exact ⟨_, rfl, h⟩
/-- t * k: k below 1 nothing, 1 (or an empty t) t itself -/
def rRepTA (K : PySem.W.Frag) : R2 := fun x y H Q => ∃ l k xs, x = .ref l ∧ y = .int k ∧ SqT K H l xs ∧ -(2 ^ 63) ≤ k ∧ k < 2 ^ 63 ∧ xs.length * k.toNat ≤ sizeLine ∧
  ((xs = [] ∨ k = 1) → Q (.ref l) H) ∧ (xs ≠ [] → k ≠ 1 → ∀ p, H p = none → Q (.ref p) (upd H p (.tup (List.replicate k.toNat xs).flatten)))
theorem op_repTA : OpR X (binaryOp .Mult) (rRepTA X.K) := by
  intro pins s σ H x y v u Q I rx ry h
  obtain ⟨l, k, xs, rfl, rfl, hT, hk1, hk2, hz, q1, q2⟩ := h
  cases rx
  obtain ⟨t, rfl⟩ := ry
  obtain ⟨its, r, ⟨⟨cls, dd, data, sl⟩, ho, hc, n, hd⟩, hs⟩ := I.tuple hT
  simp only at hc hd
  subst hc hd
  have hle : its.length = xs.length := r.length.symm
  have c0 : (decide (k < -(2 ^ 63)) || decide (k ≥ 2 ^ 63)) = false := by
    rw [decide_eq_false (by omega), decide_eq_false (by omega)] <;> rfl
  by_cases h1 : xs = [] ∨ k = 1
  · have c1 : (its.toArray.isEmpty || k == 1) = true := by
      rcases h1 with e | e
      · have : its = [] := List.eq_nil_of_length_eq_zero (by rw [hle, e]; rfl)
        subst this
        rfl
      · subst e
        simp
    refine wpAny_binaryOp_repeat_ref (T := "tuple") (U := "int") (by decide) ⟨_, ho, rfl⟩ (fun s' => typeIs_int s' k t) noFill_tuple_mul F.fills_int_mul F.slot_int_rmul repeat_tuple F.slot_int_index.lookup
      (call_meets F.slot_int_rmul (typeIs_int s k t) F.entry_int_rmul (F.args_int_rmul_2 _ _) (int_rmul_tuple k t l its.toArray n dd sl)
        ⟨ho, rfl, ⟨_, ho, rfl⟩, call_meets F.slot_tuple_mul ⟨_, ho, rfl⟩ F.entry_tuple_mul (F.args_tuple_mul_2 _ _) (tuple_mul1 l its.toArray n dd sl k t c0 c1) ⟨ho, ?_⟩⟩)
    exact ⟨.ref l, H, I, rfl, q1 h1⟩
  · have hne : xs ≠ [] := fun e => h1 (.inl e)
    have hk : k ≠ 1 := fun e => h1 (.inr e)
    have hi : its.toArray.isEmpty = false := by
      cases its with
      | nil => exact absurd (List.eq_nil_of_length_eq_zero hle.symm) hne
      | cons a b => rfl
    have c1 : (its.toArray.isEmpty || k == 1) = false := by
      rw [hi, Bool.false_or]
      exact beq_eq_false_iff_ne.mpr hk
    by_cases h0 : k ≤ 0
    · have c2 : (decide (k ≤ 0) || its.toArray.isEmpty) = true := by
        rw [decide_eq_true h0]
        rfl
      refine wpAny_binaryOp_repeat_ref (T := "tuple") (U := "int") (by decide) ⟨_, ho, rfl⟩ (fun s' => typeIs_int s' k t) noFill_tuple_mul F.fills_int_mul F.slot_int_rmul repeat_tuple F.slot_int_index.lookup
        (call_meets F.slot_int_rmul (typeIs_int s k t) F.entry_int_rmul (F.args_int_rmul_2 _ _) (int_rmul_tuple k t l its.toArray n dd sl)
          ⟨ho, rfl, ⟨_, ho, rfl⟩, call_meets F.slot_tuple_mul ⟨_, ho, rfl⟩ F.entry_tuple_mul (F.args_tuple_mul_2 _ _) (tuple_mul0 l its.toArray n dd sl k t c0 c1 c2) ⟨ho, ?_⟩⟩)
      have z := q2 hne hk s.heap.objs.size I.fresh
      have e0 : (List.replicate k.toNat xs).flatten = [] := by
        have : k.toNat = 0 := by omega
        rw [this]
        rfl
      rw [e0] at z
      exact ⟨.ref _, _, inv_tnew (t' := s.toks) I .nil (Nat.zero_le _), rfl, z⟩
    · have c2 : (decide (k ≤ 0) || its.toArray.isEmpty) = false := by
        rw [hi, Bool.or_false]
        exact decide_eq_false h0
      have hsz0 : its.toArray.size = xs.length := by rw [List.size_toArray, hle]
      have hm : ((its.toArray.size : Nat) : Int) * k ≤ (sizeLine : Int) := by
        rw [hsz0]
        have e : ((xs.length * k.toNat : Nat) : Int) = (xs.length : Int) * k := by
          rw [Int.natCast_mul, Int.toNat_of_nonneg (by omega)]
        omega
      have c4 : Builtin.Tuple.tupleTooMany (((its.toArray.size : Nat) : Int) * k) = false := by
        unfold Builtin.Tuple.tupleTooMany
        exact decide_eq_false (by omega)
      have flen : (List.replicate k.toNat its).flatten.length ≤ sizeLine := by
        rw [PyProof.Rows.lm_len_rep_flat, hle, Nat.mul_comm]
        exact hz
      have hline : (sizeLine : Int) ≤ (2 ^ 63 - 1) / 8 := by
        rw [sizeLine_eq]
        decide
      refine wpAny_binaryOp_repeat_ref (T := "tuple") (U := "int") (by decide) ⟨_, ho, rfl⟩ (fun s' => typeIs_int s' k t) noFill_tuple_mul F.fills_int_mul F.slot_int_rmul repeat_tuple F.slot_int_index.lookup
        (call_meets F.slot_int_rmul (typeIs_int s k t) F.entry_int_rmul (F.args_int_rmul_2 _ _) (int_rmul_tuple k t l its.toArray n dd sl)
          ⟨ho, rfl, ⟨_, ho, rfl⟩, call_meets F.slot_tuple_mul ⟨_, ho, rfl⟩ F.entry_tuple_mul (F.args_tuple_mul_2 _ _) (tuple_mulW l its.toArray n dd sl k t c0 c1 c2 (by omega) c4 (by rw [size_rep, List.size_toArray]; exact flen)) ⟨ho, ?_⟩⟩)
      rw [size_rep]
      exact ⟨.ref _, _, inv_tnew (t' := s.toks) I (r.rep k.toNat) (by rw [PyProof.Rows.lm_len_rep_flat, Nat.mul_comm]; exact hz), rfl, q2 hne hk _ I.fresh⟩
end
end MI

namespace MI
open PySem PySem.Spec PyProof.Rows L2
section
variable {X : Cx}
def rA (K : PySem.W.Frag) (g : Gh) (op : Operator) : R2 := fun x y H Q => ∃ kp F env σ d1 d2 rd, Rel K g kp F env σ H ∧ Ov K F H d1 x ∧ Ov K F H d2 y ∧ arith op d1 d2 = some rd ∧ Fin K g kp F env σ rd Q
theorem rp_int {K : PySem.W.Frag} {F : Hp} {i : Int} : Rp K F (.int i) (.int i) := by unfold Rp; rfl
theorem rp_str {K : PySem.W.Frag} {F : Hp} {i : Str} : Rp K F (.str i) (.str i) := by unfold Rp; rfl
theorem rp_bl {K : PySem.W.Frag} {F : Hp} {i : Bool} : Rp K F (.bl i) (.bl i) := by unfold Rp; rfl
theorem rp_non {K : PySem.W.Frag} {F : Hp} : Rp K F .non .non := by unfold Rp; rfl
theorem ov_int {K : PySem.W.Frag} {F H : Hp} {i : Int} {v : V} (h : Ov K F H (.int i) v) : v = .int i := by
  have h : Rp K F (.int i) v := h
  unfold Rp at h
  exact h
theorem ov_str {K : PySem.W.Frag} {F H : Hp} {i : Str} {v : V} (h : Ov K F H (.str i) v) : v = .str i := by
  have h : Rp K F (.str i) v := h
  unfold Rp at h
  exact h
theorem ov_bl {K : PySem.W.Frag} {F H : Hp} {i : Bool} {v : V} (h : Ov K F H (.bl i) v) : v = .bl i := by
  have h : Rp K F (.bl i) v := h
  unfold Rp at h
  exact h
theorem ov_non {K : PySem.W.Frag} {F H : Hp} {v : V} (h : Ov K F H .non v) : v = .non := by
  have h : Rp K F .non v := h
  unfold Rp at h
  exact h
theorem rp_tup {K : PySem.W.Frag} {F : Hp} {a : Addr} {ds : List D} {vs : List V} (h : F a = some (.tup vs)) (r : RpL K F ds vs) : Rp K F (.tup ds) (.ref a) := by
  unfold Rp
  exact ⟨a, vs, rfl, h, r⟩
theorem op_A {g : Gh} {op : Operator} : OpR X (binaryOp op) (rA X.K g op) := by
  intro pins s σ' H x y v u Q I rx ry h
  obtain ⟨kp, F, env, σ, d1, d2, rd, R, o1, o2, e, q⟩ := h
  unfold arith at e
  split at e
  · cases e
    rw [ov_int o1] at rx; rw [ov_int o2] at ry
    exact op_add pins s σ' H _ _ v u Q I rx ry ⟨_, _, rfl, rfl, q.old R rp_int⟩
  · cases e
    rw [ov_int o1] at rx; rw [ov_int o2] at ry
    exact op_sub pins s σ' H _ _ v u Q I rx ry ⟨_, _, rfl, rfl, q.old R rp_int⟩
  · rename_i i j
    split at e
    · rename_i hc
      cases e
      rw [ov_int o1] at rx; rw [ov_int o2] at ry
      refine op_mul pins s σ' H _ _ v u Q I rx ry ⟨_, _, rfl, rfl, ?_, q.old R rp_int⟩
      unfold mulOk at hc
      simp only [lk_eq, Bool.or_eq_true, Bool.and_eq_true, decide_eq_true_eq] at hc
      exact hc
    · cases e
  · rename_i i j
    split at e
    · rename_i hc
      cases e
      rw [ov_int o1] at rx; rw [ov_int o2] at ry
      refine op_fdiv pins s σ' H _ _ v u Q I rx ry ⟨_, _, rfl, rfl, ?_, q.old R rp_int⟩
      simp only [lk_eq, Bool.and_eq_true, decide_eq_true_eq] at hc
      exact hc
    · cases e
  · split at e
    · rename_i hc
      cases e
      rw [ov_int o1] at rx; rw [ov_int o2] at ry
      exact op_mod pins s σ' H _ _ v u Q I rx ry ⟨_, _, rfl, rfl, of_decide_eq_true (by rw [lk_eq] at hc; exact hc), q.old R rp_int⟩
    · cases e
  · split at e
    · rename_i hc
      cases e
      rw [ov_int o1] at rx; rw [ov_int o2] at ry
      simp only [lk_eq, Bool.and_eq_true, decide_eq_true_eq] at hc
      exact op_pow pins s σ' H _ _ v u Q I rx ry ⟨_, _, rfl, rfl, ⟨hc.1.1, hc.1.2, hc.2⟩, q.old R rp_int⟩
    · cases e
  · split at e
    · rename_i hc
      cases e
      rw [ov_str o1] at rx; rw [ov_str o2] at ry
      exact op_add_str pins s σ' H _ _ v u Q I rx ry ⟨_, _, rfl, rfl, szOk_le hc, q.old R rp_str⟩
    · cases e
  · split at e
    · rename_i hc
      cases e
      obtain ⟨a, vs, rfl, h1, r1⟩ := o1
      obtain ⟨b, ws, rfl, h2, r2⟩ := o2
      refine op_cat pins s σ' H _ _ v u Q I rx ry ⟨a, b, vs, ws, rfl, rfl, h1, h2, ?_, q.newL R (r1.append r2)⟩
      rw [← r1.len, ← r2.len]
      exact szOk_le hc
    · cases e
  · split at e
    · rename_i xs ys hc
      cases e
      obtain ⟨a, vs, rfl, f1, h1, r1⟩ := o1
      obtain ⟨b, ws, rfl, f2, h2, r2⟩ := o2
      refine op_catA pins s σ' H _ _ v u Q I rx ry ⟨a, b, vs, ws, rfl, rfl, sqT_of h1, sqT_of h2, ?_, fun e0 => ?_, fun _ e0 => ?_, fun _ _ => q.newT R (r1.append r2)⟩
      · rw [← r1.len, ← r2.len]
        exact szOk_le hc
      · have e1 := nil_of_len r1 e0
        subst e1
        exact q.old R (rp_tup f2 r2)
      · have e1 := nil_of_len r2 e0
        subst e1
        refine q.old R (rp_tup f1 ?_)
        rw [List.append_nil]
        exact r1
    · cases e
  · split at e
    · rename_i hc
      cases e
      obtain ⟨a, vs, rfl, h1, r1⟩ := o1
      rw [ov_int o2] at ry
      simp only [lk_eq, Bool.and_eq_true, decide_eq_true_eq] at hc
      refine op_rep pins s σ' H _ _ v u Q I rx ry ⟨a, _, vs, rfl, rfl, h1, hc.1.1, hc.1.2, ?_, q.newL R (r1.rep _)⟩
      rw [← r1.len]
      exact szOk_le hc.2
    · cases e
  · split at e
    · rename_i k hc
      cases e
      obtain ⟨a, vs, rfl, f1, h1, r1⟩ := o1
      rw [ov_int o2] at ry
      simp only [lk_eq, Bool.and_eq_true, decide_eq_true_eq] at hc
      refine op_repTA pins s σ' H _ _ v u Q I rx ry ⟨a, _, vs, rfl, rfl, sqT_of h1, hc.1.1, hc.1.2, ?_, fun e0 => ?_, fun _ _ => q.newT R (r1.rep _)⟩
      · rw [← r1.len]
        exact szOk_le hc.2
      · refine q.old R (rp_tup f1 ?_)
        rcases e0 with e0 | e0
        · have e1 := nil_of_len r1 e0
          subst e1
          have z : ∀ n : Nat, (List.replicate n ([] : List D)).flatten = [] := fun n => by
            induction n with
            | zero => rfl
            | succ n ih => rw [List.replicate_succ, List.flatten_cons, ih]; rfl
          rw [z]
          exact r1
        · subst e0
          show RpL X.K F (List.replicate 1 _).flatten vs
          rw [show List.replicate 1 _ = [_] from rfl, List.flatten_cons, List.flatten_nil, List.append_nil]
          exact r1
    · cases e
  · cases e
end
end MI

namespace MI
open PySem PySem.Spec PyProof.Rows L2
/-! ### data -/
mutual
theorem flat_lay : ∀ (d : D) (n : Nat), flatD n d = true → (pyOf d).canLay0 = true ∧ (pyOf d).depth ≤ n ∧ (pyOf d).hasDict = false
  | .non, n, _ => by simp [pyOf, PyData.canLay0, PyData.depth, PyData.hasDict]
  | .bl _, n, _ => by simp [pyOf, PyData.canLay0, PyData.depth, PyData.hasDict]
  | .int _, n, _ => by simp [pyOf, PyData.canLay0, PyData.depth, PyData.hasDict]
  | .str x, n, h => by
    have h : PyData.strOk x = true := by cases n <;> exact h
    simp [pyOf, PyData.canLay0, PyData.depth, PyData.hasDict, h]
  | .tup xs, 0, h => by simp [flatD] at h
  | .lst xs, 0, h => by simp [flatD] at h
  | .scr xs, 0, h => by simp [flatD] at h
  | .scr xs, n + 1, h => by simp [flatD] at h
  | .dk _ _, n, h => by cases n <;> simp [flatD] at h
  | .dt _ _, n, h => by cases n <;> simp [flatD] at h
  | .ins _ _ _, n, h => by cases n <;> simp [flatD] at h
  | .tup xs, n + 1, h => by
    obtain ⟨a, b, c⟩ := flat_lays xs n (by simpa [flatD] using h)
    simp only [pyOf, PyData.canLay0, PyData.depth, PyData.hasDict]
    exact ⟨a, by omega, c⟩
  | .lst xs, n + 1, h => by
    obtain ⟨a, b, c⟩ := flat_lays xs n (by simpa [flatD] using h)
    simp only [pyOf, PyData.canLay0, PyData.depth, PyData.hasDict]
    exact ⟨a, by omega, c⟩
theorem flat_lays : ∀ (ds : List D) (n : Nat), flatDs n ds = true → PyData.canLayAll0 (pyOfs ds) = true ∧ PyData.depthAll (pyOfs ds) ≤ n ∧ PyData.hasDictAll (pyOfs ds) = false
  | [], n, _ => by simp [pyOfs, PyData.canLayAll0, PyData.depthAll, PyData.hasDictAll]
  | d :: ds, n, h => by
    simp only [flatDs, Bool.and_eq_true] at h
    obtain ⟨a, b, c⟩ := flat_lay d n h.1
    obtain ⟨a', b', c'⟩ := flat_lays ds n h.2
    simp only [pyOfs, PyData.canLayAll0, PyData.depthAll, PyData.hasDictAll, a, a', c, c']
    exact ⟨rfl, by omega, rfl⟩
end
mutual
theorem eqv_eqD : ∀ (a b : D) (n m : Nat), flatD n a = true → flatD m b = true → PyData.eqv (pyOf a) (pyOf b) = eqD a b
  | .non, b, n, m, _, h => by cases b <;> simp [pyOf, PyData.eqv, eqD] <;> cases m <;> simp [flatD] at h
  | .bl x, b, n, m, _, h => by
    cases b <;> simp [pyOf, PyData.eqv, eqD] <;> first | (cases m <;> simp [flatD] at h) | exact Bool.beq_eq_decide_eq _ _ | skip
    all_goals rfl
  | .int x, b, n, m, _, h => by
    cases b <;> simp [pyOf, PyData.eqv, eqD] <;> first | (cases m <;> simp [flatD] at h) | exact Int.beq_eq_decide_eq _ _ | skip
    all_goals rfl
  | .str x, b, n, m, _, h => by
    cases b <;> simp [pyOf, PyData.eqv, eqD] <;> first | (cases m <;> simp [flatD] at h) | skip
    all_goals first | rfl | exact beq_eq_decide _ _
  | .tup xs, b, n, m, h0, h => by
    cases b with
    | tup ys =>
      cases n with
      | zero => simp [flatD] at h0
      | succ n =>
        cases m with
        | zero => simp [flatD] at h
        | succ m =>
          simp only [pyOf, PyData.eqv, eqD]
          exact eqv_eqDs xs ys n m (by simpa [flatD] using h0) (by simpa [flatD] using h)
    | scr ys => cases m <;> simp [flatD] at h
    | dk _ _ => cases m <;> simp [flatD] at h
    | dt _ _ => cases m <;> simp [flatD] at h
    | ins _ _ _ => cases m <;> simp [flatD] at h
    | _ => simp [pyOf, PyData.eqv, eqD]
  | .lst xs, b, n, m, h0, h => by
    cases b with
    | lst ys =>
      cases n with
      | zero => simp [flatD] at h0
      | succ n =>
        cases m with
        | zero => simp [flatD] at h
        | succ m =>
          simp only [pyOf, PyData.eqv, eqD]
          exact eqv_eqDs xs ys n m (by simpa [flatD] using h0) (by simpa [flatD] using h)
    | scr ys => cases m <;> simp [flatD] at h
    | dk _ _ => cases m <;> simp [flatD] at h
    | dt _ _ => cases m <;> simp [flatD] at h
    | ins _ _ _ => cases m <;> simp [flatD] at h
    | _ => simp [pyOf, PyData.eqv, eqD]
  | .scr xs, b, n, m, h, _ => by cases n <;> simp [flatD] at h
  | .dk _ _, b, n, m, h, _ => by cases n <;> simp [flatD] at h
  | .dt _ _, b, n, m, h, _ => by cases n <;> simp [flatD] at h
  | .ins _ _ _, b, n, m, h, _ => by cases n <;> simp [flatD] at h
theorem eqv_eqDs : ∀ (a b : List D) (n m : Nat), flatDs n a = true → flatDs m b = true → PyData.eqvAll (pyOfs a) (pyOfs b) = eqDs a b
  | [], [], n, m, _, _ => by simp [pyOfs, PyData.eqvAll, eqDs]
  | [], _ :: _, n, m, _, _ => by simp [pyOfs, PyData.eqvAll, eqDs]
  | _ :: _, [], n, m, _, _ => by simp [pyOfs, PyData.eqvAll, eqDs]
  | x :: xs, y :: ys, n, m, h, h' => by
    simp only [flatDs, Bool.and_eq_true] at h h'
    simp only [pyOfs, PyData.eqvAll, eqDs]
    rw [eqv_eqD x y n m h.1 h'.1, eqv_eqDs xs ys n m h.2 h'.2]
end
mutual
theorem rp_dp {K : PySem.W.Frag} {F H : Hp} (e : Same F H) : ∀ (d : D) (v : V) (n : Nat), flatD n d = true → Rp K F d v → Dp K H v (pyOf d)
  | .non, v, n, _, h => by unfold Rp at h; subst h; exact .non
  | .bl b, v, n, _, h => by unfold Rp at h; subst h; exact .bl b
  | .int i, v, n, _, h => by unfold Rp at h; subst h; exact .int i
  | .str x, v, n, _, h => by unfold Rp at h; subst h; exact .str x
  | .tup ds, v, 0, hf, h => by simp [flatD] at hf
  | .lst ds, v, 0, hf, h => by simp [flatD] at hf
  | .scr ds, v, 0, hf, h => by simp [flatD] at hf
  | .scr ds, v, n + 1, hf, h => by simp [flatD] at hf
  | .dk _ _, v, n, hf, h => by cases n <;> simp [flatD] at hf
  | .dt _ _, v, n, hf, h => by cases n <;> simp [flatD] at hf
  | .ins _ _ _, v, n, hf, h => by cases n <;> simp [flatD] at hf
  | .tup ds, v, n + 1, hf, h => by
    unfold Rp at h
    obtain ⟨a, vs, rfl, h2, h3⟩ := h
    exact .tup (sqT_of (e _ _ h2)) (rp_dps e ds vs n (by simpa [flatD] using hf) h3)
  | .lst ds, v, n + 1, hf, h => by
    unfold Rp at h
    obtain ⟨a, vs, rfl, h2, h3⟩ := h
    exact .lst (sqL_of (e _ _ h2)) (rp_dps e ds vs n (by simpa [flatD] using hf) h3)
theorem rp_dps {K : PySem.W.Frag} {F H : Hp} (e : Same F H) : ∀ (ds : List D) (vs : List V) (n : Nat), flatDs n ds = true → RpL K F ds vs → DpAll K H vs (pyOfs ds)
  | [], vs, n, _, h => by rw [h.nil_inv]; exact .nil
  | d :: ds, vs, n, hf, h => by
    obtain ⟨w, vs', rfl, h2, h3⟩ := h.cons_inv
    simp only [flatDs, Bool.and_eq_true] at hf
    exact .cons (rp_dp e d w n hf.1 h2) (rp_dps e ds vs' n hf.2 h3)
end
theorem ov_dp {K : PySem.W.Frag} {F H : Hp} (e : Same F H) {d : D} {v : V} {n : Nat} (hf : flatD n d = true) (h : Ov K F H d v) : Dp K H v (pyOf d) := by
  cases d with
  | lst ds =>
    obtain ⟨a, vs, rfl, h2, h3⟩ := h
    cases n with
    | zero => simp [flatD] at hf
    | succ n => exact .lst (sqL_of h2) (rp_dps e ds vs n (by simpa [flatD] using hf) h3)
  | tup ds =>
    obtain ⟨a, vs, rfl, h1, h2, h3⟩ := h
    cases n with
    | zero => simp [flatD] at hf
    | succ n => exact .tup (sqT_of h2) (rp_dps e ds vs n (by simpa [flatD] using hf) h3)
  | scr ds => cases n <;> simp [flatD] at hf
  | dk _ _ => cases n <;> simp [flatD] at hf
  | dt _ _ => cases n <;> simp [flatD] at hf
  | ins _ _ _ => cases n <;> simp [flatD] at hf
  | non => exact rp_dp e _ v n hf h
  | bl b => exact rp_dp e _ v n hf h
  | int i => exact rp_dp e _ v n hf h
  | str x => exact rp_dp e _ v n hf h
theorem shaped_of {d : D} (h : dataOk d = true) : SeqAt.shaped (pyOf d) = true := by
  obtain ⟨a, b, _⟩ := flat_lay d 40 h
  unfold SeqAt.shaped
  rw [a, decide_eq_true (by omega)]
  rfl
end MI

namespace MI
open PySem PySem.Spec PyProof.Rows L2
/-! ### dicts -/
section
variable {κ : Type} [DecidableEq κ] {K : PySem.W.Frag} {F : Hp}
theorem get_val {x : κ} : ∀ {ks : List κ} {ds : List D} {vs : List V}, ks.length = ds.length → RpL K F ds vs → (getD? ks ds x = none ∧ valV (ks.zip vs) x = none) ∨ ∃ d v, getD? ks ds x = some d ∧ valV (ks.zip vs) x = some v ∧ Rp K F d v
  | [], ds, vs, hl, h => .inl ⟨by cases ds <;> rfl, rfl⟩
  | k :: ks, [], vs, hl, h => by simp at hl
  | k :: ks, d :: ds, vs, hl, h => by
    obtain ⟨v, vs', rfl, h2, h3⟩ := h.cons_inv
    rw [List.zip_cons_cons]
    unfold getD?
    by_cases e : k = x
    · rw [if_pos e, valV_pos e]
      exact .inr ⟨d, v, rfl, rfl, h2⟩
    · rw [if_neg e, valV_neg e]
      exact get_val (by simpa using hl) h3
theorem get_isSome {x : κ} {ks : List κ} {ds : List D} {vs : List V} (hl : ks.length = ds.length) (h : RpL K F ds vs) : (valV (ks.zip vs) x).isSome = (getD? ks ds x).isSome := by
  rcases get_val (x := x) hl h with ⟨a, b⟩ | ⟨d, v, a, b, _⟩ <;> rw [a, b] <;> rfl
theorem any_zip {x : κ} : ∀ {ks : List κ} {vs : List V}, ks.length = vs.length → ((ks.zip vs).any fun kv => decide (kv.1 = x)) = decide (x ∈ ks)
  | [], vs, _ => by simp
  | k :: ks, [], h => by simp at h
  | k :: ks, v :: vs, h => by
    rw [List.zip_cons_cons, List.any_cons, any_zip (by simpa using h)]
    by_cases e : k = x
    · simp [e]
    · simp [e, Ne.symm e]
theorem map_zip {x : κ} {w : V} {d : D} (r : Rp K F d w) : ∀ {ks : List κ} {ds : List D} {vs : List V}, ks.length = ds.length → RpL K F ds vs → ∃ vs', (ks.zip vs).map (fun kv => if kv.1 = x then (kv.1, w) else kv) = ks.zip vs' ∧ ks.length = (repD ks ds x d).length ∧ RpL K F (repD ks ds x d) vs'
  | [], ds, vs, hl, h => ⟨[], rfl, by simp [repD], by simp [repD]; exact .nil⟩
  | k :: ks, [], vs, hl, h => by simp at hl
  | k :: ks, e :: ds, vs, hl, h => by
    obtain ⟨v, vs', rfl, h2, h3⟩ := h.cons_inv
    obtain ⟨us, e1, e2, e3⟩ := map_zip (x := x) r (ks := ks) (by simpa using hl) h3
    refine ⟨(if k = x then w else v) :: us, ?_, by simp [repD, e2], ?_⟩
    · rw [List.zip_cons_cons, List.map_cons, e1, List.zip_cons_cons]
      by_cases q : k = x <;> simp [q]
    · unfold repD
      by_cases q : k = x
      · rw [if_pos q, if_pos q]
        exact .cons r e3
      · rw [if_neg q, if_neg q]
        exact .cons h2 e3
theorem put_zip {x : κ} {w : V} {d : D} (r : Rp K F d w) {ks : List κ} {ds : List D} {vs : List V} (hl : ks.length = ds.length) (h : RpL K F ds vs) : ∃ vs', putK (ks.zip vs) x w = (putD ks ds x d).1.zip vs' ∧ (putD ks ds x d).1.length = (putD ks ds x d).2.length ∧ RpL K F (putD ks ds x d).2 vs' := by
  unfold putK putD
  rw [any_zip (by rw [hl, h.len])]
  by_cases q : x ∈ ks
  · rw [if_pos (decide_eq_true q), if_pos q]
    exact map_zip r hl h
  · rw [if_neg (by simpa using q), if_neg q]
    refine ⟨vs ++ [w], ?_, by simp [hl], h.append (.one r)⟩
    rw [List.zip_append (by rw [hl, h.len])]
    rfl
theorem keyD_v {H : Hp} {d : D} {v : V} {k : Key} (h : Ov K F H d v) (e : keyD d = some k) : v = kV k := by
  cases d <;> first | cases e | skip
  · exact ov_int h
  · exact ov_str h
theorem keyD_rp {d : D} {v : V} {k : Key} (h : Rp K F d v) (e : keyD d = some k) : v = kV k := by
  cases d <;> first | cases e | skip
  · unfold Rp at h; exact h
  · unfold Rp at h; exact h
theorem keysD_v : ∀ {ds : List D} {vs : List V} {k : List Key}, RpL K F ds vs → keysD ds = some k → vs = k.map kV
  | [], vs, k, h, e => by
    cases e
    rw [h.nil_inv]
    rfl
  | d :: ds, vs, k, h, e => by
    obtain ⟨v, vs', rfl, h2, h3⟩ := h.cons_inv
    unfold keysD at e
    obtain ⟨x, hx, e⟩ := Option.bind_eq_some_iff.mp e
    obtain ⟨y, hy, e⟩ := Option.map_eq_some_iff.mp e
    subst e
    rw [keyD_rp h2 hx, keysD_v h3 hy]
    rfl
end
theorem dget_k {K : PySem.W.Frag} {F H : Hp} {ks : List Key} {vs : List D} {d : D} {x y : V} {o : Option D} (o1 : Ov K F H (.dk ks vs) x) (o2 : Ov K F H d y) (h : lookD (.dk ks vs) d = some o) : ∃ a r, x = .ref a ∧ DGet H a y r ∧ ((o = none ∧ r = none) ∨ ∃ z w, o = some z ∧ r = some w ∧ Rp K F z w) := by
  obtain ⟨a, ho, rfl, ha, us, rfl, hl, r⟩ := o1
  unfold lookD at h
  obtain ⟨k, hk, e⟩ := Option.map_eq_some_iff.mp h
  rw [keyD_v o2 hk]
  refine ⟨a, _, rfl, DGet.k ha, ?_⟩
  rcases get_val (x := k) hl r with ⟨x1, x2⟩ | ⟨z, w, x1, x2, x3⟩
  · exact .inl ⟨by rw [← e, x1], x2⟩
  · exact .inr ⟨z, w, by rw [← e, x1], x2, x3⟩
theorem dget_t {K : PySem.W.Frag} {F H : Hp} {ks : List (List Key)} {vs : List D} {d : D} {x y : V} {o : Option D} (o1 : Ov K F H (.dt ks vs) x) (o2 : Ov K F H d y) (h : lookD (.dt ks vs) d = some o) : ∃ a r, x = .ref a ∧ DGet H a y r ∧ ((o = none ∧ r = none) ∨ ∃ z w, o = some z ∧ r = some w ∧ Rp K F z w) := by
  obtain ⟨a, ho, rfl, ha, us, rfl, hl, r⟩ := o1
  cases d <;> first | (unfold lookD at h; cases h; done) | skip
  unfold lookD at h
  obtain ⟨k, hk, e⟩ := Option.map_eq_some_iff.mp h
  obtain ⟨b, ws, rfl, _, hb, rw'⟩ := o2
  rw [keysD_v rw' hk] at hb
  refine ⟨a, _, rfl, DGet.t ha hb, ?_⟩
  rcases get_val (x := k) hl r with ⟨x1, x2⟩ | ⟨z, w, x1, x2, x3⟩
  · exact .inl ⟨by rw [← e, x1], x2⟩
  · exact .inr ⟨z, w, by rw [← e, x1], x2, x3⟩
theorem dget_any {K : PySem.W.Frag} {F H : Hp} {a d : D} {x y : V} {o : Option D} (o1 : Ov K F H a x) (o2 : Ov K F H d y) (h : lookD a d = some o) : ∃ a r, x = .ref a ∧ DGet H a y r ∧ ((o = none ∧ r = none) ∨ ∃ z w, o = some z ∧ r = some w ∧ Rp K F z w) := by
  cases a <;> first | (unfold lookD at h; cases h; done) | exact dget_k o1 o2 h | exact dget_t o1 o2 h
theorem beqd {α : Type} [BEq α] [LawfulBEq α] [DecidableEq α] (a b : α) : (a == b) = decide (a = b) := by
  by_cases h : a = b <;> simp [h]
theorem scal_flat {K : PySem.W.Frag} {F : Hp} {d : D} {v : V} (hs : isScal d = true) (h : Rp K F d v) : flatV v = true := by
  cases d <;> first | exact Bool.noConfusion (show false = true from hs) | (unfold Rp at h; subst h; rfl)
theorem scals_flat {K : PySem.W.Frag} {F : Hp} : ∀ {ds : List D} {vs : List V}, ds.all isScal = true → RpL K F ds vs → vs.all flatV = true
  | [], vs, _, h => by rw [h.nil_inv]; rfl
  | d :: ds, vs, hs, h => by
    obtain ⟨w, vs', rfl, h2, h3⟩ := h.cons_inv
    simp only [List.all_cons, Bool.and_eq_true] at hs ⊢
    exact ⟨scal_flat hs.1 h2, scals_flat hs.2 h3⟩
theorem scal_eq {K : PySem.W.Frag} {F : Hp} {d e : D} {v w : V} (h1 : isScal d = true) (h2 : isScal e = true) (r1 : Rp K F d v) (r2 : Rp K F e w) : eqV v w = eqD d e := by
  cases d <;> first
    | exact Bool.noConfusion (show false = true from h1)
    | (cases e <;> first
        | exact Bool.noConfusion (show false = true from h2)
        | (unfold Rp at r1 r2
           subst r1
           subst r2
           first | rfl | exact beqd (α := Int) _ _ | exact beqd (α := Str) _ _))
theorem scals_any {K : PySem.W.Frag} {F : Hp} {d : D} {v : V} (h1 : isScal d = true) (r : Rp K F d v) : ∀ {ds : List D} {vs : List V}, ds.all isScal = true → RpL K F ds vs → inV v vs = ds.any fun y => eqD y d
  | [], vs, _, h => by rw [h.nil_inv]; rfl
  | x :: ds, vs, hs, h => by
    obtain ⟨w, vs', rfl, h2, h3⟩ := h.cons_inv
    simp only [List.all_cons, Bool.and_eq_true] at hs
    have ih := scals_any h1 r hs.2 h3
    unfold inV at ih ⊢
    rw [List.any_cons, List.any_cons, ih, scal_eq hs.1 h1 h2 r]
theorem ov_scal {K : PySem.W.Frag} {F H : Hp} {d : D} {v : V} (hs : isScal d = true) (h : Ov K F H d v) : Rp K F d v := by
  cases d <;> first | exact Bool.noConfusion (show false = true from hs) | exact h
theorem any_eqv {d : D} {n m : Nat} (hd : flatD n d = true) : ∀ {xs : List D}, flatDs m xs = true → ((pyOfs xs).any fun y => PyData.eqv y (pyOf d)) = xs.any fun y => eqD y d
  | [], _ => rfl
  | x :: xs, h => by
    simp only [flatDs, Bool.and_eq_true] at h
    simp only [pyOfs, List.any_cons, eqv_eqD x d m n h.1 hd, any_eqv hd h.2]
section
variable {X : Cx}
def rC (K : PySem.W.Frag) (op : CmpOp) : R2 := fun x y H Q => ∃ F d1 d2 b, Same F H ∧ Ov K F H d1 x ∧ Ov K F H d2 y ∧ cmpD op d1 d2 = some b ∧ Q (.bl b) H
theorem dec_v {α : Type} [DecidableEq α] {f : α → V} (hf : ∀ a b, f a = f b → a = b) (i j : α) : decide (f i = f j) = decide (i = j) := by
  by_cases e : i = j
  · subst e
    simp
  · rw [decide_eq_false e, decide_eq_false fun z => e (hf _ _ z)]
theorem op_C {op : CmpOp} (hu0 : X.A.units + 128 < cLine) : OpR X (compareOp op) (rC X.K op) := by
  intro pins s σ' H x y v u Q I rx ry h
  obtain ⟨F, d1, d2, b, hF, o1, o2, e, q⟩ := h
  have hu : X.A.units + 64 < cLine := by omega
  have hu1 : X.A.units + 1 < cLine := by omega
  have hu65 : X.A.units + 65 < cLine := by omega
  unfold cmpD at e
  split at e
  · rename_i i j
    cases e
    rw [ov_int o1] at rx; rw [ov_int o2] at ry
    refine op_eq pins s σ' H _ _ v u Q I rx ry ⟨rfl, ?_⟩
    rw [dec_v (f := V.int) (fun _ _ z => V.int.inj z)]
    exact q
  · cases e
    rw [ov_int o1] at rx; rw [ov_int o2] at ry
    refine op_ne pins s σ' H _ _ v u Q I rx ry ⟨rfl, ?_⟩
    rw [dec_v (f := V.int) (fun _ _ z => V.int.inj z)]
    exact q
  · cases e
    rw [ov_str o1] at rx; rw [ov_str o2] at ry
    refine op_eq pins s σ' H _ _ v u Q I rx ry ⟨rfl, ?_⟩
    rw [dec_v (f := V.str) (fun _ _ z => V.str.inj z)]
    exact q
  · cases e
    rw [ov_str o1] at rx; rw [ov_str o2] at ry
    refine op_ne pins s σ' H _ _ v u Q I rx ry ⟨rfl, ?_⟩
    rw [dec_v (f := V.str) (fun _ _ z => V.str.inj z)]
    exact q
  · split at e
    · rename_i hc
      cases e
      simp only [Bool.and_eq_true] at hc
      refine op_eqD hu pins s σ' H _ _ v u Q I rx ry ⟨_, _, ov_dp hF hc.1 o1, ov_dp hF hc.2 o2, shaped_of hc.1, shaped_of hc.2, ?_⟩
      rw [eqv_eqD _ _ 40 40 hc.1 hc.2]
      exact q
    · cases e
  · split at e
    · rename_i hc
      cases e
      simp only [Bool.and_eq_true] at hc
      refine op_neD hu pins s σ' H _ _ v u Q I rx ry ⟨_, _, ov_dp hF hc.1 o1, ov_dp hF hc.2 o2, shaped_of hc.1, shaped_of hc.2, ?_⟩
      rw [eqv_eqD _ _ 40 40 hc.1 hc.2]
      exact q
    · cases e
  · cases e
    rw [ov_int o1] at rx; rw [ov_int o2] at ry
    exact op_lt pins s σ' H _ _ v u Q I rx ry ⟨_, _, rfl, rfl, q⟩
  · cases e
    rw [ov_int o1] at rx; rw [ov_int o2] at ry
    exact op_le pins s σ' H _ _ v u Q I rx ry ⟨_, _, rfl, rfl, q⟩
  · cases e
    rw [ov_int o1] at rx; rw [ov_int o2] at ry
    exact op_gt pins s σ' H _ _ v u Q I rx ry ⟨_, _, rfl, rfl, q⟩
  · cases e
    rw [ov_int o1] at rx; rw [ov_int o2] at ry
    exact op_ge pins s σ' H _ _ v u Q I rx ry ⟨_, _, rfl, rfl, q⟩
  · have z : b = decide (x = V.non) := by
      cases d1 with
      | non => cases e; rw [ov_non o1]; rfl
      | bl c => cases e; rw [ov_bl o1]; rfl
      | int c => cases e; rw [ov_int o1]; rfl
      | str c => cases e; rw [ov_str o1]; rfl
      | tup c => cases e; obtain ⟨a, vs, rfl, _⟩ := o1; rfl
      | lst c => cases e; obtain ⟨a, vs, rfl, _⟩ := o1; rfl
      | scr c => cases e; obtain ⟨a, rfl, _⟩ := o1; rfl
      | dk c c' => cases e; obtain ⟨a, _, rfl, _⟩ := o1; rfl
      | dt c c' => cases e; obtain ⟨a, _, rfl, _⟩ := o1; rfl
      | ins c c' c'' => cases e; obtain ⟨a, _, rfl, _⟩ := o1; rfl
    subst z
    exact op_isN pins s σ' H _ _ v u Q I rx ry ⟨ov_non o2, q⟩
  · have z : b = !decide (x = V.non) := by
      cases d1 with
      | non => cases e; rw [ov_non o1]; rfl
      | bl c => cases e; rw [ov_bl o1]; rfl
      | int c => cases e; rw [ov_int o1]; rfl
      | str c => cases e; rw [ov_str o1]; rfl
      | tup c => cases e; obtain ⟨a, vs, rfl, _⟩ := o1; rfl
      | lst c => cases e; obtain ⟨a, vs, rfl, _⟩ := o1; rfl
      | scr c => cases e; obtain ⟨a, rfl, _⟩ := o1; rfl
      | dk c c' => cases e; obtain ⟨a, _, rfl, _⟩ := o1; rfl
      | dt c c' => cases e; obtain ⟨a, _, rfl, _⟩ := o1; rfl
      | ins c c' c'' => cases e; obtain ⟨a, _, rfl, _⟩ := o1; rfl
    subst z
    exact op_notN pins s σ' H _ _ v u Q I rx ry ⟨ov_non o2, q⟩
  · obtain ⟨o, ho, e⟩ := Option.map_eq_some_iff.mp e
    subst e
    obtain ⟨a, r, rfl, g, c⟩ := dget_any o2 o1 ho
    cases ry
    refine d_in hu1 I g rx fun s' I' => ⟨.bl r.isSome, H, I', rfl, ?_⟩
    rcases c with ⟨rfl, rfl⟩ | ⟨z, w, rfl, rfl, _⟩ <;> exact q
  · obtain ⟨o, ho, e⟩ := Option.map_eq_some_iff.mp e
    subst e
    obtain ⟨a, r, rfl, g, c⟩ := dget_any o2 o1 ho
    cases ry
    refine d_in hu1 I g rx fun s' I' => ⟨.bl r.isSome, H, I', rfl, ?_⟩
    rcases c with ⟨rfl, rfl⟩ | ⟨z, w, rfl, rfl, _⟩ <;> exact q
  · obtain ⟨o, ho, e⟩ := Option.map_eq_some_iff.mp e
    subst e
    obtain ⟨a, r, rfl, g, c⟩ := dget_any o2 o1 ho
    cases ry
    refine d_notIn hu1 I g rx fun s' I' => ⟨.bl (!r.isSome), H, I', rfl, ?_⟩
    rcases c with ⟨rfl, rfl⟩ | ⟨z, w, rfl, rfl, _⟩ <;> exact q
  · obtain ⟨o, ho, e⟩ := Option.map_eq_some_iff.mp e
    subst e
    obtain ⟨a, r, rfl, g, c⟩ := dget_any o2 o1 ho
    cases ry
    refine d_notIn hu1 I g rx fun s' I' => ⟨.bl (!r.isSome), H, I', rfl, ?_⟩
    rcases c with ⟨rfl, rfl⟩ | ⟨z, w, rfl, rfl, _⟩ <;> exact q
  · split at e
    · rename_i hc
      cases e
      simp only [Bool.and_eq_true] at hc
      obtain ⟨a, vs, rfl, h2, r2⟩ := o2
      have r1 := ov_scal hc.1 o1
      refine op_in_seq pins s σ' H _ _ v u Q I rx ry ⟨a, vs, rfl, .inl (sqL_of h2), scal_flat hc.1 r1, scals_flat hc.2 r2, ?_⟩
      rw [scals_any hc.1 r1 hc.2 r2]
      exact q
    · split at e
      · rename_i xs _ hc
        cases e
        simp only [Bool.and_eq_true] at hc
        obtain ⟨a, vs, rfl, h2, r2⟩ := o2
        have dd := ov_dp hF hc.1 o1
        have de : Dp X.K H (.ref a) (.list (pyOfs xs)) := .lst (sqL_of h2) (rp_dps hF xs vs 39 hc.2 r2)
        obtain ⟨as, r3⟩ := Dp.reads I _ x v dd rx
        obtain ⟨bs, r4⟩ := Dp.reads I (.list (pyOfs xs)) _ u de ry
        obtain ⟨l1, l2, _⟩ := flat_lay _ 39 hc.1
        obtain ⟨l3, l4, _⟩ := flat_lays xs 39 hc.2
        refine SeqAt.in_list_reads r4 r3 l3 l1 (by omega) ⟨.bl _, H, I, rfl, ?_⟩
        rw [any_eqv hc.1 hc.2]
        exact q
      · cases e
  · split at e
    · rename_i hc
      cases e
      simp only [Bool.and_eq_true] at hc
      obtain ⟨a, vs, rfl, h1, h2, r2⟩ := o2
      have r1 := ov_scal hc.1 o1
      refine op_in_seq pins s σ' H _ _ v u Q I rx ry ⟨a, vs, rfl, .inr (sqT_of h2), scal_flat hc.1 r1, scals_flat hc.2 r2, ?_⟩
      rw [scals_any hc.1 r1 hc.2 r2]
      exact q
    · split at e
      · rename_i xs _ hc
        cases e
        simp only [Bool.and_eq_true] at hc
        obtain ⟨a, vs, rfl, h1, h2, r2⟩ := o2
        have dd := ov_dp hF hc.1 o1
        have de : Dp X.K H (.ref a) (.tuple (pyOfs xs)) := .tup (sqT_of h2) (rp_dps hF xs vs 39 hc.2 r2)
        obtain ⟨as, r3⟩ := Dp.reads I _ x v dd rx
        obtain ⟨bs, r4⟩ := Dp.reads I (.tuple (pyOfs xs)) _ u de ry
        obtain ⟨l1, l2, _⟩ := flat_lay _ 39 hc.1
        obtain ⟨l3, l4, _⟩ := flat_lays xs 39 hc.2
        refine SeqAt.in_tuple_reads r4 r3 l3 l1 (by omega) ⟨.bl _, H, I, rfl, ?_⟩
        rw [any_eqv hc.1 hc.2]
        exact q
      · cases e
  · split at e
    · rename_i hc
      cases e
      simp only [Bool.and_eq_true] at hc
      obtain ⟨a, vs, rfl, h2, r2⟩ := o2
      have r1 := ov_scal hc.1 o1
      refine op_notIn_seq pins s σ' H _ _ v u Q I rx ry ⟨a, vs, rfl, .inl (sqL_of h2), scal_flat hc.1 r1, scals_flat hc.2 r2, ?_⟩
      rw [scals_any hc.1 r1 hc.2 r2]
      exact q
    · split at e
      · rename_i xs _ hc
        cases e
        simp only [Bool.and_eq_true] at hc
        obtain ⟨a, vs, rfl, h2, r2⟩ := o2
        have dd := ov_dp hF hc.1 o1
        have de : Dp X.K H (.ref a) (.list (pyOfs xs)) := .lst (sqL_of h2) (rp_dps hF xs vs 39 hc.2 r2)
        obtain ⟨as, r3⟩ := Dp.reads I _ x v dd rx
        obtain ⟨bs, r4⟩ := Dp.reads I (.list (pyOfs xs)) _ u de ry
        obtain ⟨l1, l2, _⟩ := flat_lay _ 39 hc.1
        obtain ⟨l3, l4, _⟩ := flat_lays xs 39 hc.2
        refine SeqAt.notIn_list_reads r4 r3 l3 l1 (by omega) ⟨.bl _, H, I, rfl, ?_⟩
        rw [any_eqv hc.1 hc.2]
        exact q
      · cases e
  · split at e
    · rename_i hc
      cases e
      simp only [Bool.and_eq_true] at hc
      obtain ⟨a, vs, rfl, h1, h2, r2⟩ := o2
      have r1 := ov_scal hc.1 o1
      refine op_notIn_seq pins s σ' H _ _ v u Q I rx ry ⟨a, vs, rfl, .inr (sqT_of h2), scal_flat hc.1 r1, scals_flat hc.2 r2, ?_⟩
      rw [scals_any hc.1 r1 hc.2 r2]
      exact q
    · split at e
      · rename_i xs _ hc
        cases e
        simp only [Bool.and_eq_true] at hc
        obtain ⟨a, vs, rfl, h1, h2, r2⟩ := o2
        have dd := ov_dp hF hc.1 o1
        have de : Dp X.K H (.ref a) (.tuple (pyOfs xs)) := .tup (sqT_of h2) (rp_dps hF xs vs 39 hc.2 r2)
        obtain ⟨as, r3⟩ := Dp.reads I _ x v dd rx
        obtain ⟨bs, r4⟩ := Dp.reads I (.tuple (pyOfs xs)) _ u de ry
        obtain ⟨l1, l2, _⟩ := flat_lay _ 39 hc.1
        obtain ⟨l3, l4, _⟩ := flat_lays xs 39 hc.2
        refine SeqAt.notIn_tuple_reads r4 r3 l3 l1 (by omega) ⟨.bl _, H, I, rfl, ?_⟩
        rw [any_eqv hc.1 hc.2]
        exact q
      · cases e
  · rename_i a0 b0
    split at e
    · rename_i c hc
      cases e
      rw [ov_str o1] at rx; rw [ov_str o2] at ry
      have ea : a0 = ⟨#[c]⟩ := by
        cases a0 with
        | mk cps =>
          have hc : cps.toList = [c] := hc
          congr 1
          exact Array.toList_inj.mp hc
      subst ea
      exact op_in_sign pins s σ' H _ _ v u Q I rx ry ⟨c, b0, rfl, rfl, q⟩
    · cases e
  · cases e
/-! truth -/
theorem truth_v {K : PySem.W.Frag} {F H : Hp} {d : D} {v : V} {b : Bool} (h : Ov K F H d v) (e : truth d = some b) : TruV K v H b := by
  cases d with
  | non => cases e; rw [ov_non h]; rfl
  | bl c => cases e; rw [ov_bl h]; rfl
  | int c => cases e; rw [ov_int h]; rfl
  | str c =>
    have e : (if szOk c.length then some ((c.length : Int) != 0) else none) = some b := e
    split at e
    · rename_i hz
      cases e
      rw [ov_str h]
      exact ⟨szOk_le hz, rfl⟩
    · cases e
  | tup c =>
    cases e
    obtain ⟨a, vs, rfl, _, h2, r⟩ := h
    refine .inr (.inl ⟨vs, sqT_of h2, ?_⟩)
    cases c with
    | nil => rw [r.nil_inv]; rfl
    | cons x c => obtain ⟨w, vs', rfl, _⟩ := r.cons_inv; rfl
  | lst c =>
    cases e
    obtain ⟨a, vs, rfl, h2, r⟩ := h
    refine .inl ⟨vs, sqL_of h2, ?_⟩
    cases c with
    | nil => rw [r.nil_inv]; rfl
    | cons x c => obtain ⟨w, vs', rfl, _⟩ := r.cons_inv; rfl
  | scr c => cases e
  | dk c c' => cases e
  | dt c c' => cases e
  | ins c c' c'' => cases e
/-! a[i] -/
def rI (K : PySem.W.Frag) : R2 := fun x y H Q => ∃ F d1 d2 d, Ov K F H d1 x ∧ Ov K F H d2 y ∧ itemD d1 d2 = some d ∧ ∀ v, Rp K F d v → Q v H
theorem ix_dic (hu : X.A.units + 1 < cLine) : IxR X (fun x y H Q => ∃ a v, x = .ref a ∧ DGet H a y (some v) ∧ Q v H) := by
  intro value slice pins s σ' H x y v u Q I rx ry h hs
  obtain ⟨a, w, rfl, g, q⟩ := h
  cases rx
  have hT := dict_typeIs I g
  have h₂ : wpAny (model X.prog X.w) X.A (getItem (.ref a) u) (EP X pins σ' Q) X.xe s := d_getItem hu I g ry fun w' s3 I3 rw' => ⟨w, H, I3, rw', q⟩
  unfold subscriptTail
  refine wpAny_bind ?_
  rw [getitemInPython_of_ne hT.not_modules]
  refine wpAny_bind (wpAny_specialOf hT PySem.F.slot_dict_getitem.lookup ?_)
  have fin : wpAny (model X.prog X.w) X.A (subscripted slice false (.ref a) u) (fun r s₃ => wpAny (model X.prog X.w) X.A (letTemporaryGo value (.ref a) r >>= fun _ => pure r) (EP X pins σ' Q) X.xe s₃) X.xe s := by
    rw [hs]
    exact wpAny_operating (wpAny_mono h₂ (fun r s₃ h₃ => wpAny_bind (wpAny_letTemporaryGo (wpAny_pure h₃))) fun _ _ x => x)
  first
    | exact wpAny_pure (wpAny_bind fin)
    | exact wpAny_bind (wpAny_pure (wpAny_bind fin))
    | exact wpAny_bind fin
theorem ix_A (hu : X.A.units + 1 < cLine) : IxR X (rI X.K) := by
  intro vx sx pins s σ' H x y v u Q I rx ry h hsub
  obtain ⟨F, d1, d2, d, o1, o2, e, q⟩ := h
  unfold itemD at e
  split at e
  · obtain ⟨o, ho, e⟩ := Option.bind_eq_some_iff.mp e
    cases o with
    | none => cases e
    | some z =>
      cases e
      obtain ⟨a, r, rfl, g, c⟩ := dget_any o1 o2 ho
      rcases c with ⟨c, _⟩ | ⟨z, w, c, rfl, rp⟩
      · cases c
      · cases c
        exact ix_dic hu vx sx pins s σ' H _ _ v u Q I rx ry ⟨a, w, rfl, g, q w rp⟩ hsub
  · obtain ⟨o, ho, e⟩ := Option.bind_eq_some_iff.mp e
    cases o with
    | none => cases e
    | some z =>
      cases e
      obtain ⟨a, r, rfl, g, c⟩ := dget_any o1 o2 ho
      rcases c with ⟨c, _⟩ | ⟨z, w, c, rfl, rp⟩
      · cases c
      · cases c
        exact ix_dic hu vx sx pins s σ' H _ _ v u Q I rx ry ⟨a, w, rfl, g, q w rp⟩ hsub
  · obtain ⟨a, vs, rfl, _, h2, r⟩ := o1
    obtain ⟨w, e1, e2⟩ := atI_rp r e
    rw [ov_int o2] at ry
    exact ix_tup vx sx pins s σ' H _ _ v u Q I rx ry ⟨a, vs, _, w, rfl, rfl, sqT_of h2, e1, q w e2⟩ hsub
  · obtain ⟨a, vs, rfl, h2, r⟩ := o1
    obtain ⟨w, e1, e2⟩ := atI_rp r e
    rw [ov_int o2] at ry
    exact ix_list vx sx pins s σ' H _ _ v u Q I rx ry ⟨a, vs, _, w, rfl, rfl, sqL_of h2, e1, q w e2⟩ hsub
  · rename_i ns k
    obtain ⟨a, rfl, _, h2⟩ := o1
    rw [ov_int o2] at ry
    obtain ⟨z, e1, e2⟩ := Option.map_eq_some_iff.mp e
    subst e2
    refine ix_list vx sx pins s σ' H _ _ v u Q I rx ry ⟨a, _, _, .int z, rfl, rfl, h2, ?_, q _ rp_int⟩ hsub
    unfold atI at e1 ⊢
    rw [List.length_map]
    cases j : ixN ns.length k with
    | none => rw [j] at e1; cases e1
    | some m =>
      rw [j] at e1
      show (ns.map V.int)[m]? = _
      have e1 : ns[m]? = some z := e1
      rw [List.getElem?_map, e1]
      rfl
  · split at e
    · rename_i hz
      rw [lk_eq] at hz
      obtain ⟨c, hc, e⟩ := Option.map_eq_some_iff.mp e
      subst e
      rw [ov_str o1] at rx; rw [ov_int o2] at ry
      exact ix_str vx sx pins s σ' H _ _ v u Q I rx ry ⟨_, _, c, rfl, rfl, of_decide_eq_true hz, hc, q _ rp_str⟩ hsub
    · cases e
  · cases e
/-! a[lo:hi] -/
def rSl (K : PySem.W.Frag) (g : Gh) : V → Option Int → Option Int → Hp → VK → Prop := fun x lo hi H Q => ∃ kp F env σ d rd, Rel K g kp F env σ H ∧ Ov K F H d x ∧ sliceD d lo hi = some rd ∧ Fin K g kp F env σ rd Q
theorem cut_whole {F : Hp} {K : PySem.W.Frag} {ds : List D} {vs : List V} {lo hi : Option Int} (r : RpL K F ds vs) (h : HT.sIx vs.length 0 lo = 0 ∧ HT.sIx vs.length vs.length hi = vs.length) : cut ds lo hi = ds := by
  unfold cut
  rw [r.len, h.1, h.2, List.drop_zero, Nat.sub_zero, ← r.len, List.take_length]
theorem sl_A {g : Gh} : SlR X (rSl X.K g) := by
  intro pins s σ' H x v vl vu lo hi sl Q I rx hs pl pu h
  obtain ⟨kp, F, env, σ, d, rd, R, o, e, q⟩ := h
  unfold sliceD at e
  split at e
  · cases e
    obtain ⟨a, vs, rfl, f1, h2, r⟩ := o
    refine sl_tupA pins s σ' H _ v vl vu lo hi sl Q I rx hs pl pu ⟨a, vs, rfl, sqT_of h2, fun hw => ?_, fun _ => q.newT R (cut_rp lo hi r)⟩
    refine q.old R ?_
    rw [cut_whole r hw]
    exact rp_tup f1 r
  · cases e
    obtain ⟨a, vs, rfl, h2, r⟩ := o
    exact sl_list pins s σ' H _ v vl vu lo hi sl Q I rx hs pl pu ⟨a, vs, rfl, sqL_of h2, q.newL R (cut_rp lo hi r)⟩
  · cases e
    rename_i ns
    obtain ⟨a, rfl, _, h2⟩ := o
    refine sl_list pins s σ' H _ v vl vu lo hi sl Q I rx hs pl pu ⟨a, _, rfl, h2, q.newL R ?_⟩
    have z := cut_rp (K := X.K) (F := F) lo hi (RpL.ints ns)
    have e1 : cut (ns.map D.int) lo hi = (cut ns lo hi).map D.int := by
      unfold cut
      rw [List.length_map, List.map_take, List.map_drop]
    rw [e1] at z
    exact z
  · cases e
end
end MI

namespace MI
open PySem PySem.Spec PyProof.Rows L2
/-! ### sorted lists are one -/
theorem perm_eq {α : Type} {R : α → α → Prop} (anti : ∀ a b, R a b → R b a → a = b) : ∀ {l m : List α}, l.Perm m → l.Pairwise R → m.Pairwise R → l = m
  | [], m, p, _, _ => (List.Perm.eq_nil p.symm).symm
  | x :: l, [], p, _, _ => absurd p.length_eq (by simp)
  | x :: l, y :: m, p, hl, hm => by
    have e : x = y := by
      by_cases e : x = y
      · exact e
      · have h1 : x ∈ m := by
          rcases List.mem_cons.mp (p.mem_iff.mp List.mem_cons_self) with z | z
          · exact absurd z e
          · exact z
        have h2 : y ∈ l := by
          rcases List.mem_cons.mp (p.mem_iff.mpr List.mem_cons_self) with z | z
          · exact absurd z.symm e
          · exact z
        exact anti _ _ ((List.pairwise_cons.mp hl).1 _ h2) ((List.pairwise_cons.mp hm).1 _ h1)
    subst e
    rw [perm_eq anti p.cons_inv (List.pairwise_cons.mp hl).2 (List.pairwise_cons.mp hm).2]
section
variable {α : Type} {le : α → α → Bool}
theorem insB_perm (x : α) : ∀ l : List α, (insB le x l).Perm (x :: l)
  | [] => List.Perm.refl _
  | y :: l => by
    unfold insB
    split
    · exact List.Perm.refl _
    · exact ((insB_perm x l).cons y).trans (List.Perm.swap _ _ _)
theorem srtB_perm : ∀ l : List α, (srtB le l).Perm l
  | [] => List.Perm.refl _
  | x :: l => (insB_perm x _).trans ((srtB_perm l).cons x)
theorem insB_sorted (tot : ∀ a b, le a b = true ∨ le b a = true) (tr : ∀ a b c, le a b = true → le b c = true → le a c = true) (x : α) : ∀ {l : List α}, l.Pairwise (fun a b => le a b = true) → (insB le x l).Pairwise (fun a b => le a b = true)
  | [], _ => List.pairwise_singleton _ _
  | y :: l, h => by
    obtain ⟨h1, h2⟩ := List.pairwise_cons.mp h
    unfold insB
    split
    · rename_i hxy
      refine List.pairwise_cons.mpr ⟨fun z hz => ?_, h⟩
      rcases List.mem_cons.mp hz with e | hz
      · rw [e]; exact hxy
      · exact tr _ _ _ hxy (h1 z hz)
    · rename_i hxy
      refine List.pairwise_cons.mpr ⟨fun z hz => ?_, insB_sorted tot tr x h2⟩
      rcases List.mem_cons.mp ((insB_perm x l).mem_iff.mp hz) with e | hz
      · rw [e]
        exact (tot x y).resolve_left hxy
      · exact h1 z hz
theorem srtB_sorted (tot : ∀ a b, le a b = true ∨ le b a = true) (tr : ∀ a b c, le a b = true → le b c = true → le a c = true) : ∀ l : List α, (srtB le l).Pairwise (fun a b => le a b = true)
  | [] => List.Pairwise.nil
  | x :: l => insB_sorted tot tr x (srtB_sorted tot tr l)
end
theorem srtI_eq {ns ms : List Int} (p : ms.Perm ns) (h : ms.Pairwise (· ≤ ·)) : ms = srtB (fun a b => decide (a ≤ b)) ns := by
  refine perm_eq (R := fun a b => a ≤ b) (fun a b h1 h2 => Int.le_antisymm h1 h2) (p.trans (srtB_perm ns).symm) h ?_
  have := srtB_sorted (le := fun (a b : Int) => decide (a ≤ b)) (fun a b => by rw [decide_eq_true_eq, decide_eq_true_eq]; omega) (fun a b c h1 h2 => by rw [decide_eq_true_eq] at *; omega) ns
  exact this.imp fun h => of_decide_eq_true h
/-! ### the order of lists of ints -/
def ltL : List Int → List Int → Bool
  | [], [] => false
  | [], _ :: _ => true
  | _ :: _, [] => false
  | x :: xs, y :: ys => if x = y then ltL xs ys else decide (x < y)
theorem ltL_le : ∀ xs ys : List Int, leI xs ys = !ltL ys xs
  | [], [] => rfl
  | [], _ :: _ => rfl
  | _ :: _, [] => rfl
  | x :: xs, y :: ys => by
    unfold leI ltL
    rw [ltL_le xs ys]
    by_cases e : x = y
    · subst e
      simp
    · have e' : ¬ y = x := fun z => e z.symm
      by_cases h : x < y
      · have : ¬ y < x := by omega
        simp [e, e', h, this]
      · have : y < x := by omega
        simp [e, e', h, this]
theorem leI_tot : ∀ xs ys : List Int, leI xs ys = true ∨ leI ys xs = true
  | [], _ => .inl rfl
  | _ :: _, [] => .inr rfl
  | x :: xs, y :: ys => by
    unfold leI
    simp only [Bool.or_eq_true, Bool.and_eq_true, decide_eq_true_eq]
    rcases Int.lt_trichotomy x y with h | h | h
    · exact .inl (.inl h)
    · subst h
      rcases leI_tot xs ys with z | z
      · exact .inl (.inr ⟨rfl, z⟩)
      · exact .inr (.inr ⟨rfl, z⟩)
    · exact .inr (.inl h)
theorem leI_tr : ∀ xs ys zs : List Int, leI xs ys = true → leI ys zs = true → leI xs zs = true
  | [], _, _, _, _ => rfl
  | _ :: _, [], _, h, _ => by cases h
  | _ :: _, _ :: _, [], _, h => by cases h
  | x :: xs, y :: ys, z :: zs, h1, h2 => by
    unfold leI at h1 h2 ⊢
    simp only [Bool.or_eq_true, Bool.and_eq_true, decide_eq_true_eq] at h1 h2 ⊢
    rcases h1 with h1 | ⟨h1, h1'⟩
    · rcases h2 with h2 | ⟨h2, h2'⟩
      · exact .inl (by omega)
      · exact .inl (by omega)
    · rcases h2 with h2 | ⟨h2, h2'⟩
      · exact .inl (by omega)
      · exact .inr ⟨by omega, leI_tr xs ys zs h1' h2'⟩
theorem leI_anti : ∀ xs ys : List Int, leI xs ys = true → leI ys xs = true → xs = ys
  | [], [], _, _ => rfl
  | [], _ :: _, _, h => by cases h
  | _ :: _, [], h, _ => by cases h
  | x :: xs, y :: ys, h1, h2 => by
    unfold leI at h1 h2
    simp only [Bool.or_eq_true, Bool.and_eq_true, decide_eq_true_eq] at h1 h2
    rcases h1 with h1 | ⟨h1, h1'⟩
    · rcases h2 with h2 | ⟨h2, h2'⟩ <;> omega
    · rcases h2 with h2 | ⟨h2, h2'⟩
      · omega
      · rw [h1, leI_anti xs ys h1' h2']
theorem ltL_f {xs ys : List Int} : ltL xs ys = false ↔ leI ys xs = true := by
  rw [ltL_le]
  cases ltL xs ys <;> simp
theorem swo_L {β : Type} (k : β → List Int) : SrtO.Swo fun v u => ltL (k v) (k u) := by
  refine ⟨fun x y h => ?_, fun x y z h1 h2 => ?_⟩
  · refine ltL_f.mpr ?_
    rcases leI_tot (k x) (k y) with q | q
    · exact q
    · rw [ltL_f.mpr q] at h
      cases h
  · exact ltL_f.mpr (leI_tr _ _ _ (ltL_f.mp h1) (ltL_f.mp h2))
section
variable {prog : Program} {w : World} {A : Around} {E : Value → Shared → Prop} {s : Shared}
theorem kat_ints {b : Bool} {Q : Bool → Shared → Prop} : ∀ {xs ys : List Value} {ns ms : List Int} {i : Nat}, IntsAre xs ns → IntsAre ys ms → ns.length = ms.length → Q (ltL ns ms) s → PySem.W.KatLex prog w A b false Q (xs.zip ys) i s
  | _, _, _, _, i, .nil, .nil, _, h => PySem.W.kat_nil h
  | _, _, _, _, i, .nil, .cons .., hl, _ => by simp at hl
  | _, _, _, _, i, .cons .., .nil, hl, _ => by simp at hl
  | _, _, _, _, i, .cons x t rx, .cons y u ry, hl, h => by
    rw [List.zip_cons_cons]
    refine PySem.W.kat_cons (SeqAt.EqAt.int_int x t y u prog w _ _ ?_)
    refine PySem.W.kat_go (fun e1 => ?_) (fun e1 => ?_)
    · have ex : x = y := by simpa using e1
      refine PySem.W.kat_yes (kat_ints rx ry (by simpa using hl) ?_)
      unfold ltL at h
      rw [if_pos ex] at h
      exact h
    · have ex : ¬ x = y := by simpa using e1
      unfold ltL at h
      rw [if_neg ex] at h
      refine PySem.W.kat_no ?_
      cases hb : (b && i == 0) with
      | true => exact oneLt_int h
      | false => exact PySem.W.kat_one _ _ (PyProof.Rows.lt_int h)
theorem tup_cmp {vs : List Value} {k : Value → List Int} {d : Nat} (hp : ∀ v ∈ vs, TS.TupInts s.heap v (k v) ∧ (k v).length = d) : SrtO.Cmp prog w A s (tuples' true) (fun p => p.1 ∈ vs) (SrtO.lt2 fun v u => ltL (k v) (k u)) := by
  intro p q hm hm'
  obtain ⟨⟨a, xs, e, ⟨o, ho, hc, n, hd⟩, hi⟩, hl⟩ := hp _ hm
  obtain ⟨⟨a', xs', e', ⟨o', ho', hc', n', hd'⟩, hi'⟩, hl'⟩ := hp _ hm'
  show wpAny (model prog w) A (keyLt' (tuples' true) p.1 q.1) (fun r s' => s' = s ∧ r = ltL (k p.1) (k q.1)) (fun _ _ => False) s
  generalize k p.1 = ns at hi hl ⊢
  generalize k q.1 = ms at hi' hl' ⊢
  rw [e, e']
  refine PySem.W.kat_lt ho hd ho' hd' ?_
  have l1 := hi.length
  have l2 := hi'.length
  have ef : decide (xs.size < xs'.size) = false := by
    rw [Array.length_toList] at l1 l2
    exact decide_eq_false (by omega)
  rw [ef]
  exact kat_ints hi hi' (by rw [hl, hl']) ⟨rfl, rfl⟩
theorem firstsL : ∀ {vs : List Value} {k : Value → List Int}, (∀ v ∈ vs, TS.TupInts s.heap v (k v) ∧ k v ≠ []) → ∃ fs, PySem.W.KatTups s.heap vs fs ∧ fs.length = vs.length ∧ ∀ f ∈ fs, ∃ x t, f = Value.int x t
  | [], _, _ => ⟨[], trivial, rfl, fun f h => by cases h⟩
  | v :: vs, k, h => by
    obtain ⟨fs, h1, h2, h3⟩ := firstsL (vs := vs) (k := k) fun u hu => h u (List.mem_cons_of_mem _ hu)
    obtain ⟨⟨a, xs, e, ⟨o, ho, hc, n, hd⟩, hi⟩, hne⟩ := h v List.mem_cons_self
    generalize k v = ns at hi hne
    cases q : xs.toList with
    | nil =>
      rw [q] at hi
      cases hi
      exact absurd rfl hne
    | cons f r =>
      rw [q] at hi
      cases hi with
      | cons x t ri =>
        refine ⟨.int x t :: fs, ⟨⟨a, o, xs, n, e, ho, hc, hd, ?_⟩, h1⟩, by simp [h2], fun g hg => ?_⟩
        · rw [← Array.getElem?_toList, q]
          rfl
        · rcases List.mem_cons.mp hg with z | z
          · exact ⟨x, t, z⟩
          · exact h3 g z
theorem tups_sortableO {a : Addr} {vs : List Value} {k : Value → List Int} {d : Nat} (h0 : 0 < vs.length) (hd : 1 ≤ d) (hp : ∀ v ∈ vs, TS.TupInts s.heap v (k v) ∧ (k v).length = d) (ha : ∀ o, s.heap.get? a = some o → o.cls ≠ .type "tuple") : SrtO.SortableO prog w A s a vs fun v u => ltL (k v) (k u) := by
  intro h' keep
  have hp' : ∀ v ∈ vs, TS.TupInts h' v (k v) ∧ (k v).length = d := fun v hm => ⟨(hp v hm).1.keeps fun b o e c => keep b o (fun z => by subst z; exact ha o e c) e, (hp v hm).2⟩
  obtain ⟨fs, h1, h2, h3⟩ := firstsL (s := { s with heap := h' }) (vs := vs) (k := k) fun v hm => ⟨(hp' v hm).1, fun z => by
    have := (hp' v hm).2
    rw [z] at this
    simp at this
    omega⟩
  refine ⟨tuples' true, fun Q E hq => ?_, tup_cmp hp'⟩
  refine PySem.W.kat_kind (T := .type "int") h1 (by omega) (fun f hm => ?_) (by rfl) ?_
  · obtain ⟨x, t, rfl⟩ := h3 f hm
    exact PySem.W.Looks.now
  · have e : (Value.type "int" != Value.type "tuple") = true := by first | decide +kernel | rfl | decide
    rw [e]
    exact hq
theorem sorted_tupsO {l : Addr} {vs : List Value} {k : Value → List Int} {d : Nat} {Q : Value → Shared → Prop} (hl : s.heap.IsList l vs.toArray) (hz : vs.length ≤ sizeLine) (hd : 1 ≤ d) (hp : ∀ v ∈ vs, TS.TupInts s.heap v (k v) ∧ (k v).length = d)
    (h : ∀ (h' : Heap) (e : Addr) (out : List Value), SrtO.Srtd (fun v u => ltL (k v) (k u)) out → out.Perm vs → (∀ b o, s.heap.get? b = some o → h'.get? b = some o) → s.heap.objs.size ≤ e → (∃ n, h'.get? e = some (seqObj "list" out.toArray n)) → Q (.ref e) { s with heap := h' }) :
    wpAny (model prog w) A (call (.builtin "sorted") [.ref l]) Q E s := by
  refine SrtO.sorted_ord (swo_L k) hl hz (fun h2 h₁ a ha kk => ?_) fun out hs hb => ?_
  · refine tups_sortableO (s := { s with heap := h₁ }) (by omega) hd (fun v hm => ⟨(hp v hm).1.keeps fun b o e _ => (kk b o e).2, (hp v hm).2⟩) fun o e => ?_
    have e' : some o = some (seqObj "list" vs.toArray 0) := e.symm.trans ha
    cases e'
    intro c
    exact absurd (Value.type.inj c) (by decide)
  · exact h _ _ out hs hb.perm (fun b o e => sortedAll_old e) (Nat.le_succ _) (sortedAll_at s.heap vs out.toArray)
end
/-- sorted(xs), xs a list of tuples of ints of one length -/
def rSortedTL (K : PySem.W.Frag) : List V → Hp → VK → Prop := fun vs H Q => ∃ (a : Addr) (xs : List V) (k : V → List Int) (d : Nat), vs = [V.ref a] ∧ SqL K H a xs ∧ 1 ≤ d ∧ (∀ x ∈ xs, ∃ t, x = V.ref t ∧ H t = some (.tup ((k x).map V.int)) ∧ (k x).length = d) ∧
  ∀ ys p, SrtO.Srtd (fun x y => ltL (k x) (k y)) ys → ys.Perm xs → H p = none → Q (.ref p) (upd H p (.lst ys))
section
variable {X : Cx}
theorem cr_sortedTL : CallR X (.builtin "sorted") (rSortedTL X.K) := by
  intro pins s σ H vs us Q I r h
  obtain ⟨a, xs, k, d, rfl, hs, hd1, hx, q⟩ := h
  obtain ⟨its, rv, hl, hz⟩ := I.list hs
  obtain ⟨u, rfl, ru⟩ := vals1 r
  obtain rfl : u = Value.ref a := ru
  obtain ⟨e1, e2⟩ := refs_back rv fun x m => by
    obtain ⟨t, e, _⟩ := hx x m
    exact ⟨t, e⟩
  refine sorted_tupsO (k := fun u => k (backV u)) (d := d) hl.isList (by rw [← rv.length]; exact hz) hd1 (fun v hv => ?_) fun h' e out h1 h2 kp hd hn => ?_
  · obtain ⟨t, rfl⟩ := e2 v hv
    have hm : V.ref t ∈ xs := by rw [e1]; exact List.mem_map.mpr ⟨_, hv, rfl⟩
    obtain ⟨t', e, ht, hlen⟩ := hx _ hm
    cases e
    obtain ⟨_, its2, r2, tp⟩ := I.hok _ _ ht
    have z : IntsAre its2.toArray.toList (k (V.ref t)) := by simpa using r2.ints
    exact ⟨⟨t, its2.toArray, rfl, tp, z⟩, hlen⟩
  · have h3 : ∀ u ∈ out, ∃ a, u = Value.ref a := fun u hu => e2 u (h2.mem_iff.mp hu)
    obtain ⟨n, hn⟩ := hn
    have hb : (out.map backV).Perm xs := by
      rw [e1]
      exact h2.map backV
    refine ⟨.ref e, upd H e (.lst (out.map backV)), I.laid (t' := s.toks) kp hd ⟨?_, out, n, vals_back h3, hn⟩, rfl, q _ e (List.pairwise_map.mpr h1) hb (I.hok.fresh hd)⟩
    rw [hb.length_eq]
    exact hz
end
/-! ### over trees -/
def kOf (H : Hp) (v : V) : List Int := match v with
  | .ref t => (match H t with
    | some (.tup us) => us.map fun u => match u with | .int i => i | _ => 0
    | _ => [])
  | _ => []
theorem kOf_tup {H : Hp} {t : Addr} {ns : List Int} (h : H t = some (.tup (ns.map V.int))) : kOf H (.ref t) = ns := by
  unfold kOf
  simp only [h, List.map_map]
  have : ((fun u => match u with | V.int i => i | _ => 0) ∘ V.int) = id := rfl
  rw [this, List.map_id]
theorem tupsOf_rp {K : PySem.W.Frag} {F H : Hp} (e : Same F H) : ∀ {ds : List D} {vs : List V} {tss : List (List Int)}, RpL K F ds vs → tupsOf ds = some tss → vs.map (kOf H) = tss ∧ ∀ v ∈ vs, ∃ t, v = .ref t ∧ F t = some (.tup ((kOf H v).map V.int))
  | [], vs, tss, h, q => by
    cases q
    rw [h.nil_inv]
    exact ⟨rfl, fun v hv => by cases hv⟩
  | d :: ds, vs, tss, h, q => by
    obtain ⟨v, vs', rfl, h2, h3⟩ := h.cons_inv
    cases d <;> first | (unfold tupsOf at q; cases q; done) | skip
    unfold tupsOf at q
    obtain ⟨ns, hn, q⟩ := Option.bind_eq_some_iff.mp q
    obtain ⟨r, hr, q⟩ := Option.map_eq_some_iff.mp q
    subst q
    obtain ⟨a, b⟩ := tupsOf_rp e h3 hr
    unfold Rp at h2
    obtain ⟨t, us, rfl, ht, rl⟩ := h2
    have eu := RpL.int_inv rl hn
    subst eu
    have ek := kOf_tup (e _ _ ht)
    refine ⟨by rw [List.map_cons, ek, a], fun w hw => ?_⟩
    rcases List.mem_cons.mp hw with z | z
    · subst z
      exact ⟨t, rfl, by rw [ek]; exact ht⟩
    · exact b w z
theorem sort_rpL {K : PySem.W.Frag} {F H : Hp} : ∀ {ys : List V}, (∀ v ∈ ys, ∃ t, v = V.ref t ∧ F t = some (.tup ((kOf H v).map V.int))) → RpL K F ((ys.map (kOf H)).map fun ns => .tup (ns.map .int)) ys
  | [], _ => .nil
  | y :: ys, h => by
    refine .cons ?_ (sort_rpL fun v hv => h v (List.mem_cons_of_mem _ hv))
    obtain ⟨t, rfl, ht⟩ := h y List.mem_cons_self
    exact rp_tup ht (RpL.ints _)
theorem srtL_eq {ns ms : List (List Int)} (p : ms.Perm ns) (h : ms.Pairwise (fun a b => leI a b = true)) : ms = srtB leI ns :=
  perm_eq leI_anti (p.trans (srtB_perm ns).symm) h (srtB_sorted leI_tot leI_tr ns)
section
variable {X : Cx}
theorem sort_ok {pins : List (Addr × Obj)} {s : Shared} {σ' : L2.St} {H : Hp} {Q : VK} {g : Gh} {kp F : Hp} {env : Env} {σ : L2.St} {a : Addr} {vs : List V} {ds es : List D} {us : List Value} (I : Inv X pins σ' H s) (R : Rel X.K g kp F env σ H) (r : Vals [.ref a] us) (h1 : H a = some (.lst vs)) (r1 : RpL X.K F ds vs)
    (e : sortD ds = some es) (q : Fin X.K g kp F env σ (.new (.lst es)) Q) : wpAny (model X.prog X.w) X.A (call (.builtin "sorted") us) (EP X pins σ' Q) X.xe s := by
  unfold sortD at e
  split at e
  · rename_i ns hn
    cases e
    have ev := RpL.int_inv r1 hn
    subst ev
    refine cr_sortedI pins s σ' H _ us Q I r ⟨a, ns, rfl, sqL_of h1, fun ms p pm so hp => ?_⟩
    rw [srtI_eq pm so]
    exact q.newL R (RpL.ints _) p hp
  · split at e
    · rename_i tss ht
      split at e
      · rename_i hall
        cases e
        obtain ⟨k1, k2⟩ := tupsOf_rp R.fh r1 ht
        have hlen : ∀ v ∈ vs, (kOf H v).length = (tss.headD []).length ∧ kOf H v ≠ [] := fun v hv => by
          have hm : kOf H v ∈ tss := by rw [← k1]; exact List.mem_map.mpr ⟨v, hv, rfl⟩
          have := List.all_eq_true.mp hall _ hm
          simp only [Bool.and_eq_true, beq_iff_eq, Bool.not_eq_true', List.isEmpty_eq_false_iff] at this
          exact ⟨this.1, this.2⟩
        by_cases h0 : vs = []
        · subst h0
          have ed : ds = [] := List.eq_nil_of_length_eq_zero (by rw [r1.len]; rfl)
          subst ed
          cases ht
          refine cr_sortedI pins s σ' H _ us Q I r ⟨a, [], rfl, sqL_of h1, fun ms p pm so hp => ?_⟩
          have : ms = [] := List.Perm.eq_nil pm
          subst this
          exact q.newL R .nil p hp
        · have hd : 1 ≤ (tss.headD []).length := by
            obtain ⟨v, vs', rfl⟩ := List.exists_cons_of_ne_nil h0
            obtain ⟨x1, x2⟩ := hlen v List.mem_cons_self
            have : 0 < (kOf H v).length := List.length_pos_iff.mpr x2
            omega
          refine cr_sortedTL pins s σ' H _ us Q I r ⟨a, vs, kOf H, (tss.headD []).length, rfl, sqL_of h1, hd, fun x hx => ?_, fun ys p so pm hp => ?_⟩
          · obtain ⟨t, e1, e2⟩ := k2 x hx
            exact ⟨t, e1, R.fh _ _ e2, (hlen x hx).1⟩
          · have em : ys.map (kOf H) = srtB leI tss := by
              rw [← k1]
              exact srtL_eq (pm.map _) (List.pairwise_map.mpr (so.imp fun h => ltL_f.mp h))
            have rl := sort_rpL (K := X.K) (F := F) (H := H) (ys := ys) fun v hv => k2 v (pm.mem_iff.mp hv)
            rw [em] at rl
            exact q.newL R rl p hp
      · cases e
    · cases e
end
end MI

namespace MI
open PySem PySem.Spec PyProof.Rows L2
/-! ### enumerate(tuple) -/
theorem meets_enumerate_new1 {v : Value} {o : Obj} {H : Heap → Prop} (B : Begins v o H) :
    Meets (Builtin.«enumerate.__new__» ⟨[.type "enumerate", v], []⟩) (fun _ R s => H s.heap ∧
      R (.ok (.ret (.ref (s.heap.push o).objs.size))) { s with heap := (s.heap.push o).push { cls := .type "enumerate", data := .fields #[.none, .bool false, .ref s.heap.objs.size, rawInt 0, .none, .none] } }) :=
  .of_wp fun prog w A R s h => by
    obtain ⟨hp, g, d, tk, os⟩ := s; obtain ⟨h1, h⟩ := h
    have hsub := sub_enumerate
    have q1 : ∀ {A' : Around} {E : Value → Shared → Prop} {Q : Value → Shared → Prop}, Q (.ref hp.objs.size) ⟨hp.push o, g, d, tk, os⟩ → wpAny (model prog w) A' (pyIter v) Q E ⟨hp, g, d, tk, os⟩ :=
      fun q => B.iter prog w _ _ ⟨hp, g, d, tk, os⟩ _ h1 q
    wp_walk using q1
    refine wpAny_stack_any fun st => wpAny_pure ?_
    split
    · rename_i c _ _ _ _ _
      cases (c == Value.type "enumerate")
      · wp_walk using q1
        exact ⟨_, rfl, h⟩
      · wp_walk using q1
        exact ⟨_, rfl, h⟩
    · wp_walk using q1
      exact ⟨_, rfl, h⟩
theorem call_enumerate_tuple {prog : Program} {w : World} {A : Around} {E : Value → Shared → Prop} {s : Shared} {t : Addr} {items : Array Value} {Q : Value → Shared → Prop} (ht : s.heap.IsTuple t items)
    (h : ∀ h', IsEnum h' (s.heap.objs.size + 1) s.heap.objs.size 0 .none → h'.IsTupleIter s.heap.objs.size t 0 → h'.objs.size = s.heap.objs.size + 2 →
      (∀ b o, s.heap.get? b = some o → h'.get? b = some o) → Q (.ref (s.heap.objs.size + 1)) { s with heap := h' }) :
    wpAny (model prog w) A (call (.type "enumerate") [.ref t]) Q E s := by
  refine callType_new F.called_enumerate (by decide) (F.typeCall_enumerate_1 _) (F.newCall_enumerate_1 _) (fun obj => F.args_object_init_2 obj _) F.entry_enumerate_new
    (meets_enumerate_new1 (begins_tuple t items)) ⟨ht, ?_⟩
  have hz : (s.heap.push { cls := .type "tuple_iterator", data := .fields #[.ref t, .int 0 0] }).objs.size = s.heap.objs.size + 1 := Heap.size_push ..
  show _ ∧ _
  rw [hz]
  have he : IsEnum ((s.heap.push { cls := .type "tuple_iterator", data := .fields #[.ref t, .int 0 0] }).push { cls := .type "enumerate", data := .fields #[.none, .bool false, .ref s.heap.objs.size, rawInt 0, .none, .none] }) (s.heap.objs.size + 1) s.heap.objs.size 0 .none := by
    have := Heap.get?_push_size (s.heap.push { cls := .type "tuple_iterator", data := .fields #[.ref t, .int 0 0] }) (o := { cls := .type "enumerate", data := .fields #[.none, .bool false, .ref s.heap.objs.size, rawInt 0, .none, .none] }) rfl
    rw [hz] at this; exact this
  refine ⟨⟨_, he, rfl⟩, h _ he ⟨_, Heap.get?_push_of_some _ (Heap.get?_push_size _ rfl), rfl, rfl⟩ (by rw [Heap.size_push, hz]) fun b o x => Heap.get?_push_of_some _ (Heap.get?_push_of_some _ x)⟩
def IteT (K : PySem.W.Frag) (a : Addr) : It :=
  ⟨fun i H => ∃ (xs : List V) (x : V), SqT K H a xs ∧ xs[i]? = some x, fun i H v H' => ∃ T x, v = .ref T ∧ H T = none ∧ H' = upd H T (.tup [.int (i : Nat), x]) ∧ ∀ xs, SqT K H a xs → xs[i]? = some x, fun i H => ∃ xs : List V, SqT K H a xs ∧ xs.length ≤ i⟩
theorem turn_enumT {P : Program} {w : World} {K : PySem.W.Frag} {elts : List Expr} {kk : Nat} {tpos : Pos} (a e it : Addr) (nea : a ≠ it) (nee : a ≠ e) :
    Turn P w K (.Tuple elts kk tpos) (IteT K a) [e, it] e (fun i h => (∃ old, IsEnum h e it ((i : Nat) : Int) old) ∧ h.IsTupleIter it a i ∧ e ≠ it) where
  mem := by simp
  obj := fun i h st b hb => by
    obtain ⟨⟨old, he⟩, ⟨o, ho, hc, hd⟩, _⟩ := st
    have e' : b = e ∨ b = it := by simpa using hb
    rcases e' with z | z
    · rw [z]; exact ⟨_, he, fun v q => nomatch q⟩
    · rw [z]; exact ⟨o, ho, fun v q => by rw [hd] at q; cases q⟩
  keep := fun i h h' st k => let ⟨⟨old, he⟩, hi, hne⟩ := st; ⟨⟨old, k e (by simp) _ he⟩, hi.at fun o q => k it (by simp) o q, hne⟩
  item := by
    intro X hP hw hK hc i pins s σ H E I hf st hg
    subst hP hw hK
    obtain ⟨⟨old, he⟩, hit, hne⟩ := st
    obtain ⟨xs, x, hq, hx⟩ := hg
    obtain ⟨its, rv, p, hz⟩ := I.tuple hq
    obtain ⟨u, hu, ru⟩ := rv.get hx
    have hel : e < s.heap.objs.size := Heap.lt_size he
    have hil : it < s.heap.objs.size := by obtain ⟨_, q, _⟩ := hit; exact Heap.lt_size q
    have hlt : i < its.toArray.size := by
      have := (List.getElem?_eq_some_iff.mp hu).1
      simpa using this
    refine wpAny_pyNext_enum_itemD (Draws.tuple (prog := X.prog) (w := X.w) (A := X.A.in1) (show X.A.handled = none from I.ok.hd hc) it a nea its.toArray) he ⟨hit, p⟩ hlt hne (by simp [hne, Ne.symm nee]) fun x' h' tk hx' ho st' hT hsz hk => ?_
    have hxu : x' = u := by
      have e1 : its.toArray[i]? = some x' := hx'
      have e2 : its.toArray[i]? = some u := by simpa using hu
      rw [e1] at e2
      exact Option.some.inj e2
    subst hxu
    refine ⟨_, rfl, wpAny_letOwnedTupleGo_enum (s := { s with heap := h', toks := tk + 1 }) ho fun h'' he' sb => ?_⟩
    have hT2 : h''.get? s.heap.objs.size = some { cls := .type "tuple", data := .seq #[.int i tk, x'] } := (sb.2 _ (Nat.ne_of_gt hel)).trans hT
    have new : ObjOk X.prog X.w (upd H s.heap.objs.size (.tup [.int (i : Nat), x])) h'' s.heap.objs.size (.tup [.int (i : Nat), x]) :=
      ⟨by show 2 ≤ sizeLine; decide, [.int i tk, x'], .cons ⟨_, rfl⟩ (.cons ru .nil), ⟨_, hT2, rfl, _, rfl⟩⟩
    have I1 : Inv X pins σ (upd H s.heap.objs.size (.tup [.int (i : Nat), x])) { s with heap := h'', toks := tk + 1 } :=
      I.turnedNew (ch := [e, it]) (fun b ob hb q => (sb.2 b (fun z => hb (by simp [z]))).trans (hk b ob (fun z => hb (by simp [z])) (fun z => hb (by simp [z])) q)) hf (Nat.le_refl _) new
    refine ⟨.ref s.heap.objs.size, _, I1, rfl, ⟨_, x, rfl, I.hok.fresh (Nat.le_refl _), rfl, fun ys hy => by rw [I.tuple_inj hy hq]; exact hx⟩, ⟨⟨x', ?_⟩, st'.1.at fun o q => (sb.2 it (Ne.symm hne)).trans q, hne⟩, fun b hb => ?_⟩
    · have e1 : ((i + 1 : Nat) : Int) = (i : Int) + 1 := by omega
      rw [e1]; exact he'
    · have hb' : b < s.heap.objs.size := by
        have e' : b = e ∨ b = it := by simpa using hb
        rcases e' with z | z
        · rw [z]; exact hel
        · rw [z]; exact hil
      rw [upd_ne (Nat.ne_of_lt hb')]
      exact (hf b hb).1
  done := by
    intro X hP hw hK hc i pins s σ H E I hf st hg
    subst hP hw hK
    obtain ⟨⟨old, he⟩, hit, hne⟩ := st
    obtain ⟨xs, hq, hx⟩ := hg
    obtain ⟨its, rv, p, hz⟩ := I.tuple hq
    obtain ⟨f0, f1, f2, f3, f4, f5⟩ := hf it (by simp)
    have hl := rv.length
    have hi : s.heap.IsTupleIter it a i := hit
    unfold pyNext
    have hT : s.TypeIs (.ref e) "enumerate" := ⟨_, he, rfl⟩
    refine wpAny_bind (wpAny_attempt (wpAny_callSpecial?_slot (name := Str.ofString "__next__") hT F.slot_enumerate_next
      (wpAny_call_entry F.slot_enumerate_next hT F.entry_enumerate_next ?_ (F.args_enumerate_next_1 _))))
    show wpAny _ _ (field (.ref e) 2 >>= _) _ _ _
    refine wpAny_bind (wpAny_field he rfl (x := .ref it) rfl ?_)
    refine wpAny_bind (wpAny_nextOf_tuple_end (show X.A.handled = none from I.ok.hd hc) hit p (by simp; omega) fun h' x he' hx' => ?_)
    obtain ⟨o, ho, hc'⟩ := hx'
    refine wpAny_bind (wpAny_isInstance (T := "StopIteration") (b := true) ⟨o, ho, hc'⟩ isSubtype_stop ?_)
    exact wpAny_pure ⟨rfl, I.turned (t' := s.toks) (fun b o hb q => he' b o hb q) f0 f1 f3 f4 f5⟩
  self := fun A i s Q E st h => let ⟨⟨_, he⟩, _⟩ := st; wpAny_pyIter_enum he h
def iEnumA (K : PySem.W.Frag) (ta : TA) : TI := fun σ H R => ta σ H fun vs H1 => ∃ a xs, vs = [.ref a] ∧ ((SqL K H1 a xs ∧ R (Ite K a) H1) ∨ (SqT K H1 a xs ∧ R (IteT K a) H1))
theorem pi_enumA {X : Cx} {e : Expr} {ta : TA} {p pos tpos : Pos} {elts : List Expr} {kk : Nat} (hg : Gl X "enumerate") (hm : X.mg "enumerate" = none) (ha : PA X [e] ta) (hs : starEach [e] X.env = [(false, eval e X.env)]) :
    PI X (.Tuple elts kk tpos) (.Call (.Name "enumerate" p) [e] [] pos) (iEnumA X.K ta) := by
  refine ⟨fun pins s σ H R I h => ?_⟩
  refine Call_ (ld_blt I hg hm boot_enumerate (PyProof.Rows.callWith_type1 (thn (ha.run pos pins s σ H _ I h) fun us s1 ⟨vs, H1, I1, r1, q1⟩ => ?_) hs rfl))
  obtain ⟨a, xs, ex, q1⟩ := q1
  subst ex
  cases r1 with
  | cons r rr =>
    cases rr
    cases r
    have fin : ∀ b, b = s1.heap.objs.size + 1 ∨ b = s1.heap.objs.size → s1.heap.objs.size ≤ b := fun b e' => by
      rcases e' with z | z
      · rw [z]; exact Nat.le_add_right _ _
      · rw [z]; exact Nat.le_refl _
    rcases q1 with ⟨hq, q⟩ | ⟨hq, q⟩
    · obtain ⟨its, rv, p', hz⟩ := I1.list hq
      refine call_enumerate_list p'.isList fun h' he hit hsz hk => wpAny_pyIter_enum he ?_
      have I2 : Inv X pins σ H1 { s1 with heap := h' } := I1.kept (t' := s1.toks) hk
      refine ⟨s1.heap.objs.size + 1, [s1.heap.objs.size + 1, s1.heap.objs.size], _, _, H1, rfl, I2, turn_enum a (s1.heap.objs.size + 1) s1.heap.objs.size, ⟨⟨.none, he⟩, hit, Nat.succ_ne_self _⟩, fun b hb => ?_, q⟩
      have hle := fin b (by simpa using hb)
      exact I1.fpOk hle (I1.hok.fresh hle)
    · obtain ⟨its, rv, p', hz⟩ := I1.tuple hq
      have hal : a < s1.heap.objs.size := by obtain ⟨o, ho, _⟩ := id p'; exact Heap.lt_size ho
      refine call_enumerate_tuple p' fun h' he hit hsz hk => wpAny_pyIter_enum he ?_
      have I2 : Inv X pins σ H1 { s1 with heap := h' } := I1.kept (t' := s1.toks) hk
      refine ⟨s1.heap.objs.size + 1, [s1.heap.objs.size + 1, s1.heap.objs.size], _, _, H1, rfl, I2, turn_enumT a (s1.heap.objs.size + 1) s1.heap.objs.size (Nat.ne_of_lt hal) (Nat.ne_of_lt (Nat.lt_succ_of_lt hal)), ⟨⟨.none, he⟩, hit, Nat.succ_ne_self _⟩, fun b hb => ?_, q⟩
      have hle := fin b (by simpa using hb)
      exact I1.fpOk hle (I1.hok.fresh hle)
/-! ### sum(tuple) -/
theorem sum_tup {X : Cx} (hc : X.calm = true) : CallR X (.builtin "sum") (fun vs H Q => ∃ (a : Addr) (ns : List Int), vs = [V.ref a] ∧ SqT X.K H a (ns.map V.int) ∧ Q (.int ns.sum) H) := by
  intro pins s σ H xs us Q I r h
  obtain ⟨a, ns, rfl, hT, q⟩ := h
  rw [Vals.ref1 r]
  obtain ⟨its, rv, p, _⟩ := I.tuple hT
  have hi : IntsAre its ns := Vals.ints rv
  obtain ⟨xs, e⟩ := hi.allInts.items
  have hn : numsOf (intItems xs).toList = ns := by rw [← e]; exact hi.numsOf
  rw [nums_intItems] at hn
  rw [e] at p
  refine PySem.W.ktm_sumG (I.ok.hd hc) p fun h' tk t' hk => ?_
  rw [preSum_eq, List.take_of_length_le (by simp), hn]
  exact ⟨.int ns.sum, H, I.kept hk, ⟨_, rfl⟩, q⟩
end MI

namespace MI
open PySem PySem.Spec PyProof.Rows L2
def OvL (K : PySem.W.Frag) (F H : Hp) : List D → List V → Prop
  | [], vs => vs = []
  | d :: ds, vs => ∃ v vs', vs = v :: vs' ∧ Ov K F H d v ∧ OvL K F H ds vs'
theorem OvL.one {K : PySem.W.Frag} {F H : Hp} {d : D} {vs : List V} (h : OvL K F H [d] vs) : ∃ v, vs = [v] ∧ Ov K F H d v := by
  obtain ⟨v, vs', rfl, h1, h2⟩ := h
  have h2 : vs' = [] := h2
  subst h2
  exact ⟨v, rfl, h1⟩
theorem OvL.two {K : PySem.W.Frag} {F H : Hp} {d e : D} {vs : List V} (h : OvL K F H [d, e] vs) : ∃ v w, vs = [v, w] ∧ Ov K F H d v ∧ Ov K F H e w := by
  obtain ⟨v, vs', rfl, h1, h2⟩ := h
  obtain ⟨w, rfl, h3⟩ := OvL.one h2
  exact ⟨v, w, rfl, h1, h3⟩
theorem top_mem : ∀ (r : List Int) (m : Int), topOf m r ∈ m :: r ∧ ∀ y ∈ m :: r, y ≤ topOf m r
  | [], m => by simp [topOf]
  | x :: r, m => by
    obtain ⟨h1, h2⟩ := top_mem r (if x > m then x else m)
    unfold topOf
    constructor
    · rcases List.mem_cons.mp h1 with e | e
      · rw [e]
        split <;> simp
      · exact List.mem_cons_of_mem _ (List.mem_cons_of_mem _ e)
    · intro y hy
      have h0 := h2 _ List.mem_cons_self
      rcases List.mem_cons.mp hy with e | e
      · subst e
        split at h0 <;> rename_i hc
        · rw [if_pos hc]; omega
        · rw [if_neg hc]; exact h0
      · rcases List.mem_cons.mp e with e | e
        · subst e
          split at h0 <;> rename_i hc
          · rw [if_pos hc]; exact h0
          · rw [if_neg hc]; omega
        · exact h2 y (List.mem_cons_of_mem _ e)
theorem low_mem : ∀ (r : List Int) (m : Int), lowOf m r ∈ m :: r ∧ ∀ y ∈ m :: r, lowOf m r ≤ y
  | [], m => by simp [lowOf]
  | x :: r, m => by
    obtain ⟨h1, h2⟩ := low_mem r (if x < m then x else m)
    unfold lowOf
    constructor
    · rcases List.mem_cons.mp h1 with e | e
      · rw [e]
        split <;> simp
      · exact List.mem_cons_of_mem _ (List.mem_cons_of_mem _ e)
    · intro y hy
      have h0 := h2 _ List.mem_cons_self
      rcases List.mem_cons.mp hy with e | e
      · subst e
        split at h0 <;> rename_i hc
        · rw [if_pos hc]; omega
        · rw [if_neg hc]; exact h0
      · rcases List.mem_cons.mp e with e | e
        · subst e
          split at h0 <;> rename_i hc
          · rw [if_pos hc]; exact h0
          · rw [if_neg hc]; omega
        · exact h2 y (List.mem_cons_of_mem _ e)
theorem keysI_eq : ∀ {ks : List Key} {ns : List Int}, keysI ks = some ns → ks = ns.map Sum.inl
  | [], _, h => by cases h; rfl
  | .inl i :: r, _, h => by
    unfold keysI at h
    obtain ⟨ms, h1, h⟩ := Option.map_eq_some_iff.mp h
    subst h
    rw [keysI_eq h1]
    rfl
  | .inr _ :: _, _, h => by cases h
def biVal : Bi → Value
  | .len => .builtin "len" | .max => .builtin "max" | .min => .builtin "min" | .abs => .builtin "abs" | .sum => .builtin "sum" | .all => .builtin "all" | .any => .builtin "any"
  | .tuple => .type "tuple" | .list => .type "list" | .repr => .builtin "repr" | .sorted => .builtin "sorted" | .int => .type "int" | .str => .type "str"
section
variable {X : Cx}
def rB (K : PySem.W.Frag) (g : Gh) (b : Bi) : List V → Hp → VK → Prop := fun vs H Q => ∃ kp F env σ ds rd, Rel K g kp F env σ H ∧ OvL K F H ds vs ∧ biD b ds = some rd ∧ Fin K g kp F env σ rd Q
theorem repr_ok (hg : X.A.guards = some []) (hu : X.A.units + 64 < cLine) {pins : List (Addr × Obj)} {σ : L2.St} {H : Hp} {s : Shared} {F : Hp} {d : D} {v : V} {u : Value} {x : Str} {Q : VK} (I : Inv X pins σ H s) (hF : Same F H) (o : Ov X.K F H d v) (r : RelV v u) (e : reprD d = some x)
    (q : Q (.str x) H) : wpAny (model X.prog X.w) X.A (call (.builtin "repr") [u]) (EP X pins σ Q) X.xe s := by
  unfold reprD at e
  split at e
  · rename_i hc
    cases e
    simp only [Bool.and_eq_true] at hc
    obtain ⟨⟨h1, h2⟩, h3⟩ := hc
    have dp := ov_dp hF h1 o
    obtain ⟨a1, a2, a3⟩ := flat_lay d 40 h1
    obtain ⟨as, rd⟩ := Dp.reads I _ v u dp r
    have key : ∀ a, u = .ref a → wpAny (model X.prog X.w) X.A (call (.builtin "repr") [u]) (EP X pins σ Q) X.xe s := fun a ea => by
      subst ea
      refine repr_of_reads' rd h2 (fun z => by rw [a3] at z; cases z) hg (by omega) (fun b o e => e) (fun h' t tk hk => ?_) (szOk_le h3)
      exact ⟨.str _, H, I.kept hk, ⟨t, rfl⟩, q⟩
    cases d with
    | tup ds => obtain ⟨a, vs, rfl, _⟩ := o; exact key a r
    | lst ds => obtain ⟨a, vs, rfl, _⟩ := o; exact key a r
    | scr ds => simp [dataOk, flatD] at h1
    | dk _ _ => simp [dataOk, flatD] at h1
    | dt _ _ => simp [dataOk, flatD] at h1
    | ins _ _ _ => simp [dataOk, flatD] at h1
    | int i =>
      rw [ov_int o] at r
      obtain ⟨t, rfl⟩ := r
      refine PySem.P.repr_of_int (by simpa [pyOf, PyData.showable] using h2) ⟨.str _, H, I.tok _, ⟨_, rfl⟩, ?_⟩
      exact q
    | str i =>
      rw [ov_str o] at r
      obtain ⟨t, rfl⟩ := r
      exact PySem.P.repr_of_str (x := i) ⟨.str _, H, I.tok _, ⟨_, rfl⟩, q⟩ (szOk_le h3)
    | bl i =>
      rw [ov_bl o] at r
      cases r
      exact PySem.P.repr_of_bool ⟨.str _, H, I.tok _, ⟨_, rfl⟩, q⟩
    | non =>
      rw [ov_non o] at r
      cases r
      exact PySem.P.repr_of_none ⟨.str _, H, I.tok _, ⟨_, rfl⟩, q⟩
  · cases e
theorem call_A {g : Gh} (hc : X.calm = true) (hgd : X.A.guards = some []) (hu : X.A.units + 64 < cLine) : ∀ b : Bi, CallR X (biVal b) (rB X.K g b) := by
  intro b pins s σ' H xs us Q I r h
  obtain ⟨kp, F, env, σ, ds, rd, R, ol, e, q⟩ := h
  have int1 : ∀ {z : D} {i : Int} {v : V}, Ov X.K F H (.int i) v → v = .int i := fun o => ov_int o
  unfold biD at e
  split at e
  · cases e
    obtain ⟨v, rfl, a, vs, rfl, f1, h1, r1⟩ := ol.one
    refine call_len_seq pins s σ' H _ us Q I r ⟨a, vs, rfl, .inr (sqT_of h1), ?_⟩
    rw [← r1.len]
    exact q.old R rp_int
  · cases e
    obtain ⟨v, rfl, a, vs, rfl, h1, r1⟩ := ol.one
    refine call_len_seq pins s σ' H _ us Q I r ⟨a, vs, rfl, .inl (sqL_of h1), ?_⟩
    rw [← r1.len]
    exact q.old R rp_int
  · cases e
    obtain ⟨v, rfl, a, rfl, f1, h1⟩ := ol.one
    refine call_len_seq pins s σ' H _ us Q I r ⟨a, _, rfl, .inl h1, ?_⟩
    rw [List.length_map]
    exact q.old R rp_int
  · cases e
    obtain ⟨v, w, rfl, o1, o2⟩ := ol.two
    rw [ov_int o1, ov_int o2] at r
    exact call_max2 hc pins s σ' H _ us Q I r ⟨_, _, rfl, q.old R rp_int⟩
  · cases e
    obtain ⟨v, w, rfl, o1, o2⟩ := ol.two
    rw [ov_int o1, ov_int o2] at r
    exact call_min2 hc pins s σ' H _ us Q I r ⟨_, _, rfl, q.old R rp_int⟩
  · cases e
    obtain ⟨v, rfl, o1⟩ := ol.one
    rw [ov_int o1] at r
    exact call_abs pins s σ' H _ us Q I r ⟨_, rfl, q.old R rp_int⟩
  · split at e
    · rename_i m ms hm
      cases e
      obtain ⟨v, rfl, a, vs, rfl, h1, r1⟩ := ol.one
      have ev := RpL.int_inv r1 hm
      subst ev
      refine cr_max hc pins s σ' H _ us Q I r ⟨a, m :: ms, rfl, sqL_of h1, by simp, fun z hz hy => ?_⟩
      obtain ⟨t1, t2⟩ := top_mem ms m
      have ez : z = topOf m ms := Int.le_antisymm (t2 z hz) (hy _ t1)
      rw [ez]
      exact q.old R rp_int
    · cases e
  · split at e
    · rename_i m ms hm
      cases e
      obtain ⟨v, rfl, a, vs, rfl, h1, r1⟩ := ol.one
      have ev := RpL.int_inv r1 hm
      subst ev
      refine cr_min hc pins s σ' H _ us Q I r ⟨a, m :: ms, rfl, sqL_of h1, by simp, fun z hz hy => ?_⟩
      obtain ⟨t1, t2⟩ := low_mem ms m
      have ez : z = lowOf m ms := Int.le_antisymm (hy _ t1) (t2 z hz)
      rw [ez]
      exact q.old R rp_int
    · cases e
  · obtain ⟨ns, hn, e⟩ := Option.map_eq_some_iff.mp e
    cases e
    obtain ⟨v, rfl, a, vs, rfl, h1, r1⟩ := ol.one
    have ev := RpL.int_inv r1 hn
    subst ev
    exact cr_sum hc pins s σ' H _ us Q I r ⟨a, ns, rfl, sqL_of h1, q.old R rp_int⟩
  · obtain ⟨ns, hn, e⟩ := Option.map_eq_some_iff.mp e
    cases e
    obtain ⟨v, rfl, a, vs, rfl, f1, h1, r1⟩ := ol.one
    have ev := RpL.int_inv r1 hn
    subst ev
    exact sum_tup hc pins s σ' H _ us Q I r ⟨a, ns, rfl, sqT_of h1, q.old R rp_int⟩
  · obtain ⟨ns, hn, e⟩ := Option.map_eq_some_iff.mp e
    cases e
    obtain ⟨v, rfl, a, vs, rfl, h1, r1⟩ := ol.one
    have ev := RpL.bool_inv r1 hn
    subst ev
    exact cr_all hc pins s σ' H _ us Q I r ⟨a, ns, rfl, sqL_of h1, q.old R rp_bl⟩
  · obtain ⟨ns, hn, e⟩ := Option.map_eq_some_iff.mp e
    cases e
    obtain ⟨v, rfl, a, vs, rfl, h1, r1⟩ := ol.one
    have ev := RpL.bool_inv r1 hn
    subst ev
    exact cr_any hc pins s σ' H _ us Q I r ⟨a, ns, rfl, sqL_of h1, q.old R rp_bl⟩
  · cases e
    obtain ⟨v, rfl, a, vs, rfl, h1, r1⟩ := ol.one
    exact call_tuple_of pins s σ' H _ us Q I r ⟨a, vs, rfl, .inl ⟨sqL_of h1, q.newT R r1⟩⟩
  · cases e
    obtain ⟨v, rfl, a, vs, rfl, f1, h1, r1⟩ := ol.one
    exact call_tuple_of pins s σ' H _ us Q I r ⟨a, vs, rfl, .inr ⟨sqT_of h1, q.old R (rp_tup f1 r1)⟩⟩
  · cases e
    obtain ⟨v, rfl, a, vs, rfl, h1, r1⟩ := ol.one
    exact call_list_of pins s σ' H _ us Q I r ⟨a, vs, rfl, .inl (sqL_of h1), q.newL R r1⟩
  · cases e
    obtain ⟨v, rfl, a, vs, rfl, f1, h1, r1⟩ := ol.one
    exact call_list_of pins s σ' H _ us Q I r ⟨a, vs, rfl, .inr (sqT_of h1), q.newL R r1⟩
  · obtain ⟨x, hx, e⟩ := Option.map_eq_some_iff.mp e
    cases e
    obtain ⟨v, rfl, o1⟩ := ol.one
    obtain ⟨u, rfl, ru⟩ := vals1 r
    exact repr_ok hgd hu I R.fh o1 ru hx (q.old R rp_str)
  · obtain ⟨ys, hy, e⟩ := Option.map_eq_some_iff.mp e
    cases e
    obtain ⟨v, rfl, a, vs, rfl, h1, r1⟩ := ol.one
    exact sort_ok I R r h1 r1 hy q
  · rename_i ks ds0
    obtain ⟨ns, hn, e⟩ := Option.bind_eq_some_iff.mp e
    split at e
    · rename_i h64
      cases e
      obtain ⟨v, rfl, a, _, rfl, h1, vs, rfl, hl, r1⟩ := ol.one
      have hk := keysI_eq hn
      refine call_sortedDI hc pins s σ' H _ us Q I r ⟨a, _, ns, rfl, .inl h1, ?_, h64, fun ys p pm so hp => ?_⟩
      · rw [List.map_fst_zip (by rw [hl, r1.len]; exact Nat.le_refl _), hk]
      · rw [srtI_eq pm so]
        exact q.newL R (RpL.ints _) p hp
    · cases e
  · cases e
    obtain ⟨v, rfl, o1⟩ := ol.one
    rw [ov_int o1] at r
    exact call_int1 pins s σ' H _ us Q I r (.inl ⟨_, rfl, q.old R rp_int⟩)
  · cases e
    obtain ⟨v, rfl, o1⟩ := ol.one
    rw [ov_bl o1] at r
    exact call_int1 pins s σ' H _ us Q I r (.inr ⟨_, rfl, q.old R rp_int⟩)
  · split at e
    · rename_i hl
      rw [lk_eq] at hl
      obtain ⟨n, hn, e⟩ := Option.map_eq_some_iff.mp e
      cases e
      obtain ⟨v, rfl, o1⟩ := ol.one
      rw [ov_str o1] at r
      exact call_int_str pins s σ' H _ us Q I r ⟨_, n, rfl, hn, of_decide_eq_true hl, q.old R rp_int⟩
    · cases e
  · split at e
    · rename_i hl
      rw [lk_eq] at hl
      cases e
      obtain ⟨v, rfl, o1⟩ := ol.one
      rw [ov_int o1] at r
      exact call_str_int pins s σ' H _ us Q I r ⟨_, rfl, of_decide_eq_true hl, q.old R rp_str⟩
    · cases e
  · cases e
end
end MI

namespace MI
open PySem PySem.Spec PyProof.Rows L2
/-! ### defs by their runs -/
def ArgOk (K : PySem.W.Frag) (F H : Hp) : List AV → List V → Prop
  | [], vs => vs = []
  | .d d :: as, vs => ∃ v vs', vs = v :: vs' ∧ Rp K F d v ∧ ArgOk K F H as vs'
  | .b d :: as, vs => ∃ p x vs', vs = .ref p :: vs' ∧ F p = none ∧ H p = some x ∧ Cont K F p d x ∧ ArgOk K F H as vs'
def borsOf : List AV → List V → List Addr
  | .b _ :: as, .ref p :: vs => p :: borsOf as vs
  | .d _ :: as, _ :: vs => borsOf as vs
  | _, _ => []
def OutOk (K : PySem.W.Frag) (F H : Hp) : List AV → List V → List D → Prop
  | [], _, os => os = []
  | .d _ :: as, _ :: vs, os => OutOk K F H as vs os
  | .b _ :: as, .ref p :: vs, os => ∃ o os' x, os = o :: os' ∧ F p = none ∧ H p = some x ∧ Cont K F p o x ∧ OutOk K F H as vs os'
  | _, _, _ => False
def ResOk (K : PySem.W.Frag) (F H H' : Hp) : RD → V → Prop
  | .old d, v => Rp K F d v
  | .new d, v => ∃ p x, v = .ref p ∧ F p = none ∧ H p = none ∧ H' p = some x ∧ Cont K F p d x
def spC (K : PySem.W.Frag) (C : CallS) (f : Str) : Sp := fun vs H Q _ => ∃ F as rd os, C f as = some (rd, os) ∧ Same F H ∧ ArgOk K F H as vs ∧ (borsOf as vs).Nodup ∧
  ∀ F' v H', Same F F' → Same F' H' → (∀ a, F' a ≠ none → F a ≠ none ∨ H a = none) → (∀ a o, H a = some o → a ∉ borsOf as vs → H' a = some o) → (∀ a, H a ≠ none → H' a ≠ none) →
    OutOk K F' H' as vs os → ResOk K F' H H' rd v → Q v H'
theorem ArgOk.len {K : PySem.W.Frag} {F H : Hp} : ∀ {as : List AV} {vs : List V}, ArgOk K F H as vs → vs.length = as.length
  | [], vs, h => by
    have h : vs = [] := h
    subst h
    rfl
  | .d d :: as, vs, h => by
    obtain ⟨v, vs', rfl, _, h3⟩ := h
    rw [List.length_cons, List.length_cons, ArgOk.len h3]
  | .b d :: as, vs, h => by
    obtain ⟨v, ws, vs', rfl, _, _, _, h3⟩ := h
    rw [List.length_cons, List.length_cons, ArgOk.len h3]
theorem modes_len : ∀ as : List AV, (modesOf as).length = as.length
  | [] => rfl
  | .d _ :: r => by simp [modesOf, modes_len r]
  | .b _ :: r => by simp [modesOf, modes_len r]
theorem calls_len {P : Prg} {k : Nat} {f : Str} {as : List AV} {y : RD × List D} (h : P.calls k f as = some y) : ∃ fn, P.find f = some fn ∧ as.length = fn.ms.length := by
  cases k with
  | zero => cases h
  | succ k =>
    unfold Prg.calls at h
    cases q : P.find f with
    | none => rw [q] at h; cases h
    | some fn =>
      rw [q] at h
      have h : runFn ⟨P.calls k, P.glob, P.modes, P.names, P.cls, P.kws⟩ P.w fn as = some y := h
      unfold runFn at h
      split at h
      · rename_i hm
        exact ⟨fn, rfl, by rw [← hm, modes_len]⟩
      · cases h

/-- a def keeps its promise where no repr is under way -/
structure FnG (P : Program) (w : World) (K : PySem.W.Frag) (mg : Str → Option Value) (base : Heap) (k : Nat) (f : Addr) (fd : FuncData) (ps : List Str) (sp : Sp) : Prop where
  len : ∀ vs H Q E, sp vs H Q E → vs.length = ps.length
  run : ∀ (A : Around) (outer : List PySem.Env) (s : Shared) (H : Hp) (args : Args) (us : List Value) (vs : List V) (Q : VK) (E : XK), Room k A → A.guards = some [] → Env0 P w K mg base A outer s H → BindsTo s fd args (ps.zip us) → Vals vs us → sp vs H Q E →
    codeAny (model P w) A (.call (.ref f) args) (CR CX0 outer P w H s Q E) s
end MI
namespace MI
open PySem PySem.Spec PyProof.Rows L2
section
variable {X : Cx} {k : Nat} {f : Addr} {fd : FuncData} {ps : List Str} {sp : Sp} {x : Str} {p pos : Pos} {e : Expr} {es : List Expr} {t : TA}
theorem run_fnG {pins : List (Addr × Obj)} {σ : L2.St} {H : Hp} {s : Shared} {Q : VK} {us : List Value} {vs : List V} (F : FnG X.prog X.w X.K X.mg X.base k f fd ps sp) (hr : Room k X.A) (hg : X.A.guards = some []) (hb : Binds X.K fd ps [])
    (I : Inv X pins σ H s) (r : Vals vs us) (h : sp vs H Q E0) : wpAny (model X.prog X.w) X.A (call (.ref f) us) (EP X pins σ Q) X.xe s := by
  have hl : (us ++ []).length = ps.length := by rw [List.append_nil, ← r.length]; exact F.len _ _ _ _ h
  have b := hb s us I.kIn hl
  rw [List.append_nil] at b
  refine wpAny_call (codeAny_mono (F.run X.A X.stack s H ⟨us, []⟩ us vs Q E0 hr hg I.env0 b r h) fun r s' hq => ?_)
  cases r with
  | error e => exact False.elim hq
  | ok fl =>
    cases fl with
    | ret u => exact I.after hq
    | next => exact False.elim hq
    | brk => exact False.elim hq
    | cont => exact False.elim hq
def tCallG (sp : Sp) (t : TA) : TE := fun σ H Q => t σ H fun vs H1 => sp vs H1 Q E0
theorem pe_callG (F : FnG X.prog X.w X.K X.mg X.base k f fd ps sp) (hr : Room k X.A) (hgd : X.A.guards = some []) (hg : Gl X x) (hm : X.mg x = some (.ref f)) (hk : PySem.W.keepIn X.K (.ref f) = true) (hb : Binds X.K fd ps [])
    (ha : PA X (e :: es) t) (hdb : (x == ("__debug__" : Str)) = false) (he : starEach (e :: es) X.env = (false, eval e X.env) :: starEach es X.env) (hpl : (backTo pos (starEach es X.env)).any (·.1) = false) :
    PE X (.Call (.Name x p) (e :: es) [] pos) (tCallG sp t) := by
  refine ⟨fun pins s σ H Q I h => ?_⟩
  refine wpAny_Call_Name_kw (ld_glob I hg hm ?_ hdb)
  refine PySem.W.callWith_K (h₀ := X.base) I.ok.mod.kin hk (thn (ha.run pos pins s σ H _ I h) fun us s1 ⟨vs, H1, I1, r, q⟩ => ⟨I1.kIn, ?_⟩) he hpl
  exact run_fnG F hr hgd hb I1 r q
theorem pe_callG0 (F : FnG X.prog X.w X.K X.mg X.base k f fd ps sp) (hr : Room k X.A) (hgd : X.A.guards = some []) (hg : Gl X x) (hm : X.mg x = some (.ref f)) (hk : PySem.W.keepIn X.K (.ref f) = true) (hb : Binds X.K fd ps [])
    (hdb : (x == ("__debug__" : Str)) = false) : PE X (.Call (.Name x p) [] [] pos) (tCallG sp tNil) := by
  refine ⟨fun pins s σ H Q I h => ?_⟩
  refine wpAny_Call_Name_kw (ld_glob I hg hm ?_ hdb)
  exact PySem.W.callWith_K0 I.kIn hk (run_fnG (us := []) F hr hgd hb I .nil h)
end
theorem fn_ofG {P : Program} {w : World} {K : PySem.W.Frag} {mg : Str → Option Value} {base : Heap} {k : Nat} {f : Addr} {name qual : Str} {params : Arguments} {body : List Stmt} {scope : Scope} {dV kV doc pm cdv ct oc : Value} {an od : Option Addr}
    {osl : Array (Option Value)} {N ps : List Str} {sp : Sp} (lk : K.lookup f = some ⟨oc, od, .func (PySem.W.fnOf name qual params body scope dV kV doc pm an cdv ct), osl⟩) (hcd : PySem.W.codeIn K cdv qual = true) (S : FnScope N ps scope)
    (len : ∀ vs H Q E, sp vs H Q E → vs.length = ps.length)
    (hbody : ∀ (A : Around) (outer : List PySem.Env) (s : Shared) (H : Hp) (vs : List V) (Q : VK) (E : XK), Room k (A.deeper (envOfC qual scope s.heap.objs.size f cdv)) → A.guards = some [] → sp vs H Q E →
      ∃ t, PSs (cxOf CX0 P w K mg base N qual scope f cdv A outer s H E) body t ∧ t { nx := fun _ H' => Q .non H', rt := Q } (start N vs) H) :
    FnG P w K mg base (k + 1) f (PySem.W.fnOf name qual params body scope dV kV doc pm an cdv ct) ps sp := by
  refine ⟨len, fun A outer s H args us vs Q E hr hgd e0 hb r hsp => ?_⟩
  have hl := len _ _ _ _ hsp
  have KX : K.In s.heap := e0.mod.kin.keeps fun b o e => (e0.bs b o e).1
  have lim : s.heap.NoLimit := e0.mod.nolimit.keeps fun b o e => (e0.bs b o e).1
  have hkind : ∀ y ∈ ps.zip us, scope.names.lookup y.1 = some .local ∨ (scope.names.lookup y.1 = some .cell ∧ ((cellsFrom (s.heap.objs.size + 1) scope.names []).lookup y.1).isSome = true) := fun ⟨n, v⟩ hy => by
    rcases S.par n (List.of_mem_zip hy).1 with q | q
    · exact .inl q
    · exact .inr ⟨q, PySem.W.cellsFrom_some _ _ _ (.inl q)⟩
  refine codeAny_call_function hr.depth (KX _ _ lk) rfl S.co S.gen rfl (PySem.W.codeRec_of KX hcd) (hb _ _ _ _ ?_)
  refine wpAny_newFunctionEnv_cells S.kind hkind fun env he s1 x => ?_
  subst he
  refine ⟨lim.keeps x.toInCall.keep, codeAny_func ?_⟩
  obtain ⟨t, ht, hq⟩ := hbody A outer s H vs Q E (hr.deeper _) hgd hsp
  have I : Inv (cxOf CX0 P w K mg base N qual scope f cdv A outer s H E) [] (start N vs) H s1 := inv_start S hr.hd e0 hl r x
  refine wpAny_mono (ht.run [] s1 (start N vs) H _ I hq) (fun fl s' hs => ?_) fun e s' hs => hs
  have fin : ∀ {σ' : L2.St} {H' : Hp} {v : V} {u : Value}, Inv (cxOf CX0 P w K mg base N qual scope f cdv A outer s H E) [] σ' H' s' → RelV v u → Q v H' → CE outer P w H s Q u s' :=
    fun {σ' H' v u} J rv q => ⟨v, H', J.os, J.bare, J.base, J.hok, rv, q⟩
  cases fl with
  | ret u =>
    obtain ⟨v, σ', H', J, rv, q⟩ := hs
    exact fin J rv q
  | next =>
    obtain ⟨σ', H', J, q⟩ := hs
    exact fin (v := V.non) (u := Value.none) J rfl q
  | brk =>
    obtain ⟨_, _, _, q⟩ := hs
    exact False.elim q
  | cont =>
    obtain ⟨_, _, _, q⟩ := hs
    exact False.elim q
end MI

namespace MI
open PySem PySem.Spec PyProof.Rows L2
def biNames : List Str := ["len", "max", "min", "abs", "sum", "all", "any", "tuple", "list", "repr", "range", "enumerate", "zip", "isinstance", "int", "bool", "str", "dict", "sorted"]
/-- a def keeps a promise of positional arguments, where no repr is under way -/
def FnRG (P : Program) (w : World) (K : PySem.W.Frag) (mg : Str → Option Value) (base : Heap) (k : Nat) (f : Addr) (sp : Sp) : Prop :=
  ∀ (A : Around) (outer : List PySem.Env) (s : Shared) (H : Hp) (us : List Value) (vs : List V) (Q : VK) (E : XK), Room k A → A.guards = some [] → Env0 P w K mg base A outer s H → Vals vs us → sp vs H Q E →
    codeAny (model P w) A (.call (.ref f) ⟨us, []⟩) (CR CX0 outer P w H s Q E) s
/-- what __init__(self, *xs) promises to its caller -/
def spIni (sp : Sp) : Sp := fun vs H Q E => ∃ v rest, vs = v :: rest ∧ rest.length ≤ sizeLine ∧ ∀ p, H p = none → sp [v, .ref p] (upd H p (.tup rest)) Q E
/-- what a class's facts are: its instances' fields, its making -/
structure ClsOk (P : Prg) (k : Nat) (X : Cx) (c : Str) (ci : CI) : Prop where
  mg : X.mg c = some (.ref ci.at_)
  cl : Cls X.K ci.at_
  nf : ∀ f ∈ ci.fl, NoAttr X.K ci.at_ f
  isC : C8.InsC X.K ci.at_
  io : ∀ t ∈ ["NoneType", "bool", "int", "str", "tuple", "list"], PySem.W.kitOne X.K (.type t) (.ref ci.at_) = some false
  mak : ∃ f, Mk X.K ci.at_ f ∧ FnRG X.prog X.w X.K X.mg X.base (2 * k) f (spIni (spC X.K (P.calls k) ci.ini))
  call : ∀ m, ci.call = some m → ∃ g, StX.CallO X.K ci.at_ g ∧ FnRG X.prog X.w X.K X.mg X.base (2 * k) g (spC X.K (P.calls k) m)
  props : ∀ nm m, ci.props.lookup nm = some m → ∃ p g, PropOf X.K ci.at_ nm p g ∧ FnRG X.prog X.w X.K X.mg X.base (2 * k) g (spC X.K (P.calls k) m)
structure Good (P : Prg) (k : Nat) (X : Cx) (N : List Str) (sc : Scope) (fn : Str → Bool) : Prop where
  hN : X.N = N
  nd : N.Nodup
  hsc : X.env.scope = sc
  hfn : X.fn = fn
  kind : sc.kind = .function
  calm : X.calm = true
  room : Room (2 * k + 1) X.A
  gd : X.A.guards = some []
  fns : ∀ f F, P.fns.lookup f = some F → ∃ a fd, X.mg f = some (.ref a) ∧ PySem.W.keepIn X.K (.ref a) = true ∧ Binds X.K fd F.ps [] ∧ FnG X.prog X.w X.K X.mg X.base (2 * k) a fd F.ps (spC X.K (P.calls k) f) ∧
    ∀ ks, (f, ks) ∈ P.kws → ∀ (s : Shared) (ws us : List Value), pickK ks ws F.ps = some us → ws.length = ks.length → BindsTo s fd ⟨[], ks.zip ws⟩ (F.ps.zip us)
  bi : ∀ x ∈ biNames, X.mg x = none
  glob : ∀ x d, P.glob x = some d → ∃ u v, X.mg x = some u ∧ RelV v u ∧ ∀ F, Rp X.K F d v
  cls : ∀ c ci, P.cls c = some ci → ClsOk P k X c ci
theorem Good.roomC {P : Prg} {k : Nat} {X : Cx} {N : List Str} {sc : Scope} {fn : Str → Bool} (G : Good P k X N sc fn) : Room (2 * k) X.A := G.room.mono (by omega)
theorem Good.un {P : Prg} {k : Nat} {X : Cx} {N : List Str} {sc : Scope} {fn : Str → Bool} (G : Good P k X N sc fn) : X.A.units + 128 < cLine := by have := G.room.un; omega

theorem PEw {X : Cx} {e : Expr} {t t' : TE} (h : PE X e t) (f : ∀ σ H Q, t' σ H Q → t σ H Q) : PE X e t' := ⟨fun pins s σ H Q I q => h.run pins s σ H Q I (f σ H Q q)⟩
theorem PTw {X : Cx} {e : Expr} {t t' : TT} (h : PT X e t) (f : ∀ σ H Q, t' σ H Q → t σ H Q) : PT X e t' := ⟨fun pins s σ H Q I q => h.run pins s σ H Q I (f σ H Q q)⟩
theorem PAw {X : Cx} {e : List Expr} {t t' : TA} (h : PA X e t) (f : ∀ σ H Q, t' σ H Q → t σ H Q) : PA X e t' := ⟨fun pos pins s σ H Q I q => h.run pos pins s σ H Q I (f σ H Q q)⟩
theorem PSw {X : Cx} {e : Stmt} {t t' : TS} (h : PS X e t) (f : ∀ D σ H, t' D σ H → t D σ H) : PS X e t' := ⟨fun pins s σ H D I q => h.run pins s σ H D I (f D σ H q)⟩
theorem PSsw {X : Cx} {e : List Stmt} {t t' : TS} (h : PSs X e t) (f : ∀ D σ H, t' D σ H → t D σ H) : PSs X e t' := ⟨fun pins s σ H D I q => h.run pins s σ H D I (f D σ H q)⟩

/-! ### readings of terms -/
def tR (K : PySem.W.Frag) (g : Gh) (ev : Env → Option (RD × Env)) : TE := fun σ H Q => ∃ kp F env a env', ev env = some (a, env') ∧ Rel K g kp F env σ H ∧
  ∀ F' v H', Same F F' → Rel K g kp F' env' σ H' → PostR K g kp F' env' σ H' a v → Q v H'
def tD (K : PySem.W.Frag) (g : Gh) (ev : Env → Option (D × Env)) : TE := fun σ H Q => ∃ kp F env a env', ev env = some (a, env') ∧ Rel K g kp F env σ H ∧
  ∀ F' v H', Same F F' → Rel K g kp F' env' σ H' → Rp K F' a v → Q v H'
def tP (K : PySem.W.Frag) (g : Gh) (ev : Env → Option (PV × Env)) : TE := fun σ H Q => ∃ kp F env a env', ev env = some (a, env') ∧ Rel K g kp F env σ H ∧
  ∀ F' v H', Same F F' → Rel K g kp F' env' σ H' → PostP K F' σ a v → Q v H'
def tTst (K : PySem.W.Frag) (g : Gh) (ev : Env → Option (Bool × Env)) : TT := fun σ H Q => ∃ kp F env a env', ev env = some (a, env') ∧ Rel K g kp F env σ H ∧
  ∀ F' H', Same F F' → Rel K g kp F' env' σ H' → Q a H'
def PostPs (K : PySem.W.Frag) (F : Hp) (σ : L2.St) : List PV → List V → Prop
  | [], vs => vs = []
  | p :: ps, vs => ∃ v vs', vs = v :: vs' ∧ PostP K F σ p v ∧ PostPs K F σ ps vs'
theorem PostPs.mono {K : PySem.W.Frag} {F F' : Hp} {σ : L2.St} (e : Same F F') : ∀ {ps : List PV} {vs : List V}, PostPs K F σ ps vs → PostPs K F' σ ps vs
  | [], _, h => h
  | p :: ps, vs, ⟨v, vs', h1, h2, h3⟩ => ⟨v, vs', h1, h2.mono e, PostPs.mono e h3⟩
def tPs (K : PySem.W.Frag) (g : Gh) (ev : Env → Option (List PV × Env)) : TA := fun σ H Q => ∃ kp F env a env', ev env = some (a, env') ∧ Rel K g kp F env σ H ∧
  ∀ F' vs H', Same F F' → Rel K g kp F' env' σ H' → PostPs K F' σ a vs → Q vs H'
def tDs (K : PySem.W.Frag) (g : Gh) (ev : Env → Option (List D × Env)) : TA := fun σ H Q => ∃ kp F env a env', ev env = some (a, env') ∧ Rel K g kp F env σ H ∧
  ∀ F' vs H', Same F F' → Rel K g kp F' env' σ H' → RpL K F' a vs → Q vs H'

theorem post_old {K : PySem.W.Frag} {g : Gh} {kp F : Hp} {env : Env} {σ : L2.St} {H : Hp} {d : D} {v : V} (h : Rp K F d v) : PostR K g kp F env σ H (.old d) v := h
section
variable {X : Cx} {g : Gh} {e : Expr}
/-- a result frozen -/
theorem snd_frz {ev : Env → Option (RD × Env)} (h : PE X e (tR X.K g ev)) : PE X e (tD X.K g (frz ev)) := by
  refine PEw h fun σ H Q q => ?_
  obtain ⟨kp, F, env, d, env', e1, R, q⟩ := q
  unfold frz at e1
  obtain ⟨⟨rd, e2⟩, e3, e4⟩ := Option.map_eq_some_iff.mp e1
  cases e4
  refine ⟨kp, F, env, rd, e2, e3, R, fun F' v H' s1 R1 po => ?_⟩
  cases rd with
  | old d => exact q F' v H' s1 R1 po
  | new d =>
    obtain ⟨p, x, rfl, f1, h0, hk, hp, r, no⟩ := po
    have sF : Same F' (upd F' p x) := MI.same_upd f1
    exact q (upd F' p x) (.ref p) H' (s1.trans sF) (R1.freeze f1 h0 hk hp no) ((r.mono sF).rp upd_same)
theorem visB_ok {sc : Scope} {x : Str} (h : visB sc x = true) : Vis sc x := by
  unfold visB at h
  split at h
  · exact .inl (by assumption)
  · exact .inr (.inl (by assumption))
  · exact .inr (.inr (by assumption))
  · cases h
theorem glB_ok {sc : Scope} {x : Str} (h : glB sc x = true) : sc.names.lookup x = some .globalImplicit := by
  unfold glB at h
  split at h
  · assumption
  · cases h
theorem isAt_ok {N : List Str} {i : Nat} {x : Str} (h : isAt N i x = true) : N[i]? = some x := by
  unfold isAt at h
  split at h
  · rename_i y e
    rw [of_decide_eq_true h] at e
    exact e
  · cases h
theorem nmB_ok {x : Str} (h : nmB x = true) : (x == ("__debug__" : Str)) = false ∧ (x == ("__classdict__" : Str)) = false ∧ x ≠ "__name__" := by
  unfold nmB at h
  simp only [Bool.and_eq_true, Bool.not_eq_true'] at h
  refine ⟨h.1.1, h.1.2, fun e => ?_⟩
  rw [e] at h
  simp at h
variable {P : Prg} {k : Nat} {N : List Str} {sc : Scope} {fn : Str → Bool}
theorem Good.gl (G : Good P k X N sc fn) {x : Str} (h : glB sc x = true) : Gl X x := by
  show X.env.scope.names.lookup x = _
  rw [G.hsc]
  exact glB_ok h
theorem Good.var (G : Good P k X N sc fn) {i : Nat} {x : Str} {pos : Pos} (h1 : isAt N i x = true) (h2 : visB sc x = true) (h3 : nmB x = true) : PE X (.Name x pos) (tVar i) := by
  obtain ⟨a, b, c⟩ := nmB_ok h3
  exact pe_var (by rw [G.hN]; exact isAt_ok h1) (by rw [G.hsc]; exact visB_ok h2) a b
theorem mE_var {i : Nat} (h : mE N sc (.var i) e = true) : ∃ x pos, e = .Name x pos ∧ isAt N i x = true ∧ visB sc x = true ∧ nmB x = true := by
  unfold mE at h
  split at h
  · simp only [Bool.and_eq_true] at h
    exact ⟨_, _, rfl, h.1.1, h.1.2, h.2⟩
  · cases h
theorem isSet_val {env : Env} {i : Nat} (h : isSet env i = true) : ∃ s, env[i]? = some s ∧ s ≠ .un := by
  unfold isSet at h
  split at h
  · cases h
  · cases h
  · rename_i s hs he
    exact ⟨s, he, hs⟩
theorem Rel.isSet {K : PySem.W.Frag} {kp F : Hp} {env : Env} {σ : L2.St} {H : Hp} {g : Gh} (R : Rel K g kp F env σ H) {i : Nat} (h : isSet env i = true) : ∃ v, σ[i]? = some (some v) := by
  obtain ⟨s, e, ne⟩ := isSet_val h
  have z := R.sl i s e
  cases s with
  | un => exact absurd rfl ne
  | val d => obtain ⟨v, e1, _⟩ := z; exact ⟨v, e1⟩
  | own d => obtain ⟨p, vs, e1, _⟩ := z; exact ⟨_, e1⟩
  | bor d => obtain ⟨p, vs, e1, _⟩ := z; exact ⟨_, e1⟩
theorem snd_toP (G : Good P k X N sc fn) {e' : E} {C : Ctx} (hm : mE N sc e' e = true) (h : PE X e (tR X.K g (evR C e'))) : PE X e (tP X.K g (toP e' (evR C e'))) := by
  by_cases hv : ∃ i, e' = .var i
  · obtain ⟨i, rfl⟩ := hv
    obtain ⟨x, pos, rfl, h1, h2, h3⟩ := mE_var hm
    refine PEw (G.var h1 h2 h3) fun σ H Q q => ?_
    obtain ⟨kp, F, env, a, env', e1, R, q⟩ := q
    unfold toP at e1
    simp only at e1
    split at e1
    · rename_i hs
      cases e1
      obtain ⟨v, ev⟩ := R.isSet hs
      exact ⟨v, ev, q F v H (Same.refl F) R ev⟩
    · cases e1
  · refine PEw (snd_frz h) fun σ H Q q => ?_
    obtain ⟨kp, F, env, a, env', e1, R, q⟩ := q
    have e2 : ((evR C e') env).map (fun x => (PV.d x.1.d, x.2)) = some (a, env') := by
      unfold toP at e1
      split at e1
      · exact absurd ⟨_, rfl⟩ hv
      · exact e1
    obtain ⟨⟨rd, e3⟩, e4, e5⟩ := Option.map_eq_some_iff.mp e2
    cases e5
    refine ⟨kp, F, env, rd.d, e3, by unfold frz; rw [e4]; rfl, R, fun F' v H' s1 R1 po => q F' v H' s1 R1 po⟩
/-! ### plain expressions -/
theorem star_of (h : plainX e = true) (es : List Expr) (env : PySem.Env) : starEach (e :: es) env = (false, eval e env) :: starEach es env := by
  cases e <;> first | rfl | cases h
theorem ix_of (h : plainX e = true) : PlainIx e := by
  cases e <;> first | (intro _ _; rfl) | cases h
theorem fold_of (h : plainX e = true) (env : PySem.Env) (x : Value) : foldedSetIterable e env x = pure x := by
  cases e <;> first | rfl | cases h
theorem mark_of (h : plainX e = true) (op : CmpOp) : behindInMarks op e = false := by
  cases e <;> first | rfl | cases h
theorem mE_plain : ∀ {e' : E} {e : Expr}, mE N sc e' e = true → plainX e = true := by
  intro e' e h
  cases e'
  case cst d => cases d <;> (unfold mE at h; first | cases h | (split at h <;> first | rfl | cases h))
  case star a => unfold mE at h; cases h
  all_goals (unfold mE at h; split at h <;> first | rfl | cases h)
theorem mEs_any : ∀ {es' : List E} {es : List Expr} {pos : Pos} {env : PySem.Env}, mEs N sc es' es = true → (backTo pos (starEach es env)).any (·.1) = false
  | [], [], _, _, _ => rfl
  | e' :: es', e :: es, pos, env, h => by
    unfold mEs at h
    simp only [Bool.and_eq_true] at h
    rw [star_of (mE_plain h.1)]
    have ih := mEs_any (pos := pos) (env := env) h.2
    unfold backTo at ih ⊢
    rw [List.map_cons, List.any_cons, ih]
    rfl
  | [], _ :: _, _, _, h => by unfold mEs at h; cases h
  | _ :: _, [], _, _, h => by unfold mEs at h; cases h
/-! ### argument lists -/
theorem snd_nilP : PA X [] (tPs X.K g fun env => some ([], env)) := PAw pa_nil fun σ H Q ⟨kp, F, env, a, env', e1, R, q⟩ => by
  cases e1
  exact q F [] H (Same.refl F) R rfl
theorem snd_consP {es : List Expr} {ev : Env → Option (PV × Env)} {evs : Env → Option (List PV × Env)} (hp : plainX e = true) (h : PE X e (tP X.K g ev)) (hs : PA X es (tPs X.K g evs)) :
    PA X (e :: es) (tPs X.K g fun env => (ev env).bind fun x => (evs x.2).map fun y => (x.1 :: y.1, y.2)) := PAw (pa_cons h hs (star_of hp es X.env)) fun σ H Q ⟨kp, F, env, a, env', e1, R, q⟩ => by
  obtain ⟨⟨p, e2⟩, h2, e3⟩ := Option.bind_eq_some_iff.mp e1
  obtain ⟨⟨ps, e4⟩, h4, e5⟩ := Option.map_eq_some_iff.mp e3
  cases e5
  exact ⟨kp, F, env, p, e2, h2, R, fun F1 x H1 s1 R1 po => ⟨kp, F1, e2, ps, e4, h4, R1, fun F2 xs H2 s2 R2 pos => q F2 (x :: xs) H2 (s1.trans s2) R2 ⟨x, xs, rfl, po.mono s2, pos⟩⟩⟩
theorem snd_nilD : PA X [] (tDs X.K g fun env => some ([], env)) := PAw pa_nil fun σ H Q ⟨kp, F, env, a, env', e1, R, q⟩ => by
  cases e1
  exact q F [] H (Same.refl F) R .nil
theorem snd_consD {es : List Expr} {ev : Env → Option (D × Env)} {evs : Env → Option (List D × Env)} (hp : plainX e = true) (h : PE X e (tD X.K g ev)) (hs : PA X es (tDs X.K g evs)) :
    PA X (e :: es) (tDs X.K g fun env => (ev env).bind fun x => (evs x.2).map fun y => (x.1 :: y.1, y.2)) := PAw (pa_cons h hs (star_of hp es X.env)) fun σ H Q ⟨kp, F, env, a, env', e1, R, q⟩ => by
  obtain ⟨⟨p, e2⟩, h2, e3⟩ := Option.bind_eq_some_iff.mp e1
  obtain ⟨⟨ps, e4⟩, h4, e5⟩ := Option.map_eq_some_iff.mp e3
  cases e5
  exact ⟨kp, F, env, p, e2, h2, R, fun F1 x H1 s1 R1 po => ⟨kp, F1, e2, ps, e4, h4, R1, fun F2 xs H2 s2 R2 pos => q F2 (x :: xs) H2 (s1.trans s2) R2 (.cons (Rp.mono s2 _ _ po) pos)⟩⟩
/-! ### expressions -/
theorem snd_var (G : Good P k X N sc fn) {C : Ctx} {i : Nat} (hm : mE N sc (.var i) e = true) : PE X e (tR X.K g (evR C (.var i))) := by
  obtain ⟨x, pos, rfl, h1, h2, h3⟩ := mE_var hm
  refine PEw (G.var h1 h2 h3) fun σ H Q q => ?_
  obtain ⟨kp, F, env, a, env', e1, R, q⟩ := q
  unfold evR at e1
  split at e1
  · rename_i d hd
    cases e1
    obtain ⟨v, ev, rp⟩ := R.sl i _ hd
    exact ⟨v, ev, q F v H (Same.refl F) R rp⟩
  · rename_i ds hd
    split at e1
    · cases e1
      obtain ⟨F', v, sF, ev, rp, R'⟩ := R.frzSlot hd
      exact ⟨v, ev, q F' v H sF R' rp⟩
    · cases e1
  · cases e1
theorem snd_cst {C : Ctx} {d : D} (hm : mE N sc (.cst d) e = true) : PE X e (tR X.K g (evR C (.cst d))) := by
  have fin : ∀ {v : V}, (∀ F, Rp X.K F d v) → ∀ σ H Q, tR X.K g (evR C (.cst d)) σ H Q → tC v σ H Q := fun {v} hr σ H Q q => by
    obtain ⟨kp, F, env, a, env', e1, R, q⟩ := q
    unfold evR at e1
    cases e1
    exact q F v H (Same.refl F) R (hr F)
  cases d
  case non => unfold mE at hm; split at hm; exact PEw pe_non (fin fun _ => rp_non); cases hm
  case bl b => unfold mE at hm; split at hm; rw [← eq_of_beq hm]; exact PEw pe_bl (fin fun _ => rp_bl); cases hm
  case int b => unfold mE at hm; split at hm; rw [← of_decide_eq_true hm]; exact PEw pe_int (fin fun _ => rp_int); cases hm
  case str b => unfold mE at hm; split at hm; rw [← of_decide_eq_true hm]; exact PEw pe_str (fin fun _ => rp_str); cases hm
  all_goals (unfold mE at hm; cases hm)
theorem snd_glo (G : Good P k X N sc fn) {x : Str} (hm : mE N sc (.glo x) e = true) : PE X e (tR X.K g (evR (P.ctx k) (.glo x))) := by
  unfold mE at hm
  split at hm
  · simp only [Bool.and_eq_true, decide_eq_true_eq] at hm
    obtain ⟨⟨rfl, h1⟩, h2⟩ := hm
    refine ⟨fun pins s σ H Q I q => ?_⟩
    obtain ⟨kp, F, env, a, env', e1, R, q⟩ := q
    unfold evR at e1
    obtain ⟨d, hd, e2⟩ := Option.map_eq_some_iff.mp e1
    cases e2
    obtain ⟨u, v, hu, rv, rp⟩ := G.glob x d hd
    exact ld_glob I (G.gl h1) hu ⟨v, H, I, rv, q F v H (Same.refl F) R (rp F)⟩ (nmB_ok h2).1
  · cases hm
theorem snd_bin {op : Operator} {a b : Expr} {pos : Pos} {pa pb : Env → Option (PV × Env)} (ha : PE X a (tP X.K g pa)) (hb : PE X b (tP X.K g pb)) :
    PE X (.BinOp a op b pos) (tR X.K g fun env => (pa env).bind fun p => (pb p.2).bind fun q => (getP p.1 q.2).bind fun x => (getP q.1 q.2).bind fun y => (arith op x y).map fun z => (z, q.2)) :=
  PEw (pe_op (op_A (g := g)) ha hb) fun σ H Q ⟨kp, F, env, rd, env', e1, R, q⟩ => by
    obtain ⟨⟨p, e2⟩, h2, e1⟩ := Option.bind_eq_some_iff.mp e1
    obtain ⟨⟨p', e3⟩, h3, e1⟩ := Option.bind_eq_some_iff.mp e1
    obtain ⟨x, hx, e1⟩ := Option.bind_eq_some_iff.mp e1
    obtain ⟨y, hy, e1⟩ := Option.bind_eq_some_iff.mp e1
    obtain ⟨z, hz, e1⟩ := Option.map_eq_some_iff.mp e1
    cases e1
    exact ⟨kp, F, env, p, e2, h2, R, fun F1 v H1 s1 R1 po => ⟨kp, F1, e2, p', e3, h3, R1, fun F2 w H2 s2 R2 po2 =>
      ⟨kp, F2, e3, σ, x, y, rd, R2, R2.getP (po.mono s2) hx, R2.getP po2 hy, hz, fun F3 u H3 s3 R3 po3 => q F3 u H3 ((s1.trans s2).trans s3) R3 po3⟩⟩⟩
theorem snd_neg {a : Expr} {pos : Pos} {ev : Env → Option (D × Env)} (ha : PE X a (tD X.K g ev)) :
    PE X (.UnaryOp .USub a pos) (tR X.K g fun env => (ev env).bind fun x => match x.1 with | .int i => some (.old (.int (-i)), x.2) | _ => none) :=
  PEw (pe_un un_neg ha) fun σ H Q ⟨kp, F, env, rd, env', e1, R, q⟩ => by
    obtain ⟨⟨d, e2⟩, h2, e1⟩ := Option.bind_eq_some_iff.mp e1
    refine ⟨kp, F, env, d, e2, h2, R, fun F1 v H1 s1 R1 po => ?_⟩
    cases d <;> first | cases e1 | skip
    unfold Rp at po
    exact ⟨_, po, q F1 _ H1 s1 R1 (post_old rp_int)⟩
theorem snd_cmp (hu : X.A.units + 128 < cLine) {op : CmpOp} {a b : Expr} {pos : Pos} {pa pb : Env → Option (PV × Env)} (hp : plainX b = true) (ha : PE X a (tP X.K g pa)) (hb : PE X b (tP X.K g pb)) :
    PE X (.Compare a [op] [b] pos) (tR X.K g fun env => (pa env).bind fun p => (pb p.2).bind fun q => (getP p.1 q.2).bind fun x => (getP q.1 q.2).bind fun y => (cmpD op x y).map fun z => (.old (.bl z), q.2)) :=
  PEw (pe_cmpR (op_C hu) ha hb (mark_of hp op)) fun σ H Q ⟨kp, F, env, rd, env', e1, R, q⟩ => by
    obtain ⟨⟨p, e2⟩, h2, e1⟩ := Option.bind_eq_some_iff.mp e1
    obtain ⟨⟨p', e3⟩, h3, e1⟩ := Option.bind_eq_some_iff.mp e1
    obtain ⟨x, hx, e1⟩ := Option.bind_eq_some_iff.mp e1
    obtain ⟨y, hy, e1⟩ := Option.bind_eq_some_iff.mp e1
    obtain ⟨z, hz, e1⟩ := Option.map_eq_some_iff.mp e1
    cases e1
    exact ⟨kp, F, env, p, e2, h2, R, fun F1 v H1 s1 R1 po => ⟨kp, F1, e2, p', e3, h3, R1, fun F2 w H2 s2 R2 po2 =>
      ⟨F2, x, y, z, R2.fh, R2.getP (po.mono s2) hx, R2.getP po2 hy, hz, q F2 _ H2 (s1.trans s2) R2 (post_old rp_bl)⟩⟩⟩
theorem snd_cmpT (hu : X.A.units + 128 < cLine) {op : CmpOp} {a b : Expr} {pos : Pos} {pa pb : Env → Option (PV × Env)} (hp : plainX b = true) (ha : PE X a (tP X.K g pa)) (hb : PE X b (tP X.K g pb)) :
    PT X (.Compare a [op] [b] pos) (tTst X.K g fun env => (pa env).bind fun p => (pb p.2).bind fun q => (getP p.1 q.2).bind fun x => (getP q.1 q.2).bind fun y => (cmpD op x y).map fun z => (z, q.2)) :=
  PTw (pt_cmpR (op_C hu) ha hb (mark_of hp op)) fun σ H Q ⟨kp, F, env, rd, env', e1, R, q⟩ => by
    obtain ⟨⟨p, e2⟩, h2, e1⟩ := Option.bind_eq_some_iff.mp e1
    obtain ⟨⟨p', e3⟩, h3, e1⟩ := Option.bind_eq_some_iff.mp e1
    obtain ⟨x, hx, e1⟩ := Option.bind_eq_some_iff.mp e1
    obtain ⟨y, hy, e1⟩ := Option.bind_eq_some_iff.mp e1
    obtain ⟨z, hz, e1⟩ := Option.map_eq_some_iff.mp e1
    cases e1
    exact ⟨kp, F, env, p, e2, h2, R, fun F1 v H1 s1 R1 po => ⟨kp, F1, e2, p', e3, h3, R1, fun F2 w H2 s2 R2 po2 =>
      ⟨F2, x, y, rd, R2.fh, R2.getP (po.mono s2) hx, R2.getP po2 hy, hz, rd, rfl, q F2 H2 (s1.trans s2) R2⟩⟩⟩
theorem snd_sub (hu : X.A.units + 128 < cLine) {a b : Expr} {pos : Pos} {pa : Env → Option (PV × Env)} {pb : Env → Option (D × Env)} (hp : plainX b = true) (ha : PE X a (tP X.K g pa)) (hb : PE X b (tD X.K g pb)) :
    PE X (.Subscript a b pos) (tR X.K g fun env => (pa env).bind fun p => (pb p.2).bind fun k => (getP p.1 k.2).bind fun x => (itemD x k.1).map fun z => (.old z, k.2)) :=
  PEw (pe_ix (ix_A (by omega)) ha hb (ix_of hp)) fun σ H Q ⟨kp, F, env, rd, env', e1, R, q⟩ => by
    obtain ⟨⟨p, e2⟩, h2, e1⟩ := Option.bind_eq_some_iff.mp e1
    obtain ⟨⟨p', e3⟩, h3, e1⟩ := Option.bind_eq_some_iff.mp e1
    obtain ⟨x, hx, e1⟩ := Option.bind_eq_some_iff.mp e1
    obtain ⟨z, hz, e1⟩ := Option.map_eq_some_iff.mp e1
    cases e1
    exact ⟨kp, F, env, p, e2, h2, R, fun F1 v H1 s1 R1 po => ⟨kp, F1, e2, p', e3, h3, R1, fun F2 w H2 s2 R2 po2 =>
      ⟨F2, x, p', z, R2.getP (po.mono s2) hx, Rp.ov R2.fh po2, hz, fun u hu => q F2 u H2 (s1.trans s2) R2 hu⟩⟩⟩
theorem snd_tup {es : List Expr} {k0 : Nat} {pos : Pos} {evs : Env → Option (List D × Env)} (h : PA X es (tDs X.K g evs)) :
    PE X (.Tuple es k0 pos) (tR X.K g fun env => (evs env).bind fun x => if szOk x.1.length then some (.old (.tup x.1), x.2) else none) :=
  PEw (pe_tup h) fun σ H Q ⟨kp, F, env, rd, env', e1, R, q⟩ => by
    obtain ⟨⟨ds, e2⟩, h2, e1⟩ := Option.bind_eq_some_iff.mp e1
    split at e1
    · rename_i hz
      cases e1
      refine ⟨kp, F, env, ds, e2, h2, R, fun F1 vs H1 s1 R1 po => ⟨by rw [← po.len]; exact szOk_le hz, ?_⟩⟩
      exact Fin.newT R1 (fun F' v H' s2 R2 po2 => q F' v H' (s1.trans s2) R2 po2) po
    · cases e1
theorem snd_lst {es : List Expr} {pos : Pos} {evs : Env → Option (List D × Env)} (h : PA X es (tDs X.K g evs)) :
    PE X (.List es pos) (tR X.K g fun env => (evs env).bind fun x => if szOk x.1.length then some (.new (.lst x.1), x.2) else none) :=
  PEw (pe_lst h) fun σ H Q ⟨kp, F, env, rd, env', e1, R, q⟩ => by
    obtain ⟨⟨ds, e2⟩, h2, e1⟩ := Option.bind_eq_some_iff.mp e1
    split at e1
    · rename_i hz
      cases e1
      refine ⟨kp, F, env, ds, e2, h2, R, fun F1 vs H1 s1 R1 po => ⟨by rw [← po.len]; exact szOk_le hz, ?_⟩⟩
      exact Fin.newL R1 (fun F' v H' s2 R2 po2 => q F' v H' (s1.trans s2) R2 po2) po
    · cases e1
end
end MI

namespace MI
open PySem PySem.Spec PyProof.Rows L2
section
variable {X : Cx} {g : Gh} {e : Expr} {P : Prg} {k : Nat} {N : List Str} {sc : Scope} {fn : Str → Bool}
/-! ### tests -/
theorem pe_notA {a : Expr} {ta : TE} {pos : Pos} (ha : PE X a ta) : PE X (.UnaryOp .Not a pos) (fun σ H Q => ta σ H fun x H1 => ∃ c, TruV X.K x H1 c ∧ Q (.bl (!c)) H1) := by
  refine ⟨fun pins s σ H Q I h => ?_⟩
  refine UnaryOp_ (thn (ha.run pins s σ H _ I h) fun v s1 ⟨x, H1, I1, r1, c, tv, q1⟩ => ?_)
  exact not_of (thn (tru_ok pins s1 σ H1 x v (fun b H' => b = c ∧ Q (.bl (!c)) H') I1 r1 ⟨c, tv, rfl, q1⟩) fun b s2 ⟨H2, I2, eb, q2⟩ => by
    subst eb
    exact ⟨.bl (!b), H2, I2, rfl, q2⟩)
theorem snd_truth {e' : E} {ev : Env → Option (RD × Env)} (h : PE X e (tP X.K g (toP e' ev))) (he : ∀ whole, isTrue e X.env whole = (do let v ← whole; standAt e.pos; holding [v] (truthy v))) : PT X e (tTst X.K g (testOf e' ev)) :=
  PTw (pt_truth h he) fun σ H Q ⟨kp, F, env, b, env', e1, R, q⟩ => by
    unfold testOf at e1
    obtain ⟨⟨p, e2⟩, h2, e1⟩ := Option.bind_eq_some_iff.mp e1
    obtain ⟨d, hd, e1⟩ := Option.bind_eq_some_iff.mp e1
    obtain ⟨z, hz, e1⟩ := Option.map_eq_some_iff.mp e1
    cases e1
    exact ⟨kp, F, env, p, e2, h2, R, fun F1 v H1 s1 R1 po => ⟨b, truth_v (R1.getP po hd) hz, q F1 H1 s1 R1⟩⟩
theorem snd_nt {a : Expr} {pos : Pos} {e' : E} {ev : Env → Option (RD × Env)} (h : PE X a (tP X.K g (toP e' ev))) :
    PE X (.UnaryOp .Not a pos) (tR X.K g fun env => (testOf e' ev env).map fun x => (.old (.bl (!x.1)), x.2)) :=
  PEw (pe_notA h) fun σ H Q ⟨kp, F, env, b, env', e1, R, q⟩ => by
    obtain ⟨⟨c, e2⟩, e3, e4⟩ := Option.map_eq_some_iff.mp e1
    cases e4
    unfold testOf at e3
    obtain ⟨⟨p, e2⟩, h2, e3⟩ := Option.bind_eq_some_iff.mp e3
    obtain ⟨d, hd, e3⟩ := Option.bind_eq_some_iff.mp e3
    obtain ⟨z, hz, e3⟩ := Option.map_eq_some_iff.mp e3
    cases e3
    exact ⟨kp, F, env, p, e2, h2, R, fun F1 v H1 s1 R1 po => ⟨c, truth_v (R1.getP po hd) hz, q F1 _ H1 s1 R1 (post_old rp_bl)⟩⟩
/-- a test that its term gives as a bool -/
theorem test_bool {e' : E} {C : Ctx} (hv : ∀ i, e' ≠ .var i) {env env' : Env} {b : Bool} (h : testOf e' (evR C e') env = some (b, env')) : ∃ d, frz (evR C e') env = some (d, env') ∧ truth d = some b := by
  unfold testOf toP at h
  obtain ⟨⟨p, e2⟩, h2, h⟩ := Option.bind_eq_some_iff.mp h
  split at h2
  · exact absurd rfl (hv _)
  · obtain ⟨⟨rd, e3⟩, h3, h4⟩ := Option.map_eq_some_iff.mp h2
    cases h4
    obtain ⟨d, hd, h⟩ := Option.bind_eq_some_iff.mp h
    obtain ⟨z, hz, h⟩ := Option.map_eq_some_iff.mp h
    cases h
    have hd : some rd.d = some d := hd
    cases hd
    exact ⟨rd.d, by unfold frz; rw [h3]; rfl, hz⟩
theorem snd_ntT {a : Expr} {pos : Pos} {e' : E} {C : Ctx} (h : PT X a (tTst X.K g (testOf e' (evR C e')))) : PT X (.UnaryOp .Not a pos) (tTst X.K g (testOf (.nt e') (evR C (.nt e')))) :=
  PTw (pt_not h) fun σ H Q ⟨kp, F, env, b, env', e1, R, q⟩ => by
    obtain ⟨d, h1, h2⟩ := test_bool (fun i z => by cases z) e1
    unfold frz at h1
    obtain ⟨⟨rd, e2⟩, h3, h4⟩ := Option.map_eq_some_iff.mp h1
    cases h4
    unfold evR at h3
    obtain ⟨⟨c, e2⟩, h5, h6⟩ := Option.map_eq_some_iff.mp h3
    cases h6
    cases h2
    exact ⟨kp, F, env, c, e2, h5, R, fun F' H' s1 R1 => q F' H' s1 R1⟩
theorem snd_ite {c a b : Expr} {pos : Pos} {tc : Env → Option (Bool × Env)} {ea eb : Env → Option (RD × Env)} (hc : PT X c (tTst X.K g tc)) (ha : PE X a (tR X.K g ea)) (hb : PE X b (tR X.K g eb)) :
    PE X (.IfExp c a b pos) (tR X.K g fun env => (tc env).bind fun x => if x.1 then ea x.2 else eb x.2) :=
  PEw (pe_ifExp hc ha hb) fun σ H Q ⟨kp, F, env, rd, env', e1, R, q⟩ => by
    obtain ⟨⟨z, e2⟩, h2, e1⟩ := Option.bind_eq_some_iff.mp e1
    refine ⟨kp, F, env, z, e2, h2, R, fun F1 H1 s1 R1 => ?_⟩
    cases z with
    | true => exact ⟨kp, F1, e2, rd, env', e1, R1, fun F' v H' s2 R2 po => q F' v H' (s1.trans s2) R2 po⟩
    | false => exact ⟨kp, F1, e2, rd, env', e1, R1, fun F' v H' s2 R2 po => q F' v H' (s1.trans s2) R2 po⟩
theorem snd_chain (hu : X.A.units + 128 < cLine) {op op' : CmpOp} {a b c : Expr} {pos : Pos} {pa pc : Env → Option (PV × Env)} {pb : Env → Option (D × Env)} (hp : plainX c = true) (ha : PE X a (tP X.K g pa)) (hb : PE X b (tD X.K g pb)) (hc : PE X c (tP X.K g pc)) :
    PE X (.Compare a [op, op'] [b, c] pos) (tR X.K g fun env => (pa env).bind fun p => (pb p.2).bind fun q =>
      (getP p.1 q.2).bind fun x => (cmpD op x q.1).bind fun z =>
        if z then (pc q.2).bind fun r => (getP r.1 r.2).bind fun y => (cmpD op' q.1 y).map fun z' => (.old (.bl z'), r.2)
        else some (.old (.bl false), q.2)) :=
  PEw (pe_chain (op_C hu) (op_C hu) ha hb hc (show behindInMarks op' c = false from mark_of hp op')) fun σ H Q ⟨kp, F, env, rd, env', e1, R, q⟩ => by
    obtain ⟨⟨p, e2⟩, h2, e1⟩ := Option.bind_eq_some_iff.mp e1
    obtain ⟨⟨p', e3⟩, h3, e1⟩ := Option.bind_eq_some_iff.mp e1
    obtain ⟨x, hx, e1⟩ := Option.bind_eq_some_iff.mp e1
    obtain ⟨z, hz, e1⟩ := Option.bind_eq_some_iff.mp e1
    refine ⟨kp, F, env, p, e2, h2, R, fun F1 v H1 s1 R1 po => ⟨kp, F1, e2, p', e3, h3, R1, fun F2 w H2 s2 R2 po2 => ⟨F2, x, p', z, R2.fh, R2.getP (po.mono s2) hx, Rp.ov R2.fh po2, hz, z, rfl, ?_⟩⟩⟩
    cases z with
    | false =>
      cases e1
      exact q F2 _ H2 (s1.trans s2) R2 (post_old rp_bl)
    | true =>
      have e1 : ((pc e3).bind fun r => (getP r.1 r.2).bind fun y => (cmpD op' p' y).map fun z' => (RD.old (.bl z'), r.2)) = some (rd, env') := e1
      obtain ⟨⟨r, e4⟩, h4, e1⟩ := Option.bind_eq_some_iff.mp e1
      obtain ⟨y, hy, e1⟩ := Option.bind_eq_some_iff.mp e1
      obtain ⟨z', hz', e1⟩ := Option.map_eq_some_iff.mp e1
      cases e1
      exact ⟨kp, F2, e3, r, e4, h4, R2, fun F3 u H3 s3 R3 po3 => ⟨F3, p', y, z', R3.fh, Rp.ov R3.fh (Rp.mono s3 _ _ po2), R3.getP po3 hy, hz', q F3 _ H3 ((s1.trans s2).trans s3) R3 (post_old rp_bl)⟩⟩
theorem snd_chainT (hu : X.A.units + 128 < cLine) {op op' : CmpOp} {a b c : Expr} {pos : Pos} {pa pc : Env → Option (PV × Env)} {pb : Env → Option (D × Env)} (hp : plainX c = true) (ha : PE X a (tP X.K g pa)) (hb : PE X b (tD X.K g pb)) (hc : PE X c (tP X.K g pc)) :
    PT X (.Compare a [op, op'] [b, c] pos) (tTst X.K g fun env => (pa env).bind fun p => (pb p.2).bind fun q =>
      (getP p.1 q.2).bind fun x => (cmpD op x q.1).bind fun z =>
        if z then (pc q.2).bind fun r => (getP r.1 r.2).bind fun y => (cmpD op' q.1 y).map fun z' => (z', r.2)
        else some (false, q.2)) :=
  PTw (pt_chain (op_C hu) (op_C hu) ha hb hc (show behindInMarks op' c = false from mark_of hp op')) fun σ H Q ⟨kp, F, env, rd, env', e1, R, q⟩ => by
    obtain ⟨⟨p, e2⟩, h2, e1⟩ := Option.bind_eq_some_iff.mp e1
    obtain ⟨⟨p', e3⟩, h3, e1⟩ := Option.bind_eq_some_iff.mp e1
    obtain ⟨x, hx, e1⟩ := Option.bind_eq_some_iff.mp e1
    obtain ⟨z, hz, e1⟩ := Option.bind_eq_some_iff.mp e1
    refine ⟨kp, F, env, p, e2, h2, R, fun F1 v H1 s1 R1 po => ⟨kp, F1, e2, p', e3, h3, R1, fun F2 w H2 s2 R2 po2 => ⟨F2, x, p', z, R2.fh, R2.getP (po.mono s2) hx, Rp.ov R2.fh po2, hz, z, rfl, ?_⟩⟩⟩
    cases z with
    | false =>
      cases e1
      exact ⟨false, rfl, q F2 H2 (s1.trans s2) R2⟩
    | true =>
      have e1 : ((pc e3).bind fun r => (getP r.1 r.2).bind fun y => (cmpD op' p' y).map fun z' => (z', r.2)) = some (rd, env') := e1
      obtain ⟨⟨r, e4⟩, h4, e1⟩ := Option.bind_eq_some_iff.mp e1
      obtain ⟨y, hy, e1⟩ := Option.bind_eq_some_iff.mp e1
      obtain ⟨z', hz', e1⟩ := Option.map_eq_some_iff.mp e1
      cases e1
      exact ⟨kp, F2, e3, r, e4, h4, R2, fun F3 u H3 s3 R3 po3 => ⟨F3, p', y, rd, R3.fh, Rp.ov R3.fh (Rp.mono s3 _ _ po2), R3.getP po3 hy, hz', rd, rfl, q F3 H3 ((s1.trans s2).trans s3) R3⟩⟩
/-! ### slices -/
def tOp' (K : PySem.W.Frag) (g : Gh) (ev : Env → Option (Option Int × Env)) : TO := fun σ H Q => ∃ kp F env a env', ev env = some (a, env') ∧ Rel K g kp F env σ H ∧ ∀ F' H', Same F F' → Rel K g kp F' env' σ H' → Q a H'
theorem POw {o : Option Expr} {t t' : TO} (h : PO X o t) (f : ∀ σ H Q, t' σ H Q → t σ H Q) : PO X o t' := ⟨fun pins s σ H Q I q => h.run pins s σ H Q I (f σ H Q q)⟩
theorem snd_part {o : Option Expr} {e' : E} {ev : Env → Option (RD × Env)} (h : match o with | none => isNon e' = true | some x => PE X x (tR X.K g ev) ∧ isNon e' = false) : PO X o (tOp' X.K g (partOf e' ev)) := by
  cases o with
  | none =>
    refine POw po_none fun σ H Q ⟨kp, F, env, a, env', e1, R, q⟩ => ?_
    unfold partOf at e1
    rw [if_pos h] at e1
    cases e1
    exact q F H (Same.refl F) R
  | some x =>
    refine POw (po_some (snd_frz h.1)) fun σ H Q ⟨kp, F, env, a, env', e1, R, q⟩ => ?_
    unfold partOf at e1
    rw [h.2, if_neg Bool.false_ne_true] at e1
    obtain ⟨⟨d, e2⟩, h2, e1⟩ := Option.bind_eq_some_iff.mp e1
    refine ⟨kp, F, env, d, e2, h2, R, fun F1 v H1 s1 R1 po => ?_⟩
    cases d <;> first | cases e1 | skip
    unfold Rp at po
    exact ⟨_, po, q F1 H1 s1 R1⟩
theorem snd_sli {a : Expr} {lo hi : Option Expr} {p2 pos : Pos} {pa : Env → Option (PV × Env)} {pl ph : Env → Option (Option Int × Env)} (ha : PE X a (tP X.K g pa)) (hl : PO X lo (tOp' X.K g pl)) (hh : PO X hi (tOp' X.K g ph)) :
    PE X (.Subscript a (.Slice lo hi none p2) pos) (tR X.K g fun env => (pa env).bind fun p => (pl p.2).bind fun l => (ph l.2).bind fun h => (getP p.1 h.2).bind fun x => (sliceD x l.1 h.1).map fun z => (z, h.2)) :=
  PEw (pe_slice (sl_A (g := g)) ha hl hh) fun σ H Q ⟨kp, F, env, rd, env', e1, R, q⟩ => by
    obtain ⟨⟨p, e2⟩, h2, e1⟩ := Option.bind_eq_some_iff.mp e1
    obtain ⟨⟨l, e3⟩, h3, e1⟩ := Option.bind_eq_some_iff.mp e1
    obtain ⟨⟨h, e4⟩, h4, e1⟩ := Option.bind_eq_some_iff.mp e1
    obtain ⟨x, hx, e1⟩ := Option.bind_eq_some_iff.mp e1
    obtain ⟨z, hz, e1⟩ := Option.map_eq_some_iff.mp e1
    cases e1
    exact ⟨kp, F, env, p, e2, h2, R, fun F1 v H1 s1 R1 po => ⟨kp, F1, e2, l, e3, h3, R1, fun F2 H2 s2 R2 => ⟨kp, F2, e3, h, e4, h4, R2, fun F3 H3 s3 R3 =>
      ⟨kp, F3, e4, σ, x, rd, R3, R3.getP ((po.mono s2).mono s3) hx, hz, fun F4 u H4 s4 R4 po4 => q F4 u H4 (((s1.trans s2).trans s3).trans s4) R4 po4⟩⟩⟩⟩
/-! ### built-ins -/
theorem evG_ov {K : PySem.W.Frag} {kp F : Hp} {env : Env} {σ : L2.St} {H : Hp} (R : Rel K g kp F env σ H) : ∀ {ps : List PV} {vs : List V} {ds : List D}, PostPs K F σ ps vs → evG ps env = some ds → OvL K F H ds vs
  | [], vs, ds, h, e => by
    cases e
    exact h
  | p :: ps, vs, ds, h, e => by
    obtain ⟨v, vs', rfl, h2, h3⟩ := h
    unfold evG at e
    obtain ⟨d, hd, e⟩ := Option.bind_eq_some_iff.mp e
    obtain ⟨ds', hds, e⟩ := Option.map_eq_some_iff.mp e
    cases e
    exact ⟨v, vs', rfl, R.getP h2 hd, evG_ov R h3 hds⟩
theorem boot_bi : ∀ b : Bi, bootBuiltins (biName b) = some (biVal b) := by
  intro b
  cases b <;> decide +kernel
theorem snd_bi (G : Good P k X N sc fn) {b : Bi} {x : Str} {es : List Expr} {a : Expr} {p pos : Pos} {evs : Env → Option (List PV × Env)} (hx : x = biName b) (hg : glB sc x = true) (hp : plainX a = true) (ha : (backTo pos (starEach es X.env)).any (·.1) = false)
    (h : PA X (a :: es) (tPs X.K g evs)) : PE X (.Call (.Name x p) (a :: es) [] pos) (tR X.K g fun env => (evs env).bind fun x => (evG x.1 x.2).bind fun ds => (biD b ds).map fun z => (z, x.2)) := by
  have hm : X.mg x = none := G.bi x (by rw [hx]; cases b <;> decide +kernel)
  have hn : x ≠ "__name__" := by rw [hx]; cases b <;> decide
  have hd : (x == ("__debug__" : Str)) = false := by rw [hx]; cases b <;> decide
  have wk : ∀ σ H Q, tR X.K g (fun env => (evs env).bind fun x => (evG x.1 x.2).bind fun ds => (biD b ds).map fun z => (z, x.2)) σ H Q → tCB (rB X.K g b) (tPs X.K g evs) σ H Q := fun σ H Q ⟨kp, F, env, rd, env', e1, R, q⟩ => by
    obtain ⟨⟨ps, e2⟩, h2, e1⟩ := Option.bind_eq_some_iff.mp e1
    obtain ⟨ds, hds, e1⟩ := Option.bind_eq_some_iff.mp e1
    obtain ⟨z, hz, e1⟩ := Option.map_eq_some_iff.mp e1
    cases e1
    exact ⟨kp, F, env, ps, e2, h2, R, fun F1 vs H1 s1 R1 po => ⟨kp, F1, e2, σ, ds, rd, R1, evG_ov R1 po hds, hz, fun F2 u H2 s2 R2 po2 => q F2 u H2 (s1.trans s2) R2 po2⟩⟩
  have cr := call_A (X := X) (g := g) G.calm G.gd G.room.units b
  have hv : bootBuiltins x = some (biVal b) := by rw [hx]; exact boot_bi b
  cases b
  case tuple => exact PEw (pe_callTy (T := "tuple") cr (G.gl hg) hm hv h hn hd (star_of hp es X.env) ha) wk
  case list => exact PEw (pe_callTy (T := "list") cr (G.gl hg) hm hv h hn hd (star_of hp es X.env) ha) wk
  case int => exact PEw (pe_callTy (T := "int") cr (G.gl hg) hm hv h hn hd (star_of hp es X.env) ha) wk
  case str => exact PEw (pe_callTy (T := "str") cr (G.gl hg) hm hv h hn hd (star_of hp es X.env) ha) wk
  all_goals exact PEw (pe_callB cr (G.gl hg) hm hv h hn hd (star_of hp es X.env) ha) wk
end
end MI

namespace MI
open PySem PySem.Spec PyProof.Rows L2
section
variable {X : Cx} {g : Gh} {e : Expr} {P : Prg} {k : Nat} {N : List Str} {sc : Scope} {fn : Str → Bool}
/-! ### and, or -/
def boOp (isAnd : Bool) : BoolOp := if isAnd then .And else .Or
/-- the tail of an and | or as a term -/
theorem snd_boo1 {C : Ctx} {isAnd : Bool} {a : Expr} {pos : Pos} {e' : E} (h : PE X a (tR X.K g (evR C e'))) : PE X (.BoolOp (boOp isAnd) [a] pos) (tR X.K g (evB C isAnd [e'])) :=
  PEw (pe_one (snd_frz h)) fun σ H Q ⟨kp, F, env, rd, env', e1, R, q⟩ => by
    unfold evB at e1
    obtain ⟨⟨d, e2⟩, h2, e1⟩ := Option.bind_eq_some_iff.mp e1
    refine ⟨kp, F, env, d, e2, h2, R, fun F1 v H1 s1 R1 po => ?_⟩
    cases d <;> first | cases e1 | skip
    exact q F1 v H1 s1 R1 po
theorem snd_boo2 {C : Ctx} {isAnd : Bool} {a b : Expr} {rest : List Expr} {pos : Pos} {e' f' : E} {es' : List E} (h : PE X a (tR X.K g (evR C e'))) (hr : PE X (.BoolOp (boOp isAnd) (b :: rest) pos) (tR X.K g (evB C isAnd (f' :: es')))) :
    PE X (.BoolOp (boOp isAnd) (a :: b :: rest) pos) (tR X.K g (evB C isAnd (e' :: f' :: es'))) := by
  cases isAnd with
  | true =>
    refine PEw (pe_and (snd_frz h) hr) fun σ H Q ⟨kp, F, env, rd, env', e1, R, q⟩ => ?_
    unfold evB at e1
    obtain ⟨⟨d, e2⟩, h2, e1⟩ := Option.bind_eq_some_iff.mp e1
    refine ⟨kp, F, env, d, e2, h2, R, fun F1 v H1 s1 R1 po => ?_⟩
    cases d <;> first | cases e1 | skip
    rename_i b
    unfold Rp at po
    refine ⟨b, po, ?_⟩
    cases b with
    | true =>
      have e1 : evB C true (f' :: es') e2 = some (rd, env') := e1
      exact ⟨kp, F1, e2, rd, env', e1, R1, fun F2 u H2 s2 R2 po2 => q F2 u H2 (s1.trans s2) R2 po2⟩
    | false =>
      cases e1
      exact q F1 _ H1 s1 R1 (post_old rp_bl)
  | false =>
    refine PEw (pe_or (snd_frz h) hr) fun σ H Q ⟨kp, F, env, rd, env', e1, R, q⟩ => ?_
    unfold evB at e1
    obtain ⟨⟨d, e2⟩, h2, e1⟩ := Option.bind_eq_some_iff.mp e1
    refine ⟨kp, F, env, d, e2, h2, R, fun F1 v H1 s1 R1 po => ?_⟩
    cases d <;> first | cases e1 | skip
    rename_i b
    unfold Rp at po
    refine ⟨b, po, ?_⟩
    cases b with
    | false =>
      have e1 : evB C false (f' :: es') e2 = some (rd, env') := e1
      exact ⟨kp, F1, e2, rd, env', e1, R1, fun F2 u H2 s2 R2 po2 => q F2 u H2 (s1.trans s2) R2 po2⟩
    | true =>
      cases e1
      exact q F1 _ H1 s1 R1 (post_old rp_bl)
/-- x or y, by truth -/
theorem snd_orV {a b : Expr} {pos : Pos} {ev : Env → Option (D × Env)} {eb : Env → Option (RD × Env)} (ha : PE X a (tD X.K g ev)) (hb : PE X b (tR X.K g eb)) :
    PE X (.BoolOp .Or [a, b] pos) (tR X.K g fun env => (ev env).bind fun x => (truth x.1).bind fun t => if t then some (.old x.1, x.2) else eb x.2) :=
  PEw (pe_orT ha (pe_one hb)) fun σ H Q ⟨kp, F, env, rd, env', e1, R, q⟩ => by
    obtain ⟨⟨d, e2⟩, h2, e1⟩ := Option.bind_eq_some_iff.mp e1
    obtain ⟨t, ht, e1⟩ := Option.bind_eq_some_iff.mp e1
    refine ⟨kp, F, env, d, e2, h2, R, fun F1 v H1 s1 R1 po => ⟨t, truth_v (Rp.ov R1.fh po) ht, ?_⟩⟩
    cases t with
    | true =>
      cases e1
      rw [if_pos rfl]
      exact q F1 v H1 s1 R1 (post_old po)
    | false =>
      have e1 : eb e2 = some (rd, env') := e1
      rw [if_neg (by decide)]
      exact ⟨kp, F1, e2, rd, env', e1, R1, fun F2 u H2 s2 R2 po2 => q F2 u H2 (s1.trans s2) R2 po2⟩
/-- .. as tests: what a term gives as a bool is its test -/
theorem frz_test {C : Ctx} {e' : E} {env env' : Env} {b : Bool} (h : frz (evR C e') env = some (.bl b, env')) : testOf e' (evR C e') env = some (b, env') := by
  by_cases hv : ∃ i, e' = .var i
  · obtain ⟨i, rfl⟩ := hv
    unfold frz evR at h
    obtain ⟨⟨rd, e2⟩, h2, h3⟩ := Option.map_eq_some_iff.mp h
    split at h2
    · rename_i d hd
      cases h2
      have hd' : d = .bl b := (Prod.mk.inj h3).1
      have he : env = env' := (Prod.mk.inj h3).2
      subst hd' he
      unfold testOf toP isSet
      simp only [hd]
      show (((env[i]?).bind slotD).bind fun d => (truth d).map fun b => (b, env)) = _
      rw [hd]
      rfl
    · split at h2
      · rename_i d _ ho
        cases h2
        have hd' : d = .bl b := (Prod.mk.inj h3).1
        subst hd'
        cases ho
      · cases h2
    · cases h2
  · unfold testOf toP
    unfold frz at h
    obtain ⟨⟨rd, e2⟩, h2, h3⟩ := Option.map_eq_some_iff.mp h
    have hd' : rd.d = .bl b := (Prod.mk.inj h3).1
    have he : e2 = env' := (Prod.mk.inj h3).2
    subst he
    split
    · exact absurd ⟨_, rfl⟩ hv
    · rw [h2]
      simp only [Option.map_some, Option.bind_some, getP, hd', truth]
noncomputable def tBoo (C : Ctx) (isAnd : Bool) (es : List E) (env : Env) : Option (Bool × Env) := (evB C isAnd es env).bind fun x => match x.1 with | .old (.bl b) => some (b, x.2) | _ => none
theorem PWw {t t' : TT} (h : PW X e t) (f : ∀ σ H Q, t' σ H Q → t σ H Q) : PW X e t' := ⟨fun w pins s σ H Q I q => h.run w pins s σ H Q I (f σ H Q q)⟩
theorem snd_booT1 {C : Ctx} {isAnd : Bool} {a : Expr} {pos : Pos} {e' : E} (h : PT X a (tTst X.K g (testOf e' (evR C e')))) : PW X (.BoolOp (boOp isAnd) [a] pos) (tTst X.K g (tBoo C isAnd [e'])) := by
  have wk : ∀ σ H Q, tTst X.K g (tBoo C isAnd [e']) σ H Q → tTst X.K g (testOf e' (evR C e')) σ H Q := fun σ H Q ⟨kp, F, env, b, env', e1, R, q⟩ => by
    unfold tBoo evB at e1
    obtain ⟨⟨rd, e2⟩, h2, e1⟩ := Option.bind_eq_some_iff.mp e1
    obtain ⟨⟨d, e3⟩, h3, e4⟩ := Option.bind_eq_some_iff.mp h2
    cases d <;> first | cases e4 | skip
    cases e1
    exact ⟨kp, F, env, b, _, frz_test h3, R, q⟩
  cases isAnd with
  | true => exact PWw (pw_and1 h) wk
  | false => exact PWw (pw_or1 h) wk
theorem snd_booT2 {C : Ctx} {isAnd : Bool} {a b : Expr} {rest : List Expr} {pos : Pos} {e' f' : E} {es' : List E} (h : PT X a (tTst X.K g (testOf e' (evR C e')))) (hr : PW X (.BoolOp (boOp isAnd) (b :: rest) pos) (tTst X.K g (tBoo C isAnd (f' :: es')))) :
    PW X (.BoolOp (boOp isAnd) (a :: b :: rest) pos) (tTst X.K g (tBoo C isAnd (e' :: f' :: es'))) := by
  have inv : ∀ {env env' : Env} {c : Bool}, tBoo C isAnd (e' :: f' :: es') env = some (c, env') → ∃ b0 e2, frz (evR C e') env = some (.bl b0, e2) ∧ ((b0 = isAnd ∧ tBoo C isAnd (f' :: es') e2 = some (c, env')) ∨ (b0 ≠ isAnd ∧ c = b0 ∧ env' = e2)) := fun {env env' c} e1 => by
    unfold tBoo at e1
    obtain ⟨⟨rd, e2⟩, h2, e5⟩ := Option.bind_eq_some_iff.mp e1
    unfold evB at h2
    obtain ⟨⟨d, e3⟩, h3, e4⟩ := Option.bind_eq_some_iff.mp h2
    cases d <;> first | cases e4 | skip
    rename_i b0
    refine ⟨b0, e3, h3, ?_⟩
    by_cases hb : b0 = isAnd
    · subst hb
      simp only [beq_self_eq_true, if_true] at e4
      refine .inl ⟨rfl, ?_⟩
      unfold tBoo
      rw [e4]
      exact e5
    · have hb' : (b0 == isAnd) = false := by simpa using hb
      simp only [hb'] at e4
      cases e4
      cases e5
      exact .inr ⟨hb, rfl, rfl⟩
  cases isAnd with
  | true =>
    refine PWw (pw_and h hr) fun σ H Q ⟨kp, F, env, c, env', e1, R, q⟩ => ?_
    obtain ⟨b0, e2, h2, h3⟩ := inv e1
    refine ⟨kp, F, env, b0, e2, frz_test h2, R, fun F1 H1 s1 R1 => ?_⟩
    rcases h3 with ⟨rfl, h3⟩ | ⟨hb, rfl, rfl⟩
    · exact ⟨kp, F1, e2, c, env', h3, R1, fun F2 H2 s2 R2 => q F2 H2 (s1.trans s2) R2⟩
    · cases c with
      | true => exact absurd rfl hb
      | false => exact q F1 H1 s1 R1
  | false =>
    refine PWw (pw_or h hr) fun σ H Q ⟨kp, F, env, c, env', e1, R, q⟩ => ?_
    obtain ⟨b0, e2, h2, h3⟩ := inv e1
    refine ⟨kp, F, env, b0, e2, frz_test h2, R, fun F1 H1 s1 R1 => ?_⟩
    rcases h3 with ⟨rfl, h3⟩ | ⟨hb, rfl, rfl⟩
    · exact ⟨kp, F1, e2, c, env', h3, R1, fun F2 H2 s2 R2 => q F2 H2 (s1.trans s2) R2⟩
    · cases c with
      | false => exact absurd rfl hb
      | true => exact q F1 H1 s1 R1
/-! ### isinstance -/
theorem isi_ok {K : PySem.W.Frag} {F H : Hp} {d : D} {v : V} {ty : Ty} {b : Bool} (o : Ov K F H d v) (h : isiD d ty = some b) : ∃ t, TyX K H v t ∧ PySem.W.kitOne K t (.type ty.nm) = some b := by
  cases d with
  | scr ns => cases ty <;> cases h
  | dk _ _ => cases ty <;> cases h
  | dt _ _ => cases ty <;> cases h
  | ins _ _ _ => cases ty <;> cases h
  | non => rw [ov_non o]; exact ⟨_, .base .non, kit_ty (by cases ty <;> cases h <;> decide +kernel)⟩
  | bl x => rw [ov_bl o]; exact ⟨_, .base (.bl x), kit_ty (by cases ty <;> cases h <;> decide +kernel)⟩
  | int x => rw [ov_int o]; exact ⟨_, .base (.int x), kit_ty (by cases ty <;> cases h <;> decide +kernel)⟩
  | str x => rw [ov_str o]; exact ⟨_, .base (.str x), kit_ty (by cases ty <;> cases h <;> decide +kernel)⟩
  | tup ds => obtain ⟨a, vs, rfl, _, h2, _⟩ := o; exact ⟨_, .base (.tup h2), kit_ty (by cases ty <;> cases h <;> decide +kernel)⟩
  | lst ds => obtain ⟨a, vs, rfl, h2, _⟩ := o; exact ⟨_, .base (.lst h2), kit_ty (by cases ty <;> cases h <;> decide +kernel)⟩
theorem boot_ty : ∀ ty : Ty, bootBuiltins (Str.ofString ty.nm) = some (.type ty.nm) := by
  intro ty
  cases ty <;> decide +kernel
end
end MI

namespace MI
open PySem PySem.Spec PyProof.Rows L2
theorem popOf_inv {i : Nat} {d : D} {env env' : Env} {rd : RD} (h : popOf i d env = some (rd, env')) : ∃ z xs j y, d = .int z ∧ env[i]? = some (.own (.lst xs)) ∧ xs.length ≤ sizeLine ∧ ixN xs.length z = some j ∧ xs[j]? = some y ∧ rd = .old y ∧ env' = env.set i (.own (.lst (xs.eraseIdx j))) := by
  unfold popOf at h
  split at h
  · rename_i z xs hx
    split at h
    · rename_i hz
      obtain ⟨j, hj, h⟩ := Option.bind_eq_some_iff.mp h
      obtain ⟨y, hy, h⟩ := Option.map_eq_some_iff.mp h
      cases h
      exact ⟨z, xs, j, y, rfl, hx, szOk_le hz, hj, hy, rfl, rfl⟩
    · cases h
  · cases h
theorem Rel.mutAt {K : PySem.W.Frag} {g : Gh} {kp F : Hp} {env : Env} {σ : L2.St} {H : Hp} (R : Rel K g kp F env σ H) {i : Nat} (h : mutAt env i = true) : ∃ p vs, σ[i]? = some (some (.ref p)) ∧ H p = some (.lst vs) := by
  unfold MI.mutAt at h
  split at h
  · rename_i s hs
    have hm := isL_mut h
    obtain ⟨d, hd⟩ : ∃ ds, slotD s = some (.lst ds) := by
      unfold isL at h
      split at h
      · exact ⟨_, rfl⟩
      · exact ⟨_, rfl⟩
      · cases h
    obtain ⟨p, x, e1, _, e2, vs, rfl, _⟩ := R.at_mut hs hm hd
    exact ⟨p, vs, e1, e2⟩
  · cases h
section
variable {X : Cx} {g : Gh} {e : Expr} {P : Prg} {k : Nat} {N : List Str} {sc : Scope} {fn : Str → Bool}
theorem snd_isi (G : Good P k X N sc fn) {a : Expr} {ty : Ty} {x y : Str} {p p2 pos : Pos} {pa : Env → Option (PV × Env)} (hx : x = "isinstance") (hg : glB sc x = true) (hy : y = ty.nm) (hgy : glB sc y = true) (hp : plainX a = true) (ha : PE X a (tP X.K g pa)) :
    PE X (.Call (.Name x p) [a, .Name y p2] [] pos) (tR X.K g fun env => (pa env).bind fun p => (getP p.1 p.2).bind fun z => (isiD z ty).map fun b => (.old (.bl b), p.2)) := by
  subst hx
  have hmy : X.mg y = none := G.bi y (by rw [hy]; cases ty <;> decide +kernel)
  have py : PE X (.Name y p2) (tC (.ty ty.nm)) := pe_bltn (G.gl hgy) hmy (by rw [hy]; exact boot_ty ty) rfl (by rw [hy]; cases ty <;> decide) (by rw [hy]; cases ty <;> decide)
  refine PEw (pe_callB call_isi (G.gl hg) (G.bi _ (by decide +kernel)) (by decide +kernel) (pa_cons ha (pa_cons py pa_nil) (star_of hp _ _)) (by decide) (by decide) (star_of hp _ _) rfl) fun σ H Q ⟨kp, F, env, rd, env', e1, R, q⟩ => ?_
  obtain ⟨⟨p, e2⟩, h2, e1⟩ := Option.bind_eq_some_iff.mp e1
  obtain ⟨d, hd, e1⟩ := Option.bind_eq_some_iff.mp e1
  obtain ⟨b, hb, e1⟩ := Option.map_eq_some_iff.mp e1
  cases e1
  refine ⟨kp, F, env, p, e2, h2, R, fun F1 v H1 s1 R1 po => ?_⟩
  obtain ⟨t, ht, hk⟩ := isi_ok (R1.getP po hd) hb
  exact ⟨v, .ty ty.nm, t, .type ty.nm, b, rfl, .ty _, ht, hk, q F1 _ H1 s1 R1 (post_old rp_bl)⟩
/-! ### list(range(..)), tuple(range(..)) -/
theorem rg_rp {K : PySem.W.Frag} {F : Hp} (a b : Int) : RpL K F (rgD a b) (rgV a b) := by
  unfold rgD rgV
  have : ∀ l : List Nat, RpL K F (l.map fun i => D.int (a + (i : Nat))) (l.map fun i => V.int (a + (i : Nat))) := fun l => by
    induction l with
    | nil => exact .nil
    | cons n l ih => exact .cons rp_int ih
  exact this _
theorem rgOk_ok {a b : Int} (h : rgOk a b = true) : RgOk a b := by
  unfold rgOk at h
  simp only [lk_eq, Bool.and_eq_true, decide_eq_true_eq] at h
  exact ⟨h.1.1.1.1, h.1.1.1.2, h.1.1.2, h.1.2, h.2⟩
def tRgG (K : PySem.W.Frag) (g : Gh) (evs : Env → Option (List D × Env)) : L2.St → Hp → (Int → Int → Hp → Prop) → Prop := fun σ H Q => ∃ kp F env ds env', evs env = some (ds, env') ∧ Rel K g kp F env σ H ∧
  ((∃ n, ds = [.int n] ∧ ∀ F' H', Same F F' → Rel K g kp F' env' σ H' → Q 0 n H') ∨ ∃ a b, ds = [.int a, .int b] ∧ ∀ F' H', Same F F' → Rel K g kp F' env' σ H' → Q a b H')
theorem snd_rg (G : Good P k X N sc fn) {C : Ctx} {es' : List E} {es : List Expr} {y : Str} {p pos : Pos} (hy : y = "range") (hgy : glB sc y = true) (hms : mEs N sc es' es = true) (hl : es'.length = 1 ∨ es'.length = 2)
    (h : ∀ e' e, mE N sc e' e = true → e' ∈ es' → PE X e (tR X.K g (evR C e'))) : PRg X (.Call (.Name y p) es [] pos) (tRgG X.K g (evD C es')) := by
  subst hy
  have hm : X.mg "range" = none := G.bi _ (by decide +kernel)
  match es', es, hms, hl, h with
  | [a'], [a], hms, _, h =>
    unfold mEs mEs at hms
    simp only [Bool.and_true] at hms
    have ha := snd_frz (h a' a hms (by simp))
    intro pins s σ H Q I q
    refine prg_1 (G.gl hgy) hm ha (star_of (mE_plain hms) _ _) pins s σ H Q I ?_
    obtain ⟨kp, F, env, ds, env', e1, R, q⟩ := q
    unfold evD evD at e1
    obtain ⟨⟨d, e2⟩, h2, e1⟩ := Option.bind_eq_some_iff.mp e1
    cases e1
    refine ⟨kp, F, env, d, e2, h2, R, fun F1 v H1 s1 R1 po => ?_⟩
    rcases q with ⟨n, en, q⟩ | ⟨a, b, en, q⟩
    · cases en
      unfold Rp at po
      exact ⟨n, po, q F1 H1 s1 R1⟩
    · cases en
  | [a', b'], [a, b], hms, _, h =>
    unfold mEs mEs mEs at hms
    simp only [Bool.and_true, Bool.and_eq_true] at hms
    have ha := snd_frz (h a' a hms.1 (by simp))
    have hb := snd_frz (h b' b hms.2 (by simp))
    intro pins s σ H Q I q
    have st := star_of (mE_plain hms.2) [] X.env
    refine prg_2 (G.gl hgy) hm ha hb (star_of (mE_plain hms.1) _ _) st (by rw [st]; rfl) pins s σ H Q I ?_
    obtain ⟨kp, F, env, ds, env', e1, R, q⟩ := q
    unfold evD evD evD at e1
    obtain ⟨⟨d, e2⟩, h2, e1⟩ := Option.bind_eq_some_iff.mp e1
    obtain ⟨⟨ds', e3⟩, h3, e1⟩ := Option.map_eq_some_iff.mp e1
    obtain ⟨⟨d', e4⟩, h4, e5⟩ := Option.bind_eq_some_iff.mp h3
    cases e5
    cases e1
    refine ⟨kp, F, env, d, e2, h2, R, fun F1 v H1 s1 R1 po => ⟨kp, F1, e2, d', e4, h4, R1, fun F2 w H2 s2 R2 po2 => ?_⟩⟩
    rcases q with ⟨n, en, q⟩ | ⟨a, b, en, q⟩
    · cases en
    · cases en
      unfold Rp at po po2
      exact ⟨a, b, po, po2, q F2 H2 (s1.trans s2) R2⟩
  | [], _, _, hl, _ => simp at hl
  | _ :: _ :: _ :: _, _, _, hl, _ => simp at hl
  | [_], [], hms, _, _ => unfold mEs at hms; cases hms
  | [_], _ :: _ :: _, hms, _, _ => unfold mEs mEs at hms; simp at hms
  | [_, _], [], hms, _, _ => unfold mEs at hms; cases hms
  | [_, _], [_], hms, _, _ => unfold mEs mEs at hms; simp at hms
  | [_, _], _ :: _ :: _ :: _, hms, _, _ => unfold mEs mEs mEs at hms; simp at hms
theorem rng_cases {ds rs : List D} (h : rngD ds = some rs) : (∃ n, ds = [.int n] ∧ RgOk 0 n ∧ rs = rgD 0 n) ∨ ∃ a b, ds = [.int a, .int b] ∧ RgOk a b ∧ rs = rgD a b := by
  unfold rngD at h
  split at h
  · split at h
    · rename_i hc
      cases h
      exact .inl ⟨_, rfl, rgOk_ok hc, rfl⟩
    · cases h
  · split at h
    · rename_i hc
      cases h
      exact .inr ⟨_, _, rfl, rgOk_ok hc, rfl⟩
    · cases h
  · cases h
theorem snd_lrng (G : Good P k X N sc fn) {C : Ctx} {ty : Bi} {es' : List E} {es : List Expr} {x y : Str} {p p2 pos pos2 : Pos} (hx : x = biName ty) (hty : ty = .list ∨ ty = .tuple) (hgx : glB sc x = true) (hy : y = "range") (hgy : glB sc y = true) (hms : mEs N sc es' es = true) (hl : es'.length = 1 ∨ es'.length = 2)
    (h : ∀ e' e, mE N sc e' e = true → e' ∈ es' → PE X e (tR X.K g (evR C e'))) : PE X (.Call (.Name x p) [.Call (.Name y p2) es [] pos2] [] pos) (tR X.K g (evR C (.lrng ty es'))) := by
  have hr := snd_rg (p := p2) (pos := pos2) G hy hgy hms hl h
  have go : ∀ {σ : L2.St} {H : Hp} {Q : Int → Int → Hp → Prop} {ds : List D} {kp F : Hp} {env env' : Env}, (∃ rs, rngD ds = some rs) → evD C es' env = some (ds, env') → Rel X.K g kp F env σ H → (∀ a b F' H', rngD ds = some (rgD a b) → RgOk a b → Same F F' → Rel X.K g kp F' env' σ H' → Q a b H') → tRgG X.K g (evD C es') σ H Q :=
    fun {σ H Q ds kp F env env'} ⟨rs, hrs⟩ h2 R q => by
      rcases rng_cases hrs with ⟨n, rfl, ok, rfl⟩ | ⟨a, b, rfl, ok, rfl⟩
      · exact ⟨kp, F, env, _, env', h2, R, .inl ⟨n, rfl, fun F' H' s1 R1 => q 0 n F' H' hrs ok s1 R1⟩⟩
      · exact ⟨kp, F, env, _, env', h2, R, .inr ⟨a, b, rfl, fun F' H' s1 R1 => q a b F' H' hrs ok s1 R1⟩⟩
  rcases hty with rfl | rfl
  · subst hx
    refine PEw (pe_listRg G.calm (G.gl hgx) (G.bi _ (by decide +kernel)) hr (by rfl)) fun σ H Q ⟨kp, F, env, rd, env', e1, R, q⟩ => ?_
    unfold evR at e1
    obtain ⟨⟨ds, e2⟩, h2, e1⟩ := Option.bind_eq_some_iff.mp e1
    obtain ⟨rs, h3, e1⟩ := Option.bind_eq_some_iff.mp e1
    cases e1
    refine go ⟨rs, h3⟩ h2 R fun a b F' H' e3 ok s1 R1 => ⟨ok, ?_⟩
    have h3 : rngD ds = some rs := h3
    rw [e3] at h3
    cases h3
    exact Fin.newL R1 (fun F2 v H2 s2 R2 po => q F2 v H2 (s1.trans s2) R2 po) (rg_rp a b)
  · subst hx
    refine PEw (pe_tupRg G.calm (G.gl hgx) (G.bi _ (by decide +kernel)) hr (by rfl)) fun σ H Q ⟨kp, F, env, rd, env', e1, R, q⟩ => ?_
    unfold evR at e1
    obtain ⟨⟨ds, e2⟩, h2, e1⟩ := Option.bind_eq_some_iff.mp e1
    obtain ⟨rs, h3, e1⟩ := Option.bind_eq_some_iff.mp e1
    cases e1
    refine go ⟨rs, h3⟩ h2 R fun a b F' H' e3 ok s1 R1 => ⟨ok, ?_⟩
    have h3 : rngD ds = some rs := h3
    rw [e3] at h3
    cases h3
    exact Fin.newT R1 (fun F2 v H2 s2 R2 po => q F2 v H2 (s1.trans s2) R2 po) (rg_rp a b)
/-! ### xs.pop(i) -/
theorem snd_popAt (G : Good P k X N sc fn) {a : Expr} {i : Nat} {x m : Str} {p1 apos cpos : Pos} {ev : Env → Option (D × Env)} (h1 : isAt N i x = true) (h2 : visB sc x = true) (h3 : nmB x = true) (hm : m = "pop") (hp : plainX a = true) (hl : (apos.endLine == cpos.line) = true) (ha : PE X a (tD X.K g ev)) :
    PE X (.Call (.Attribute (.Name x p1) m apos) [a] [] cpos) (tR X.K g fun env => if mutAt env i then (ev env).bind fun x => popOf i x.1 x.2 else none) := by
  subst hm
  have st := star_of hp [] X.env
  refine PEw (pe_bm PySem.F.plainAttrs_list PySem.F.slot_list_pop PySem.F.type_list_pop mt_popAt (G.var (pos := p1) h1 h2 h3) (pa_cons ha pa_nil st) rfl (by rw [st]; rfl) hl st rfl) fun σ H Q ⟨kp, F, env, rd, env', e1, R, q⟩ => ?_
  simp only at e1
  split at e1
  · rename_i hmt
    obtain ⟨p, vs, es, hp0⟩ := R.mutAt hmt
    obtain ⟨⟨d, e2⟩, h2', e1⟩ := Option.bind_eq_some_iff.mp e1
    refine ⟨.ref p, es, .inl ⟨rfl, vs, sqL_of hp0⟩, kp, F, env, d, e2, h2', R, fun F1 v H1 s1 R1 po => ?_⟩
    obtain ⟨z, xs, j, y, rfl, hx, hz, hj, hy, rfl, rfl⟩ := popOf_inv e1
    obtain ⟨p', _, es', f1, h0, hw, ws, rfl, r⟩ := R1.sl i _ hx
    rw [es] at es'
    cases es'
    unfold Rp at po
    obtain ⟨w, hw2, rw2⟩ := r.at hy
    obtain ⟨i1, i2, i3, i4⟩ := ixN_seq hj
    have h63 : (sizeLine : Int) < 2 ^ 63 := by rw [sizeLine_eq]; decide
    refine ⟨p, ws, z, j, w, rfl, by rw [po], hw, by omega, by omega, by rw [← r.len]; exact i1, hw2, ?_⟩
    exact q F1 w _ s1 (R1.mutate (s := .own (.lst xs)) hx rfl es (r.eraseIdx j)) (post_old rw2)
  · cases e1
end
end MI

namespace MI
open PySem PySem.Spec PyProof.Rows L2
/-! ### calls of defs -/
section
variable {K : PySem.W.Frag} {g : Gh} {kp F : Hp} {env : Env} {σ : L2.St} {H : Hp}
theorem argV_s {ps : List PV} {i : Nat} {as : List AV} (h : argV env (.s i :: ps) = some as) : ∃ s xs as', env[i]? = some s ∧ isMut s = true ∧ slotD s = some xs ∧ as = .b xs :: as' ∧ argV env ps = some as' := by
  unfold argV at h
  split at h
  · rename_i xs hx
    obtain ⟨as', h1, h2⟩ := Option.map_eq_some_iff.mp h
    exact ⟨_, xs, as', hx, rfl, rfl, h2.symm, h1⟩
  · rename_i xs hx
    obtain ⟨as', h1, h2⟩ := Option.map_eq_some_iff.mp h
    exact ⟨_, xs, as', hx, rfl, rfl, h2.symm, h1⟩
  · cases h
theorem argV_d {ps : List PV} {d : D} {as : List AV} (h : argV env (.d d :: ps) = some as) : ∃ as', as = .d d :: as' ∧ argV env ps = some as' := by
  unfold argV at h
  obtain ⟨as', h1, h2⟩ := Option.map_eq_some_iff.mp h
  exact ⟨as', h2.symm, h1⟩
theorem Rel.args (R : Rel K g kp F env σ H) : ∀ {ps : List PV} {vs : List V} {as : List AV}, PostPs K F σ ps vs → argV env ps = some as → ArgOk K F H as vs ∧ ∀ p ∈ borsOf as vs, ∃ i ∈ sRefs ps, ∃ s, env[i]? = some s ∧ isMut s = true ∧ σ[i]? = some (some (.ref p))
  | [], vs, as, h, e => by
    cases e
    refine ⟨h, fun p hp => ?_⟩
    have h : vs = [] := h
    subst h
    cases hp
  | .d d :: ps, vs, as, h, e => by
    obtain ⟨v, vs', rfl, h2, h3⟩ := h
    obtain ⟨as', rfl, e2⟩ := argV_d e
    obtain ⟨a1, a2⟩ := Rel.args R h3 e2
    exact ⟨⟨v, vs', rfl, h2, a1⟩, fun p hp => a2 p hp⟩
  | .s i :: ps, vs, as, h, e => by
    obtain ⟨v, vs', rfl, h2, h3⟩ := h
    obtain ⟨s, xs, as', hs, m, hx, rfl, e2⟩ := argV_s e
    obtain ⟨a1, a2⟩ := Rel.args R h3 e2
    have h2 : σ[i]? = some (some v) := h2
    have z := R.sl i s hs
    obtain ⟨p, ws, e1, f1, hp, r⟩ := R.at_mut hs m hx
    rw [h2] at e1
    cases e1
    refine ⟨⟨p, ws, vs', rfl, f1, hp, r, a1⟩, fun q hq => ?_⟩
    have hq : q ∈ p :: borsOf as' vs' := hq
    rcases List.mem_cons.mp hq with rfl | hq
    · exact ⟨i, by simp [sRefs], s, hs, m, h2⟩
    · obtain ⟨j, hj, rest⟩ := a2 q hq
      exact ⟨j, by simp [sRefs, hj], rest⟩
theorem Rel.bors (R : Rel K g kp F env σ H) : ∀ {ps : List PV} {vs : List V} {as : List AV}, PostPs K F σ ps vs → argV env ps = some as → (sRefs ps).Nodup → (borsOf as vs).Nodup
  | [], vs, as, h, e, _ => by
    cases e
    have h : vs = [] := h
    subst h
    exact List.nodup_nil
  | .d d :: ps, vs, as, h, e, nd => by
    obtain ⟨v, vs', rfl, h2, h3⟩ := h
    obtain ⟨as', rfl, e2⟩ := argV_d e
    show (borsOf as' vs').Nodup
    exact Rel.bors R (ps := ps) h3 e2 (show (sRefs ps).Nodup from nd)
  | .s i :: ps, vs, as, h, e, nd => by
    obtain ⟨v, vs', rfl, h2, h3⟩ := h
    obtain ⟨s, xs, as', hs, m, hx, rfl, e2⟩ := argV_s e
    have nd : (i :: sRefs ps).Nodup := nd
    have h2 : σ[i]? = some (some v) := h2
    have ih := Rel.bors R h3 e2 (List.nodup_cons.mp nd).2
    cases v with
    | ref p =>
      show (p :: borsOf as' vs').Nodup
      refine List.nodup_cons.mpr ⟨fun hp => ?_, ih⟩
      obtain ⟨j, hj, t, ht, mt, st⟩ := (Rel.args R h3 e2).2 p hp
      exact R.ds i j s t p (fun z => (List.nodup_cons.mp nd).1 (by rw [z]; exact hj)) hs ht m mt h2 st
    | _ => exact List.nodup_nil
theorem putBack_spec {F2 H2 : Hp} : ∀ {ps : List PV} {vs : List V} {as : List AV} {os : List D} {env env' : Env}, PostPs K F σ ps vs → argV env ps = some as → OutOk K F2 H2 as vs os → (sRefs ps).Nodup → putBack ps os env = some env' →
    env'.length = env.length ∧ ∀ j : Nat, (j ∉ sRefs ps → env'[j]? = env[j]?) ∧ (j ∈ sRefs ps → ∃ s o p ws, env[j]? = some s ∧ isMut s = true ∧ env'[j]? = some (reslot o s) ∧ σ[j]? = some (some (.ref p)) ∧ F2 p = none ∧ H2 p = some ws ∧ Cont K F2 p o ws)
  | [], vs, as, os, env, env', h, e, ho, _, hb => by
    cases e
    have ho : os = [] := ho
    subst ho
    cases hb
    exact ⟨rfl, fun j => ⟨fun _ => rfl, fun hj => by simp [sRefs] at hj⟩⟩
  | .d d :: ps, vs, as, os, env, env', h, e, ho, nd, hb => by
    obtain ⟨v, vs', rfl, h2, h3⟩ := h
    obtain ⟨as', rfl, e2⟩ := argV_d e
    unfold putBack at hb
    exact putBack_spec (ps := ps) h3 e2 ho (show (sRefs ps).Nodup from nd) hb
  | .s i :: ps, vs, as, os, env, env', h, e, ho, nd, hb => by
    obtain ⟨v, vs', rfl, h2, h3⟩ := h
    obtain ⟨s, xs, as', hs, m, hx, rfl, e2⟩ := argV_s e
    have h2 : σ[i]? = some (some v) := h2
    have nd : (i :: sRefs ps).Nodup := nd
    obtain ⟨ni, nd'⟩ := List.nodup_cons.mp nd
    have hi : i < env.length := (List.getElem?_eq_some_iff.mp hs).1
    cases v with
    | ref p =>
      obtain ⟨o, os', ws, rfl, f2, hw, r, ho'⟩ := ho
      unfold putBack at hb
      rw [hs] at hb
      have hb : putBack ps os' (env.set i (reslot o s)) = some env' := hb
      have e3 : argV (env.set i (reslot o s)) ps = some as' := by
        rw [← e2]
        exact argV_set ni
      obtain ⟨l1, ih⟩ := putBack_spec h3 e3 ho' nd' hb
      refine ⟨by rw [l1, List.length_set], fun j => ⟨fun hj => ?_, fun hj => ?_⟩⟩
      · have hj : j ∉ i :: sRefs ps := hj
        rw [(ih j).1 fun z => hj (List.mem_cons_of_mem _ z), get_set_ne fun z => hj (by rw [z]; exact List.mem_cons_self)]
      · have hj : j ∈ i :: sRefs ps := hj
        rcases List.mem_cons.mp hj with rfl | hj
        · refine ⟨s, o, p, ws, hs, m, ?_, h2, f2, hw, r⟩
          rw [(ih j).1 ni, get_set_self hi]
        · obtain ⟨s', o', p', ws', a1, rest⟩ := (ih j).2 hj
          rw [get_set_ne (fun z => ni (by rw [z]; exact hj))] at a1
          exact ⟨s', o', p', ws', a1, rest⟩
    | _ => exact ho.elim
where
  argV_set {i : Nat} {t : Sl} {env : Env} : ∀ {ps : List PV}, i ∉ sRefs ps → argV (env.set i t) ps = argV env ps
    | [], _ => rfl
    | .d d :: ps, h => by
      unfold argV
      rw [argV_set (ps := ps) h]
    | .s j :: ps, h => by
      have h : i ∉ j :: sRefs ps := h
      unfold argV
      rw [argV_set (ps := ps) fun z => h (List.mem_cons_of_mem _ z), get_set_ne fun z => h (by rw [z]; exact List.mem_cons_self)]
/-- behind a call -/
theorem Rel.called (R : Rel K g kp F env σ H) {ps : List PV} {vs : List V} {as : List AV} {os : List D} {env' : Env} {F2 H2 : Hp} (hp : PostPs K F σ ps vs) (ha : argV env ps = some as) (nd : (sRefs ps).Nodup) (hb : putBack ps os env = some env')
    (sF : Same F F2) (sH : Same F2 H2) (hn : ∀ a, F2 a ≠ none → F a ≠ none ∨ H a = none) (hf : ∀ a o, H a = some o → a ∉ borsOf as vs → H2 a = some o) (hd : ∀ a, H a ≠ none → H2 a ≠ none) (ho : OutOk K F2 H2 as vs os) : Rel K g kp F2 env' σ H2 ∧ ∀ p, Owns env' σ p → Owns env σ p := by
  obtain ⟨len, sp⟩ := putBack_spec hp ha ho nd hb
  obtain ⟨_, bo⟩ := R.args hp ha
  have back : ∀ {j : Nat} {t : Sl}, env'[j]? = some t → isMut t = true → ∃ t', env[j]? = some t' ∧ isMut t' = true := fun {j t} e m => by
    by_cases hj : j ∈ sRefs ps
    · obtain ⟨s, o, p, ws, a1, a2, _⟩ := (sp j).2 hj
      exact ⟨s, a1, a2⟩
    · rw [(sp j).1 hj] at e
      exact ⟨t, e, m⟩
  have own : ∀ p, Owns env' σ p → Owns env σ p := fun p ⟨j, t, e, m, es⟩ => by
    obtain ⟨t', e', m'⟩ := back e m
    exact ⟨j, t', e', m', es⟩
  have nobor : ∀ {p : Addr} {j : Nat} {t : Sl}, env[j]? = some t → isMut t = true → σ[j]? = some (some (.ref p)) → j ∉ sRefs ps → p ∉ borsOf as vs := fun {p j t} e m es hj hq => by
    obtain ⟨i, hi, s, hs, ms, ss⟩ := bo p hq
    exact R.ds i j s t p (fun z => hj (by rw [← z]; exact hi)) hs e ms m ss es
  have keepF : ∀ {p : Addr} {o : HO}, F p = none → H p = some o → F2 p = none := fun {p o} f h => by
    cases q : F2 p with
    | none => rfl
    | some u =>
      rcases hn p (by rw [q]; exact fun z => by cases z) with z | z
      · exact absurd f z
      · rw [h] at z; cases z
  refine ⟨⟨fun b x q => sF _ _ (R.f0 _ _ q), sH, fun a ha' => ?_, fun a ha' => hd a (R.dom a ha'), fun a o q => ?_, fun p w => R.kpo p (own p w), fun a ka fa => ?_, by rw [len, R.len], fun j t e => ?_, fun j xs e => ?_, fun i j s t p hij e1 e2 m1 m2 s1 s2 => ?_⟩, own⟩
  · rcases hn a ha' with z | z
    · exact R.fnew a z
    · refine .inr ?_
      cases q : g.H0 a with
      | none => rfl
      | some o => exact absurd z (R.dom a (by rw [q]; exact fun z => by cases z))
  · refine hf a o (R.kept a o q) fun hq => ?_
    obtain ⟨i, hi, s, hs, ms, ss⟩ := bo a hq
    rw [R.kpo a ⟨i, s, hs, ms, ss⟩] at q
    cases q
  · rcases hn a fa with z | z
    · exact R.fk a ka z
    · cases q : kp a with
      | none => exact absurd q ka
      | some o => rw [R.kept a o q] at z; cases z
  · by_cases hj : j ∈ sRefs ps
    · obtain ⟨s, o, p, ws, a1, a2, a3, a4, a5, a6, a7⟩ := (sp j).2 hj
      rw [a3] at e
      cases e
      have z := R.sl j s a1
      cases s with
      | un => cases a2
      | val d => cases a2
      | own ys =>
        obtain ⟨p', us, e1, _, h0, _, _⟩ := z
        rw [a4] at e1
        cases e1
        exact ⟨p, ws, a4, a5, h0, a6, a7⟩
      | bor ys =>
        obtain ⟨p', us, e1, _, h0, _, _⟩ := z
        rw [a4] at e1
        cases e1
        exact ⟨p, ws, a4, a5, h0, a6, a7⟩
    · rw [(sp j).1 hj] at e
      refine (R.sl j t e).step sF fun p us m es f h => ⟨keepF f h, hf p _ h (nobor e m es hj)⟩
  · by_cases hj : j ∈ sRefs ps
    · obtain ⟨s, o, p, ws, a1, a2, a3, _⟩ := (sp j).2 hj
      rw [a3] at e
      cases s with
      | bor ys => exact R.bo j ys a1
      | un => cases a2
      | val d => cases a2
      | own ys => cases e
    · rw [(sp j).1 hj] at e
      exact R.bo j xs e
  · obtain ⟨s', a1, a2⟩ := back e1 m1
    obtain ⟨t', b1, b2⟩ := back e2 m2
    exact R.ds i j s' t' p hij a1 b1 a2 b2 s1 s2
end
section
variable {X : Cx} {g : Gh} {e : Expr} {P : Prg} {k : Nat} {N : List Str} {sc : Scope} {fn : Str → Bool}
theorem snd_callW {ms : List Bool} {f : Str} {es' : List E} (hms : P.modes f = some ms) : ∀ σ H Q, tR X.K g (evR (P.ctx k) (.call f es')) σ H Q → tCallG (spC X.K (P.calls k) f) (tPs X.K g (evA (P.ctx k) ms es')) σ H Q := fun σ H Q ⟨kp, F, env, rd, env', e1, R, q⟩ => by
  unfold evR at e1
  obtain ⟨ms', hm, e1⟩ := Option.bind_eq_some_iff.mp e1
  have hm : P.modes f = some ms' := hm
  rw [hms] at hm
  cases hm
  obtain ⟨⟨ps, e2⟩, h2, e1⟩ := Option.bind_eq_some_iff.mp e1
  obtain ⟨as, ha, e1⟩ := Option.bind_eq_some_iff.mp e1
  split at e1
  · rename_i nd
    obtain ⟨⟨r, os⟩, hc, e1⟩ := Option.bind_eq_some_iff.mp e1
    obtain ⟨env2, hb, e1⟩ := Option.map_eq_some_iff.mp e1
    cases e1
    refine ⟨kp, F, env, ps, e2, h2, R, fun F1 vs H1 s1 R1 po => ⟨F1, as, r, os, hc, R1.fh, (R1.args po ha).1, R1.bors po ha nd, fun F2 v H2 sF sH hn hf hd ho hr => ?_⟩⟩
    obtain ⟨R2, own⟩ := R1.called po ha nd hb sF sH hn hf hd ho
    refine q F2 v H2 (s1.trans sF) R2 ?_
    cases r with
    | old d => exact hr
    | new ds =>
      obtain ⟨p, ws, rfl, f1, h1, hp, r⟩ := hr
      obtain ⟨a1, a2, a3, a4⟩ := R1.fresh h1
      exact ⟨p, ws, rfl, f1, a2, a3, hp, r, fun w => a4 (own p w)⟩
  · cases e1
theorem snd_call (G : Good P k X N sc fn) {ms : List Bool} {f x : Str} {es' : List E} {es : List Expr} {p pos : Pos} (hx : f = x) (hg : glB sc x = true) (hn : nmB x = true) (hms : P.modes f = some ms) (hmm : mEs N sc es' es = true) (ha : PA X es (tPs X.K g (evA (P.ctx k) ms es'))) :
    PE X (.Call (.Name x p) es [] pos) (tR X.K g (evR (P.ctx k) (.call f es'))) := by
  subst hx
  unfold Prg.modes at hms
  obtain ⟨F, hF, e2⟩ := Option.map_eq_some_iff.mp hms
  obtain ⟨a, fd, hm, hk, hb, FG, _⟩ := G.fns f F hF
  have hms : P.modes f = some ms := by unfold Prg.modes; rw [hF]; exact congrArg some e2
  obtain ⟨n1, _, _⟩ := nmB_ok hn
  cases es with
  | nil =>
    refine PEw (pe_callG0 FG G.roomC G.gd (G.gl hg) hm hk hb n1) fun σ H Q q => ?_
    have z := snd_callW hms σ H Q q
    obtain ⟨kp, F, env, ps', env', e1, R, q⟩ := z
    cases es' with
    | nil =>
      cases ms with
      | nil =>
        unfold evA at e1
        cases e1
        exact q F [] H (Same.refl F) R rfl
      | cons m ms => unfold evA at e1; cases m <;> cases e1
    | cons e' es' => unfold mEs at hmm; cases hmm
  | cons v vs =>
    cases es' with
    | nil => unfold mEs at hmm; cases hmm
    | cons e' es' =>
      unfold mEs at hmm
      simp only [Bool.and_eq_true] at hmm
      exact PEw (pe_callG FG G.roomC G.gd (G.gl hg) hm hk hb ha n1 (star_of (mE_plain hmm.1) _ _) (mEs_any hmm.2)) (snd_callW hms)
end
end MI

namespace MI
open PySem PySem.Spec PyProof.Rows L2
/-! ### targets -/
def tgT (K : PySem.W.Frag) (g : Gh) (t : T) : TG := fun v σ H Q => ∃ kp F env d env', bindT t d env = some env' ∧ Rel K g kp F env σ H ∧ Rp K F d v ∧
  ∀ σ', Rel K g kp F env' σ' H → σ'.length = σ.length → (∀ j, j ∉ slotsT t → σ'[j]? = σ[j]?) → Q σ' H
def tgTs (K : PySem.W.Frag) (g : Gh) (ts : List T) : TGs := fun vs σ H Q => ∃ kp F env ds env', bindTs ts ds env = some env' ∧ Rel K g kp F env σ H ∧ RpL K F ds vs ∧
  ∀ σ', Rel K g kp F env' σ' H → σ'.length = σ.length → (∀ j, j ∉ slotsTs ts → σ'[j]? = σ[j]?) → Q σ' H
theorem PGw {X : Cx} {e : Expr} {t t' : TG} (h : PG X e t) (f : ∀ v σ H Q, t' v σ H Q → t v σ H Q) : PG X e t' := ⟨fun pins s σ H v u Q I r q => h.run pins s σ H v u Q I r (f v σ H Q q)⟩
theorem PGsw {X : Cx} {e : List Expr} {t t' : TGs} (h : PGs X e t) (f : ∀ v σ H Q, t' v σ H Q → t v σ H Q) : PGs X e t' := ⟨fun pins s σ H v u Q I r q => h.run pins s σ H v u Q I r (f v σ H Q q)⟩
section
variable {X : Cx} {g : Gh} {e : Expr} {P : Prg} {k : Nat} {N : List Str} {sc : Scope} {fn : Str → Bool}
theorem locB_ok {x : Str} (h : locB sc fn x = true) : Loc sc x ∧ (fn x = true ∨ sc.names.lookup x = some .local) := by
  unfold locB at h
  split at h
  · rename_i q
    exact ⟨.inl q, .inr q⟩
  · rename_i q
    exact ⟨.inr q, .inl h⟩
  · cases h
theorem Good.name (G : Good P k X N sc fn) {i : Nat} {x : Str} {pos : Pos} (h1 : isAt N i x = true) (h2 : locB sc fn x = true) : PG X (.Name x pos) (gName i) := by
  obtain ⟨a, b⟩ := locB_ok h2
  refine pg_name (by rw [G.hN]; exact G.nd) (by rw [G.hN]; exact isAt_ok h1) (by rw [G.hsc]; exact a) ?_
  rw [G.hsc, G.hfn]
  exact b
theorem mTs_each : ∀ {ts : List T} {es : List Expr} {env : PySem.Env}, mTs N sc fn ts es = true → (assignEach es env).map (·.2) = es.map (fun e => assign e env) ∧ (assignEach es env).findIdx? (·.1) = none ∧ (assignEach es env).length = ts.length
  | [], [], _, _ => ⟨rfl, rfl, rfl⟩
  | t :: ts, e :: es, env, h => by
    unfold mTs at h
    simp only [Bool.and_eq_true] at h
    obtain ⟨a, b, c⟩ := mTs_each (env := env) h.2
    have st : assignEach (e :: es) env = (false, assign e env) :: assignEach es env := by
      cases t with
      | nm i =>
        cases e <;> first | rfl | (have h := h.1; unfold mT at h; cases h)
      | tp ts =>
        cases e <;> first | rfl | (have h := h.1; unfold mT at h; cases h)
      | tl ts =>
        cases e <;> first | rfl | (have h := h.1; unfold mT at h; cases h)
    rw [st]
    refine ⟨by rw [List.map_cons, List.map_cons, a], ?_, by rw [List.length_cons, List.length_cons, c]⟩
    rw [List.findIdx?_cons, b]
    rfl
  | [], _ :: _, _, h => by unfold mTs at h; cases h
  | _ :: _, [], _, h => by unfold mTs at h; cases h
mutual
theorem sndT (G : Good P k X N sc fn) : ∀ (t : T) (e : Expr), mT N sc fn t e = true → PG X e (tgT X.K g t)
  | .nm i, e, h => by
    cases e <;> first | (unfold mT at h; cases h; done) | skip
    unfold mT at h
    simp only [Bool.and_eq_true] at h
    refine PGw (G.name h.1 h.2) fun v σ H Q ⟨kp, F, env, d, env', e1, R, r, q⟩ => ?_
    unfold bindT at e1
    split at e1
    · rename_i hi
      cases e1
      refine q _ (R.setVal hi r) (by rw [List.length_set]) fun j hj => get_set_ne fun z => hj (by rw [z]; simp [slotsT])
    · cases e1
  | .tp ts, e, h => by
    cases e <;> first | (unfold mT at h; cases h; done) | skip
    rename_i es kk pos
    have h : mTs N sc fn ts es = true := by unfold mT at h; exact h
    obtain ⟨_, b, c⟩ := mTs_each (env := X.env) h
    refine PGw (pg_tup (n := ts.length) G.calm (sndTs G ts es h) c b) fun v σ H Q ⟨kp, F, env, d, env', e1, R, r, q⟩ => ?_
    cases d with
    | tup xs =>
      have e1 : bindTs ts xs env = some env' := by unfold bindT at e1; exact e1
      unfold Rp at r
      obtain ⟨a, vs, rfl, hf, rl⟩ := r
      refine ⟨a, vs, rfl, sqT_of (R.fh _ _ hf), ?_, kp, F, env, xs, env', e1, R, rl, fun σ' R' hl hj => q σ' R' hl fun j nj => hj j fun z => nj (by simpa [slotsT] using z)⟩
      rw [← rl.len]
      exact bindTs_len e1
    | _ => unfold bindT at e1; cases e1
  | .tl ts, e, h => by
    cases e <;> first | (unfold mT at h; cases h; done) | skip
    rename_i es kk pos
    have h : mTs N sc fn ts es = true := by unfold mT at h; exact h
    obtain ⟨_, b, c⟩ := mTs_each (env := X.env) h
    refine PGw (pg_unl (n := ts.length) G.calm (sndTs G ts es h) c b) fun v σ H Q ⟨kp, F, env, d, env', e1, R, r, q⟩ => ?_
    cases d with
    | lst xs =>
      have e1 : bindTs ts xs env = some env' := by unfold bindT at e1; exact e1
      unfold Rp at r
      obtain ⟨a, vs, rfl, hf, rl⟩ := r
      refine ⟨a, vs, rfl, sqL_of (R.fh _ _ hf), ?_, kp, F, env, xs, env', e1, R, rl, fun σ' R' hl hj => q σ' R' hl fun j nj => hj j fun z => nj (by simpa [slotsT] using z)⟩
      rw [← rl.len]
      exact bindTs_len e1
    | _ => unfold bindT at e1; cases e1
theorem sndTs (G : Good P k X N sc fn) : ∀ (ts : List T) (es : List Expr), mTs N sc fn ts es = true → PGs X es (tgTs X.K g ts)
  | [], es, h => by
    cases es with
    | cons _ _ => unfold mTs at h; cases h
    | nil =>
      refine PGsw pgs_nil fun vs σ H Q ⟨kp, F, env, ds, env', e1, R, r, q⟩ => ?_
      cases ds with
      | nil =>
        unfold bindTs at e1
        cases e1
        rw [r.nil_inv]
        exact ⟨rfl, q σ R rfl fun _ _ => rfl⟩
      | cons _ _ => unfold bindTs at e1; cases e1
  | t :: ts, es, h => by
    cases es with
    | nil => unfold mTs at h; cases h
    | cons e es =>
      have h0 := mTs_each (env := X.env) h
      unfold mTs at h
      simp only [Bool.and_eq_true] at h
      have h1 := mTs_each (env := X.env) h.2
      refine PGsw (pgs_cons (sndT G t e h.1) (sndTs G ts es h.2) (by rw [h0.1, h1.1]; rfl)) fun vs σ H Q ⟨kp, F, env, ds, env', e1, R, r, q⟩ => ?_
      cases ds with
      | nil => unfold bindTs at e1; cases e1
      | cons d ds =>
        unfold bindTs at e1
        obtain ⟨env1, h2, e1⟩ := Option.bind_eq_some_iff.mp e1
        obtain ⟨v, vs', rfl, r1, r2⟩ := r.cons_inv
        refine ⟨v, vs', rfl, kp, F, env, d, env1, h2, R, r1, fun σ1 R1 l1 j1 => ⟨kp, F, env1, ds, env', e1, R1, r2, fun σ2 R2 l2 j2 => q σ2 R2 (by rw [l2, l1]) fun j nj => ?_⟩⟩
        have nj : j ∉ slotsT t ++ slotsTs ts := by simpa [slotsTs] using nj
        rw [j2 j fun z => nj (List.mem_append_right _ z), j1 j fun z => nj (List.mem_append_left _ z)]
theorem bindTs_len : ∀ {ts : List T} {ds : List D} {env env' : Env}, bindTs ts ds env = some env' → ds.length = ts.length
  | [], [], _, _, _ => rfl
  | t :: ts, d :: ds, env, env', h => by
    unfold bindTs at h
    obtain ⟨env1, h2, e1⟩ := Option.bind_eq_some_iff.mp h
    rw [List.length_cons, List.length_cons, bindTs_len e1]
  | [], _ :: _, _, _, h => by unfold bindTs at h; cases h
  | _ :: _, [], _, _, h => by unfold bindTs at h; cases h
end
end
end MI

namespace MI
open PySem PySem.Spec PyProof.Rows L2
/-! ### what is walked -/
structure Yields (K : PySem.W.Frag) (F : Hp) (J : It) (ds : List D) : Prop where
  go : ∀ i H, Same F H → i < ds.length → J.go i H
  stop : ∀ i H, Same F H → ds.length ≤ i → J.stop i H
  yld : ∀ (i : Nat) H x H' d, Same F H → ds[i]? = some d → J.yld i H x H' → (H' = H ∧ Rp K F d x) ∨ ∃ T vs es, x = .ref T ∧ H T = none ∧ H' = upd H T (.tup vs) ∧ d = .tup es ∧ RpL K F es vs
def tI (K : PySem.W.Frag) (g : Gh) (ev : Env → Option (List D × Env)) : TI := fun σ H R => ∃ kp F env ds env', ev env = some (ds, env') ∧ Rel K g kp F env σ H ∧
  ∀ F' J H', Same F F' → Rel K g kp F' env' σ H' → Yields K F' J ds → R J H'
theorem PIw {X : Cx} {tg e : Expr} {t t' : TI} (h : PI X tg e t) (f : ∀ σ H R, t' σ H R → t σ H R) : PI X tg e t' := ⟨fun pins s σ H R I q => h.run pins s σ H R I (f σ H R q)⟩
def iSeqA (K : PySem.W.Frag) (tl : TE) : TI := fun σ H R => tl σ H fun x H1 => ∃ a, x = .ref a ∧ (((∃ xs, SqL K H1 a xs) ∧ R (Itl K a) H1) ∨ ((∃ xs, SqT K H1 a xs) ∧ R (Itt K a) H1))
theorem pi_seqA {X : Cx} {tg l : Expr} {tl : TE} (hl : PE X l tl) : PI X tg l (iSeqA X.K tl) := by
  refine ⟨fun pins s σ H R I h => ?_⟩
  refine thn (hl.run pins s σ H _ I h) fun v s1 ⟨x, H1, I1, r1, q1⟩ => ?_
  obtain ⟨a, e, q1⟩ := q1
  subst e
  cases r1
  rcases q1 with ⟨⟨xs, hq⟩, q⟩ | ⟨⟨xs, hq⟩, q⟩
  · obtain ⟨its, rv, p, hz⟩ := I1.list hq
    refine wpAny_pyIter_list p.isList ?_
    refine ⟨s1.heap.objs.size, [s1.heap.objs.size], _, _, H1, rfl, I1.kept (t' := s1.toks) fun b o e => Heap.get?_push_of_some _ e, turn_list a _, ⟨_, Heap.get?_push_size _ rfl, rfl, rfl⟩, fun b hb => ?_, q⟩
    have e : b = s1.heap.objs.size := by simpa using hb
    subst e
    exact I1.fpOk (Nat.le_refl _) (I1.hok.fresh (Nat.le_refl _))
  · obtain ⟨its, rv, p, hz⟩ := I1.tuple hq
    refine wpAny_pyIter_tuple (show s1.heap.IsTuple a its.toArray from p) ?_
    refine ⟨s1.heap.objs.size, [s1.heap.objs.size], _, _, H1, rfl, I1.kept (t' := s1.toks) fun b o e => Heap.get?_push_of_some _ e, turn_tuple a _, ⟨_, Heap.get?_push_size _ rfl, rfl, rfl⟩, fun b hb => ?_, q⟩
    have e : b = s1.heap.objs.size := by simpa using hb
    subst e
    exact I1.fpOk (Nat.le_refl _) (I1.hok.fresh (Nat.le_refl _))
theorem yields_at {K : PySem.W.Frag} {F : Hp} {ds : List D} {vs : List V} (r : RpL K F ds vs) {i : Nat} {d : D} {x : V} (hd : ds[i]? = some d) (hx : vs[i]? = some x) : Rp K F d x := by
  obtain ⟨w, e1, e2⟩ := r.at hd
  rw [hx] at e1
  cases e1
  exact e2
theorem lt_get {α : Type} {l : List α} {i : Nat} (h : i < l.length) : ∃ x, l[i]? = some x := ⟨l[i], List.getElem?_eq_getElem h⟩
theorem yields_list {K : PySem.W.Frag} {F : Hp} {a : Addr} {ds : List D} {vs : List V} (h : ∀ H, Same F H → SqL K H a vs) (r : RpL K F ds vs) : Yields K F (Itl K a) ds where
  go := fun i H s hi => by
    obtain ⟨x, hx⟩ := lt_get (l := vs) (by rw [← r.len]; exact hi)
    exact ⟨vs, x, h H s, hx⟩
  stop := fun i H s hi => ⟨vs, h H s, by rw [← r.len]; exact hi⟩
  yld := fun i H x H' d s hd ⟨e, f⟩ => .inl ⟨e, yields_at r hd (f vs (h H s))⟩
theorem yields_tup {K : PySem.W.Frag} {F : Hp} {a : Addr} {ds : List D} {vs : List V} (h : ∀ H, Same F H → SqT K H a vs) (r : RpL K F ds vs) : Yields K F (Itt K a) ds where
  go := fun i H s hi => by
    obtain ⟨x, hx⟩ := lt_get (l := vs) (by rw [← r.len]; exact hi)
    exact ⟨vs, x, h H s, hx⟩
  stop := fun i H s hi => ⟨vs, h H s, by rw [← r.len]; exact hi⟩
  yld := fun i H x H' d s hd ⟨e, f⟩ => .inl ⟨e, yields_at r hd (f vs (h H s))⟩
theorem rgD_len (a b : Int) : (rgD a b).length = (b - a).toNat := by unfold rgD; rw [List.length_map, List.length_range]
theorem rgD_at {a b : Int} {i : Nat} {d : D} (h : (rgD a b)[i]? = some d) : d = .int (a + i) := by
  unfold rgD at h
  rw [List.getElem?_map] at h
  obtain ⟨j, h1, h2⟩ := Option.map_eq_some_iff.mp h
  have : j = i := by
    rw [List.getElem?_range (by
      have := (List.getElem?_eq_some_iff.mp h1).1
      simpa using this)] at h1
    cases h1
    rfl
  rw [← h2, this]
theorem yields_rng {K : PySem.W.Frag} {F : Hp} (a b : Int) : Yields K F (Itr a (b - a).toNat) (rgD a b) where
  go := fun i H s hi => by rw [rgD_len] at hi; exact hi
  stop := fun i H s hi => by rw [rgD_len] at hi; exact hi
  yld := fun i H x H' d s hd ⟨e, f⟩ => .inl ⟨e, by rw [rgD_at hd, f]; exact rp_int⟩
theorem enumD_len : ∀ (ds : List D) (k : Int), (enumD k ds).length = ds.length
  | [], _ => rfl
  | d :: ds, k => by unfold enumD; rw [List.length_cons, List.length_cons, enumD_len]
theorem enumD_at : ∀ {ds : List D} {k : Int} {i : Nat} {d : D}, (enumD k ds)[i]? = some d → ∃ x, ds[i]? = some x ∧ d = .tup [.int (k + i), x]
  | [], k, i, d, h => by simp [enumD] at h
  | x :: ds, k, 0, d, h => by
    simp [enumD] at h
    exact ⟨x, rfl, by rw [← h]; simp⟩
  | x :: ds, k, i + 1, d, h => by
    simp [enumD] at h
    obtain ⟨y, h1, h2⟩ := enumD_at h
    refine ⟨y, by simpa using h1, ?_⟩
    rw [h2]
    have : k + 1 + (i : Int) = k + ((i + 1 : Nat) : Int) := by omega
    rw [this]
theorem yields_enumL {K : PySem.W.Frag} {F : Hp} {a : Addr} {ds : List D} {vs : List V} (h : ∀ H, Same F H → SqL K H a vs) (r : RpL K F ds vs) : Yields K F (Ite K a) (enumD 0 ds) where
  go := fun i H s hi => by
    rw [enumD_len] at hi
    obtain ⟨x, hx⟩ := lt_get (l := vs) (by rw [← r.len]; exact hi)
    exact ⟨vs, x, h H s, hx⟩
  stop := fun i H s hi => ⟨vs, h H s, by rw [enumD_len] at hi; rw [← r.len]; exact hi⟩
  yld := fun i H x H' d s hd ⟨T, y, e1, e2, e3, f⟩ => by
    obtain ⟨z, hz, rfl⟩ := enumD_at hd
    refine .inr ⟨T, _, _, e1, e2, e3, rfl, .cons ?_ (.one (yields_at r hz (f vs (h H s))))⟩
    rw [Int.zero_add]
    exact rp_int
theorem yields_enumT {K : PySem.W.Frag} {F : Hp} {a : Addr} {ds : List D} {vs : List V} (h : ∀ H, Same F H → SqT K H a vs) (r : RpL K F ds vs) : Yields K F (IteT K a) (enumD 0 ds) where
  go := fun i H s hi => by
    rw [enumD_len] at hi
    obtain ⟨x, hx⟩ := lt_get (l := vs) (by rw [← r.len]; exact hi)
    exact ⟨vs, x, h H s, hx⟩
  stop := fun i H s hi => ⟨vs, h H s, by rw [enumD_len] at hi; rw [← r.len]; exact hi⟩
  yld := fun i H x H' d s hd ⟨T, y, e1, e2, e3, f⟩ => by
    obtain ⟨z, hz, rfl⟩ := enumD_at hd
    refine .inr ⟨T, _, _, e1, e2, e3, rfl, .cons ?_ (.one (yields_at r hz (f vs (h H s))))⟩
    rw [Int.zero_add]
    exact rp_int
theorem zipD_len : ∀ (xs ys : List D), (zipD xs ys).length = min xs.length ys.length
  | [], ys => by simp [zipD]
  | x :: xs, [] => by simp [zipD]
  | x :: xs, y :: ys => by simp [zipD, zipD_len xs ys, Nat.succ_min_succ]
theorem zipD_at : ∀ {xs ys : List D} {i : Nat} {d : D}, (zipD xs ys)[i]? = some d → ∃ x y, xs[i]? = some x ∧ ys[i]? = some y ∧ d = .tup [x, y]
  | [], ys, i, d, h => by simp [zipD] at h
  | x :: xs, [], i, d, h => by simp [zipD] at h
  | x :: xs, y :: ys, 0, d, h => by
    simp [zipD] at h
    exact ⟨x, y, rfl, rfl, h.symm⟩
  | x :: xs, y :: ys, i + 1, d, h => by
    simp [zipD] at h
    obtain ⟨a, b, h1, h2, h3⟩ := zipD_at h
    exact ⟨a, b, by simpa using h1, by simpa using h2, h3⟩
theorem yields_zipL {K : PySem.W.Frag} {F : Hp} {a b : Addr} {ds es : List D} {vs ws : List V} (h : ∀ H, Same F H → SqL K H a vs) (h' : ∀ H, Same F H → SqL K H b ws) (r : RpL K F ds vs) (r' : RpL K F es ws) : Yields K F (Itz K a b) (zipD ds es) where
  go := fun i H s hi => by
    rw [zipD_len] at hi
    obtain ⟨x, hx⟩ := lt_get (l := vs) (i := i) (by rw [← r.len]; omega)
    obtain ⟨y, hy⟩ := lt_get (l := ws) (i := i) (by rw [← r'.len]; omega)
    exact ⟨vs, ws, x, y, h H s, h' H s, hx, hy⟩
  stop := fun i H s hi => ⟨vs, ws, h H s, h' H s, by rw [zipD_len] at hi; rw [← r.len, ← r'.len]; omega⟩
  yld := fun i H x H' d s hd ⟨T, y, z, e1, e2, e3, f, f'⟩ => by
    obtain ⟨p, q, hp, hq, rfl⟩ := zipD_at hd
    exact .inr ⟨T, _, _, e1, e2, e3, rfl, .cons (yields_at r hp (f vs (h H s))) (.one (yields_at r' hq (f' ws (h' H s))))⟩
theorem yields_zipT {K : PySem.W.Frag} {F : Hp} {a b : Addr} {ds es : List D} {vs ws : List V} (h : ∀ H, Same F H → SqT K H a vs) (h' : ∀ H, Same F H → SqT K H b ws) (r : RpL K F ds vs) (r' : RpL K F es ws) : Yields K F (RZ.ItzT K a b) (zipD ds es) where
  go := fun i H s hi => by
    rw [zipD_len] at hi
    obtain ⟨x, hx⟩ := lt_get (l := vs) (i := i) (by rw [← r.len]; omega)
    obtain ⟨y, hy⟩ := lt_get (l := ws) (i := i) (by rw [← r'.len]; omega)
    exact ⟨vs, ws, x, y, h H s, h' H s, hx, hy⟩
  stop := fun i H s hi => ⟨vs, ws, h H s, h' H s, by rw [zipD_len] at hi; rw [← r.len, ← r'.len]; omega⟩
  yld := fun i H x H' d s hd ⟨T, y, z, e1, e2, e3, f, f'⟩ => by
    obtain ⟨p, q, hp, hq, rfl⟩ := zipD_at hd
    exact .inr ⟨T, _, _, e1, e2, e3, rfl, .cons (yields_at r hp (f vs (h H s))) (.one (yields_at r' hq (f' ws (h' H s))))⟩
theorem items_seq {K : PySem.W.Frag} {F : Hp} {d : D} {v : V} {ds : List D} (r : Rp K F d v) (h : itemsD d = some ds) : ∃ a vs, v = .ref a ∧ RpL K F ds vs ∧ ((isT d = false ∧ ∀ H, Same F H → SqL K H a vs) ∨ (isT d = true ∧ ∀ H, Same F H → SqT K H a vs)) := by
  cases d <;> first | (unfold itemsD at h; cases h; done) | skip
  all_goals (unfold itemsD at h; cases h; unfold Rp at r)
  · obtain ⟨a, vs, rfl, hf, rl⟩ := r
    exact ⟨a, vs, rfl, rl, .inr ⟨rfl, fun H s => sqT_of (s _ _ hf)⟩⟩
  · obtain ⟨a, vs, rfl, hf, rl⟩ := r
    exact ⟨a, vs, rfl, rl, .inl ⟨rfl, fun H s => sqL_of (s _ _ hf)⟩⟩
  · obtain ⟨a, rfl, hf⟩ := r
    exact ⟨a, _, rfl, RpL.ints _, .inl ⟨rfl, fun H s => Same.seq s hf⟩⟩
section
variable {X : Cx} {g : Gh} {e tg : Expr} {P : Prg} {k : Nat} {N : List Str} {sc : Scope} {fn : Str → Bool}
theorem snd_iseq {ev : Env → Option (D × Env)} (h : PE X e (tD X.K g ev)) : PI X tg e (tI X.K g fun env => (ev env).bind fun x => (itemsD x.1).map fun ds => (ds, x.2)) :=
  PIw (pi_seqA h) fun σ H R ⟨kp, F, env, ds, env', e1, Rl, q⟩ => by
    obtain ⟨⟨d, e2⟩, h2, e1⟩ := Option.bind_eq_some_iff.mp e1
    obtain ⟨ds', h3, e1⟩ := Option.map_eq_some_iff.mp e1
    cases e1
    refine ⟨kp, F, env, d, e2, h2, Rl, fun F1 v H1 s1 R1 po => ?_⟩
    obtain ⟨a, vs, rfl, r, hh⟩ := items_seq po h3
    refine ⟨a, rfl, ?_⟩
    rcases hh with ⟨_, hh⟩ | ⟨_, hh⟩
    · exact .inl ⟨⟨vs, hh H1 R1.fh⟩, q F1 _ H1 s1 R1 (yields_list hh r)⟩
    · exact .inr ⟨⟨vs, hh H1 R1.fh⟩, q F1 _ H1 s1 R1 (yields_tup hh r)⟩
theorem yields_str {K : PySem.W.Frag} {F : Hp} (z : Str) : Yields K F (Its z) (z.cps.toList.map (fun c => D.str ⟨#[c]⟩)) where
  go := fun i H s hi => by
    rw [List.length_map] at hi
    exact hi
  stop := fun i H s hi => by
    rw [List.length_map] at hi
    exact hi
  yld := fun i H x H' d s hd ⟨e, c, hc, hx⟩ => .inl ⟨e, by
    rw [List.getElem?_map, Array.getElem?_toList, hc] at hd
    cases hd
    rw [hx]
    unfold Rp
    rfl⟩
theorem snd_ichars {ev : Env → Option (D × Env)} (h : PE X e (tD X.K g ev)) : PI X tg e (tI X.K g fun env => (ev env).bind fun x => (match x.1 with | .str z => some (z.cps.toList.map (fun c => D.str ⟨#[c]⟩), x.2) | _ => none)) :=
  PIw (pi_str h) fun σ H R ⟨kp, F, env, ds, env', e1, Rl, q⟩ => by
    obtain ⟨⟨d, e2⟩, h2, e1⟩ := Option.bind_eq_some_iff.mp e1
    refine ⟨kp, F, env, d, e2, h2, Rl, fun F1 v H1 s1 R1 po => ?_⟩
    cases d <;> first | (cases e1; done) | skip
    rename_i z
    cases e1
    unfold Rp at po
    exact ⟨z, po, q F1 _ H1 s1 R1 (yields_str z)⟩
theorem snd_ienum (G : Good P k X N sc fn) {x : Str} {elts : List Expr} {kk : Nat} {tpos p pos : Pos} {ev : Env → Option (D × Env)} (hx : x = "enumerate") (hg : glB sc x = true) (hp : plainX e = true) (h : PE X e (tD X.K g ev)) :
    PI X (.Tuple elts kk tpos) (.Call (.Name x p) [e] [] pos) (tI X.K g fun env => (ev env).bind fun x => (itemsD x.1).map fun ds => (enumD 0 ds, x.2)) := by
  subst hx
  refine PIw (pi_enumA (G.gl hg) (G.bi _ (by decide +kernel)) (pa_cons h pa_nil (star_of hp _ _)) (star_of hp _ _)) fun σ H R ⟨kp, F, env, ds, env', e1, Rl, q⟩ => ?_
  obtain ⟨⟨d, e2⟩, h2, e1⟩ := Option.bind_eq_some_iff.mp e1
  obtain ⟨ds', h3, e1⟩ := Option.map_eq_some_iff.mp e1
  cases e1
  refine ⟨kp, F, env, d, e2, h2, Rl, fun F1 v H1 s1 R1 po => ?_⟩
  obtain ⟨a, vs, rfl, r, hh⟩ := items_seq po h3
  refine ⟨a, vs, rfl, ?_⟩
  rcases hh with ⟨_, hh⟩ | ⟨_, hh⟩
  · exact .inl ⟨hh H1 R1.fh, q F1 _ H1 s1 R1 (yields_enumL hh r)⟩
  · exact .inr ⟨hh H1 R1.fh, q F1 _ H1 s1 R1 (yields_enumT hh r)⟩
theorem snd_izip (G : Good P k X N sc fn) {x : Str} {a b : Expr} {elts : List Expr} {kk : Nat} {tpos p pos : Pos} {ea eb : Env → Option (D × Env)} (hx : x = "zip") (hg : glB sc x = true) (ha : plainX a = true) (hb : plainX b = true) (h : PE X a (tD X.K g ea)) (h' : PE X b (tD X.K g eb)) :
    PI X (.Tuple elts kk tpos) (.Call (.Name x p) [a, b] [] pos) (tI X.K g fun env => (ea env).bind fun x => (eb x.2).bind fun y => (itemsD x.1).bind fun ds => (itemsD y.1).bind fun es => if isT x.1 == isT y.1 then some (zipD ds es, y.2) else none) := by
  subst hx
  have st := star_of hb [] X.env
  refine PIw (RZ.pi_zipA (G.gl hg) (G.bi _ (by decide +kernel)) (pa_cons h (pa_cons h' pa_nil st) (star_of ha _ _)) (star_of ha _ _) (by rw [st]; rfl)) fun σ H R ⟨kp, F, env, ds, env', e1, Rl, q⟩ => ?_
  obtain ⟨⟨d, e2⟩, h2, e1⟩ := Option.bind_eq_some_iff.mp e1
  obtain ⟨⟨d', e3⟩, h3, e1⟩ := Option.bind_eq_some_iff.mp e1
  obtain ⟨ds1, h4, e1⟩ := Option.bind_eq_some_iff.mp e1
  obtain ⟨ds2, h5, e1⟩ := Option.bind_eq_some_iff.mp e1
  split at e1
  · rename_i hT
    cases e1
    refine ⟨kp, F, env, d, e2, h2, Rl, fun F1 v H1 s1 R1 po => ⟨kp, F1, e2, d', e3, h3, R1, fun F2 w H2 s2 R2 po2 => ?_⟩⟩
    obtain ⟨a, vs, rfl, r, hh⟩ := items_seq (Rp.mono s2 _ _ po) h4
    obtain ⟨b, ws, rfl, r', hh'⟩ := items_seq po2 h5
    refine ⟨a, b, vs, ws, rfl, ?_⟩
    have hT : isT d = isT d' := eq_of_beq hT
    rcases hh with ⟨t1, hh⟩ | ⟨t1, hh⟩
    · rcases hh' with ⟨t2, hh'⟩ | ⟨t2, hh'⟩
      · exact .inl ⟨hh H2 R2.fh, hh' H2 R2.fh, q F2 _ H2 (s1.trans s2) R2 (yields_zipL hh hh' r r')⟩
      · rw [t1, t2] at hT; cases hT
    · rcases hh' with ⟨t2, hh'⟩ | ⟨t2, hh'⟩
      · rw [t1, t2] at hT; cases hT
      · exact .inr ⟨hh H2 R2.fh, hh' H2 R2.fh, q F2 _ H2 (s1.trans s2) R2 (yields_zipT hh hh' r r')⟩
  · cases e1
theorem snd_irng (G : Good P k X N sc fn) {C : Ctx} {es' : List E} {es : List Expr} {y : Str} {p pos : Pos} (hy : y = "range") (hgy : glB sc y = true) (hms : mEs N sc es' es = true) (hl : es'.length = 1 ∨ es'.length = 2) (h : PA X es (tDs X.K g (evD C es'))) :
    PI X tg (.Call (.Name y p) es [] pos) (tI X.K g fun env => (evD C es' env).bind fun x => (rngD x.1).map fun ds => (ds, x.2)) := by
  subst hy
  have hm : X.mg "range" = none := G.bi _ (by decide +kernel)
  have inv : ∀ {n : Nat} {es' : List E} {env env' : Env} {ds : List D}, evD C es' env = some (ds, env') → ds.length = es'.length := fun {n es'} => by
    induction es' with
    | nil => intro env env' ds h; unfold evD at h; cases h; rfl
    | cons e' es' ih =>
      intro env env' ds h
      unfold evD at h
      obtain ⟨⟨d, e2⟩, h2, h⟩ := Option.bind_eq_some_iff.mp h
      obtain ⟨⟨ds', e3⟩, h3, h⟩ := Option.map_eq_some_iff.mp h
      cases h
      rw [List.length_cons, List.length_cons, ih h3]
  match es, es', hms, hl, h with
  | [a], [a'], hms, _, h =>
    unfold mEs mEs at hms
    simp only [Bool.and_true] at hms
    refine PIw (pi_range1 (G.gl hgy) hm h (star_of (mE_plain hms) _ _)) fun σ H R ⟨kp, F, env, ds, env', e1, Rl, q⟩ => ?_
    obtain ⟨⟨ds0, e2⟩, h2, e1⟩ := Option.bind_eq_some_iff.mp e1
    obtain ⟨rs, h3, e1⟩ := Option.map_eq_some_iff.mp e1
    cases e1
    refine ⟨kp, F, env, ds0, e2, h2, Rl, fun F1 vs H1 s1 R1 po => ?_⟩
    have hlen := inv (n := 0) h2
    rcases rng_cases h3 with ⟨n, rfl, ok, rfl⟩ | ⟨a, b, rfl, ok, rfl⟩
    · obtain ⟨v, vs', rfl, r1, r2⟩ := po.cons_inv
      rw [r2.nil_inv]
      unfold Rp at r1
      have y := yields_rng (K := X.K) (F := F1) 0 n
      rw [Int.sub_zero] at y
      exact ⟨n, by rw [r1], ok.2.2.1, ok.2.2.2.1, q F1 _ H1 s1 R1 y⟩
    · simp at hlen
  | [a, b], [a', b'], hms, _, h =>
    unfold mEs mEs mEs at hms
    simp only [Bool.and_true, Bool.and_eq_true] at hms
    have st := star_of (mE_plain hms.2) [] X.env
    refine PIw (pi_range2 (G.gl hgy) hm h (by rw [star_of (mE_plain hms.1), st]; rfl) st) fun σ H R ⟨kp, F, env, ds, env', e1, Rl, q⟩ => ?_
    obtain ⟨⟨ds0, e2⟩, h2, e1⟩ := Option.bind_eq_some_iff.mp e1
    obtain ⟨rs, h3, e1⟩ := Option.map_eq_some_iff.mp e1
    cases e1
    refine ⟨kp, F, env, ds0, e2, h2, Rl, fun F1 vs H1 s1 R1 po => ?_⟩
    have hlen := inv (n := 0) h2
    rcases rng_cases h3 with ⟨n, rfl, ok, rfl⟩ | ⟨a, b, rfl, ok, rfl⟩
    · simp at hlen
    · obtain ⟨v, vs', rfl, r1, r2⟩ := po.cons_inv
      obtain ⟨w, vs'', rfl, r3, r4⟩ := r2.cons_inv
      rw [r4.nil_inv]
      unfold Rp at r1 r3
      exact ⟨a, b, by rw [r1, r3], ⟨ok.1, ok.2.1, ok.2.2.1, ok.2.2.2.1⟩, q F1 _ H1 s1 R1 (yields_rng a b)⟩
  | _, [], _, hl, _ => simp at hl
  | _, _ :: _ :: _ :: _, _, hl, _ => simp at hl
  | [], [_], hms, _, _ => unfold mEs at hms; cases hms
  | _ :: _ :: _, [_], hms, _, _ => unfold mEs mEs at hms; simp at hms
  | [], [_, _], hms, _, _ => unfold mEs at hms; cases hms
  | [_], [_, _], hms, _, _ => unfold mEs mEs at hms; simp at hms
  | _ :: _ :: _ :: _, [_, _], hms, _, _ => unfold mEs mEs mEs at hms; simp at hms
end
end MI

namespace MI
open PySem PySem.Spec PyProof.Rows L2
/-! ### comprehensions -/
theorem wipeE_len (env : Env) : ∀ vs : List Nat, (wipeE env vs).length = env.length
  | [] => rfl
  | v :: vs => by unfold wipeE; rw [List.length_set, wipeE_len env vs]
theorem wipeE_out {env : Env} {i : Nat} : ∀ {vs : List Nat}, i ∉ vs → (wipeE env vs)[i]? = env[i]?
  | [], _ => rfl
  | v :: vs, h => by
    unfold wipeE
    rw [get_set_ne fun z => h (by rw [z]; exact List.mem_cons_self)]
    exact wipeE_out fun z => h (List.mem_cons_of_mem _ z)
theorem wipeE_in {env : Env} {i : Nat} {s : Sl} : ∀ {vs : List Nat}, i ∈ vs → (wipeE env vs)[i]? = some s → s = .un
  | v :: vs, h, e => by
    unfold wipeE at e
    by_cases hv : v = i
    · subst hv
      by_cases hl : v < (wipeE env vs).length
      · rw [get_set_self hl] at e
        cases e
        rfl
      · rw [List.getElem?_eq_none (by rw [List.length_set]; omega)] at e
        cases e
    · rw [get_set_ne hv] at e
      rcases List.mem_cons.mp h with z | z
      · exact absurd z.symm hv
      · exact wipeE_in z e
theorem restore_len (e0 env : Env) : ∀ vs : List Nat, (restoreE e0 env vs).length = env.length
  | [] => rfl
  | v :: vs => by
    unfold restoreE
    cases e0[v]? with
    | none => exact restore_len e0 env vs
    | some s => show ((restoreE e0 env vs).set v s).length = _; rw [List.length_set, restore_len e0 env vs]
theorem restore_out {e0 env : Env} {i : Nat} : ∀ {vs : List Nat}, i ∉ vs → (restoreE e0 env vs)[i]? = env[i]?
  | [], _ => rfl
  | v :: vs, h => by
    unfold restoreE
    have ih := restore_out (e0 := e0) (env := env) (i := i) (vs := vs) fun z => h (List.mem_cons_of_mem _ z)
    cases e0[v]? with
    | none => exact ih
    | some s =>
      show ((restoreE e0 env vs).set v s)[i]? = _
      rw [get_set_ne fun z => h (by rw [z]; exact List.mem_cons_self)]
      exact ih
theorem restore_in {e0 env : Env} {i : Nat} (hl : e0.length = env.length) : ∀ {vs : List Nat}, i ∈ vs → (restoreE e0 env vs)[i]? = e0[i]?
  | v :: vs, h => by
    unfold restoreE
    by_cases hv : v = i
    · subst hv
      cases q : e0[v]? with
      | none =>
        show (restoreE e0 env vs)[v]? = none
        rw [List.getElem?_eq_none_iff, restore_len, ← hl]
        exact List.getElem?_eq_none_iff.mp q
      | some s =>
        show ((restoreE e0 env vs).set v s)[v]? = some s
        refine get_set_self ?_
        rw [restore_len, ← hl]
        exact (List.getElem?_eq_some_iff.mp q).1
    · have hi : i ∈ vs := by
        rcases List.mem_cons.mp h with z | z
        · exact absurd z.symm hv
        · exact z
      have ih := restore_in (e0 := e0) (env := env) hl hi
      cases e0[v]? with
      | none => exact ih
      | some s =>
        show ((restoreE e0 env vs).set v s)[i]? = _
        rw [get_set_ne hv]
        exact ih
theorem wipeable_ok {env : Env} {vs : List Nat} (h : wipeable env vs = true) {i : Nat} {s : Sl} (hi : i ∈ vs) (e : env[i]? = some s) : isMut s = false := by
  unfold wipeable at h
  have z := List.all_eq_true.mp h i hi
  simp only [e] at z
  cases m : isMut s with
  | false => rfl
  | true => rw [m] at z; cases z
section
variable {K : PySem.W.Frag} {g : Gh} {kp F : Hp} {env : Env} {σ : L2.St} {H : Hp}
theorem Rel.wipe (R : Rel K g kp F env σ H) {vs : List Nat} (h : wipeable env vs = true) : Rel K g kp F (wipeE env vs) (L2.wipe σ vs) H := by
  have out : ∀ {j : Nat} {s : Sl}, (wipeE env vs)[j]? = some s → s ≠ .un → j ∉ vs ∧ env[j]? = some s := fun {j s} e ne => by
    by_cases hj : j ∈ vs
    · exact absurd (wipeE_in hj e) ne
    · rw [wipeE_out hj] at e
      exact ⟨hj, e⟩
  have mo : ∀ {j : Nat} {s : Sl}, (wipeE env vs)[j]? = some s → isMut s = true → j ∉ vs ∧ env[j]? = some s := fun {j s} e m => out e fun z => by rw [z] at m; cases m
  refine ⟨R.f0, R.fh, R.fnew, R.dom, R.kept, fun p ⟨j, s, e, m, es⟩ => ?_, R.fk, by rw [wipeE_len, wipe_length, R.len], fun j s e => ?_, fun j xs e => ?_, fun i j s t p hij e1 e2 m1 m2 s1 s2 => ?_⟩
  · obtain ⟨nj, ej⟩ := mo e m
    rw [wipe_out nj] at es
    exact R.kpo p ⟨j, s, ej, m, es⟩
  · by_cases hu : s = .un
    · subst hu
      trivial
    · obtain ⟨nj, ej⟩ := out e hu
      rw [wipe_out nj]
      exact R.sl j s ej
  · obtain ⟨nj, ej⟩ := mo e rfl
    rw [wipe_out nj]
    exact R.bo j xs ej
  · obtain ⟨ni, ei⟩ := mo e1 m1
    obtain ⟨nj, ej⟩ := mo e2 m2
    rw [wipe_out ni] at s1
    rw [wipe_out nj] at s2
    exact R.ds i j s t p hij ei ej m1 m2 s1 s2
theorem Rel.restore {env0 : Env} {F0 H0 : Hp} {kp0 : Hp} (R0 : Rel K g kp0 F0 env0 σ H0) {vs : List Nat} (h : wipeable env0 vs = true) (sF : Same F0 F) (R : Rel K g kp F env (L2.wipe σ vs) H) : Rel K g kp F (restoreE env0 env vs) σ H ∧ ∀ p, Owns (restoreE env0 env vs) σ p → Owns env (L2.wipe σ vs) p := by
  have hlen : env0.length = env.length := by rw [R0.len, R.len, wipe_length]
  have mo : ∀ {j : Nat} {s : Sl}, (restoreE env0 env vs)[j]? = some s → isMut s = true → j ∉ vs ∧ env[j]? = some s := fun {j s} e m => by
    by_cases hj : j ∈ vs
    · rw [restore_in hlen hj] at e
      rw [wipeable_ok h hj e] at m
      cases m
    · rw [restore_out hj] at e
      exact ⟨hj, e⟩
  have own : ∀ p, Owns (restoreE env0 env vs) σ p → Owns env (L2.wipe σ vs) p := fun p ⟨j, s, e, m, es⟩ => by
    obtain ⟨nj, ej⟩ := mo e m
    exact ⟨j, s, ej, m, by rw [wipe_out nj]; exact es⟩
  refine ⟨⟨R.f0, R.fh, R.fnew, R.dom, R.kept, fun p w => R.kpo p (own p w), R.fk, by rw [restore_len, R.len, wipe_length], fun j s e => ?_, fun j xs e => ?_, fun i j s t p hij e1 e2 m1 m2 s1 s2 => ?_⟩, own⟩
  · by_cases hj : j ∈ vs
    · rw [restore_in hlen hj] at e
      have z := R0.sl j s e
      have nm := wipeable_ok h hj e
      cases s with
      | un => trivial
      | val d =>
        obtain ⟨v, e1, e2⟩ := z
        exact ⟨v, e1, Rp.mono sF d v e2⟩
      | own xs => cases nm
      | bor xs => cases nm
    · rw [restore_out hj] at e
      have z := R.sl j s e
      rw [wipe_out hj] at z
      exact z
  · obtain ⟨nj, ej⟩ := mo e rfl
    have z := R.bo j xs ej
    rw [wipe_out nj] at z
    exact z
  · obtain ⟨ni, ei⟩ := mo e1 m1
    obtain ⟨nj, ej⟩ := mo e2 m2
    exact R.ds i j s t p hij ei ej m1 m2 (by rw [wipe_out ni]; exact s1) (by rw [wipe_out nj]; exact s2)
/-- what is kept is changed -/
theorem Rel.rekeep {p : Addr} {o o' : HO} (R : Rel K g (upd kp p o) F env σ H) (f : F p = none) : Rel K g (upd kp p o') F env σ (upd H p o') := by
  have no : ¬ Owns env σ p := R.kept_owns
  refine ⟨R.f0, same_mut R.fh f, R.fnew, fun a ha => ?_, fun a x q => ?_, fun q w => ?_, fun a ka fa => R.fk a (fun z => ka (by rw [upd_ne (fun z => fa (by rw [z]; exact f))] at z ⊢; exact z)) fa, R.len, fun j s e => ?_, R.bo, R.ds⟩
  · by_cases hb : a = p
    · subst hb
      rw [upd_same]
      exact fun z => by cases z
    · rw [upd_ne hb]
      exact R.dom a ha
  · by_cases hb : a = p
    · subst hb
      rw [upd_same] at q ⊢
      exact q
    · rw [upd_ne hb] at q ⊢
      exact R.kept a x (by rw [upd_ne hb]; exact q)
  · have ne : q ≠ p := fun z => no (by rw [← z]; exact w)
    have z := R.kpo q w
    rw [upd_ne ne] at z ⊢
    exact z
  · refine (R.sl j s e).step (Same.refl F) fun q vs m es hq hv => ?_
    have ne : q ≠ p := fun z => no ⟨j, s, e, m, by rw [← z]; exact es⟩
    exact ⟨hq, by rw [upd_ne ne]; exact hv⟩
/-- a turn's item -/
theorem Rel.yield {J : It} {ds : List D} (R : Rel K g kp F env σ H) {F0 : Hp} (sF : Same F0 F) (Y : Yields K F0 J ds) {i : Nat} {d : D} {x : V} {H' : Hp} (hd : ds[i]? = some d) (hy : J.yld i H x H') : ∃ F', Same F F' ∧ Rel K g kp F' env σ H' ∧ Rp K F' d x ∧ ∀ p, H p ≠ none → F p = none → F' p = none := by
  rcases Y.yld i H x H' d (sF.trans R.fh) hd hy with ⟨rfl, rp⟩ | ⟨T, vs, es, rfl, hT, rfl, rfl, rl⟩
  · exact ⟨F, Same.refl F, R, Rp.mono sF d x rp, fun p _ f => f⟩
  · have f := (R.fresh hT).1
    refine ⟨upd F T (.tup vs), MI.same_upd f, R.newF hT, rp_tup upd_same (RpL.mono (sF.trans (MI.same_upd f)) es vs rl), fun p hp fp => ?_⟩
    rw [upd_ne fun z => hp (by rw [z]; exact hT)]
    exact fp
end
theorem wipe_congr {σ σ2 : L2.St} : ∀ {vs : List Nat}, σ2.length = σ.length → (∀ j, j ∉ vs → σ2[j]? = σ[j]?) → L2.wipe σ2 vs = L2.wipe σ vs := by
  intro vs hl h
  apply List.ext_getElem?
  intro j
  by_cases hj : j ∈ vs
  · have key : ∀ (τ : L2.St), τ.length = σ.length → (L2.wipe τ vs)[j]? = if j < σ.length then some none else none := fun τ hτ => by
      have hlen : (L2.wipe τ vs).length = σ.length := by rw [wipe_length, hτ]
      by_cases hlt : j < σ.length
      · rw [if_pos hlt]
        cases q : (L2.wipe τ vs)[j]? with
        | none => rw [List.getElem?_eq_none_iff, hlen] at q; omega
        | some o =>
          cases o with
          | none => rfl
          | some v => exact absurd hj (wipe_some q).2
      · rw [if_neg hlt, List.getElem?_eq_none_iff, hlen]
        omega
    rw [key σ2 hl, key σ rfl]
  · rw [wipe_out hj, wipe_out hj]
    exact h j hj
section
variable {X : Cx} {g : Gh} {P : Prg} {k : Nat} {N : List Str} {sc : Scope} {fn : Str → Bool}
theorem snd_lcW {C : Ctx} {own : List Nat} {elt : E} {tg : T} {it : I} {cnd : E} {tt : TT} (hsub : ∀ j ∈ slotsT tg, j ∈ own) (htt : ∀ σ H Q, tTst X.K g (testOf cnd (evR C cnd)) σ H Q → tt σ H Q) :
    ∀ σ H Q, tR X.K g (evR C (.lc own elt tg it cnd)) σ H Q → tLc (tI X.K g (evI C it)) (tgT X.K g tg) tt (tD X.K g (frz (evR C elt))) own σ H Q := fun σ H Q ⟨kp, F, env, rd, env', e1, R, q⟩ => by
  unfold evR at e1
  obtain ⟨⟨ds, e2⟩, h2, e1⟩ := Option.bind_eq_some_iff.mp e1
  split at e1
  · rename_i hc
    simp only [Bool.and_eq_true] at hc
    obtain ⟨hw, hz⟩ := hc
    obtain ⟨⟨xs, e3⟩, h3, e1⟩ := Option.map_eq_some_iff.mp e1
    cases e1
    have hz : ds.length ≤ sizeLine := szOk_le hz
    refine ⟨kp, F, env, ds, e2, h2, R, fun F1 J H1 s1 R1 Y Dl hD => ?_⟩
    obtain ⟨fD, h0D, kD, oD⟩ := R1.fresh hD
    generalize hf : (fun d e => (bindT tg d e).bind fun e1 => (testOf cnd (evR C cnd) e1).bind fun b => if b.1 then (frz (evR C elt) b.2).bind fun y => wiped own (some y.1) y.2 else wiped own none b.2) = f at h3
    refine ⟨fun i m H => m = ds.length - i ∧ i ≤ ds.length ∧ ∃ F' env' acc accV ys, Same F1 F' ∧ Rel X.K g (upd kp Dl (.lst accV)) F' env' (L2.wipe σ own) H ∧ RpL X.K F' acc accV ∧ F' Dl = none ∧ acc.length ≤ i ∧ lcGo f (ds.drop i) env' = some (ys, e3) ∧ xs = acc ++ ys,
      ⟨ds.length, by simp, Nat.zero_le _, F1, wipeE e2 own, [], [], xs, Same.refl F1, ?_, .nil, fD, Nat.le_refl _, h3, rfl⟩, ?_⟩
    · exact ((R1.newL hD .nil).1.keep fD upd_same oD).wipe hw
    · rintro i m H ⟨rfl, hi, F', env', acc, accV, ys, sF, R', rl, fD', ha, hg, rfl⟩
      by_cases hlt : i < ds.length
      · refine .inr ⟨Y.go i H (sF.trans R'.fh) hlt, fun H2 => ∃ F2 env2 acc2 accV2 ys2, Same F1 F2 ∧ Rel X.K g (upd kp Dl (.lst accV2)) F2 env2 (L2.wipe σ own) H2 ∧ RpL X.K F2 acc2 accV2 ∧ F2 Dl = none ∧ acc2.length ≤ i + 1 ∧ lcGo f (ds.drop (i + 1)) env2 = some (ys2, e3) ∧ acc ++ ys = acc2 ++ ys2, fun H2 h => ⟨ds.length - (i + 1), by omega, rfl, hlt, h⟩, fun x H2 hy => ?_⟩
        obtain ⟨d, hd⟩ := lt_get hlt
        have hdrop : ds.drop i = d :: ds.drop (i + 1) := by
          rw [List.drop_eq_getElem_cons hlt]
          congr 1
          have := List.getElem?_eq_getElem hlt
          rw [hd] at this
          exact (Option.some.inj this).symm
        rw [hdrop] at hg
        unfold lcGo at hg
        obtain ⟨⟨o, e4⟩, h4, hg⟩ := Option.bind_eq_some_iff.mp hg
        obtain ⟨⟨zs, e5⟩, h5, hg⟩ := Option.map_eq_some_iff.mp hg
        cases hg
        rw [← hf] at h4
        obtain ⟨e6, h6, h4⟩ := Option.bind_eq_some_iff.mp h4
        obtain ⟨⟨b, e7⟩, h7, h4⟩ := Option.bind_eq_some_iff.mp h4
        have pD : H Dl = some (.lst accV) := R'.kept Dl _ upd_same
        obtain ⟨Fy, sy, Ry, rp, ky⟩ := R'.yield sF Y hd hy
        have fDy := ky Dl (by rw [pD]; exact fun z => by cases z) fD'
        refine ⟨upd kp Dl (.lst accV), Fy, env', d, e6, h6, Ry, rp, fun σ2 R2 l2 j2 => ⟨?_, ?_⟩⟩
        · rw [wipe_congr l2 fun j hj => j2 j fun z => hj (hsub j z)]
          apply List.ext_getElem?
          intro j
          by_cases hj : j ∈ own
          · have a1 : (L2.wipe (L2.wipe σ own) own)[j]? = (L2.wipe σ own)[j]? := by
              rw [wipe_congr (σ := σ) (σ2 := L2.wipe σ own) (wipe_length σ own) fun j' hj' => wipe_out hj']
            exact a1
          · rw [wipe_out hj]
        · have w2 : L2.wipe σ2 own = L2.wipe σ own := by
            rw [wipe_congr l2 fun j hj => j2 j fun z => hj (hsub j z)]
            exact wipe_congr (wipe_length σ own) fun j' hj' => wipe_out hj'
          refine htt σ2 H2 _ ⟨upd kp Dl (.lst accV), Fy, e6, b, e7, h7, R2, fun F3 H3 s3 R3 => ?_⟩
          have keepD : ∀ {F4 H4 : Hp} {env4 : Env}, Same Fy F4 → Rel X.K g (upd kp Dl (.lst accV)) F4 env4 σ2 H4 → F4 Dl = none := fun {F4 H4 env4} s4 R4 => by
            cases q0 : F4 Dl with
            | none => rfl
            | some u =>
              have z := R4.fk Dl (by rw [upd_same]; exact fun z => by cases z) (by rw [q0]; exact fun z => by cases z)
              cases q1 : g.F0 Dl with
              | none => exact absurd q1 z
              | some w => rw [R1.f0 _ _ q1] at fD; cases fD
          cases b with
          | true =>
            have h4 : ((frz (evR C elt) e7).bind fun y => wiped own (some y.1) y.2) = some (o, e4) := h4
            obtain ⟨⟨y, e8⟩, h8, h4⟩ := Option.bind_eq_some_iff.mp h4
            unfold wiped at h4
            split at h4
            · rename_i hw8
              cases h4
              refine ⟨upd kp Dl (.lst accV), F3, e7, y, e8, h8, R3, fun F4 v H4 s4 R4 po => ⟨accV, R4.kept Dl _ upd_same, ?_, ?_⟩⟩
              · rw [← rl.len]
                omega
              · have s14 : Same Fy F4 := s3.trans s4
                have fD4 := keepD s14 R4
                have R5 := (R4.rekeep (o' := .lst (accV ++ [v])) fD4).wipe hw8
                rw [w2] at R5
                exact ⟨F4, wipeE e8 own, acc ++ [y], accV ++ [v], zs, (sF.trans sy).trans s14, R5, (RpL.mono (sy.trans s14) _ _ rl).append (.one po), fD4, by rw [List.length_append]; simp; omega, h5, by simp⟩
            · cases h4
          | false =>
            have h4 : wiped own none e7 = some (o, e4) := h4
            unfold wiped at h4
            split at h4
            · rename_i hw8
              cases h4
              have fD4 := keepD s3 R3
              have R5 := R3.wipe hw8
              rw [w2] at R5
              exact ⟨F3, wipeE e7 own, acc, accV, zs, (sF.trans sy).trans s3, R5, RpL.mono (sy.trans s3) _ _ rl, fD4, by omega, h5, by simp⟩
            · cases h4
      · have ei : i = ds.length := by omega
        subst ei
        rw [List.drop_length] at hg
        unfold lcGo at hg
        cases hg
        refine .inl ⟨Y.stop _ H (sF.trans R'.fh) (Nat.le_refl _), ?_⟩
        have pD : H Dl = some (.lst accV) := R'.kept Dl _ upd_same
        obtain ⟨R2, own2⟩ := R1.restore hw sF (R'.unkeep kD)
        refine q F' (.ref Dl) H (s1.trans sF) R2 ⟨Dl, _, rfl, fD', h0D, kD, pD, ⟨accV, rfl, by simpa using rl⟩, fun w => R'.kept_owns (own2 Dl w)⟩
  · cases e1
end
end MI

namespace MI
open PySem PySem.Spec PyProof.Rows L2
/-! ### t[::-1] -/
section
variable {prog : Program} {w : World} {A : Around} {E : Value → Shared → Prop} {s : Shared}
theorem places_rev (n : Nat) : Builtin.Slice.slicePlaces ((n : Int) - 1) (-1) (-1) = n := by
  unfold Builtin.Slice.slicePlaces
  have h1 : ¬ ((-1 : Int) > 0) := by decide
  simp only [h1, if_false]
  split
  · rw [show (- -1 : Int) = 1 by decide, Int.ediv_one]
    omega
  · omega
theorem sliceApplied_rev {sl : Addr} {vs : Value} {n : Nat} {Q : Int × Int × Nat → Shared → Prop} (hs : s.heap.IsSliceOf sl .none .none vs) (ps : IsPart vs (some (-1)))
    (h : Q ((n : Int) - 1, -1, n) s) : wpAny (model prog w) A (Builtin.Slice.sliceApplied (.ref sl) (pure (n : Int))) Q E s := by
  obtain ⟨os, hos, hcs, hds⟩ := id hs
  unfold Builtin.Slice.sliceApplied Builtin.Slice.sliceFields
  refine wpAny_bind (wpAny_bind (wpAny_field hos hds (x := .none) rfl (wpAny_bind (wpAny_field hos hds (x := .none) rfl (wpAny_bind (wpAny_field hos hds (x := vs) rfl (wpAny_pure ?_)))))))
  refine wpAny_bind (HT.slicePart_ ps ?_)
  show wpAny _ _ (if ((-1 : Int) == 0) = true then _ else _) _ _ s
  rw [if_neg (by decide)]
  refine wpAny_bind (slicePart_none ?_)
  refine wpAny_bind (slicePart_none ?_)
  refine wpAny_bind (wpAny_pure ?_)
  show wpAny _ _ (pure ((n : Int) - 1, (-1 : Int), Builtin.Slice.slicePlaces ((n : Int) - 1) (-1) (-1))) _ _ s
  rw [places_rev]
  exact wpAny_pure h
theorem pick_rev (xs : Array Value) : ((List.range xs.size).filterMap fun (m : Nat) => xs[(((xs.size : Nat) : Int) - 1 + (m : Int) * -1).toNat]?).toArray = xs.toList.reverse.toArray := by
  have e : (List.range xs.size).filterMap (fun (m : Nat) => xs[(((xs.size : Nat) : Int) - 1 + (m : Int) * -1).toNat]?) = ((List.range xs.size).map fun k => xs.size - 1 - k).filterMap (xs[·]?) := by
    rw [List.filterMap_map]
    have key : ∀ l : List Nat, (∀ k ∈ l, k < xs.size) → l.filterMap (fun (m : Nat) => xs[(((xs.size : Nat) : Int) - 1 + (m : Int) * -1).toNat]?) = l.filterMap ((xs[·]?) ∘ fun k => xs.size - 1 - k) := fun l => by
      induction l with
      | nil => intro _; rfl
      | cons k l ih =>
        intro h
        have hk := h k List.mem_cons_self
        have e : (((xs.size : Nat) : Int) - 1 + (k : Int) * -1).toNat = xs.size - 1 - k := by omega
        rw [List.filterMap_cons, List.filterMap_cons, ih fun j hj => h j (List.mem_cons_of_mem _ hj), e]
        rfl
    exact key _ fun k hk => List.mem_range.mp hk
  rw [e, PySem.W.krv_range, List.filterMap_reverse, PySem.W.krv_all]
theorem getItem_tuple_rev {t sl : Addr} {items : Array Value} {vs : Value} {Q : Value → Shared → Prop} (ht : IsTup s.heap t items) (hs : s.heap.IsSliceOf sl .none .none vs) (ps : IsPart vs (some (-1)))
    (h : Q (.ref s.heap.objs.size) { s with heap := s.heap.push { cls := .type "tuple", data := .seq items.toList.reverse.toArray } })
    (hsz : items.size ≤ sizeLine) : wpAny (model prog w) A (getItem (.ref t) (.ref sl)) Q E s := by
  have htake : sizeOk (.seq items.toList.reverse.toArray) := by
    show items.toList.reverse.toArray.size ≤ sizeLine
    rw [List.size_toArray, List.length_reverse, Array.length_toList]
    exact hsz
  obtain ⟨os, hos, hcs, hds⟩ := id hs
  have hTs : s.TypeIs (.ref sl) "slice" := ⟨os, hos, hcs⟩
  unfold getItem
  try with_reducible refine wpAny_holding ?_
  first | refine wpAny_bind (wpAny_pure ?_) | skip
  refine wpAny_bind (wpAny_sequenceKey ht.typeIs (by decide) ?_)
  refine wpAny_bind (wpAny_callSpecial?_slot (name := Str.ofString "__getitem__") ht.typeIs PyProof.Rows.slot_tuple_getitem
    (wpAny_call_entry PyProof.Rows.slot_tuple_getitem ht.typeIs entry_tuple_getitem ?_ (args_tuple_getitem _ _)))
  show wpAny _ _ (Builtin.Tuple.tupleItemsOf (.ref t) >>= _) _ _ s
  refine wpAny_bind (tupleItemsOf_ ht ?_)
  refine wpAny_bind (wpAny_typeOf hTs ?_)
  rw [if_pos (by decide)]
  refine wpAny_bind (sliceApplied_rev hs ps ?_)
  have hno : ¬ (((((items.size : Nat) : Int) - 1) == 0 && (-1 : Int) == 1 && items.size == items.size) = true) := by
    intro q
    rw [Bool.and_eq_true, Bool.and_eq_true] at q
    exact absurd q.1.2 (by decide)
  show wpAny _ _ (if ((((items.size : Nat) : Int) - 1) == 0 && (-1 : Int) == 1 && items.size == items.size) = true then _ else _) _ _ s
  rw [if_neg hno, pick_rev]
  first
    | exact wpAny_bind (m := Builtin.Tuple.tupleExact _) (wpAny_newObj_type (wpAny_pure ⟨_, rfl, wpAny_pure h⟩) htake)
    | exact wpAny_bind (m := Builtin.Tuple.tupleExact _) (wpAny_newObj_type (wpAny_bind (wpAny_pure (wpAny_pure ⟨_, rfl, wpAny_pure h⟩))) htake)
    | exact wpAny_bind (wpAny_bind (m := Builtin.Tuple.tupleExact _) (wpAny_newObj_type (wpAny_pure (wpAny_pure ⟨_, rfl, wpAny_pure h⟩)) htake))
    | exact wpAny_bind (wpAny_bind (m := Builtin.Tuple.tupleExact _) (wpAny_newObj_type (wpAny_pure ⟨_, rfl, wpAny_pure h⟩) htake))
end
section
variable {X : Cx} {g : Gh}
def tRevA (K : PySem.W.Frag) (te : TE) : TE := fun σ H Q => te σ H fun x H1 => ∃ a xs, x = .ref a ∧ ((SqL K H1 a xs ∧ ∀ p, H1 p = none → Q (.ref p) (upd H1 p (.lst xs.reverse))) ∨ (SqT K H1 a xs ∧ ∀ p, H1 p = none → Q (.ref p) (upd H1 p (.tup xs.reverse))))
theorem pe_revA {e : Expr} {te : TE} {k : Nat} {p1 p2 p3 pos : Pos} (he : PE X e te) : PE X (.Subscript e (.Slice none none (some (.UnaryOp .USub (.Constant (.int 1) k p1) p2)) p3) pos) (tRevA X.K te) := by
  refine ⟨fun pins s σ H Q I h => ?_⟩
  refine Subscript_ (thn (he.run pins s σ H _ I h) fun v s1 ⟨x, H1, I1, r1, q1⟩ => ?_)
  obtain ⟨a, xs, ex, q⟩ := q1
  subst ex
  cases r1
  have hst : PO X (some (.UnaryOp .USub (.Constant (.int 1) k p1) p2)) (tPart (tUn (rU fun i => .int (-i)) (tC (.int 1)))) := po_some (pe_un un_neg pe_int)
  refine wpAny_Slice (thn (po_none.run pins s1 σ H1 (fun o H2 => o = none ∧ H2 = H1) I1 ⟨rfl, rfl⟩) fun vl s2 ⟨l, H2, I2, pl, el, e2⟩ => ?_)
  subst el e2
  refine thn (po_none.run pins s2 σ H2 (fun o H3 => o = none ∧ H3 = H2) I2 ⟨rfl, rfl⟩) fun vu s3 ⟨u, H3, I3, pu, eu, e3⟩ => ?_
  subst eu e3
  refine thn (hst.run pins s3 σ H3 (fun o H4 => o = some (-1) ∧ H4 = H3) I3 ⟨1, rfl, -1, rfl, rfl, rfl⟩) fun vs s4 ⟨o, H4, I4, ps, eo, e4⟩ => ?_
  subst eo e4
  have I5 : Inv X pins σ H4 { s4 with heap := s4.heap.push { cls := .type "slice", data := .fields #[vl, vu, vs] } } := I4.kept (t' := s4.toks) fun b ob q => Heap.get?_push_of_some _ q
  show wpAny (model X.prog X.w) X.A (subscriptTail e (.Slice none none (some (.UnaryOp .USub (.Constant (.int 1) k p1) p2)) p3) (.ref a) (.ref s4.heap.objs.size)) (EP X pins σ Q) X.xe { s4 with heap := s4.heap.push { cls := .type "slice", data := .fields #[vl, vu, vs] } }
  rcases q with ⟨hx, q⟩ | ⟨hx, q⟩
  · obtain ⟨its, r, ht, hz⟩ := I5.list hx
    have hlen := r.length
    refine tail_any (ops := [.ref a, .ref s4.heap.objs.size]) ht.isList.typeIs (PySem.slot_list_getitem.lookup) ?_ (by with_unfolding_all rfl)
    refine wpAny_getItem_list_slice ht.isList (Heap.IsSliceOf.new _ vl vu vs) pl pu ps (by decide) ?_ (by rw [List.size_toArray]; omega)
    rw [PySem.W.krv_pick]
    refine ⟨.ref _, _, I5.laid (t' := s4.toks) (o := .lst xs.reverse) (fun b ob q => Heap.get?_push_of_some _ q) (Nat.le_refl _) ?_, rfl, q _ (I5.hok.fresh (Nat.le_refl _))⟩
    exact ⟨by rw [List.length_reverse]; exact hz, _, 0, r.reverse, Heap.get?_push_size _ rfl⟩
  · obtain ⟨its, r, ht, hz⟩ := I5.tuple hx
    have hlen := r.length
    have el : vl = Value.none := by cases pl; rfl
    have eu : vu = Value.none := by cases pu; rfl
    subst el eu
    refine tail_any (ops := [.ref a, .ref s4.heap.objs.size]) ht.typeIs (PyProof.Rows.slot_tuple_getitem.lookup) ?_ (by with_unfolding_all rfl)
    refine getItem_tuple_rev ht (Heap.IsSliceOf.new _ .none .none vs) ps ?_ (by rw [List.size_toArray]; omega)
    refine ⟨.ref _, _, I5.laid (t' := s4.toks) (o := .tup xs.reverse) (fun b ob q => Heap.get?_push_of_some _ q) (Nat.le_refl _) ?_, rfl, q _ (I5.hok.fresh (Nat.le_refl _))⟩
    exact ⟨by rw [List.length_reverse]; exact hz, _, r.reverse, IsTup.new _ _⟩
theorem snd_rev {a : Expr} {k : Nat} {p1 p2 p3 pos : Pos} {pa : Env → Option (PV × Env)} (ha : PE X a (tP X.K g pa)) :
    PE X (.Subscript a (.Slice none none (some (.UnaryOp .USub (.Constant (.int 1) k p1) p2)) p3) pos) (tR X.K g fun env => (pa env).bind fun p => (getP p.1 p.2).bind fun x => (revD x).map fun z => (z, p.2)) :=
  PEw (pe_revA ha) fun σ H Q ⟨kp, F, env, rd, env', e1, R, q⟩ => by
    obtain ⟨⟨p, e2⟩, h2, e1⟩ := Option.bind_eq_some_iff.mp e1
    obtain ⟨x, hx, e1⟩ := Option.bind_eq_some_iff.mp e1
    obtain ⟨z, hz, e1⟩ := Option.map_eq_some_iff.mp e1
    cases e1
    refine ⟨kp, F, env, p, e2, h2, R, fun F1 v H1 s1 R1 po => ?_⟩
    have o := R1.getP po hx
    have fin : Fin X.K g kp F1 e2 σ rd Q := fun F2 u H2 s2 R2 po2 => q F2 u H2 (s1.trans s2) R2 po2
    cases x <;> first | (unfold revD at hz; cases hz; done) | skip
    · cases hz
      obtain ⟨a, vs, rfl, f1, h1, r⟩ := o
      exact ⟨a, vs, rfl, .inr ⟨sqT_of h1, fin.newT R1 r.reverse⟩⟩
    · cases hz
      obtain ⟨a, vs, rfl, h1, r⟩ := o
      exact ⟨a, vs, rfl, .inl ⟨sqL_of h1, fin.newL R1 r.reverse⟩⟩
end
end MI

namespace MI
open PySem PySem.Spec PyProof.Rows L2
section
variable {K : PySem.W.Frag} {g : Gh} {kp F : Hp} {env : Env} {σ : L2.St} {H : Hp}
/-- behind a call that may change one object, which no slot holds -/
theorem Rel.calledX (R : Rel K g kp F env σ H) {F' H' : Hp} (x : Option Addr) (hx : ∀ p, x = some p → ¬ Owns env σ p ∧ kp p = none) (sF : Same F F') (sH : Same F' H') (hn : ∀ a, F' a ≠ none → F a ≠ none ∨ H a = none)
    (hf : ∀ a o, H a = some o → x ≠ some a → H' a = some o) (hd : ∀ a, H a ≠ none → H' a ≠ none) : Rel K g kp F' env σ H' := by
  refine ⟨fun b o q => sF _ _ (R.f0 _ _ q), sH, fun a ha => ?_, fun a ha => hd a (R.dom a ha), fun a o q => ?_, R.kpo, fun a ka fa => ?_, R.len, fun j t e => ?_, R.bo, R.ds⟩
  · rcases hn a ha with z | z
    · exact R.fnew a z
    · refine .inr ?_
      cases q : g.H0 a with
      | none => rfl
      | some o => exact absurd z (R.dom a (by rw [q]; exact fun z => by cases z))
  · refine hf a o (R.kept a o q) fun e => ?_
    rw [(hx a e).2] at q
    cases q
  · rcases hn a fa with z | z
    · exact R.fk a ka z
    · cases q : kp a with
      | none => exact absurd q ka
      | some o => rw [R.kept a o q] at z; cases z
  · refine (R.sl j t e).step sF fun p us m es f h => ⟨?_, hf p _ h fun e' => (hx p e').1 ⟨j, t, e, m, es⟩⟩
    cases q : F' p with
    | none => rfl
    | some u =>
      rcases hn p (by rw [q]; exact fun z => by cases z) with z | z
      · exact absurd f z
      · rw [h] at z; cases z
/-- a new object that nobody tracks -/
theorem Rel.newX (R : Rel K g kp F env σ H) {p : Addr} {o : HO} (h : H p = none) : Rel K g kp F env σ (upd H p o) := by
  obtain ⟨h1, h2, h3, h4⟩ := R.fresh h
  refine ⟨R.f0, same_mut R.fh h1, R.fnew, fun a ha => ?_, fun a x q => ?_, R.kpo, R.fk, R.len, fun i s e => ?_, R.bo, R.ds⟩
  · by_cases hb : a = p
    · subst hb
      rw [upd_same]
      exact fun z => by cases z
    · rw [upd_ne hb]
      exact R.dom a ha
  · rw [upd_ne (ne_of_none q h3)]
    exact R.kept a x q
  · refine (R.sl i s e).step (Same.refl F) fun q vs m es hq hv => ?_
    have ne : q ≠ p := ne_of_none hv h
    exact ⟨hq, by rw [upd_ne ne]; exact hv⟩
theorem argOk_d : ∀ {ds : List D} {vs : List V}, RpL K F ds vs → ArgOk K F H (ds.map .d) vs
  | [], vs, h => h.nil_inv
  | d :: ds, vs, h => by
    obtain ⟨v, vs', rfl, h2, h3⟩ := h.cons_inv
    exact ⟨v, vs', rfl, h2, argOk_d h3⟩
theorem bors_d : ∀ (ds : List D) (vs : List V), borsOf (ds.map .d) vs = []
  | [], vs => by cases vs <;> rfl
  | d :: ds, [] => rfl
  | d :: ds, v :: vs => bors_d ds vs
theorem Rel.callD (R : Rel K g kp F env σ H) {C : CallS} {f : Str} {ds : List D} {vs : List V} {rd : RD} {Q : VK} {E : XK} (h : RpL K F ds vs) (hc : C f (ds.map .d) = some (rd, [])) (q : Fin K g kp F env σ rd Q) : spC K C f vs H Q E := by
  refine ⟨F, ds.map .d, rd, [], hc, R.fh, argOk_d h, by rw [bors_d]; exact List.nodup_nil, fun F' v H' sF sH hn hf hd _ hr => ?_⟩
  have R' := R.calledX none (fun p z => by cases z) sF sH hn (fun a o e _ => hf a o e (by rw [bors_d]; simp)) hd
  refine q F' v H' sF R' ?_
  cases rd with
  | old d => exact hr
  | new d =>
    obtain ⟨p, x, rfl, f1, h1, hp, c⟩ := hr
    obtain ⟨_, a2, a3, a4⟩ := R.fresh h1
    exact ⟨p, x, rfl, f1, a2, a3, hp, c, a4⟩
end
section
variable {X : Cx} {g : Gh} {e : Expr} {P : Prg} {k : Nat} {N : List Str} {sc : Scope} {fn : Str → Bool}
/-! ### stars in displays -/
theorem snd_starS {es : List Expr} {sp : Pos} {ev : Env → Option (D × Env)} {evs : Env → Option (List D × Env)} (h : PE X e (tD X.K g ev)) (hs : PA X es (tDs X.K g evs)) :
    PA X (.Starred e sp :: es) (tDs X.K g fun env => (ev env).bind fun x => (itemsT x.1).bind fun ds => (evs x.2).map fun y => (ds ++ y.1, y.2)) := PAw (StX.pa_star h hs rfl) fun σ H Q ⟨kp, F, env, a, env', e1, R, q⟩ => by
  obtain ⟨⟨d, e2⟩, h2, e1⟩ := Option.bind_eq_some_iff.mp e1
  obtain ⟨ds, hd, e1⟩ := Option.bind_eq_some_iff.mp e1
  obtain ⟨⟨ps, e4⟩, h4, e5⟩ := Option.map_eq_some_iff.mp e1
  cases e5
  refine ⟨kp, F, env, d, e2, h2, R, fun F1 x H1 s1 R1 po => ?_⟩
  have key : ∃ p xs, x = V.ref p ∧ (SqT X.K H1 p xs ∨ SqL X.K H1 p xs) ∧ RpL X.K F1 ds xs := by
    cases d <;> first | (unfold itemsT at hd; cases hd; done) | skip
    · cases hd
      unfold Rp at po
      obtain ⟨a, vs, rfl, f1, r⟩ := po
      exact ⟨a, vs, rfl, .inl (sqT_of (R1.fh _ _ f1)), r⟩
    · cases hd
      unfold Rp at po
      obtain ⟨a, vs, rfl, f1, r⟩ := po
      exact ⟨a, vs, rfl, .inr (sqL_of (R1.fh _ _ f1)), r⟩
  obtain ⟨p, xs, hx, hsq, r⟩ := key
  exact ⟨p, xs, hx, hsq, kp, F1, e2, ps, e4, h4, R1, fun F2 ys H2 s2 R2 pos => q F2 (xs ++ ys) H2 (s1.trans s2) R2 ((RpL.mono s2 _ _ r).append pos)⟩
/-! ### o.f -/
theorem base_of (h : baseX e = true) (f : Str) (env : PySem.Env) (x : Sem Value) : attributeBase e f env x = x := by
  cases e <;> first | rfl | skip
  rename_i fe as kw p
  cases as with
  | nil =>
    cases kw with
    | nil => cases h
    | cons a b => cases fe <;> rfl
  | cons a b => cases fe <;> rfl
theorem lookup_zip {K : PySem.W.Frag} {F : Hp} {f : Str} {z : D} : ∀ {ns : List Str} {ds : List D} {vs : List V}, RpL K F ds vs → (ns.zip ds).lookup f = some z → ∃ v, (ns.zip vs).lookup f = some v ∧ Rp K F z v
  | [], ds, vs, _, h => by simp at h
  | n :: ns, [], vs, _, h => by simp at h
  | n :: ns, d :: ds, vs, r, h => by
    obtain ⟨v, vs', rfl, h2, h3⟩ := r.cons_inv
    rw [List.zip_cons_cons, List.lookup_cons] at h
    rw [List.zip_cons_cons, List.lookup_cons]
    split at h
    · rename_i he
      cases h
      exact ⟨v, rfl, h2⟩
    · rename_i he
      exact lookup_zip h3 h
theorem snd_attr (G : Good P k X N sc fn) {c f : Str} {pos : Pos} {pa : Env → Option (PV × Env)} (hb : baseX e = true) (ha : PE X e (tP X.K g pa)) :
    PE X (.Attribute e f pos) (tR X.K g fun env => (pa env).bind fun p => (getP p.1 p.2).bind fun x => (P.cls c).bind fun ci => if insC x = some ci.at_ ∧ f ∈ ci.fl then (attrD x f).map fun z => (.old z, p.2) else none) :=
  PEw (pe_fld ha (base_of hb f _ _)) fun σ H Q ⟨kp, F, env, rd, env', e1, R, q⟩ => by
    obtain ⟨⟨p, e2⟩, h2, e1⟩ := Option.bind_eq_some_iff.mp e1
    obtain ⟨x, hx, e1⟩ := Option.bind_eq_some_iff.mp e1
    obtain ⟨ci, hci, e1⟩ := Option.bind_eq_some_iff.mp e1
    split at e1
    · rename_i hc
      obtain ⟨z, hz, e1⟩ := Option.map_eq_some_iff.mp e1
      cases e1
      refine ⟨kp, F, env, p, e2, h2, R, fun F1 v H1 s1 R1 po => ?_⟩
      have o := R1.getP po hx
      cases x <;> first | (unfold attrD at hz; cases hz; done) | skip
      obtain ⟨a, ho, rfl, h1, dx, vs, rfl, fd, hl, r⟩ := o
      have hC := Option.some.inj hc.1
      subst hC
      obtain ⟨w, hw, rp⟩ := lookup_zip r hz
      have ck := G.cls c ci hci
      exact ⟨a, ci.at_, dx, _, w, rfl, h1, ck.cl, ck.nf f hc.2, hw, q F1 w H1 s1 R1 rp⟩
    · cases e1
/-! ### isinstance(o, C) -/
theorem snd_isC (G : Good P k X N sc fn) {a : Expr} {c x y : Str} {p p2 pos : Pos} {pa : Env → Option (PV × Env)} (hx : x = "isinstance") (hg : glB sc x = true) (hy : y = c) (hgy : glB sc y = true) (hny : nmB y = true) (hp : plainX a = true) (ha : PE X a (tP X.K g pa)) :
    PE X (.Call (.Name x p) [a, .Name y p2] [] pos) (tR X.K g fun env => (pa env).bind fun p => (getP p.1 p.2).bind fun z => (P.cls c).bind fun ci => (isCD z ci.at_).map fun b => (.old (.bl b), p.2)) := by
  subst hx hy
  cases hci : P.cls y with
  | none =>
    refine ⟨fun pins s σ H Q I ⟨kp, F, env, rd, env', e1, R, q⟩ => ?_⟩
    obtain ⟨_, _, e1⟩ := Option.bind_eq_some_iff.mp e1
    obtain ⟨_, _, e1⟩ := Option.bind_eq_some_iff.mp e1
    cases e1
  | some ci =>
    have ck := G.cls y ci hci
    have py : PE X (.Name y p2) (tC (.ref ci.at_)) := pe_glob (G.gl hgy) ck.mg rfl (nmB_ok hny).1
    refine PEw (pe_callB call_isi (G.gl hg) (G.bi _ (by decide +kernel)) (by decide +kernel) (pa_cons ha (pa_cons py pa_nil) (star_of hp _ _)) (by decide) (by decide) (star_of hp _ _) rfl) fun σ H Q ⟨kp, F, env, rd, env', e1, R, q⟩ => ?_
    obtain ⟨⟨p, e2⟩, h2, e1⟩ := Option.bind_eq_some_iff.mp e1
    obtain ⟨d, hd, e1⟩ := Option.bind_eq_some_iff.mp e1
    have e1 : ((isCD d ci.at_).map fun b => (RD.old (.bl b), e2)) = some (rd, env') := e1
    obtain ⟨b, hb, e1⟩ := Option.map_eq_some_iff.mp e1
    cases e1
    refine ⟨kp, F, env, p, _, h2, R, fun F1 v H1 s1 R1 po => ?_⟩
    have o := R1.getP po hd
    have key : ∃ t, TyX X.K H1 v t ∧ PySem.W.kitOne X.K t (.ref ci.at_) = some b := by
      cases d with
      | scr ns => cases hb
      | dk _ _ => cases hb
      | dt _ _ => cases hb
      | ins C ns ds =>
        have hb2 : (if C = ci.at_ then some true else none) = some b := hb
        by_cases hC : C = ci.at_
        · rw [if_pos hC] at hb2
          have eb := Option.some.inj hb2
          subst eb
          subst hC
          obtain ⟨a, ho, rfl, h1, dx, vs, rfl, _⟩ := o
          exact ⟨_, .base (.ins h1 ck.isC.cl ck.isC.ha ck.isC.hn ck.isC.htk ck.isC.hm), ck.isC.me⟩
        · rw [if_neg hC] at hb2
          cases hb2
      | non => rw [ov_non o]; cases hb; exact ⟨_, .base .non, ck.io _ (by simp)⟩
      | bl x => rw [ov_bl o]; cases hb; exact ⟨_, .base (.bl x), ck.io _ (by simp)⟩
      | int x => rw [ov_int o]; cases hb; exact ⟨_, .base (.int x), ck.io _ (by simp)⟩
      | str x => rw [ov_str o]; cases hb; exact ⟨_, .base (.str x), ck.io _ (by simp)⟩
      | tup ds => obtain ⟨a, vs, rfl, _, h2, _⟩ := o; cases hb; exact ⟨_, .base (.tup h2), ck.io _ (by simp)⟩
      | lst ds => obtain ⟨a, vs, rfl, h2, _⟩ := o; cases hb; exact ⟨_, .base (.lst h2), ck.io _ (by simp)⟩
    obtain ⟨t, ht, hk⟩ := key
    exact ⟨v, .ref ci.at_, t, .ref ci.at_, b, rfl, .own _, ht, hk, q F1 _ H1 s1 R1 (post_old rp_bl)⟩
/-! ### calls by positional promises -/
theorem run_fnRG {pins : List (Addr × Obj)} {σ : L2.St} {H : Hp} {s : Shared} {Q : VK} {us : List Value} {vs : List V} {n : Nat} {f : Addr} {sp : Sp} (F : FnRG X.prog X.w X.K X.mg X.base n f sp) (hr : Room n X.A) (hg : X.A.guards = some [])
    (I : Inv X pins σ H s) (r : Vals vs us) (h : sp vs H Q E0) : codeAny (model X.prog X.w) X.A (.call (.ref f) ⟨us, []⟩) (fun r s' => match r with | .ok (.ret u) => EP X pins σ Q u s' | _ => False) s := by
  refine codeAny_mono (F X.A X.stack s H us vs Q E0 hr hg I.env0 r h) fun r s' hq => ?_
  cases r with
  | error e => exact False.elim hq
  | ok fl =>
    cases fl with
    | ret u => exact I.after hq
    | next => exact False.elim hq
    | brk => exact False.elim hq
    | cont => exact False.elim hq
theorem under_guards {A : Around} {C : Addr} {us : List Value} {kw : List (Str × Value)} (h : A.guards = some []) : (A.under (.builtin "type.__call__" ⟨.ref C :: us, kw⟩)).guards = some [] := by
  simp [Around.under, Code.guards, Code.isGuard, guardIds, pushGuards, h]
theorem run_makeG {pins : List (Addr × Obj)} {σ : L2.St} {H : Hp} {s : Shared} {Q : VK} {us : List Value} {vs : List V} {n : Nat} {f C : Addr} {sp : Sp} (M : Mk X.K C f) (F : FnRG X.prog X.w X.K X.mg X.base n f sp) (hr : Room (n + 1) X.A) (hg : X.A.guards = some []) (I : Inv X pins σ H s) (r : Vals vs us)
    (h : ∀ x dx, H x = Option.none → H dx = Option.none → dx ≠ x → sp (V.ref x :: vs) (upd (upd H dx (.own x)) x (.ins C dx [])) (fun v H2 => v = .non ∧ Q (.ref x) H2) E0) :
    wpAny (model X.prog X.w) X.A (call (.ref C) us) (EP X pins σ Q) X.xe s := by
  have hq := h (s.heap.objs.size + 1) s.heap.objs.size (I.hok.fresh (Nat.le_succ _)) (I.hok.fresh (Nat.le_refl _)) (Nat.ne_of_lt (Nat.lt_succ_self _))
  have I2 := Inv.made (C := C) I
  have r2 : Vals (V.ref (s.heap.objs.size + 1) :: vs) (Value.ref (s.heap.objs.size + 1) :: us) := .cons rfl r
  refine wpAny_call (make_map (f := f) I.kIn M.makes M.init (beq_iff_eq.mp M.fn) (codeAny_mono (F _ X.stack _ _ (Value.ref (s.heap.objs.size + 1) :: us) _ _ E0 (hr.make C us []) (under_guards hg) (I2.env0.make C us []) r2 hq) fun r s' hq' => ?_))
  cases r with
  | error e => exact False.elim hq'
  | ok fl =>
    cases fl with
    | ret u =>
      obtain ⟨v, H', I3, rv, ev, q3⟩ := I2.after hq'
      subst ev
      exact ⟨rv, ⟨V.ref (s.heap.objs.size + 1), H', I3, rfl, q3⟩⟩
    | next => exact False.elim hq'
    | brk => exact False.elim hq'
    | cont => exact False.elim hq'
theorem pe_makeG {n : Nat} {f C : Addr} {sp : Sp} {x : Str} {p pos : Pos} {es : List Expr} {t : TA} (M : Mk X.K C f) (F : FnRG X.prog X.w X.K X.mg X.base n f sp) (hr : Room (n + 1) X.A) (hgd : X.A.guards = some []) (hg : Gl X x) (hm : X.mg x = some (.ref C)) (ha : PA X (e :: es) t) (hdb : (x == ("__debug__" : Str)) = false)
    (he : starEach (e :: es) X.env = (false, eval e X.env) :: starEach es X.env) (hpl : (backTo pos (starEach es X.env)).any (·.1) = false) : PE X (.Call (.Name x p) (e :: es) [] pos) (StX.tMakeR C sp E0 t) := by
  refine ⟨fun pins s σ H Q I h => ?_⟩
  refine wpAny_Call_Name_kw (ld_glob I hg hm ?_ hdb)
  refine PySem.W.callWith_K (h₀ := X.base) I.ok.mod.kin M.kp (thn (ha.run pos pins s σ H _ I h) fun us s1 ⟨vs, H1, I1, r, q⟩ => ⟨I1.kIn, ?_⟩) he hpl
  exact run_makeG M F hr hgd I1 r q
theorem snd_make (G : Good P k X N sc fn) {c x : Str} {p pos : Pos} {es : List Expr} {evs : Env → Option (List D × Env)} (hx : c = x) (hgx : glB sc x = true) (hn : nmB x = true) (hp : plainX e = true) (hpl : (backTo pos (starEach es X.env)).any (·.1) = false) (ha : PA X (e :: es) (tDs X.K g evs)) :
    PE X (.Call (.Name x p) (e :: es) [] pos) (tR X.K g fun env => (evs env).bind fun x => if szOk x.1.length then (P.cls c).bind fun ci => (P.calls k ci.ini [.b (.ins ci.at_ [] []), .d (.tup x.1)]).bind fun y => (match y with
      | (.old .non, [d]) => some (.new d, x.2)
      | _ => none) else none) := by
  subst hx
  cases hci : P.cls c with
  | none =>
    refine ⟨fun pins s σ H Q I ⟨kp, F, env, rd, env', e1, R, q⟩ => ?_⟩
    obtain ⟨_, _, e1⟩ := Option.bind_eq_some_iff.mp e1
    split at e1 <;> cases e1
  | some ci =>
    have ck := G.cls c ci hci
    obtain ⟨f, M, FG⟩ := ck.mak
    refine PEw (pe_makeG M FG G.room G.gd (G.gl hgx) ck.mg ha (nmB_ok hn).1 (star_of hp _ _) hpl) fun σ H Q ⟨kp, F, env, rd, env', e1, R, q⟩ => ?_
    obtain ⟨⟨ds, e2⟩, h2, e1⟩ := Option.bind_eq_some_iff.mp e1
    split at e1
    · rename_i hz
      have e1 : ((P.calls k ci.ini [.b (.ins ci.at_ [] []), .d (.tup ds)]).bind fun y => (match y with
      | (.old .non, [d]) => some (.new d, e2)
      | _ => none)) = some (rd, env') := e1
      obtain ⟨⟨r, os⟩, hc, e1⟩ := Option.bind_eq_some_iff.mp e1
      split at e1
      · rename_i d heq
        cases e1
        cases heq
        refine ⟨kp, F, env, ds, _, h2, R, fun F1 vs H1 s1 R1 po y dx hy hdx hne => ⟨.ref y, vs, rfl, by rw [← po.len]; exact szOk_le hz, fun p hp => ?_⟩⟩
        obtain ⟨fy, y2, y3, y4⟩ := R1.fresh hy
        have fdx := (R1.fresh hdx).1
        have Ra := R1.newF (o := .own y) hdx
        have hy1 : upd H1 dx (.own y) y = none := by rw [upd_ne (Ne.symm hne)]; exact hy
        have Rb := Ra.newX (o := .ins ci.at_ dx []) hy1
        have Rc := Rb.newF (o := .tup vs) hp
        have npy : p ≠ y := fun z => by rw [z, upd_same] at hp; cases hp
        have npd : p ≠ dx := fun z => by rw [z, upd_ne hne, upd_same] at hp; cases hp
        have fp : upd F1 dx (.own y) p = none := (Rb.fresh hp).1
        have sF2 : Same F1 (upd (upd F1 dx (.own y)) p (.tup vs)) := (MI.same_upd fdx).trans (MI.same_upd fp)
        have Fdx : upd (upd F1 dx (.own y)) p (.tup vs) dx = some (.own y) := by rw [upd_ne (Ne.symm npd), upd_same]
        have Fy : upd (upd F1 dx (.own y)) p (.tup vs) y = none := by rw [upd_ne (Ne.symm npy), upd_ne (Ne.symm hne)]; exact fy
        refine ⟨_, _, _, _, hc, Rc.fh, ⟨y, .ins ci.at_ dx [], [.ref p], rfl, Fy, by rw [upd_ne (Ne.symm npy), upd_same], ⟨dx, [], rfl, Fdx, rfl, .nil⟩, .ref p, [], rfl, rp_tup upd_same (RpL.mono sF2 _ _ po), rfl⟩, by simp [borsOf], fun F' v H' sF sH hn' hf hd ho hr => ?_⟩
        obtain ⟨o, os', x, eo, f1, hx, cx, _⟩ := ho
        cases eo
        have hr : Rp X.K F' .non v := hr
        unfold Rp at hr
        have R' := Rc.calledX (some y) (fun p' z => by cases z; exact ⟨y4, y3⟩) sF sH hn' (fun a o e ne => hf a o e (by simp [borsOf]; exact fun z => ne (by rw [z]))) hd
        exact ⟨hr, q F' (.ref y) H' ((s1.trans sF2).trans sF) R' ⟨y, x, rfl, f1, y2, y3, hx, cx, y4⟩⟩
      · cases e1
    · cases e1
/-! ### o(..), o.p -/
theorem snd_callO (G : Good P k X N sc fn) {c : Str} {fe : Expr} {pos : Pos} {es : List Expr} {ev : Env → Option (D × Env)} {evs : Env → Option (List D × Env)} (hp : plainX e = true) (hpl : (backTo pos (starEach es X.env)).any (·.1) = false)
    (ht : eval (.Call fe (e :: es) [] pos) X.env = (do callWith pos (← eval fe X.env) [] (backTo pos (starEach (e :: es) X.env)) (backToKw pos (keywordEach [] X.env)))) (hf : PE X fe (tD X.K g ev)) (ha : PA X (e :: es) (tDs X.K g evs)) :
    PE X (.Call fe (e :: es) [] pos) (tR X.K g fun env => (ev env).bind fun p => (evs p.2).bind fun x => (P.cls c).bind fun ci => ci.call.bind fun f => if insC p.1 = some ci.at_ then (P.calls k f (.d p.1 :: x.1.map .d)).bind fun y => if y.2.isEmpty then some (y.1, x.2) else none else none) := by
  refine ⟨fun pins s σ H Q I ⟨kp, F, env, rd, env', e1, R, q⟩ => ?_⟩
  obtain ⟨⟨d, e2⟩, h2, e1⟩ := Option.bind_eq_some_iff.mp e1
  obtain ⟨⟨ds, e3⟩, h3, e1⟩ := Option.bind_eq_some_iff.mp e1
  obtain ⟨ci, hci, e1⟩ := Option.bind_eq_some_iff.mp e1
  obtain ⟨m, hm, e1⟩ := Option.bind_eq_some_iff.mp e1
  split at e1
  · rename_i hC
    obtain ⟨⟨r, os⟩, hc, e1⟩ := Option.bind_eq_some_iff.mp e1
    split at e1
    · rename_i ho
      cases e1
      have ho : os = [] := List.isEmpty_iff.mp ho
      subst ho
      have ck := G.cls c ci hci
      obtain ⟨gf, co, FG⟩ := ck.call m hm
      refine Call_ (thn (hf.run pins s σ H _ I ⟨kp, F, env, d, e2, h2, R, fun F1 y H1 s1 R1 po => (⟨F1, s1, R1, po⟩ : ∃ F1, Same F F1 ∧ Rel X.K g kp F1 e2 σ H1 ∧ Rp X.K F1 d y)⟩) fun u s1 ⟨y, H1, I1, ry, F1, sF1, R1, po⟩ => ?_) ht
      cases d <;> first | (cases hC; done) | skip
      have hC := Option.some.inj hC
      subst hC
      have po' := po
      unfold Rp at po
      obtain ⟨a, dx, us0, rfl, fa, _⟩ := po
      obtain rfl : u = Value.ref a := ry
      refine StX.callO_with (thn (ha.run pos pins s1 σ H1 _ I1 ⟨kp, F1, e2, ds, e3, h3, R1, fun F2 ys H2 s2 R2 pos2 => (⟨F2, s2, R2, pos2⟩ : ∃ F2, Same F1 F2 ∧ Rel X.K g kp F2 e3 σ H2 ∧ RpL X.K F2 ds ys)⟩) fun us s2 ⟨vs, H2, I2, rv, F2, sF2, R2, pos2⟩ => ?_) (star_of hp _ _) hpl
      have hi : StX.InsC X H2 a ci.at_ := .inr ⟨dx, _, R2.fh _ _ (sF2 _ _ fa)⟩
      obtain ⟨ox, od, J, hd⟩ := StX.insC_at I2 hi
      refine ⟨⟨ci.at_, ox, od, J, hd⟩, ?_⟩
      have sp := R2.callD (E := E0) (Q := Q) (f := m) (C := P.calls k) (.cons (Rp.mono sF2 _ _ po') pos2) hc fun F3 v H3 s3 R3 p3 => q F3 v H3 ((sF1.trans sF2).trans s3) R3 p3
      refine wpAny_call (PySem.W.kco_code I2.kIn J hd co.at_ co.fn co.fi (codeAny_mono (run_fnRG (us := .ref a :: us) (vs := .ref a :: vs) FG G.roomC G.gd I2 (.cons rfl rv) sp) fun r s' hq => ?_))
      cases r with
      | error e => exact False.elim hq
      | ok fl =>
        cases fl with
        | ret u => exact hq
        | next => exact False.elim hq
        | brk => exact False.elim hq
        | cont => exact False.elim hq
    · cases e1
  · cases e1
theorem getprop_G {pins : List (Addr × Obj)} {σ : L2.St} {H : Hp} {s : Shared} {Q : VK} {b : Bool} {E' : Value → Shared → Prop} {a dx C p gf : Addr} {fs : List (Str × V)} {f : Str} {n : Nat} {sp : Sp} (I : Inv X pins σ H s) (ea : H a = some (.ins C dx fs)) (c : Cls X.K C) (hp : PropOf X.K C f p gf)
    (F : FnRG X.prog X.w X.K X.mg X.base n gf sp) (hr : Room (n + 1) X.A) (hg : X.A.guards = some []) (h : sp [.ref a] H Q E0) :
    wpAny (model X.prog X.w) X.A (getAttr (.ref a) f b) (EP X pins σ Q) E' s := by
  obtain ⟨mA, O, _, _, _, _⟩ := ins_get I.hok ea
  obtain ⟨od, J, _⟩ := O.look
  obtain ⟨rest, hrec⟩ := hp.rec_
  have I1 := I.tok (s.toks + 1)
  have hc : (PySem.W.clsIn X.K C).isSome = true := by
    obtain ⟨cd, hc, _⟩ := PySem.W.any_some c.hd
    rw [hc]
    rfl
  refine PySem.W.get_bind I.kIn J (PySem.W.plainGet_of (c.get f)).1 (PySem.W.findObj_data hc hp.at_ hp.get hp.tak) (PySem.W.plainGet_of (c.get f)).2 (wpAny_call (PySem.W.prop_get (s := { s with toks := s.toks + 1 }) I.kIn hrec ?_))
  refine codeAny_mono (F X.A.in1 X.stack { s with toks := s.toks + 1 } H [.ref a] [.ref a] Q E0 hr.in1 hg I1.env0.in1 (.cons rfl .nil) h) fun r s' hq => ?_
  cases r with
  | error er => exact False.elim hq
  | ok fl =>
    cases fl with
    | ret u =>
      obtain ⟨v, H', I3, rv, q3⟩ := I1.after hq
      show wpAny _ _ (handedOut u) _ _ _
      rw [PySem.W.handedOut_of (handed_of rv)]
      exact wpAny_pure ⟨v, H', I3, rv, q3⟩
    | next => exact False.elim hq
    | brk => exact False.elim hq
    | cont => exact False.elim hq
theorem snd_prop (G : Good P k X N sc fn) {c nm : Str} {pos : Pos} {ev : Env → Option (D × Env)} (hb : baseX e = true) (hf : PE X e (tD X.K g ev)) :
    PE X (.Attribute e nm pos) (tR X.K g fun env => (ev env).bind fun p => (P.cls c).bind fun ci => (ci.props.lookup nm).bind fun f => if insC p.1 = some ci.at_ then (P.calls k f [.d p.1]).bind fun y => if y.2.isEmpty then some (y.1, p.2) else none else none) := by
  refine ⟨fun pins s σ H Q I ⟨kp, F, env, rd, env', e1, R, q⟩ => ?_⟩
  obtain ⟨⟨d, e2⟩, h2, e1⟩ := Option.bind_eq_some_iff.mp e1
  obtain ⟨ci, hci, e1⟩ := Option.bind_eq_some_iff.mp e1
  obtain ⟨m, hm, e1⟩ := Option.bind_eq_some_iff.mp e1
  split at e1
  · rename_i hC
    obtain ⟨⟨r, os⟩, hc, e1⟩ := Option.bind_eq_some_iff.mp e1
    split at e1
    · rename_i ho
      cases e1
      have ho : os = [] := List.isEmpty_iff.mp ho
      subst ho
      have ck := G.cls c ci hci
      obtain ⟨pp, gf, pr, FG⟩ := ck.props nm m hm
      refine attr_of (base_of hb nm _ _) (thn (hf.run pins s σ H _ I ⟨kp, F, env, d, e2, h2, R, fun F1 y H1 s1 R1 po => (⟨F1, s1, R1, po⟩ : ∃ F1, Same F F1 ∧ Rel X.K g kp F1 e2 σ H1 ∧ Rp X.K F1 d y)⟩) fun u s1 ⟨y, H1, I1, ry, F1, sF1, R1, po⟩ => ?_)
      cases d <;> first | (cases hC; done) | skip
      have hC := Option.some.inj hC
      subst hC
      have po' := po
      unfold Rp at po
      obtain ⟨a, dx, us0, rfl, fa, _⟩ := po
      obtain rfl : u = Value.ref a := ry
      exact getprop_G I1 (R1.fh _ _ fa) ck.cl pr FG G.room G.gd (R1.callD (f := m) (C := P.calls k) (.one po') hc fun F3 v H3 s3 R3 p3 => q F3 v H3 (sF1.trans s3) R3 p3)
    · cases e1
  · cases e1
end
end MI

namespace MI
open PySem PySem.Spec PyProof.Rows L2
section
variable {X : Cx} {g : Gh} {e : Expr} {P : Prg} {k : Nat} {N : List Str} {sc : Scope} {fn : Str → Bool}
/-! ### methods of lists and texts, one argument -/
theorem Ov.tyL {K : PySem.W.Frag} {F H : Hp} {xs : List D} {v : V} (o : Ov K F H (.lst xs) v) : tyV K "list" v H := by
  obtain ⟨a, vs, rfl, h1, _⟩ := o
  exact .inl ⟨rfl, vs, sqL_of h1⟩
theorem strs_rp {K : PySem.W.Frag} {F : Hp} : ∀ {ds : List D} {vs : List V} {ss : List Str}, RpL K F ds vs → strsOf ds = some ss → vs = ss.map V.str
  | [], vs, ns, h, e => by
    simp [strsOf] at e
    subst e
    rw [h.nil_inv]
    rfl
  | d :: ds, vs, ns, h, e => by
    obtain ⟨w, vs', rfl, h2, h3⟩ := h.cons_inv
    cases d <;> simp [strsOf] at e
    obtain ⟨ms, e1, e2⟩ := e
    subst e2
    unfold Rp at h2
    rw [h2, strs_rp h3 e1]
    rfl
theorem rpL_strs {K : PySem.W.Frag} {F : Hp} : ∀ ss : List Str, RpL K F (ss.map .str) (ss.map V.str)
  | [] => .nil
  | s :: ss => .cons rp_str (rpL_strs ss)
theorem snd_mt1 {m : Mt} {a : Expr} {nm : Str} {apos cpos : Pos} {pa : Env → Option (PV × Env)} {evs : Env → Option (List PV × Env)} (hnm : nm = m.nm) (hb : baseX a = true) (hl : (apos.endLine == cpos.line) = true) (hp : plainX e = true) (ha : PE X a (tP X.K g pa)) (hs : PA X [e] (tPs X.K g evs)) :
    PE X (.Call (.Attribute a nm apos) [e] [] cpos) (tR X.K g fun env => (pa env).bind fun p => (getP p.1 p.2).bind fun d0 => if mtK m d0 then (evs p.2).bind fun x => (getP p.1 x.2).bind fun d => (evG x.1 x.2).bind fun ds => (mtD m d ds).map fun z => (z, x.2) else none) := by
  subst hnm
  have st := star_of hp [] X.env
  have few : ((backTo cpos (starEach [e] X.env)).all (fun x => !x.1) && (backToKw cpos (keywordEach [] X.env)).all (fun x => x.1.isSome)
      && decide (([e] : List Expr).length + ([] : List Keyword).length + (if ([] : List Keyword).isEmpty then 0 else 1) < 30)) = true := by rw [st]; rfl
  have go : ∀ {T : String} {r : V → List V → Hp → VK → Prop}, (∀ d0 F H v, mtK m d0 = true → Ov X.K F H d0 v → tyV X.K T v H) →
      (∀ kp F env σ H d ds rd v vs Q, Rel X.K g kp F env σ H → Ov X.K F H d v → OvL X.K F H ds vs → mtD m d ds = some rd → Fin X.K g kp F env σ rd Q → r v vs H Q) →
      ∀ σ H Q, tR X.K g (fun env => (pa env).bind fun p => (getP p.1 p.2).bind fun d0 => if mtK m d0 then (evs p.2).bind fun x => (getP p.1 x.2).bind fun d => (evG x.1 x.2).bind fun ds => (mtD m d ds).map fun z => (z, x.2) else none) σ H Q → tBM X.K T r (tP X.K g pa) (tPs X.K g evs) σ H Q :=
    fun {T r} hT hr σ H Q ⟨kp, F, env, rd, env', e1, R, q⟩ => by
      obtain ⟨⟨p, e2⟩, h2, e1⟩ := Option.bind_eq_some_iff.mp e1
      obtain ⟨d0, hd0, e1⟩ := Option.bind_eq_some_iff.mp e1
      split at e1
      · rename_i hk
        obtain ⟨⟨ps, e3⟩, h3, e1⟩ := Option.bind_eq_some_iff.mp e1
        obtain ⟨d, hd, e1⟩ := Option.bind_eq_some_iff.mp e1
        obtain ⟨ds, hds, e1⟩ := Option.bind_eq_some_iff.mp e1
        obtain ⟨z, hz, e1⟩ := Option.map_eq_some_iff.mp e1
        cases e1
        refine ⟨kp, F, env, p, e2, h2, R, fun F1 v H1 s1 R1 po => ⟨hT d0 F1 H1 v hk (R1.getP po hd0), kp, F1, e2, ps, e3, h3, R1, fun F2 vs H2 s2 R2 pos => ?_⟩⟩
        exact hr kp F2 e3 σ H2 d ds rd v vs Q R2 (R2.getP (po.mono s2) hd) (evG_ov R2 pos hds) hz fun F3 u H3 s3 R3 po3 => q F3 u H3 ((s1.trans s2).trans s3) R3 po3
      · cases e1
  cases m with
  | count =>
    refine PEw (pe_bm PySem.F.plainAttrs_list PySem.F.slot_list_count PySem.F.type_list_count mt_lcount ha hs (base_of hb _ _ _) few hl st rfl) (go (fun d0 F H v hk o => ?_) fun kp F env σ H d ds rd v vs Q R o ol hz q => ?_)
    · cases d0 <;> first | (cases hk; done) | exact o.tyL
    · unfold mtD at hz
      split at hz <;> first | (cases hz; done) | skip
      · rename_i xs kk hmm
        obtain ⟨ns, hn, hz⟩ := Option.map_eq_some_iff.mp hz
        cases hz
        obtain ⟨w, rfl, o1⟩ := ol.one
        obtain ⟨a, us, rfl, h1, r1⟩ := o
        have ev := RpL.int_inv r1 hn
        subst ev
        rw [ov_int o1]
        exact ⟨a, ns, _, rfl, rfl, sqL_of h1, q.old R rp_int⟩
      all_goals (rename_i hmm; cases hmm)
  | join =>
    refine PEw (pe_bm PySem.F.plainAttrs_str PySem.F.slot_str_join PySem.F.type_str_join mt_join ha hs (base_of hb _ _ _) few hl st rfl) (go (fun d0 F H v hk o => ?_) fun kp F env σ H d ds rd v vs Q R o ol hz q => ?_)
    · cases d0 <;> first | (cases hk; done) | (rw [ov_str o]; rfl)
    · unfold mtD at hz
      split at hz <;> first | (cases hz; done) | skip
      · rename_i hmm; cases hmm
      · rename_i a0 xs hmm
        obtain ⟨ss, hn, hz⟩ := Option.bind_eq_some_iff.mp hz
        split at hz
        · rename_i hc
          cases hz
          rw [lk_eq] at hc
          obtain ⟨w, rfl, o1⟩ := ol.one
          obtain ⟨a, us, rfl, h1, r1⟩ := o1
          have ev := strs_rp r1 hn
          subst ev
          rw [ov_str o]
          exact ⟨_, a, ss, rfl, rfl, .inl (sqL_of h1), of_decide_eq_true hc, q.old R rp_str⟩
        · cases hz
      · rename_i hmm; cases hmm
  | split =>
    refine PEw (pe_bm PySem.F.plainAttrs_str PySem.F.slot_str_split PySem.F.type_str_split mt_split ha hs (base_of hb _ _ _) few hl st rfl) (go (fun d0 F H v hk o => ?_) fun kp F env σ H d ds rd v vs Q R o ol hz q => ?_)
    · cases d0 <;> first | (cases hk; done) | (rw [ov_str o]; rfl)
    · unfold mtD at hz
      split at hz <;> first | (cases hz; done) | skip
      · rename_i hmm; cases hmm
      · rename_i hmm; cases hmm
      · rename_i a0 b0 hmm
        split at hz
        · rename_i hc
          cases hz
          rw [lk_eq] at hc
          simp only [Bool.and_eq_true, Bool.not_eq_true', decide_eq_true_eq] at hc
          obtain ⟨w, rfl, o1⟩ := ol.one
          rw [ov_str o, ov_str o1]
          exact ⟨_, _, rfl, rfl, hc.1, hc.2, q.newL R (rpL_strs _)⟩
        · cases hz
/-! ### d.get(k, x) -/
theorem snd_get (G : Good P k X N sc fn) {a f : Expr} {nm : Str} {apos cpos : Pos} {pa : Env → Option (PV × Env)} {pe pf : Env → Option (D × Env)} (hnm : nm = "get") (hb : baseX a = true) (hl : (apos.endLine == cpos.line) = true) (hp : plainX e = true) (hp' : plainX f = true) (ha : PE X a (tP X.K g pa)) (he : PE X e (tD X.K g pe)) (hf : PE X f (tD X.K g pf)) :
    PE X (.Call (.Attribute a nm apos) [e, f] [] cpos) (tR X.K g fun env => (pa env).bind fun p => (getP p.1 p.2).bind fun d0 => if isDic d0 then (pe p.2).bind fun kk => (pf kk.2).bind fun y => (getP p.1 y.2).bind fun d => (lookD d kk.1).map fun o => (.old (o.getD y.1), y.2) else none) := by
  subst hnm
  have st2 := star_of hp' [] X.env
  have st : starEach [e, f] X.env = [(false, eval e X.env), (false, eval f X.env)] := by rw [star_of hp, st2]; rfl
  refine PEw (pe_dget2 (by have := G.un; omega) ha he hf ⟨base_of hb _ _ _, by rw [st]; rfl, hl, by rw [st]; rfl⟩) fun σ H Q ⟨kp, F, env, rd, env', e1, R, q⟩ => ?_
  obtain ⟨⟨p, e2⟩, h2, e1⟩ := Option.bind_eq_some_iff.mp e1
  obtain ⟨d0, hd0, e1⟩ := Option.bind_eq_some_iff.mp e1
  split at e1
  · rename_i hk
    obtain ⟨⟨kk, e3⟩, h3, e1⟩ := Option.bind_eq_some_iff.mp e1
    obtain ⟨⟨dd, e4⟩, h4, e1⟩ := Option.bind_eq_some_iff.mp e1
    obtain ⟨d, hd, e1⟩ := Option.bind_eq_some_iff.mp e1
    obtain ⟨r, hr, e1⟩ := Option.map_eq_some_iff.mp e1
    cases e1
    refine ⟨kp, F, env, p, e2, h2, R, fun F1 v H1 s1 R1 po => ?_⟩
    have o0 := R1.getP po hd0
    obtain ⟨a, rfl, hD⟩ : ∃ a, v = .ref a ∧ IsD H1 a := by
      cases d0 <;> first | (cases hk; done) | skip
      · obtain ⟨a, ho, rfl, h1, vs, rfl, _⟩ := o0
        exact ⟨a, rfl, .inl ⟨_, .inl h1⟩⟩
      · obtain ⟨a, ho, rfl, h1, vs, rfl, _⟩ := o0
        exact ⟨a, rfl, .inr ⟨_, .inl h1⟩⟩
    refine ⟨a, rfl, hD, kp, F1, e2, kk, e3, h3, R1, fun F2 w H2 s2 R2 po2 => ⟨kp, F2, e3, dd, e4, h4, R2, fun F3 u H3 s3 R3 po3 => ?_⟩⟩
    have o1 := R3.getP ((po.mono s2).mono s3) hd
    have o2 := Rp.ov R3.fh (Rp.mono s3 _ _ po2)
    obtain ⟨b, r', eb, gg, c⟩ := dget_any o1 o2 hr
    cases eb
    refine ⟨r', gg, ?_⟩
    rcases c with ⟨rfl, rfl⟩ | ⟨z, w', rfl, rfl, rp⟩
    · exact q F3 u H3 ((s1.trans s2).trans s3) R3 po3
    · exact q F3 w' H3 ((s1.trans s2).trans s3) R3 rp
  · cases e1
/-! ### f(k = v, ..) -/
theorem PKw {kws : List Keyword} {t t' : TA} (h : PK X kws t) (f : ∀ σ H Q, t' σ H Q → t σ H Q) : PK X kws t' := ⟨fun pos pins s σ H Q I q => h.run pos pins s σ H Q I (f σ H Q q)⟩
theorem snd_kNil : PK X [] (tDs X.K g fun env => some ([], env)) := PKw pk_nil fun σ H Q ⟨kp, F, env, a, env', e1, R, q⟩ => by
  cases e1
  exact q F [] H (Same.refl F) R .nil
theorem snd_kCons {kws : List Keyword} {nm : Option Str} {kpos : Pos} {ev : Env → Option (D × Env)} {evs : Env → Option (List D × Env)} (h : PE X e (tD X.K g ev)) (hs : PK X kws (tDs X.K g evs)) :
    PK X (⟨nm, e, kpos⟩ :: kws) (tDs X.K g fun env => (ev env).bind fun x => (evs x.2).map fun y => (x.1 :: y.1, y.2)) := PKw (pk_cons h hs) fun σ H Q ⟨kp, F, env, a, env', e1, R, q⟩ => by
  obtain ⟨⟨p, e2⟩, h2, e3⟩ := Option.bind_eq_some_iff.mp e1
  obtain ⟨⟨ps, e4⟩, h4, e5⟩ := Option.map_eq_some_iff.mp e3
  cases e5
  exact ⟨kp, F, env, p, e2, h2, R, fun F1 x H1 s1 R1 po => ⟨kp, F1, e2, ps, e4, h4, R1, fun F2 xs H2 s2 R2 pos => q F2 (x :: xs) H2 (s1.trans s2) R2 (.cons (Rp.mono s2 _ _ po) pos)⟩⟩
theorem pick_rp {K : PySem.W.Frag} {F : Hp} {ks : List Str} {ds : List D} {vs : List V} (r : RpL K F ds vs) : ∀ {ps : List Str} {es : List D}, pickK ks ds ps = some es → ∃ ws, pickK ks vs ps = some ws ∧ RpL K F es ws
  | [], es, h => by cases h; exact ⟨[], rfl, .nil⟩
  | p :: ps, es, h => by
    unfold pickK at h
    obtain ⟨d, hd, h⟩ := Option.bind_eq_some_iff.mp h
    obtain ⟨es', hes, h⟩ := Option.map_eq_some_iff.mp h
    subst h
    obtain ⟨v, hv, rv⟩ := lookup_zip r hd
    obtain ⟨ws, hw, rw'⟩ := pick_rp r hes
    refine ⟨v :: ws, ?_, .cons rv rw'⟩
    unfold pickK
    rw [hv, Option.bind_some, hw]
    rfl
theorem lookup_vals {f : Str} {v : V} : ∀ {ks : List Str} {vs : List V} {us : List Value}, Vals vs us → (ks.zip vs).lookup f = some v → ∃ u, (ks.zip us).lookup f = some u ∧ RelV v u
  | [], vs, us, _, h => by simp at h
  | n :: ks, _, _, .nil, h => by simp at h
  | n :: ks, _, _, .cons r t, h => by
    rw [List.zip_cons_cons, List.lookup_cons] at h
    rw [List.zip_cons_cons, List.lookup_cons]
    split at h
    · cases h
      exact ⟨_, rfl, r⟩
    · exact lookup_vals t h
theorem pick_vals {ks : List Str} {vs : List V} {us : List Value} (r : Vals vs us) : ∀ {ps : List Str} {ws : List V}, pickK ks vs ps = some ws → ∃ us', pickK ks us ps = some us' ∧ Vals ws us'
  | [], es, h => by cases h; exact ⟨[], rfl, .nil⟩
  | p :: ps, es, h => by
    unfold pickK at h
    obtain ⟨d, hd, h⟩ := Option.bind_eq_some_iff.mp h
    obtain ⟨es', hes, h⟩ := Option.map_eq_some_iff.mp h
    subst h
    obtain ⟨v, hv, rv⟩ := lookup_vals r hd
    obtain ⟨ws, hw, rw'⟩ := pick_vals r hes
    refine ⟨v :: ws, ?_, .cons rv rw'⟩
    unfold pickK
    rw [hv, Option.bind_some, hw]
    rfl
theorem map_d_nil {ms : List Bool} (h : ms.all (!·) = true) : True := trivial
theorem snd_callK (G : Good P k X N sc fn) {f x : Str} {ks : List Str} {kws : List Keyword} {p pos : Pos} {n : Nat} {evs : Env → Option (List D × Env)} (hx : f = x) (hg : glB sc x = true) (hn : nmB x = true)
    (hall : (backToKw pos (keywordEach kws X.env)).all (·.1.isSome) = true) (hks : (backToKw pos (keywordEach kws X.env)).filterMap (·.1) = ks) (hno : (backToKw pos (keywordEach kws X.env)).any (·.1.isNone) = false) (hlen : ∀ env ds env', evs env = some (ds, env') → ds.length = n) (ha : PK X kws (tDs X.K g evs)) :
    PE X (.Call (.Name x p) [] kws pos) (tR X.K g fun env => (P.modes f).bind fun ms => (P.names f).bind fun ps => if ms.all (!·) && decide ((f, ks) ∈ P.kws) && decide (ks.length = n) then (evs env).bind fun x => (pickK ks x.1 ps).bind fun ds =>
      (P.calls k f (ds.map .d)).bind fun y => if y.2.isEmpty then some (y.1, x.2) else none else none) := by
  subst hx
  refine ⟨fun pins s σ H Q I ⟨kp, F, env, rd, env', e1, R, q⟩ => ?_⟩
  obtain ⟨ms, hms, e1⟩ := Option.bind_eq_some_iff.mp e1
  obtain ⟨ps, hps, e1⟩ := Option.bind_eq_some_iff.mp e1
  split at e1
  · rename_i hc
    simp only [Bool.and_eq_true, decide_eq_true_eq] at hc
    obtain ⟨⟨ds, e2⟩, h2, e1⟩ := Option.bind_eq_some_iff.mp e1
    obtain ⟨es, hes, e1⟩ := Option.bind_eq_some_iff.mp e1
    obtain ⟨⟨r, os⟩, hcall, e1⟩ := Option.bind_eq_some_iff.mp e1
    split at e1
    · rename_i ho
      cases e1
      have ho : os = [] := List.isEmpty_iff.mp ho
      subst ho
      unfold Prg.names at hps
      obtain ⟨Fn', hF, e3⟩ := Option.map_eq_some_iff.mp hps
      subst e3
      obtain ⟨a, fd, hm, hk, hb, FG, hkw⟩ := G.fns f Fn' hF
      have hdl := hlen _ _ _ h2
      refine wpAny_Call_Name_kw (ld_glob I (G.gl hg) hm ?_ (nmB_ok hn).1)
      refine PySem.W.callWith_KW0 (h₀ := X.base) I.ok.mod.kin hk hall (thn (ha.run pos pins s σ H _ I ⟨kp, F, env, ds, _, h2, R, fun F1 ys H1 s1 R1 po => (⟨F1, s1, R1, po⟩ : ∃ F1, Same F F1 ∧ Rel X.K g kp F1 _ σ H1 ∧ RpL X.K F1 ds ys)⟩) fun ws s1 ⟨vs, H1, I1, rv, F1, sF1, R1, po⟩ => ⟨I1.kIn, ?_⟩) (by rw [hno]; rfl)
      rw [hks]
      obtain ⟨vs', hv', rp'⟩ := pick_rp po hes
      obtain ⟨us', hu', rv'⟩ := pick_vals rv hv'
      have hwl : ws.length = ks.length := by rw [← rv.length, ← po.len, hdl, hc.2]
      have bd := hkw ks hc.1.2 s1 ws us' hu' hwl
      have sp := R1.callD (E := E0) (Q := Q) (f := f) (C := P.calls k) rp' hcall fun F3 v H3 s3 R3 p3 => q F3 v H3 (sF1.trans s3) R3 p3
      show wpAny _ _ (call (.ref a) [] (ks.zip ws)) _ _ _
      refine wpAny_call (codeAny_mono (FG.run X.A X.stack s1 H1 ⟨[], ks.zip ws⟩ us' vs' Q E0 G.roomC G.gd I1.env0 bd rv' sp) fun r s' hq => ?_)
      cases r with
      | error e => exact False.elim hq
      | ok fl =>
        cases fl with
        | ret u => exact I1.after hq
        | next => exact False.elim hq
        | brk => exact False.elim hq
        | cont => exact False.elim hq
    · cases e1
  · cases e1
end
end MI

namespace MI
open PySem PySem.Spec PyProof.Rows L2
section
variable {X : Cx} {g : Gh} {P : Prg} {k : Nat} {N : List Str} {sc : Scope} {fn : Str → Bool}
theorem wipe_wipe {σ : L2.St} {vs : List Nat} : L2.wipe (L2.wipe σ vs) vs = L2.wipe σ vs := wipe_congr (wipe_length σ vs) fun j hj => wipe_out hj
theorem wipe_sub {σ σ2 : L2.St} {vs ws : List Nat} (h : ∀ j ∈ ws, j ∈ vs) (hl : σ2.length = σ.length) (e : L2.wipe σ2 vs = L2.wipe σ vs) : L2.wipe (L2.wipe σ2 ws) vs = L2.wipe σ vs := by
  rw [← e]
  exact wipe_congr (by rw [wipe_length]) fun j hj => wipe_out fun z => hj (h j z)
/-- a turn's item is bound: the slots -/
theorem turn_wipe {σ σ2 : L2.St} {own : List Nat} {tg : T} (hsub : ∀ j ∈ slotsT tg, j ∈ own) (l2 : σ2.length = (L2.wipe σ own).length) (j2 : ∀ j, j ∉ slotsT tg → σ2[j]? = (L2.wipe σ own)[j]?) : L2.wipe σ2 own = L2.wipe σ own := by
  rw [wipe_congr l2 fun j hj => j2 j fun z => hj (hsub j z)]
  exact wipe_wipe
theorem snd_lc2W {C : Ctx} {own own2 : List Nat} {elt : E} {tg tg2 : T} {it it2 : I} {cnd : E} {tt : TT} (hsub : ∀ j ∈ slotsT tg, j ∈ own) (hsub2 : ∀ j ∈ slotsT tg2, j ∈ own2) (hown : ∀ j ∈ own2, j ∈ own) (htt : ∀ σ H Q, tTst X.K g (testOf cnd (evR C cnd)) σ H Q → tt σ H Q) :
    ∀ σ H Q, tR X.K g (evR C (.lc2 own own2 elt tg it tg2 it2 cnd)) σ H Q → tLc2 (tI X.K g (evI C it)) (tgT X.K g tg) tYes (tI X.K g (evI C it2)) (tgT X.K g tg2) tt (tD X.K g (frz (evR C elt))) own own2 σ H Q := fun σ H Q ⟨kp, F, env, rd, env', e1, R, q⟩ => by
  unfold evR at e1
  obtain ⟨⟨ds, e2⟩, h2, e1⟩ := Option.bind_eq_some_iff.mp e1
  split at e1
  · rename_i hc
    simp only [Bool.and_eq_true] at hc
    obtain ⟨hw, hz⟩ := hc
    obtain ⟨⟨xs, e3⟩, h3, e1⟩ := Option.bind_eq_some_iff.mp e1
    split at e1
    · rename_i hxs
      cases e1
      have hxs2 : xs.length < sizeLine := of_decide_eq_true (by rw [lk_eq] at hxs; exact hxs)
      refine ⟨kp, F, env, ds, e2, h2, R, fun F1 J H1 s1 R1 Y Dl hD => ?_⟩
      obtain ⟨fD, h0D, kD, oD⟩ := R1.fresh hD
      generalize hf1 : (fun d e => (bindT tg2 d e).bind fun e1 => (testOf cnd (evR C cnd) e1).bind fun b => if b.1 then (frz (evR C elt) b.2).bind fun y => wiped own2 (some y.1) y.2 else wiped own2 none b.2) = f1 at h3
      generalize hf : (fun d e => (bindT tg d e).bind fun e1 => (evI C it2 e1).bind fun z => if wipeable z.2 own2 then (lcGo f1 z.1 (wipeE z.2 own2)).bind fun y => if wipeable y.2 own then some (y.1, wipeE y.2 own) else none else none) = f at h3
      have keepD : ∀ {F4 H4 : Hp} {env4 : Env} {σ4 : L2.St} {aV : List V}, Rel X.K g (upd kp Dl (.lst aV)) F4 env4 σ4 H4 → F4 Dl = none := fun {F4 H4 env4 σ4 aV} R4 => by
        cases q0 : F4 Dl with
        | none => rfl
        | some u =>
          have z := R4.fk Dl (by rw [upd_same]; exact fun z => by cases z) (by rw [q0]; exact fun z => by cases z)
          cases q1 : g.F0 Dl with
          | none => exact absurd q1 z
          | some w => rw [R1.f0 _ _ q1] at fD; cases fD
      refine ⟨fun i m H => m = ds.length - i ∧ i ≤ ds.length ∧ ∃ F' env' acc accV ys, Same F1 F' ∧ Rel X.K g (upd kp Dl (.lst accV)) F' env' (L2.wipe σ own) H ∧ RpL X.K F' acc accV ∧ lc2Go f (ds.drop i) env' = some (ys, e3) ∧ xs = acc ++ ys,
        ⟨ds.length, by simp, Nat.zero_le _, F1, wipeE e2 own, [], [], xs, Same.refl F1, ((R1.newL hD .nil).1.keep fD upd_same oD).wipe hw, .nil, h3, rfl⟩, ?_⟩
      rintro i m H ⟨rfl, hi, F', env', acc, accV, ys, sF, R', rl, hg, rfl⟩
      by_cases hlt : i < ds.length
      · refine .inr ⟨Y.go i H (sF.trans R'.fh) hlt, fun H2 => ∃ F2 env2 acc2 accV2 ys2, Same F1 F2 ∧ Rel X.K g (upd kp Dl (.lst accV2)) F2 env2 (L2.wipe σ own) H2 ∧ RpL X.K F2 acc2 accV2 ∧ lc2Go f (ds.drop (i + 1)) env2 = some (ys2, e3) ∧ acc ++ ys = acc2 ++ ys2, fun H2 h => ⟨ds.length - (i + 1), by omega, rfl, hlt, h⟩, fun x H2 hy => ?_⟩
        obtain ⟨d, hd⟩ := lt_get hlt
        have hdrop : ds.drop i = d :: ds.drop (i + 1) := by
          rw [List.drop_eq_getElem_cons hlt]
          congr 1
          have := List.getElem?_eq_getElem hlt
          rw [hd] at this
          exact (Option.some.inj this).symm
        rw [hdrop] at hg
        unfold lc2Go at hg
        obtain ⟨⟨o, e4⟩, h4, hg⟩ := Option.bind_eq_some_iff.mp hg
        obtain ⟨⟨zs, e5⟩, h5, hg⟩ := Option.map_eq_some_iff.mp hg
        cases hg
        rw [← hf] at h4
        obtain ⟨e6, h6, h4⟩ := Option.bind_eq_some_iff.mp h4
        obtain ⟨⟨ds1, e7⟩, h7, h4⟩ := Option.bind_eq_some_iff.mp h4
        split at h4
        · rename_i hw7
          obtain ⟨⟨us, e8⟩, h8, h4⟩ := Option.bind_eq_some_iff.mp h4
          split at h4
          · rename_i hw8
            cases h4
            have hw7 : wipeable e7 own2 = true := hw7
            have hw8 : wipeable e8 own = true := hw8
            have h8 : lcGo f1 ds1 (wipeE e7 own2) = some (us, e8) := h8
            have h5 : lc2Go f (ds.drop (i + 1)) (wipeE e8 own) = some (zs, e5) := h5
            obtain ⟨Fy, sy, Ry, rp, ky⟩ := R'.yield sF Y hd hy
            refine ⟨upd kp Dl (.lst accV), Fy, env', d, e6, h6, Ry, rp, fun σ2 R2 l2 j2 => ⟨?_, ?_⟩⟩
            · exact turn_wipe hsub l2 j2
            · have w2 : L2.wipe σ2 own = L2.wipe σ own := turn_wipe hsub l2 j2
              have l2' : σ2.length = σ.length := by rw [l2, wipe_length]
              unfold tYes
              refine iteT ?_
              refine ⟨upd kp Dl (.lst accV), Fy, e6, ds1, e7, h7, R2, fun F3 J1 H3 s3 R3 Y1 => ?_⟩
              refine ⟨fun j k H => k = ds1.length - j ∧ j ≤ ds1.length ∧ ∃ F' env' acc' accV' ys', Same F3 F' ∧ Rel X.K g (upd kp Dl (.lst accV')) F' env' (L2.wipe σ2 own2) H ∧ RpL X.K F' acc' accV' ∧ lcGo f1 (ds1.drop j) env' = some (ys', e8) ∧ acc ++ (us ++ zs) = acc' ++ (ys' ++ zs),
                ⟨ds1.length, by simp, Nat.zero_le _, F3, wipeE e7 own2, acc, accV, us, Same.refl F3, R3.wipe hw7, RpL.mono (sy.trans s3) _ _ rl, h8, rfl⟩, ?_⟩
              rintro j kk H4 ⟨rfl, hj, F4, env4, acc4, accV4, ys4, sF4, R4, rl4, hg4, he4⟩
              by_cases hlt1 : j < ds1.length
              · refine .inr ⟨Y1.go j H4 (sF4.trans R4.fh) hlt1, fun H5 => ∃ F5 env5 acc5 accV5 ys5, Same F3 F5 ∧ Rel X.K g (upd kp Dl (.lst accV5)) F5 env5 (L2.wipe σ2 own2) H5 ∧ RpL X.K F5 acc5 accV5 ∧ lcGo f1 (ds1.drop (j + 1)) env5 = some (ys5, e8) ∧ acc ++ (us ++ zs) = acc5 ++ (ys5 ++ zs), fun H5 h => ⟨ds1.length - (j + 1), by omega, rfl, hlt1, h⟩, fun x1 H5 hy1 => ?_⟩
                obtain ⟨d1, hd1⟩ := lt_get hlt1
                have hdrop1 : ds1.drop j = d1 :: ds1.drop (j + 1) := by
                  rw [List.drop_eq_getElem_cons hlt1]
                  congr 1
                  have := List.getElem?_eq_getElem hlt1
                  rw [hd1] at this
                  exact (Option.some.inj this).symm
                rw [hdrop1] at hg4
                unfold lcGo at hg4
                obtain ⟨⟨o1, e9⟩, h9, hg4⟩ := Option.bind_eq_some_iff.mp hg4
                obtain ⟨⟨zs1, e10⟩, h10, hg4⟩ := Option.map_eq_some_iff.mp hg4
                cases hg4
                rw [← hf1] at h9
                obtain ⟨e11, h11, h9⟩ := Option.bind_eq_some_iff.mp h9
                obtain ⟨⟨b, e12⟩, h12, h9⟩ := Option.bind_eq_some_iff.mp h9
                have h10 : lcGo f1 (ds1.drop (j + 1)) e9 = some (zs1, e10) := h10
                obtain ⟨Fz, sz, Rz, rpz, kz⟩ := R4.yield sF4 Y1 hd1 hy1
                refine ⟨upd kp Dl (.lst accV4), Fz, env4, d1, e11, h11, Rz, rpz, fun σ5 R5 l5 j5 => ⟨?_, ?_⟩⟩
                · exact turn_wipe hsub2 l5 j5
                · have w5 : L2.wipe σ5 own2 = L2.wipe σ2 own2 := turn_wipe hsub2 l5 j5
                  refine htt σ5 H5 _ ⟨upd kp Dl (.lst accV4), Fz, e11, b, e12, h12, R5, fun F6 H6 s6 R6 => ?_⟩
                  cases b with
                  | true =>
                    have h9 : ((frz (evR C elt) e12).bind fun y => wiped own2 (some y.1) y.2) = some (o1, e9) := h9
                    obtain ⟨⟨y, e13⟩, h13, h9⟩ := Option.bind_eq_some_iff.mp h9
                    unfold wiped at h9
                    split at h9
                    · rename_i hw9
                      cases h9
                      refine ⟨upd kp Dl (.lst accV4), F6, e12, y, e13, h13, R6, fun F7 v H7 s7 R7 po => ⟨accV4, R7.kept Dl _ upd_same, ?_, ?_⟩⟩
                      · have hl := congrArg List.length he4
                        have hxs3 : (acc ++ (us ++ zs)).length < sizeLine := hxs2
                        simp only [List.length_append, Option.toList_some, List.length_cons, List.length_nil] at hl hxs3
                        rw [← rl4.len]
                        omega
                      · have R8 := (R7.rekeep (o' := .lst (accV4 ++ [v])) (keepD R7)).wipe hw9
                        rw [w5] at R8
                        refine ⟨F7, wipeE e13 own2, acc4 ++ [y], accV4 ++ [v], zs1, ((sF4.trans sz).trans s6).trans s7, R8, (RpL.mono ((sz.trans s6).trans s7) _ _ rl4).append (.one po), h10, ?_⟩
                        rw [he4]
                        simp
                    · cases h9
                  | false =>
                    have h9 : wiped own2 none e12 = some (o1, e9) := h9
                    unfold wiped at h9
                    split at h9
                    · rename_i hw9
                      cases h9
                      have R8 := R6.wipe hw9
                      rw [w5] at R8
                      refine ⟨F6, wipeE e12 own2, acc4, accV4, zs1, (sF4.trans sz).trans s6, R8, RpL.mono (sz.trans s6) _ _ rl4, h10, ?_⟩
                      rw [he4]
                      simp
                    · cases h9
              · have ej : j = ds1.length := by omega
                subst ej
                rw [List.drop_length] at hg4
                unfold lcGo at hg4
                cases hg4
                refine .inl ⟨Y1.stop _ H4 (sF4.trans R4.fh) (Nat.le_refl _), ?_⟩
                have R8 := R4.wipe hw8
                rw [wipe_sub hown l2' w2] at R8
                exact ⟨F4, _, acc4, accV4, zs, ((sF.trans sy).trans s3).trans sF4, R8, rl4, h5, by rw [he4]; simp⟩
          · cases h4
        · cases h4
      · have ei : i = ds.length := by omega
        subst ei
        rw [List.drop_length] at hg
        unfold lc2Go at hg
        cases hg
        refine .inl ⟨Y.stop _ H (sF.trans R'.fh) (Nat.le_refl _), ?_⟩
        have pD : H Dl = some (.lst accV) := R'.kept Dl _ upd_same
        have fD' := keepD R'
        obtain ⟨R2, own2⟩ := R1.restore hw sF (R'.unkeep kD)
        refine q F' (.ref Dl) H (s1.trans sF) R2 ⟨Dl, _, rfl, fD', h0D, kD, pD, ⟨accV, rfl, by simpa using rl⟩, fun w => R'.kept_owns (own2 Dl w)⟩
    · cases e1
  · cases e1
end
end MI

namespace PySem
open Sem (wp)
theorem forIn_gatherS (m : Option Addr) (f : (Option (Sem Value) × Sem Value) → (Option Addr × List (Sem Value × Sem Value)) → Sem (ForInStep (Option Addr × List (Sem Value × Sem Value))))
    (hf : ∀ (p : Sem Value × Sem Value) (run : List (Sem Value × Sem Value)), run.length + 1 < 17 → f (some p.1, p.2) (m, run) = pure (.yield (m, run ++ [p]))) :
    ∀ (items run : List (Sem Value × Sem Value)), run.length + items.length < 17 → forIn (items.map fun p => (some p.1, p.2)) (m, run) f = pure (m, run ++ items)
  | [], run, _ => by simp
  | p :: rest, run, h => by
    rw [List.map_cons, List.forIn_cons, hf p run (by simp at h; omega), pure_bind]
    have := forIn_gatherS m f hf rest (run ++ [p]) (by simp at h ⊢; omega)
    simpa using this
theorem dictDisplay_star (v : Sem Value) (pairs : List (Sem Value × Sem Value)) (h0 : pairs ≠ []) (hlen : pairs.length < 17) :
    dictDisplay ((none, v) :: pairs.map fun p => (some p.1, p.2)) = (do
      let d ← alloc { cls := .type "dict", data := .dict #[] }
      let m ← holding [.ref d] v
      (((holding [.ref d, m] (mergeMapping d m false)).onRaise fun x => do let _ ← holding [.ref d, m, x] (runValue (.builtin "proto.let_go" {}))).tryCatch fun e => do
        if ← isInstance e (.type "AttributeError") then
          rule "dict.display.not-a-mapping"; raiseError "TypeError" s!"'{← typeNameOf m}' object is not a mapping"
        throw e).onRaise fun x => do let _ ← holding [.ref d, x] (runValue (.builtin "proto.let_go" {}))
      let sub ← holding [.ref d] (subDict pairs)
      (holding [.ref d, .ref sub] (mergeMapping d (.ref sub) false)).onRaise fun x => do let _ ← holding [.ref d, x] (runValue (.builtin "proto.let_go" {}))
      pure (.ref d)) := by
  unfold dictDisplay
  dsimp only
  rw [List.forIn_cons]
  simp only [List.isEmpty_nil, if_true, pure_bind, bind_assoc]
  congr 1
  funext d
  congr 1
  funext m
  congr 1
  funext u
  rw [forIn_gatherS (some d) _ (fun p run h => by
    have hne : ((run ++ [(p.1, p.2)]).length == 17) = false := by simp; omega
    simp only [hne, Bool.false_eq_true, if_false]) pairs [] (by simpa using hlen)]
  simp [h0]
section
variable {prog : Program} {w : World} {K : Type} [DecidableEq K] {knd : KeyKind prog w K} {A : Around} {E : Value → Shared → Prop} {s : Shared}
theorem wpAny_dictPut_pairs {d : Addr} {kvs : List (K × Value)} {k : K} {key v : Value} {Q : Unit → Shared → Prop} (hkey : knd.is k key = true) (hm : s.heap.DictOf knd d kvs)
    (hQ : ∀ h', h'.DictOf knd d (stored kvs k v) → Heap.SameBut d s.heap h' → Q () { s with heap := h' })
    (hsz : kvs.length ≤ sizeLine) :
    wpAny (model prog w) A (dictPut d (knd.hash k) key v) Q E s := by
  obtain ⟨o, es, ep, ho, hc, hd, hk, hp, hn⟩ := hm
  have hes : es.size ≤ sizeLine := by have e1 := hp.length; have e2 : es.toList.length = es.size := by simp
                                      omega
  unfold dictPut
  refine wpAny_bind (wpAny_dictFind_of hkey ho hd hk ?_)
  have hidx : (es.findIdx? fun e => knd.is k e.key) = kvs.findIdx? fun kv => decide (kv.1 = k) := by
    rw [← hp.findIdx k]; obtain ⟨l⟩ := es; simp
  cases hi : es.findIdx? fun e => knd.is k e.key with
  | some i =>
    refine wpAny_updateDict ho hd (hQ _ ⟨_, _, ep, Heap.get?_update_self _ ho (Obj.isFreed_of_dict (Obj.data_mapDict hd _)),
      hc.mapDict _, Obj.data_mapDict hd _, hk.modify _ _, ?_, ?_⟩ (Heap.SameBut.update ..))
    · rw [stored, if_pos (any_of_findIdx_some (hidx ▸ hi))]
      have hl : (es.toList.findIdx? fun e => knd.is k e.key) = some i := by rw [← hi]; obtain ⟨l⟩ := es; simp
      have := hp.modify hn hl v
      obtain ⟨l⟩ := es
      simpa using this
    · rw [stored, if_pos (any_of_findIdx_some (hidx ▸ hi)), keys_map_store]; exact hn
  | none =>
    have hnot : k ∉ kvs.map (·.1) := not_mem_of_findIdx_none (hidx ▸ hi)
    have hany : ¬ (kvs.any fun kv => decide (kv.1 = k)) = true := by
      rw [List.any_eq_true]; rintro ⟨kv, hkv, he⟩
      exact hnot (List.mem_map.mpr ⟨kv, hkv, of_decide_eq_true he⟩)
    refine wpAny_updateDictKeys (hz := hes) ho hd (hQ _ ⟨_, _, ep + 1, Heap.get?_update_self _ ho (Obj.isFreed_of_dict (Obj.data_mapDictKeys hd _)),
      hc.mapDictKeys _, Obj.data_mapDictKeys hd _, hk.push hkey _, ?_, ?_⟩ (Heap.SameBut.update ..))
    · rw [stored, if_neg hany]
      have := hp.append hkey (knd.hash k) v
      obtain ⟨l⟩ := es
      simpa using this
    · rw [stored, if_neg hany, List.map_append, List.nodup_append]
      refine ⟨hn, by simp, ?_⟩
      intro a ha b hb
      simp only [List.map_cons, List.map_nil, List.mem_singleton] at hb
      subst hb
      exact fun e => hnot (e ▸ ha)
theorem wpAny_mergeMapping {d o : Addr} {kvs more : List (K × Value)} {Q : Unit → Shared → Prop} (hnr : ∀ k a, knd.is k (.ref a) = false) (hdo : d ≠ o) (hoS : (o == sysModules) = false)
    (hd : s.heap.DictOf knd d kvs) (ho : s.heap.DictOf knd o more)
    (hQ : ∀ h', h'.DictOf knd d (merged kvs more) → h'.DictOf knd o more → Heap.SameBut d s.heap h' → Q () { s with heap := h' })
    (hsz : kvs.length + more.length ≤ sizeLine) :
    wpAny (model prog w) A (mergeMapping d (.ref o) false) Q E s := by
  obtain ⟨od, esd, epd, hod, hcd, hdd, hkd, hpd, hnd⟩ := id hd
  obtain ⟨oo, eso, epo, hoo, hco, hdo', hko, hpo, hno⟩ := id ho
  have hlen : more.length = eso.size := by rw [← hpo.length]; simp
  unfold mergeMapping
  have loop : wpAny (model prog w) A (do
      let l ← dictEntries o
      let epoch ← dictEpoch o
      forIn (List.range l.size) PUnit.unit fun i (_ : PUnit) => (do
          let l' ← dictEntries o
          match l'[i]? with
            | some e => do
              holding [e.key, e.val] (dictPut d e.hash e.key e.val)
              let ep' ← dictEpoch o
              if (ep' != epoch) = true then do
                  (unsupported "dict.changed-during-merge" : Sem PUnit)
                  pure (ForInStep.yield PUnit.unit)
                else pure (ForInStep.yield PUnit.unit)
            | _ => do
              (unsupported "dict.changed-during-merge" : Sem PUnit)
              pure (ForInStep.yield PUnit.unit) : Sem (ForInStep PUnit))
      pure ()) Q E s := by
    refine wpAny_bind (wpAny_dictEntries hoo hdo' ?_)
    refine wpAny_bind (wpAny_dictEpoch hoo hdo' ?_)
    refine wpAny_bind ?_
    rw [List.range_eq_range']
    refine wpAny_forIn_list _
      (fun rest _ s' => ∃ h' i, s' = { s with heap := h' } ∧ rest = List.range' i (eso.size - i) ∧ i ≤ eso.size ∧ h'.DictOf knd d (merged kvs (more.take i)) ∧ h'.get? o = some oo ∧ Heap.SameBut d s.heap h')
      _ ?_ ?_ _ _ ⟨s.heap, 0, rfl, by simp, Nat.zero_le _, by simpa [merged] using hd, hoo, Heap.SameBut.refl _ _⟩
    · rintro x rest b s' ⟨h', i, rfl, hr, hi, hd', hoo', hs'⟩
      have hlt : i < eso.size := by
        rcases Nat.lt_or_ge i eso.size with h | h
        · exact h
        · rw [Nat.sub_eq_zero_of_le h] at hr; simp at hr
      obtain ⟨rfl, hrest⟩ : x = i ∧ rest = List.range' (i + 1) (eso.size - (i + 1)) := by
        have e : eso.size - i = (eso.size - (i + 1)) + 1 := by omega
        rw [e, List.range'_succ] at hr
        injection hr with h1 h2
        exact ⟨h1, h2⟩
      refine wpAny_bind (wpAny_dictEntries hoo' hdo' ?_)
      rw [Array.getElem?_eq_getElem hlt]
      obtain ⟨kv, hkv⟩ : ∃ kv, more[x]? = some kv := ⟨more[x]'(by rw [hlen]; exact hlt), List.getElem?_eq_getElem _⟩
      obtain ⟨k, v⟩ := kv
      obtain ⟨hkey, hval⟩ := hpo.get? (e := eso[x]) (by simp [hlt]) hkv
      obtain ⟨k', hkey', hhash⟩ := hko eso[x] (Array.getElem_mem hlt)
      obtain rfl : k' = k := knd.inj _ _ _ hkey' hkey
      show wpAny _ _ (holding [eso[x].key, eso[x].val] (dictPut d eso[x].hash eso[x].key eso[x].val) >>= _) _ _ _
      rw [hhash, hval]
      have hmx : (merged kvs (more.take x)).length ≤ sizeLine := by
        have e1 := merged_length_le kvs (more.take x)
        have e2 : (more.take x).length ≤ more.length := by rw [List.length_take]; omega
        omega
      refine wpAny_bind (wpAny_holding (wpAny_dictPut_pairs (hsz := hmx) hkey hd' fun h'' hd'' hs'' => ?_))
      have hoo'' : h''.get? o = some oo := (hs''.2 o (Ne.symm hdo)).trans hoo'
      refine wpAny_bind (wpAny_dictEpoch hoo'' hdo' ?_)
      rw [if_neg (by simp)]
      exact wpAny_pure ⟨h'', x + 1, rfl, hrest, hlt, by rw [merged_take_succ kvs more x (k', v) hkv]; exact hd'', hoo'', hs'.trans hs''⟩
    · rintro b s' ⟨h', i, rfl, hr, hi, hd', hoo', hs'⟩
      have hin : i = eso.size := by
        rcases Nat.lt_or_ge i eso.size with h | h
        · have e : eso.size - i = (eso.size - (i + 1)) + 1 := by omega
          rw [e, List.range'_succ] at hr; exact nomatch hr
        · exact Nat.le_antisymm hi h
      refine wpAny_pure (hQ h' ?_ ⟨oo, eso, epo, hoo', hco, hdo', hko, hpo, hno⟩ hs')
      rw [hin, ← hlen, List.take_length] at hd'; exact hd'
  refine wpAny_bind (wpAny_isInstance ho.typeIs isSubtype_dict_dict ?_)
  rw [if_pos rfl]
  refine wpAny_bind (wpAny_specialOf ho.typeIs F.slot_dict_iter.lookup (wpAny_bind (wpAny_pure ?_)))
  rw [beq_self_eq_true]
  show wpAny _ _ (if (o == sysModules) = true then _ else _) _ _ _
  rw [if_neg (by rw [hoS]; exact Bool.false_ne_true)]
  refine wpAny_bind (wpAny_dictEntries hod hdd ?_)
  simp only [Bool.false_eq_true, if_false]
  by_cases hemp : esd.isEmpty = true
  · rw [if_pos hemp]
    refine wpAny_bind (wpAny_dictEntries hoo hdo' ?_)
    refine wpAny_bind (wpAny_of_eq (a := PUnit.unit) ?_ ?_)
    · rw [← Array.forIn_toList]
      refine forIn_yield_id _ fun e he c => ?_
      obtain ⟨k, hkey, _⟩ := hko e (Array.mem_toList_iff.mp he)
      split
      · rename_i a q
        rw [q, hnr] at hkey
        cases hkey
      · rfl
    · exact loop
  · rw [if_neg hemp]
    exact loop
end
end PySem

namespace MI
open PySem L2
/-- {**a, k: v, ..} with keys ints and texts -/
def tDst (t : TE) (trs : List (TE × TE)) : TE := fun σ H Q => ∀ p, H p = none → t σ (upd H p (.dK [])) fun x H1 => ∃ (a : Addr) (kvs : List (Key × V)), x = .ref a ∧ a ≠ p ∧ H1 a = some (.dK kvs) ∧ H1 p = some (.dK []) ∧
  ∀ q, upd H1 p (.dK kvs) q = none → tPairs trs σ (upd (upd H1 p (.dK kvs)) q (.dK [])) fun ps H2 => H2 q = some (.dK []) ∧ H2 p = some (.dK kvs) ∧ ∃ more : List (Key × V), ps = more.map (fun kv => (kV kv.1, kv.2)) ∧ more.length ≤ 15 ∧
    kvs.length + 15 ≤ sizeLine ∧ Q (.ref p) (upd (upd H2 q (.dK (mergeK [] more))) p (.dK (mergeK kvs (mergeK [] more))))
theorem kv_nil {vs : List (Key × Value)} (r : KV ([] : List (Key × V)) vs) : vs = [] := by cases r; rfl
theorem pe_dst {X : Cx} {pos : Pos} {e : Expr} {keys : List (Option Expr)} {values : List Expr} {t : TE} {trs : List (TE × TE)} (he : PE X e t) (h : PPs X pos keys values trs) (hall : keys.all (·.isSome) = true) (hl : keys.length = values.length) (h0 : keys ≠ [])
    (h15 : keys.length ≤ 15) : PE X (.Dict (none :: keys) (e :: values) pos) (tDst t trs) := by
  refine ⟨fun pins s σ H Q I q => ?_⟩
  have hn := I.hok.fresh (Nat.le_refl s.heap.objs.size)
  have I1 := I.laid (a := s.heap.objs.size) (o := .dK []) (h' := s.heap.push { cls := .type "dict", data := .dict #[] }) (t' := s.toks) (fun _ _ q => Heap.get?_push_of_some _ q) (Nat.le_refl _) (dk_empty s.heap I.big)
  have hpl := pairTrees_length keys values X.env pos hall hl
  rw [arm_eval_Dict]
  show wpAny _ _ (do standAt pos; dictDisplay ((none, do let x ← eval e X.env; standAt pos; pure x) :: (evalEachOpt keys X.env).zip ((evalEach values X.env).map fun v => do let x ← v; standAt pos; pure x))) _ _ _
  rw [zip_pairTrees keys values X.env pos hall hl, dictDisplay_star _ _ (by
    intro z
    rw [z] at hpl
    exact h0 (List.length_eq_zero_iff.mp hpl.symm)) (by omega)]
  refine wpAny_bind (wpAny_standAt (wpAny_bind (wpAny_alloc ?_)))
  refine wpAny_bind (wpAny_holding (wpAny_bind (thn (he.run pins _ σ _ _ I1 (q _ hn)) fun u s2 ⟨x, H1, I2, rx, a, kvs, ex, hap, ha, hp, q2⟩ => wpAny_bind (wpAny_standAt (wpAny_pure ?_)))))
  subst ex
  obtain ⟨za, hda, vsa, ra, dda⟩ := dk_of I2.hok ha
  obtain ⟨zp, hdp, vsp, rp, ddp⟩ := dk_of I2.hok hp
  have := kv_nil rp
  subst this
  obtain rfl : u = .ref a := rx
  have hnr : ∀ (k : Key) (b : Addr), (mixKind X.prog X.w).is k (.ref b) = false := fun k b => by
    cases h : (mixKind X.prog X.w).is k (.ref b) with
    | false => rfl
    | true =>
      rcases keyIs_shape h with ⟨_, _, _, z⟩ | ⟨_, _, _, z⟩ <;> cases z
  have lv := KV.length ra
  refine wpAny_bind (wpAny_onRaise (wpAny_tryCatch (wpAny_onRaise (wpAny_holding (wpAny_mergeMapping (knd := mixKind X.prog X.w) hnr (Ne.symm hap) hda ddp dda (fun h' hd' ho' hs' => ?_) (by simp; omega))))))
  have hnd : (vsa.map (·.1)).Nodup := by
    obtain ⟨_, _, _, _, _, _, _, _, z⟩ := dda
    exact z
  rw [merged_nil_of_nodup vsa hnd] at hd'
  have I3 := d_write (t' := s2.toks) I2 (by rw [hp]; exact True.intro) hs' (let ⟨q, _, _, hq, _⟩ := hd'; ⟨q, hq⟩) (dk_new za hdp ra hd')
  have hn3 := I3.hok.fresh (Nat.le_refl _)
  have I4 := I3.laid (a := h'.objs.size) (o := .dK []) (h' := h'.push { cls := .type "dict", data := .dict #[] }) (t' := s2.toks) (fun _ _ q => Heap.get?_push_of_some _ q) (Nat.le_refl _) (dk_empty h' I3.big)
  refine wpAny_bind (wpAny_holding (wpAny_subDict (knd := mixKind X.prog X.w) (by omega) (thn (h.run pins _ σ _ _ I4 (q2 _ hn3)) fun ws s4 ⟨ps, H2, I5, rel, eq1, ep1, more, eps, lm, lz, q5⟩ => ?_)))
  subst eps
  obtain ⟨rs, c, rk⟩ := carries_of (P := X.prog) (w := X.w) rel
  obtain ⟨z5, hd5, vs5, r5, dd5⟩ := dk_of I5.hok eq1
  have := kv_nil r5
  subst this
  refine ⟨rs, c, dd5, fun h6 dd6 hs6 => ?_⟩
  have hz : (mergeK [] more).length ≤ sizeLine := by
    have h1 := length_mergeK more []
    rw [List.length_nil] at h1
    rw [sizeLine_eq]; omega
  have I6 := d_write (t' := s4.toks + ws.length) I5 (by rw [eq1]; exact True.intro) hs6 (let ⟨q, _, _, hq, _⟩ := dd6; ⟨q, hq⟩) (dk_new hz hd5 (rk.merge .nil) dd6)
  have hpq : s.heap.objs.size ≠ h'.objs.size := by
    intro z
    rw [← z, upd_same] at hn3
    cases hn3
  have ep6 : upd H2 h'.objs.size (.dK (mergeK [] more)) s.heap.objs.size = some (.dK kvs) := by rw [upd_ne hpq]; exact ep1
  obtain ⟨z7, hd7, vs7, r7, dd7⟩ := dk_of I6.hok ep6
  obtain ⟨z8, hd8, vs8, r8, dd8⟩ := dk_of I6.hok (upd_same (H := H2) (a := h'.objs.size) (o := .dK (mergeK [] more)))
  have l7 := KV.length r7
  have l8 := KV.length r8
  have hm15 : (mergeK [] more).length ≤ 15 := by
    have h1 := length_mergeK more []
    rw [List.length_nil] at h1
    omega
  refine wpAny_bind (wpAny_onRaise (wpAny_holding (wpAny_mergeMapping (knd := mixKind X.prog X.w) hnr hpq hd8 dd7 dd8 (fun h9 hd9 ho9 hs9 => wpAny_pure ⟨.ref s.heap.objs.size, _, ?_, rfl, q5⟩) (by omega))))
  have hz9 : (mergeK kvs (mergeK [] more)).length ≤ sizeLine := by
    have h1 := length_mergeK (mergeK [] more) kvs
    omega
  exact d_write I6 (by rw [ep6]; exact True.intro) hs9 (let ⟨q, _, _, hq, _⟩ := hd9; ⟨q, hq⟩) (dk_new hz9 hd7 (r8.merge r7) hd9)
end MI
namespace MI
open PySem PySem.Spec PyProof.Rows L2
section
variable {X : Cx} {g : Gh}
theorem Rel.notNew {K : PySem.W.Frag} {kp F : Hp} {env : Env} {σ : L2.St} {H : Hp} {o : HO} {p : Addr} (R : Rel K g (upd kp p o) F env σ H) (f : F p = none) {pv : PV} {a : Addr} {ks : List Key} {ds : List D} (po : PostP K F σ pv (.ref a)) (e : MI.getP pv env = some (D.dk ks ds)) : a ≠ p := by
  intro z
  subst z
  cases pv with
  | d d =>
    cases e
    unfold PostP at po
    simp only at po
    unfold Rp at po
    obtain ⟨b, vs, h1, h2, _⟩ := po
    cases h1
    rw [f] at h2
    cases h2
  | s i =>
    unfold MI.getP at e
    obtain ⟨s, hs, e⟩ := Option.bind_eq_some_iff.mp e
    have sl := R.sl i s hs
    have po : σ[i]? = some (some (.ref a)) := po
    cases s with
    | un => cases e
    | val d =>
      cases e
      obtain ⟨v, h1, h2⟩ := sl
      rw [po] at h1
      cases h1
      unfold Rp at h2
      obtain ⟨b, vs, h1, h2, _⟩ := h2
      cases h1
      rw [f] at h2
      cases h2
    | own d =>
      have := R.kpo a ⟨i, _, hs, rfl, po⟩
      rw [upd_same] at this
      cases this
    | bor d =>
      have := R.kpo a ⟨i, _, hs, rfl, po⟩
      rw [upd_same] at this
      cases this
theorem Rel.keptN {K : PySem.W.Frag} {kp F0 F : Hp} {env0 env : Env} {σ0 σ : L2.St} {H0 H : Hp} {o : HO} {kp' : Hp} {p : Addr} (R0 : Rel K g kp F0 env0 σ0 H0) (f : F0 p = none) (R : Rel K g kp' F env σ H) (hk : kp' p = some o) : F p = none := by
  cases q0 : F p with
  | none => rfl
  | some u =>
    have z := R.fk p (by rw [hk]; exact fun z => by cases z) (by rw [q0]; exact fun z => by cases z)
    cases q1 : g.F0 p with
    | none => exact absurd q1 z
    | some w => rw [R0.f0 _ _ q1] at f; cases f
theorem snd_dst {a k1 v1 k2 v2 : Expr} {pos : Pos} {pa : Env → Option (PV × Env)} {e1 e2 e3 e4 : Env → Option (D × Env)} (ha : PE X a (tP X.K g pa)) (h1 : PE X k1 (tD X.K g e1)) (h2 : PE X v1 (tD X.K g e2)) (h3 : PE X k2 (tD X.K g e3)) (h4 : PE X v2 (tD X.K g e4)) :
    PE X (.Dict [none, some k1, some k2] [a, v1, v2] pos) (tR X.K g fun env => (pa env).bind fun p => (getP p.1 p.2).bind fun d => (e1 p.2).bind fun x1 => (e2 x1.2).bind fun y1 => (e3 y1.2).bind fun x2 => (e4 x2.2).bind fun y2 => (dstD d x1.1 y1.1 x2.1 y2.1).map fun z => (.new z, y2.2)) := by
  refine PEw (pe_dst ha (pps_cons h1 h2 (pps_cons h3 h4 pps_nil)) rfl rfl (by simp) (by simp)) fun σ H Q ⟨kp, F, env, rd, env', e0, R, q⟩ => ?_
  obtain ⟨⟨pv, n1⟩, g1, e0⟩ := Option.bind_eq_some_iff.mp e0
  obtain ⟨d, gd, e0⟩ := Option.bind_eq_some_iff.mp e0
  obtain ⟨⟨x1, n2⟩, g2, e0⟩ := Option.bind_eq_some_iff.mp e0
  obtain ⟨⟨y1, n3⟩, g3, e0⟩ := Option.bind_eq_some_iff.mp e0
  obtain ⟨⟨x2, n4⟩, g4, e0⟩ := Option.bind_eq_some_iff.mp e0
  obtain ⟨⟨y2, n5⟩, g5, e0⟩ := Option.bind_eq_some_iff.mp e0
  obtain ⟨z, g6, e0⟩ := Option.map_eq_some_iff.mp e0
  cases e0
  cases d with
  | dk ks ds =>
    simp only [dstD] at g6
    obtain ⟨c1, k1', g6⟩ := Option.bind_eq_some_iff.mp g6
    obtain ⟨c2, k2', g6⟩ := Option.bind_eq_some_iff.mp g6
    split at g6
    · cases g6
    rename_i hne
    split at g6
    · rename_i hz
      cases g6
      have hz : ks.length + 15 ≤ sizeLine := of_decide_eq_true (by rw [lk_eq] at hz; exact hz)
      intro p hp
      obtain ⟨fp, h0p, kpp, op⟩ := R.fresh hp
      have R1 := (R.newC (d := .dk [] []) hp ⟨[], rfl, rfl, .nil⟩).1.keep fp upd_same op
      refine ⟨_, F, env, pv, n1, g1, R1, fun F1 v H1 s1 R2 po => ?_⟩
      have f1p := R.keptN fp R2 upd_same
      obtain ⟨b, _, rfl, hb, vs, rfl, hl, rl⟩ := R2.getP po gd
      refine ⟨b, _, rfl, R2.notNew f1p po gd, hb, R2.kept _ _ upd_same, fun r hr => ?_⟩
      have R3 := R2.rekeep (o' := .dK (ks.zip vs)) f1p
      obtain ⟨fr, h0r, kpr, or_⟩ := R3.fresh hr
      have hpr : p ≠ r := fun z => by subst z; rw [upd_same] at kpr; cases kpr
      have R4 := (R3.newC (d := .dk [] []) hr ⟨[], rfl, rfl, .nil⟩).1.keep fr upd_same or_
      refine ⟨_, F1, n1, x1, n2, g2, R4, fun F2 w1 H2 s2 R5 po1 => ?_⟩
      refine ⟨_, F2, n2, y1, n3, g3, R5, fun F3 u1 H3 s3 R6 qo1 => ?_⟩
      refine ⟨_, F3, n3, x2, n4, g4, R6, fun F4 w2 H4 s4 R7 po2 => ?_⟩
      refine ⟨_, F4, n4, y2, n5, g5, R7, fun F5 u2 H5 s5 R8 qo2 => ?_⟩
      have kp8 : upd (upd kp p (.dK (ks.zip vs))) r (.dK []) p = some (.dK (ks.zip vs)) := by rw [upd_ne hpr, upd_same]
      have f5p := R.keptN fp R8 kp8
      have f5r := R3.keptN fr R8 upd_same
      have z1 := keyD_rp po1 k1'
      have z2 := keyD_rp po2 k2'
      subst z1
      subst z2
      have lz : (ks.zip vs).length = ks.length := by rw [List.length_zip, ← rl.len]; omega
      refine ⟨R8.kept _ _ upd_same, R8.kept _ _ kp8, [(c1, u1), (c2, u2)], rfl, by simp, by omega, ?_⟩
      have mk : mergeK ([] : List (Key × V)) [(c1, u1), (c2, u2)] = [(c1, u1), (c2, u2)] := by
        simp [mergeK, putK, hne]
      rw [mk]
      have mk2 : mergeK (ks.zip vs) [(c1, u1), (c2, u2)] = putK (putK (ks.zip vs) c1 u1) c2 u2 := rfl
      rw [mk2]
      have hs : Same F1 F5 := ((s2.trans s3).trans s4).trans s5
      obtain ⟨vs', t1, t2, t3⟩ := put_zip (x := c1) (Rp.mono (s4.trans s5) _ _ qo1) hl (RpL.mono hs _ _ rl)
      rw [t1]
      obtain ⟨vs'', t4, t5, t6⟩ := put_zip (x := c2) qo2 t2 t3
      rw [t4]
      have R9 := (R8.rekeep (o' := .dK [(c1, u1), (c2, u2)]) f5r).unkeep kpr
      have R10 := (R9.rekeep (o' := .dK ((putD (putD ks ds c1 y1).1 (putD ks ds c1 y1).2 c2 y2).1.zip vs'')) f5p)
      exact q F5 (.ref p) _ (s1.trans hs) (R10.unkeep kpp) ⟨p, _, rfl, f5p, h0p, kpp, upd_same, ⟨vs'', rfl, t5, t6⟩, R10.kept_owns⟩
    · cases g6
  | _ => cases g6
end
end MI
namespace MI
open PySem PySem.Spec PyProof.Rows L2
section
variable {X : Cx} {g : Gh}
def rEqE : R2 := fun x y H Q => ∃ a b ks, x = .ref a ∧ y = .ref b ∧ H a = some (.dK ks) ∧ H b = some (.dK []) ∧ Q (.bl ks.isEmpty) H
theorem op_eqE (hu : X.A.units < cLine) : OpR X (compareOp .Eq) rEqE := by
  intro pins s σ H x y v u Q I rx ry h
  obtain ⟨a, b, ks, rfl, rfl, ea, eb, q⟩ := h
  obtain rfl : v = Value.ref a := rx
  obtain rfl : u = Value.ref b := ry
  obtain ⟨_, ya, va, ra, da⟩ := (show ObjOk X.prog X.w H s.heap a (.dK ks) from I.hok a _ ea)
  obtain ⟨_, yb, vb, rb, db⟩ := (show ObjOk X.prog X.w H s.heap b (.dK []) from I.hok b _ eb)
  have := kv_nil rb
  subst this
  refine PySem.W.keq_eq (knd := mixKind X.prog X.w) (r := true) ya yb da db hu (fun z => ?_) (fin_bl I q ?_)
  · have : va = [] := List.eq_nil_of_length_eq_zero z
    subst this
    exact .nil
  · have := ra.length
    cases ks with
    | nil => rw [List.length_nil] at this; rw [← this]; rfl
    | cons k ks => rw [List.length_cons] at this; rw [← this]; rfl
theorem snd_eqE (hu : X.A.units + 128 < cLine) {a : Expr} {p1 pos : Pos} {pa : Env → Option (PV × Env)} (ha : PE X a (tP X.K g pa)) :
    PE X (.Compare a [.Eq] [.Dict [] [] p1] pos) (tR X.K g fun env => (pa env).bind fun p => (getP p.1 p.2).bind fun x => (emptyD x).map fun z => (.old (.bl z), p.2)) :=
  PEw (pe_cmpR (op_eqE (by omega)) ha pe_dnewK (mark_of rfl .Eq)) fun σ H Q ⟨kp, F, env, rd, env', e1, R, q⟩ => by
    obtain ⟨⟨p, e2⟩, h2, e1⟩ := Option.bind_eq_some_iff.mp e1
    obtain ⟨x, hx, e1⟩ := Option.bind_eq_some_iff.mp e1
    obtain ⟨z, hz, e1⟩ := Option.map_eq_some_iff.mp e1
    cases e1
    refine ⟨kp, F, env, p, e2, h2, R, fun F1 v H1 s1 R1 po p hp => ?_⟩
    cases x with
    | dk ks ds =>
      cases hz
      obtain ⟨b, _, rfl, hb, vs, rfl, hl, rl⟩ := R1.getP po hx
      refine ⟨b, p, _, rfl, rfl, by rw [upd_ne (ne_of_none hb hp)]; exact hb, upd_same, ?_⟩
      have : (ks.zip vs).isEmpty = ks.isEmpty := by
        have := rl.len
        cases ks with
        | nil => rfl
        | cons k ks => cases vs with
          | nil => rw [List.length_nil] at this; rw [this] at hl; cases hl
          | cons _ _ => rfl
      rw [this]
      exact q F1 _ _ s1 (R1.newX hp) (post_old rp_bl)
    | _ => cases hz
theorem snd_eqET (hu : X.A.units + 128 < cLine) {a : Expr} {p1 pos : Pos} {pa : Env → Option (PV × Env)} (ha : PE X a (tP X.K g pa)) :
    PT X (.Compare a [.Eq] [.Dict [] [] p1] pos) (tTst X.K g fun env => (pa env).bind fun p => (getP p.1 p.2).bind fun x => (emptyD x).map fun z => (z, p.2)) :=
  PTw (pt_cmpR (op_eqE (by omega)) ha pe_dnewK (mark_of rfl .Eq)) fun σ H Q ⟨kp, F, env, rd, env', e1, R, q⟩ => by
    obtain ⟨⟨p, e2⟩, h2, e1⟩ := Option.bind_eq_some_iff.mp e1
    obtain ⟨x, hx, e1⟩ := Option.bind_eq_some_iff.mp e1
    obtain ⟨z, hz, e1⟩ := Option.map_eq_some_iff.mp e1
    cases e1
    refine ⟨kp, F, env, p, e2, h2, R, fun F1 v H1 s1 R1 po p hp => ?_⟩
    cases x with
    | dk ks ds =>
      cases hz
      obtain ⟨b, _, rfl, hb, vs, rfl, hl, rl⟩ := R1.getP po hx
      refine ⟨b, p, _, rfl, rfl, by rw [upd_ne (ne_of_none hb hp)]; exact hb, upd_same, ?_⟩
      have : (ks.zip vs).isEmpty = ks.isEmpty := by
        have := rl.len
        cases ks with
        | nil => rfl
        | cons k ks => cases vs with
          | nil => rw [List.length_nil] at this; rw [this] at hl; cases hl
          | cons _ _ => rfl
      rw [this]
      exact ⟨_, rfl, q F1 _ s1 (R1.newX hp)⟩
    | _ => cases hz
end
end MI

namespace MI
open PySem PySem.Spec PyProof.Rows L2
section
variable {g : Gh} {P : Prg} {k : Nat} {N : List Str}
theorem Good.blk {X : Cx} {sc : Scope} {fn : Str → Bool} (G : Good P k X N sc fn) {scope : Scope} (hk : scope.kind = .function) (s : Shared) (H : Hp) (C : Addr) (cl : List (Str × Addr)) (fp : List Addr) :
    Good P k (X.blk s H scope (compEnvC scope cl C X.env) fp) N (relS scope sc) (fun x => scope.names.lookup x == some .cell) := by
  refine ⟨G.hN, G.nd, ?_, rfl, hk, G.calm, G.room, G.gd, G.fns, G.bi, G.glob, fun c ci h => ?_⟩
  · rw [← G.hsc]
    rfl
  · have z := G.cls c ci h
    exact ⟨z.mg, z.cl, z.nf, z.isC, z.io, z.mak, z.call, z.props⟩
theorem blkC_kind {N : List Str} {sc scope : Scope} {own : List (Str × Nat)} (h : blkC N sc scope own = true) : scope.kind = .function := (blkOk_by h).kind
theorem ownN_snd (N : List Str) (own : List Nat) : (ownN N own).map (·.2) = own := by
  unfold ownN
  rw [List.map_map]
  induction own with
  | nil => rfl
  | cons a r ih => rw [List.map_cons, ih]; rfl
theorem mI_fold {sc : Scope} {it : I} {tg e : Expr} (h : mI N sc it tg e = true) (env : PySem.Env) (x : Value) : foldedSetIterable e env x = pure x := by
  cases it with
  | seq e' => unfold mI at h; exact fold_of (mE_plain h) env x
  | rng es => unfold mI at h; split at h <;> first | rfl | cases h
  | enum e' => unfold mI at h; split at h <;> first | rfl | cases h
  | zip a b => unfold mI at h; split at h <;> first | rfl | cases h
  | chars e' => unfold mI at h; exact fold_of (mE_plain h) env x
theorem pv_true {C : Ctx} {K : PySem.W.Frag} : ∀ σ H Q, tTst K g (testOf (.cst (.bl true)) (evR C (.cst (.bl true)))) σ H Q → tYes σ H Q := fun σ H Q ⟨kp, F, env, b, env', e1, R, q⟩ => by
  unfold testOf toP evR at e1
  cases e1
  exact q F H (Same.refl F) R
def LstOk (P : Prg) (k : Nat) (g : Gh) (X : Cx) (es' : List E) (es : List Expr) : Prop :=
  PA X es (tDs X.K g (evD (P.ctx k) es')) ∧ PA X es (tPs X.K g (evPs (P.ctx k) es')) ∧ (∀ ms, PA X es (tPs X.K g (evA (P.ctx k) ms es'))) ∧
  (es' ≠ [] → es'.any isIte = false → ∀ isAnd pos, PE X (.BoolOp (boOp isAnd) es pos) (tR X.K g (evB (P.ctx k) isAnd es')) ∧ PW X (.BoolOp (boOp isAnd) es pos) (tTst X.K g (tBoo (P.ctx k) isAnd es')))
theorem tPd {X : Cx} {e : Expr} {ev : Env → Option (D × Env)} (h : PE X e (tD X.K g ev)) : PE X e (tP X.K g fun env => (ev env).map fun x => (.d x.1, x.2)) := PEw h fun σ H Q ⟨kp, F, env, a, env', e1, R, q⟩ => by
  obtain ⟨⟨d, e2⟩, h2, e3⟩ := Option.map_eq_some_iff.mp e1
  cases e3
  exact ⟨kp, F, env, d, e2, h2, R, fun F' v H' s R' po => q F' v H' s R' po⟩
theorem plainT {e : Expr} (h : match e with | .UnaryOp .Not _ _ => False | .BoolOp .. => False | .IfExp .. => False | .Compare .. => False | _ => True) (env : PySem.Env) : ∀ whole, isTrue e env whole = (do let v ← whole; standAt e.pos; holding [v] (truthy v)) := by
  intro whole
  cases e
  case UnaryOp op a pos => cases op <;> first | exact h.elim | rfl
  all_goals first | exact h.elim | rfl
theorem tRc {K : PySem.W.Frag} {ev ev' : Env → Option (RD × Env)} (h : ∀ env, ev env = ev' env) : ∀ σ H Q, tR K g ev σ H Q → tR K g ev' σ H Q := fun σ H Q q => by
  rw [← funext h]
  exact q
theorem tIc {K : PySem.W.Frag} {ev ev' : Env → Option (List D × Env)} (h : ∀ env, ev env = ev' env) : ∀ σ H Q, tI K g ev σ H Q → tI K g ev' σ H Q := fun σ H Q q => by
  rw [← funext h]
  exact q
theorem tDsc {K : PySem.W.Frag} {ev ev' : Env → Option (List D × Env)} (h : ∀ env, ev env = ev' env) : ∀ σ H Q, tDs K g ev σ H Q → tDs K g ev' σ H Q := fun σ H Q q => by
  rw [← funext h]
  exact q
theorem tPsc {K : PySem.W.Frag} {ev ev' : Env → Option (List PV × Env)} (h : ∀ env, ev env = ev' env) : ∀ σ H Q, tPs K g ev σ H Q → tPs K g ev' σ H Q := fun σ H Q q => by
  rw [← funext h]
  exact q
theorem evB_bool {C : Ctx} {isAnd : Bool} : ∀ {es : List E} {env env' : Env} {rd : RD}, evB C isAnd es env = some (rd, env') → ∃ b, rd = .old (.bl b)
  | [], _, _, _, h => by unfold evB at h; cases h
  | [e], _, _, _, h => by
    unfold evB at h
    obtain ⟨⟨d, e2⟩, h2, h⟩ := Option.bind_eq_some_iff.mp h
    cases d <;> first | cases h | skip
    exact ⟨_, rfl⟩
  | e :: f :: es, _, _, _, h => by
    unfold evB at h
    obtain ⟨⟨d, e2⟩, h2, h⟩ := Option.bind_eq_some_iff.mp h
    cases d <;> first | (cases h; done) | skip
    simp only at h
    split at h
    · exact evB_bool h
    · cases h
      exact ⟨_, rfl⟩
theorem evD_len {C : Ctx} : ∀ {es' : List E} {env env' : Env} {ds : List D}, evD C es' env = some (ds, env') → ds.length = es'.length
  | [], env, env', ds, h => by unfold evD at h; cases h; rfl
  | e' :: es', env, env', ds, h => by
    unfold evD at h
    obtain ⟨⟨d, e2⟩, h2, h⟩ := Option.bind_eq_some_iff.mp h
    obtain ⟨⟨ds', e3⟩, h3, h⟩ := Option.map_eq_some_iff.mp h
    cases h
    rw [List.length_cons, List.length_cons, evD_len h3]
theorem isTrueE_ok {e : E} (h : isTrueE e = true) : e = .cst (.bl true) := by
  unfold isTrueE at h
  split at h
  · rfl
  · cases h
theorem snd2 {X : Cx} {sc : Scope} {fn : Str → Bool} {e : Expr} {e' : E} (G : Good P k X N sc fn) (h0 : mE N sc e' e = true) (ht : ∀ whole, isTrue e X.env whole = (do let v ← whole; standAt e.pos; holding [v] (truthy v))) (r : PE X e (tR X.K g (evR (P.ctx k) e'))) :
    PE X e (tR X.K g (evR (P.ctx k) e')) ∧ (isIte e' = false → PT X e (tTst X.K g (testOf e' (evR (P.ctx k) e')))) := ⟨r, fun _ => snd_truth (snd_toP G h0 r) ht⟩
mutual
theorem sndE : ∀ (e' : E) (X : Cx) (sc : Scope) (fn : Str → Bool) (e : Expr), Good P k X N sc fn → mE N sc e' e = true →
    PE X e (tR X.K g (evR (P.ctx k) e')) ∧ (isIte e' = false → PT X e (tTst X.K g (testOf e' (evR (P.ctx k) e'))))
  | .var i, X, sc, fn, e, G, h => by
    have a := snd_var (g := g) (C := P.ctx k) G h
    obtain ⟨x, pos, rfl, _⟩ := mE_var h
    exact ⟨a, fun _ => snd_truth (snd_toP G h a) (plainT trivial _)⟩
  | .cst d, X, sc, fn, e, G, h => by
    have a := snd_cst (X := X) (g := g) (C := P.ctx k) h
    refine ⟨a, fun _ => snd_truth (snd_toP G h a) (plainT ?_ _)⟩
    cases d <;> (unfold mE at h; first | cases h | (split at h <;> first | trivial | cases h))
  | .glo x, X, sc, fn, e, G, h => by
    have a := snd_glo (g := g) G h
    refine ⟨a, fun _ => snd_truth (snd_toP G h a) (plainT ?_ _)⟩
    unfold mE at h
    split at h <;> first | trivial | cases h
  | .bin op a b, X, sc, fn, e, G, h => by
    have h0 := h
    unfold mE at h
    split at h
    · simp only [Bool.and_eq_true, decide_eq_true_eq] at h
      obtain ⟨⟨rfl, h1⟩, h2⟩ := h
      exact snd2 G h0 (plainT trivial _) (PEw (snd_bin (snd_toP G h1 (sndE a X sc fn _ G h1).1) (snd_toP G h2 (sndE b X sc fn _ G h2).1)) (tRc fun env => by unfold evR; rfl))
    · cases h
  | .neg a, X, sc, fn, e, G, h => by
    have h0 := h
    unfold mE at h
    split at h
    · exact snd2 G h0 (plainT trivial _) (PEw (snd_neg (snd_frz (sndE a X sc fn _ G h).1)) (tRc fun env => by unfold evR; rfl))
    · cases h
  | .cmp op a b, X, sc, fn, e, G, h => by
    unfold mE at h
    split at h
    · simp only [Bool.and_eq_true, decide_eq_true_eq] at h
      obtain ⟨⟨rfl, h1⟩, h2⟩ := h
      have pa := snd_toP G h1 (sndE a X sc fn _ G h1).1 (g := g)
      have pb := snd_toP G h2 (sndE b X sc fn _ G h2).1 (g := g)
      refine ⟨PEw (snd_cmp G.un (mE_plain h2) pa pb) (tRc fun env => by unfold evR; rfl), fun _ => PTw (snd_cmpT G.un (mE_plain h2) pa pb) fun σ H Q ⟨kp, F, env, b0, env', e1, R, q⟩ => ?_⟩
      obtain ⟨d, e2, e3⟩ := test_bool (fun i z => by cases z) e1
      unfold frz at e2
      obtain ⟨⟨rd, e4⟩, e5, e6⟩ := Option.map_eq_some_iff.mp e2
      cases e6
      unfold evR at e5
      obtain ⟨p, h3, e5⟩ := Option.bind_eq_some_iff.mp e5
      obtain ⟨p2, h4, e5⟩ := Option.bind_eq_some_iff.mp e5
      obtain ⟨x, h5, e5⟩ := Option.bind_eq_some_iff.mp e5
      obtain ⟨y, h6, e5⟩ := Option.bind_eq_some_iff.mp e5
      obtain ⟨z, h7, e5⟩ := Option.map_eq_some_iff.mp e5
      cases e5
      cases e3
      refine ⟨kp, F, env, b0, p2.2, ?_, R, q⟩
      simp only [h3, h4, h5, h6, h7, Option.bind_some, Option.map_some]
    · cases h
  | .chain op1 op2 a b c, X, sc, fn, e, G, h => by
    unfold mE at h
    split at h
    · simp only [Bool.and_eq_true, decide_eq_true_eq] at h
      obtain ⟨⟨⟨⟨rfl, rfl⟩, h1⟩, h2⟩, h3⟩ := h
      have pa := snd_toP G h1 (sndE a X sc fn _ G h1).1 (g := g)
      have pb := snd_frz (sndE b X sc fn _ G h2).1 (g := g)
      have pc := snd_toP G h3 (sndE c X sc fn _ G h3).1 (g := g)
      refine ⟨PEw (snd_chain G.un (mE_plain h3) pa pb pc) (tRc fun env => by unfold evR; rfl), fun _ => PTw (snd_chainT G.un (mE_plain h3) pa pb pc) fun σ H Q ⟨kp, F, env, b0, env', e1, R, q⟩ => ?_⟩
      obtain ⟨d, e2, e3⟩ := test_bool (fun i z => by cases z) e1
      unfold frz at e2
      obtain ⟨⟨rd, e4⟩, e5, e6⟩ := Option.map_eq_some_iff.mp e2
      cases e6
      unfold evR at e5
      obtain ⟨p, h3, e5⟩ := Option.bind_eq_some_iff.mp e5
      obtain ⟨p2, h4, e5⟩ := Option.bind_eq_some_iff.mp e5
      obtain ⟨x, h5, e5⟩ := Option.bind_eq_some_iff.mp e5
      obtain ⟨z, h6, e5⟩ := Option.bind_eq_some_iff.mp e5
      refine ⟨kp, F, env, b0, e4, ?_, R, q⟩
      simp only [h3, h4, h5, h6, Option.bind_some]
      cases z with
      | false => cases e5; cases e3; rfl
      | true =>
        have e5 : ((toP c (evR (P.ctx k) c) p2.2).bind fun r => (getP r.1 r.2).bind fun y => (cmpD op2 p2.1 y).map fun z' => (RD.old (.bl z'), r.2)) = some (rd, e4) := e5
        obtain ⟨r, h7, e5⟩ := Option.bind_eq_some_iff.mp e5
        obtain ⟨y, h8, e5⟩ := Option.bind_eq_some_iff.mp e5
        obtain ⟨z', h9, e5⟩ := Option.map_eq_some_iff.mp e5
        cases e5
        cases e3
        simp only [h7, h8, h9, Option.bind_some, Option.map_some, if_true]
    · cases h
  | .boo isAnd es', X, sc, fn, e, G, h => by
    unfold mE at h
    split at h
    · simp only [Bool.and_eq_true, decide_eq_true_eq, Bool.not_eq_true'] at h
      obtain ⟨⟨⟨rfl, h1⟩, h2⟩, h3⟩ := h
      obtain ⟨_, _, _, hb⟩ := sndEs es' X sc fn _ G h1
      obtain ⟨r1, r2⟩ := hb (fun z => by rw [z] at h2; simp at h2) h3 isAnd _
      refine ⟨PEw r1 (tRc fun env => by unfold evR; rfl), fun _ => PTw r2.pt fun σ H Q ⟨kp, F, env, b0, env', e1, R, q⟩ => ?_⟩
      obtain ⟨d, e2, e3⟩ := test_bool (fun i z => by cases z) e1
      unfold frz at e2
      obtain ⟨⟨rd, e4⟩, e5, e6⟩ := Option.map_eq_some_iff.mp e2
      cases e6
      unfold evR at e5
      have hbl := evB_bool e5
      obtain ⟨b1, rfl⟩ := hbl
      cases e3
      refine ⟨kp, F, env, b0, e4, ?_, R, q⟩
      unfold tBoo
      rw [e5]
      rfl
    · cases h
  | .nt a, X, sc, fn, e, G, h => by
    unfold mE at h
    split at h
    · simp only [Bool.and_eq_true, Bool.not_eq_true'] at h
      obtain ⟨r1, r2⟩ := sndE a X sc fn _ G h.1
      exact ⟨PEw (snd_nt (snd_toP G h.1 r1)) (tRc fun env => by unfold evR; rfl), fun _ => snd_ntT (r2 h.2)⟩
    · cases h
  | .ite c a b, X, sc, fn, e, G, h => by
    unfold mE at h
    split at h
    · simp only [Bool.and_eq_true, Bool.not_eq_true'] at h
      obtain ⟨⟨⟨h1, h2⟩, h3⟩, h4⟩ := h
      exact ⟨PEw (snd_ite ((sndE c X sc fn _ G h1).2 h4) (sndE a X sc fn _ G h2).1 (sndE b X sc fn _ G h3).1) (tRc fun env => by conv => lhs; unfold evR), fun z => by cases z⟩
    · cases h
  | .tup es', X, sc, fn, e, G, h => by
    have h0 := h
    unfold mE at h
    split at h
    · have hd := sndDs es' X sc fn _ G h
      exact snd2 G h0 (plainT trivial _) (PEw (snd_tup hd) (tRc fun env => by unfold evR; rfl))
    · cases h
  | .lst es', X, sc, fn, e, G, h => by
    have h0 := h
    unfold mE at h
    split at h
    · have hd := sndDs es' X sc fn _ G h
      exact snd2 G h0 (plainT trivial _) (PEw (snd_lst hd) (tRc fun env => by unfold evR; rfl))
    · cases h
  | .sub a i, X, sc, fn, e, G, h => by
    have h0 := h
    unfold mE at h
    split at h
    · simp only [Bool.and_eq_true] at h
      exact snd2 G h0 (plainT trivial _) (PEw (snd_sub G.un (mE_plain h.2) (snd_toP G h.1 (sndE a X sc fn _ G h.1).1) (snd_frz (sndE i X sc fn _ G h.2).1)) (tRc fun env => by unfold evR; rfl))
    · cases h
  | .sli a lo hi, X, sc, fn, e, G, h => by
    have h0 := h
    unfold mE at h
    split at h
    · simp only [Bool.and_eq_true] at h
      obtain ⟨⟨h1, h2⟩, h3⟩ := h
      rename_i a' lo' hi' p2 pos
      have pl : PO X lo' (tOp' X.K g (partOf lo (evR (P.ctx k) lo))) := snd_part (by
        cases lo' with
        | none => exact h2
        | some l =>
          have h2 : (mE N sc lo l && !isNon lo) = true := h2
          simp only [Bool.and_eq_true, Bool.not_eq_true'] at h2
          exact ⟨(sndE lo X sc fn l G h2.1).1, h2.2⟩)
      have ph : PO X hi' (tOp' X.K g (partOf hi (evR (P.ctx k) hi))) := snd_part (by
        cases hi' with
        | none => exact h3
        | some l =>
          have h3 : (mE N sc hi l && !isNon hi) = true := h3
          simp only [Bool.and_eq_true, Bool.not_eq_true'] at h3
          exact ⟨(sndE hi X sc fn l G h3.1).1, h3.2⟩)
      exact snd2 G h0 (plainT trivial _) (PEw (snd_sli (snd_toP G h1 (sndE a X sc fn _ G h1).1) pl ph) (tRc fun env => by unfold evR; rfl))
    · cases h
  | .rev a, X, sc, fn, e, G, h => by
    have h0 := h
    unfold mE at h
    split at h
    · exact snd2 G h0 (plainT trivial _) (PEw (snd_rev (snd_toP G h (sndE a X sc fn _ G h).1)) (tRc fun env => by unfold evR; rfl))
    · cases h
  | .star a, X, sc, fn, e, G, h => by unfold mE at h; cases h
  | .orV a b, X, sc, fn, e, G, h => by
    unfold mE at h
    split at h
    · simp only [Bool.and_eq_true] at h
      exact ⟨PEw (snd_orV (snd_frz (sndE a X sc fn _ G h.1).1) (sndE b X sc fn _ G h.2).1) (tRc fun env => by conv => lhs; unfold evR), fun z => by cases z⟩
    · cases h
  | .dst a k1 v1 k2 v2, X, sc, fn, e, G, h => by
    have h0 := h
    unfold mE at h
    split at h
    · simp only [Bool.and_eq_true] at h
      obtain ⟨⟨⟨⟨h1, h2⟩, h3⟩, h4⟩, h5⟩ := h
      exact snd2 G h0 (plainT trivial _) (PEw (snd_dst (snd_toP G h1 (sndE a X sc fn _ G h1).1) (snd_frz (sndE k1 X sc fn _ G h2).1) (snd_frz (sndE v1 X sc fn _ G h3).1) (snd_frz (sndE k2 X sc fn _ G h4).1) (snd_frz (sndE v2 X sc fn _ G h5).1)) (tRc fun env => by unfold evR; rfl))
    · cases h
  | .eqE a, X, sc, fn, e, G, h => by
    unfold mE at h
    split at h
    · have pa := snd_toP G h (sndE a X sc fn _ G h).1 (g := g)
      refine ⟨PEw (snd_eqE G.un pa) (tRc fun env => by unfold evR; rfl), fun _ => PTw (snd_eqET G.un pa) fun σ H Q ⟨kp, F, env, b0, env', e1, R, q⟩ => ?_⟩
      obtain ⟨d, e2, e3⟩ := test_bool (fun i z => by cases z) e1
      unfold frz at e2
      obtain ⟨⟨rd, e4⟩, e5, e6⟩ := Option.map_eq_some_iff.mp e2
      cases e6
      unfold evR at e5
      obtain ⟨p, h3, e5⟩ := Option.bind_eq_some_iff.mp e5
      obtain ⟨x, h5, e5⟩ := Option.bind_eq_some_iff.mp e5
      obtain ⟨z, h7, e5⟩ := Option.map_eq_some_iff.mp e5
      cases e5
      cases e3
      refine ⟨kp, F, env, b0, p.2, ?_, R, q⟩
      simp only [h3, h5, h7, Option.bind_some, Option.map_some]
    · cases h
  | .dnew t, X, sc, fn, e, G, h => by
    have h0 := h
    unfold mE at h
    split at h
    · refine snd2 G h0 (plainT trivial _) ?_
      cases t with
      | true =>
        refine PEw pe_dnewT fun σ H Q ⟨kp, F, env, rd, env', e1, R, q⟩ => ?_
        unfold evR at e1
        cases e1
        exact fun p hp => q F (.ref p) _ (Same.refl F) (R.newC (d := .dt [] []) hp ⟨[], rfl, rfl, .nil⟩).1 (R.newC (d := .dt [] []) hp ⟨[], rfl, rfl, .nil⟩).2
      | false =>
        refine PEw pe_dnewK fun σ H Q ⟨kp, F, env, rd, env', e1, R, q⟩ => ?_
        unfold evR at e1
        cases e1
        exact fun p hp => q F (.ref p) _ (Same.refl F) (R.newC (d := .dk [] []) hp ⟨[], rfl, rfl, .nil⟩).1 (R.newC (d := .dk [] []) hp ⟨[], rfl, rfl, .nil⟩).2
    · cases h
  | .mt m a es', X, sc, fn, e, G, h => by
    have h0 := h
    unfold mE at h
    split at h
    · rename_i a' nm apos vs cpos
      simp only [Bool.and_eq_true, decide_eq_true_eq] at h
      obtain ⟨⟨⟨⟨⟨h1, h2⟩, h3⟩, h4⟩, h5⟩, h6⟩ := h
      have pa := snd_toP G h2 (sndE a X sc fn _ G h2).1 (g := g)
      obtain ⟨_, hp, _⟩ := sndEs es' X sc fn _ G h4
      refine snd2 G h0 (plainT trivial _) ?_
      match es', vs, h4, h5, hp with
      | [b], [b'], h4, h5, hp =>
        have h4' := h4
        unfold mEs mEs at h4'
        simp only [Bool.and_true] at h4'
        exact PEw (snd_mt1 h1 h3 h6 (mE_plain h4') pa hp) (tRc fun env => by unfold evR; rfl)
      | [], _, _, h5, _ => cases h5
      | _ :: _ :: _, _, _, h5, _ => simp at h5
      | [_], [], h4, _, _ => unfold mEs at h4; cases h4
      | [_], _ :: _ :: _, h4, _, _ => unfold mEs mEs at h4; simp at h4
    · cases h
  | .dget a b c, X, sc, fn, e, G, h => by
    have h0 := h
    unfold mE at h
    split at h
    · simp only [Bool.and_eq_true, decide_eq_true_eq] at h
      obtain ⟨⟨⟨⟨⟨h1, h2⟩, h3⟩, h4⟩, h5⟩, h6⟩ := h
      exact snd2 G h0 (plainT trivial _) (PEw (snd_get G h1 h3 h6 (mE_plain h4) (mE_plain h5) (snd_toP G h2 (sndE a X sc fn _ G h2).1) (snd_frz (sndE b X sc fn _ G h4).1) (snd_frz (sndE c X sc fn _ G h5).1)) (tRc fun env => by unfold evR; rfl))
    · cases h
  | .callK f ks es', X, sc, fn, e, G, h => by
    have h0 := h
    unfold mE at h
    split at h
    · rename_i x p kws pos
      simp only [Bool.and_eq_true, decide_eq_true_eq, Bool.not_eq_true'] at h
      obtain ⟨⟨⟨⟨h1, h2⟩, h3⟩, h4⟩, h5⟩ := h
      obtain ⟨pk, a1, a2, a3⟩ := sndKs ks es' X sc fn _ G h4
      exact snd2 G h0 (plainT trivial _) (PEw (snd_callK (n := es'.length) G h1 h2 h3 (a1 pos X.env) (a2 pos X.env) (a3 pos X.env) (fun env ds env' hh => evD_len hh) pk) (tRc fun env => by unfold evR; rfl))
    · cases h
  | .make c es', X, sc, fn, e, G, h => by
    have h0 := h
    unfold mE at h
    split at h
    · rename_i x p vs pos
      simp only [Bool.and_eq_true, decide_eq_true_eq, Bool.not_eq_true'] at h
      obtain ⟨⟨⟨⟨h1, h2⟩, h3⟩, h4⟩, h5⟩ := h
      obtain ⟨hd, _⟩ := sndEs es' X sc fn _ G h4
      cases es' with
      | nil => cases h5
      | cons e1 es1 =>
        cases vs with
        | nil => unfold mEs at h4; cases h4
        | cons v vs =>
          have h4' := h4
          unfold mEs at h4'
          simp only [Bool.and_eq_true] at h4'
          exact snd2 G h0 (plainT trivial _) (PEw (snd_make G h1 h2 h3 (mE_plain h4'.1) (mEs_any h4'.2) hd) (tRc fun env => by unfold evR; rfl))
    · cases h
  | .attr c f a, X, sc, fn, e, G, h => by
    have h0 := h
    unfold mE at h
    split at h
    · simp only [Bool.and_eq_true, decide_eq_true_eq] at h
      obtain ⟨⟨h1, h2⟩, h3⟩ := h
      subst h1
      exact snd2 G h0 (plainT trivial _) (PEw (snd_attr G h3 (snd_toP G h2 (sndE a X sc fn _ G h2).1)) (tRc fun env => by unfold evR; rfl))
    · cases h
  | .isC a c, X, sc, fn, e, G, h => by
    have h0 := h
    unfold mE at h
    split at h
    · simp only [Bool.and_eq_true, decide_eq_true_eq] at h
      obtain ⟨⟨⟨⟨⟨h1, h2⟩, h3⟩, h4⟩, h5⟩, h6⟩ := h
      exact snd2 G h0 (plainT trivial _) (PEw (snd_isC G h1 h2 h3 h4 h5 (mE_plain h6) (snd_toP G h6 (sndE a X sc fn _ G h6).1)) (tRc fun env => by unfold evR; rfl))
    · cases h
  | .callO c a es', X, sc, fn, e, G, h => by
    have h0 := h
    unfold mE at h
    split at h
    · rename_i x p vs pos
      simp only [Bool.and_eq_true, Bool.not_eq_true'] at h
      obtain ⟨⟨⟨h1, h2⟩, h3⟩, h4⟩ := h
      have h1' : mE N sc a (.Name x p) = true := by
        cases a <;> first | (cases h4; done) | skip
        unfold mE at h1 ⊢
        exact h1
      obtain ⟨hd, _⟩ := sndEs es' X sc fn _ G h2
      cases es' with
      | nil => cases h3
      | cons e1 es1 =>
        cases vs with
        | nil => unfold mEs at h2; cases h2
        | cons v vs =>
          have h2' := h2
          unfold mEs at h2'
          simp only [Bool.and_eq_true] at h2'
          exact snd2 G h0 (plainT trivial _) (PEw (snd_callO G (mE_plain h2'.1) (mEs_any h2'.2) rfl (snd_frz (sndE a X sc fn _ G h1').1) hd) (tRc fun env => by unfold evR; rfl))
    · cases h
  | .prop c nm a, X, sc, fn, e, G, h => by
    have h0 := h
    unfold mE at h
    split at h
    · simp only [Bool.and_eq_true, decide_eq_true_eq] at h
      obtain ⟨⟨h1, h2⟩, h3⟩ := h
      subst h1
      exact snd2 G h0 (plainT trivial _) (PEw (snd_prop G h3 (snd_frz (sndE a X sc fn _ G h2).1)) (tRc fun env => by unfold evR; rfl))
    · cases h
  | .lc2 own own2 elt tg it tg2 it2 cnd, X, sc, fn, e, G, h => by
    have h0 := h
    unfold mE at h
    split at h
    · simp only [Bool.and_eq_true, decide_eq_true_eq] at h
      obtain ⟨⟨⟨⟨⟨⟨⟨⟨⟨⟨⟨⟨h1, h1'⟩, h2⟩, h3⟩, h4⟩, h5⟩, h6⟩, h7⟩, h8⟩, h9⟩, h10⟩, h11⟩, h12⟩ := h
      subst h1 h1'
      rename_i elt' tg' iter' tg2' iter2' ifs' scope pos
      have hk := blkC_kind h2
      have ok : BlkOk X.N X.env.scope scope (ownN N own) := by rw [G.hN, G.hsc]; exact blkOk_by h2
      have hsub : ∀ j ∈ slotsT tg, j ∈ own := fun j hj => by
        have := List.all_eq_true.mp h4 j hj
        simpa using this
      have hsub2 : ∀ j ∈ slotsT tg2, j ∈ own2 := fun j hj => by
        have := List.all_eq_true.mp h7 j hj
        simpa using this
      have hown : ∀ j ∈ own2, j ∈ own := fun j hj => by
        have := List.all_eq_true.mp h8 j hj
        simpa using this
      have r : PE X (.ListComp elt' [⟨tg', iter', [], 0⟩, ⟨tg2', iter2', ifs', 0⟩] scope pos) (tR X.K g (evR (P.ctx k) (.lc2 own own2 elt tg it tg2 it2 cnd))) := by
        cases ifs' with
        | nil =>
          have h12 : isTrueE cnd = true := h12
          have hc := isTrueE_ok h12
          subst hc
          refine PEw (pe_lc2 (wi1 := tI X.K g (evI (P.ctx k) it2)) (g := tgT X.K g tg) (g1 := tgT X.K g tg2) (te := tD X.K g (frz (evR (P.ctx k) elt))) (vs1 := own2) G.calm (by rw [G.hN]; exact G.nd) (sndI it X sc fn tg' iter' G h9) ok (by rw [ownN_snd]; exact hown) (fun s H C cl fp => sndT (G.blk hk s H C cl fp) tg tg' h3) (fun _ _ _ _ _ => pts_nil)
            (fun s H C cl fp => sndI it2 _ _ _ tg2' iter2' (G.blk hk s H C cl fp) h10) (fun s H C cl fp => sndT (G.blk hk s H C cl fp) tg2 tg2' h6) (fun _ _ _ _ _ => pts_nil)
            (fun s H C cl fp => snd_frz (sndE elt _ _ _ elt' (G.blk hk s H C cl fp) h11).1) (mI_fold h9 _) (fun env => mI_fold h10 env)) fun σ H Q q => ?_
          rw [ownN_snd]
          exact snd_lc2W hsub hsub2 hown pv_true σ H Q q
        | cons c rest =>
          cases rest with
          | cons _ _ => cases h12
          | nil =>
            have h12 : (mE N (relS scope sc) cnd c && !isIte cnd) = true := h12
            simp only [Bool.and_eq_true, Bool.not_eq_true'] at h12
            refine PEw (pe_lc2 (wi1 := tI X.K g (evI (P.ctx k) it2)) (g := tgT X.K g tg) (g1 := tgT X.K g tg2) (tt1 := tTst X.K g (testOf cnd (evR (P.ctx k) cnd))) (te := tD X.K g (frz (evR (P.ctx k) elt))) (vs1 := own2) G.calm (by rw [G.hN]; exact G.nd) (sndI it X sc fn tg' iter' G h9) ok (by rw [ownN_snd]; exact hown) (fun s H C cl fp => sndT (G.blk hk s H C cl fp) tg tg' h3) (fun _ _ _ _ _ => pts_nil)
              (fun s H C cl fp => sndI it2 _ _ _ tg2' iter2' (G.blk hk s H C cl fp) h10) (fun s H C cl fp => sndT (G.blk hk s H C cl fp) tg2 tg2' h6) (fun s H C cl fp => pts_one ((sndE cnd _ _ _ c (G.blk hk s H C cl fp) h12.1).2 h12.2))
              (fun s H C cl fp => snd_frz (sndE elt _ _ _ elt' (G.blk hk s H C cl fp) h11).1) (mI_fold h9 _) (fun env => mI_fold h10 env)) fun σ H Q q => ?_
            rw [ownN_snd]
            exact snd_lc2W hsub hsub2 hown (fun _ _ _ z => z) σ H Q q
      exact ⟨r, fun _ => snd_truth (snd_toP G h0 r) (plainT trivial _)⟩
    · cases h
  | .call f es', X, sc, fn, e, G, h => by
    have h0 := h
    unfold mE at h
    split at h
    · simp only [Bool.and_eq_true, decide_eq_true_eq] at h
      obtain ⟨⟨⟨h1, h2⟩, h3⟩, h4⟩ := h
      obtain ⟨_, _, ha, _⟩ := sndEs es' X sc fn _ G h4
      refine snd2 G h0 (plainT trivial _) ?_
      · cases hms : P.modes f with
        | none =>
          refine ⟨fun pins s σ H Q I ⟨kp, F, env, rd, env', e1, R, q⟩ => ?_⟩
          unfold evR at e1
          have z : (P.ctx k).modes f = none := hms
          rw [z] at e1
          cases e1
        | some ms => exact snd_call G h1 h2 h3 hms h4 (ha ms)
    · cases h
  | .bi b es', X, sc, fn, e, G, h => by
    have h0 := h
    unfold mE at h
    split at h
    · rename_i x p vs pos
      simp only [Bool.and_eq_true, decide_eq_true_eq, Bool.not_eq_true'] at h
      obtain ⟨⟨⟨h1, h2⟩, h3⟩, h4⟩ := h
      obtain ⟨_, hp, _⟩ := sndEs es' X sc fn _ G h3
      cases es' with
      | nil => cases h4
      | cons e1 es1 =>
        cases vs with
        | nil => unfold mEs at h3; cases h3
        | cons v vs =>
          have h3' := h3
          unfold mEs at h3'
          simp only [Bool.and_eq_true] at h3'
          exact snd2 G h0 (plainT trivial _) (PEw (snd_bi G h1 h2 (mE_plain h3'.1) (mEs_any h3'.2) hp) (tRc fun env => by unfold evR; rfl))
    · cases h
  | .lrng ty es', X, sc, fn, e, G, h => by
    have h0 := h
    unfold mE at h
    split at h
    · simp only [Bool.and_eq_true, decide_eq_true_eq] at h
      obtain ⟨⟨⟨⟨⟨⟨h1, h2⟩, h3⟩, h4⟩, h5⟩, h6⟩, h7⟩ := h
      have each := sndEach es' X sc fn G
      exact snd2 G h0 (plainT trivial _) (snd_lrng G h1 h2 h3 h4 h5 h6 h7 fun e' e hm he => each e' he e hm)
    · cases h
  | .isi a ty, X, sc, fn, e, G, h => by
    have h0 := h
    unfold mE at h
    split at h
    · simp only [Bool.and_eq_true, decide_eq_true_eq] at h
      obtain ⟨⟨⟨⟨h1, h2⟩, h3⟩, h4⟩, h5⟩ := h
      exact snd2 G h0 (plainT trivial _) (PEw (snd_isi G h1 h2 h3 h4 (mE_plain h5) (snd_toP G h5 (sndE a X sc fn _ G h5).1)) (tRc fun env => by unfold evR; rfl))
    · cases h
  | .popAt i a, X, sc, fn, e, G, h => by
    have h0 := h
    unfold mE at h
    split at h
    · simp only [Bool.and_eq_true, decide_eq_true_eq] at h
      obtain ⟨⟨⟨⟨⟨h1, h2⟩, h3⟩, h4⟩, h5⟩, h6⟩ := h
      exact snd2 G h0 (plainT trivial _) (PEw (snd_popAt G h1 h2 h3 h4 (mE_plain h5) h6 (snd_frz (sndE a X sc fn _ G h5).1)) (tRc fun env => by unfold evR; rfl))
    · cases h
  | .lc own elt tg it cnd, X, sc, fn, e, G, h => by
    have h0 := h
    unfold mE at h
    split at h
    · simp only [Bool.and_eq_true, decide_eq_true_eq] at h
      obtain ⟨⟨⟨⟨⟨⟨⟨h1, h2⟩, h3⟩, h4⟩, h5⟩, h6⟩, h7⟩, h8⟩ := h
      subst h1
      rename_i elt' tg' iter' ifs' scope pos
      have hk := blkC_kind h2
      have ok : BlkOk X.N X.env.scope scope (ownN N own) := by rw [G.hN, G.hsc]; exact blkOk_by h2
      have hsub : ∀ j ∈ slotsT tg, j ∈ own := fun j hj => by
        have := List.all_eq_true.mp h4 j hj
        simpa using this
      have r : PE X (.ListComp elt' [⟨tg', iter', ifs', 0⟩] scope pos) (tR X.K g (evR (P.ctx k) (.lc own elt tg it cnd))) := by
        cases ifs' with
        | nil =>
          have h8 : isTrueE cnd = true := h8
          have hc := isTrueE_ok h8
          subst hc
          refine PEw (pe_lc (g := tgT X.K g tg) (te := tD X.K g (frz (evR (P.ctx k) elt))) G.calm (by rw [G.hN]; exact G.nd) (sndI it X sc fn tg' iter' G h6) ok (fun s H C cl fp => sndT (G.blk hk s H C cl fp) tg tg' h3) (fun _ _ _ _ _ => pts_nil)
            (fun s H C cl fp => snd_frz (sndE elt _ _ _ elt' (G.blk hk s H C cl fp) h7).1) (mI_fold h6 _)) fun σ H Q q => ?_
          rw [ownN_snd]
          exact snd_lcW hsub pv_true σ H Q q
        | cons c rest =>
          cases rest with
          | cons _ _ => cases h8
          | nil =>
            have h8 : (mE N (relS scope sc) cnd c && !isIte cnd) = true := h8
            simp only [Bool.and_eq_true, Bool.not_eq_true'] at h8
            refine PEw (pe_lc (g := tgT X.K g tg) (tt := tTst X.K g (testOf cnd (evR (P.ctx k) cnd))) (te := tD X.K g (frz (evR (P.ctx k) elt))) G.calm (by rw [G.hN]; exact G.nd) (sndI it X sc fn tg' iter' G h6) ok (fun s H C cl fp => sndT (G.blk hk s H C cl fp) tg tg' h3) (fun s H C cl fp => pts_one ((sndE cnd _ _ _ c (G.blk hk s H C cl fp) h8.1).2 h8.2))
              (fun s H C cl fp => snd_frz (sndE elt _ _ _ elt' (G.blk hk s H C cl fp) h7).1) (mI_fold h6 _)) fun σ H Q q => ?_
            rw [ownN_snd]
            exact snd_lcW hsub (fun _ _ _ z => z) σ H Q q
      exact ⟨r, fun _ => snd_truth (snd_toP G h0 r) (plainT trivial _)⟩
    · cases h
theorem sndEs : ∀ (es' : List E) (X : Cx) (sc : Scope) (fn : Str → Bool) (es : List Expr), Good P k X N sc fn → mEs N sc es' es = true → LstOk P k g X es' es
  | [], X, sc, fn, es, G, h => by
    cases es with
    | cons _ _ => unfold mEs at h; cases h
    | nil =>
      refine ⟨PAw snd_nilD (tDsc fun env => by conv => lhs; unfold evD), PAw snd_nilP (tPsc fun env => by conv => lhs; unfold evPs), fun ms => PAw (snd_nilP (g := g)) fun σ H Q ⟨kp, F, env, a, env', e1, R, q⟩ => ?_, fun z => absurd rfl z⟩
      cases ms with
      | nil => unfold evA at e1; exact ⟨kp, F, env, a, env', e1, R, q⟩
      | cons m ms => cases m <;> (unfold evA at e1; cases e1)
  | e' :: es', X, sc, fn, es, G, h => by
    cases es with
    | nil => unfold mEs at h; cases h
    | cons e es =>
      unfold mEs at h
      simp only [Bool.and_eq_true] at h
      obtain ⟨r1, r2⟩ := sndE e' X sc fn e G h.1
      obtain ⟨a1, a2, a3, a4⟩ := sndEs es' X sc fn es G h.2
      have pl := mE_plain h.1
      refine ⟨PAw (snd_consD pl (snd_frz r1) a1) (tDsc fun env => by conv => lhs; unfold evD), PAw (snd_consP pl (snd_toP G h.1 r1) a2) (tPsc fun env => by conv => lhs; unfold evPs), fun ms => ?_, fun _ hi isAnd pos => ?_⟩
      · cases ms with
        | nil =>
          refine ⟨fun pos pins s σ H Q I ⟨kp, F, env, a, env', e1, R, q⟩ => ?_⟩
          unfold evA at e1
          cases e1
        | cons m ms =>
          cases m with
          | false =>
            refine PAw (snd_consP pl (tPd (snd_frz r1)) (a3 ms)) fun σ H Q ⟨kp, F, env, a, env', e1, R, q⟩ => ?_
            refine ⟨kp, F, env, a, env', ?_, R, q⟩
            unfold evA at e1
            rw [← e1]
            simp only
            cases frz (evR (P.ctx k) e') env with
            | none => rfl
            | some x => rfl
          | true =>
            by_cases hv : ∃ i, e' = .var i
            · obtain ⟨i, rfl⟩ := hv
              refine PAw (snd_consP pl (snd_toP G h.1 r1) (a3 ms)) fun σ H Q ⟨kp, F, env, a, env', e1, R, q⟩ => ?_
              refine ⟨kp, F, env, a, env', ?_, R, q⟩
              unfold evA at e1
              unfold toP
              simp only
              split at e1
              · rename_i hs
                rw [if_pos hs]
                exact e1
              · cases e1
            · refine ⟨fun pos pins s σ H Q I ⟨kp, F, env, a, env', e1, R, q⟩ => ?_⟩
              cases e' <;> first | exact absurd ⟨_, rfl⟩ hv | (unfold evA at e1; cases e1)
      · simp only [List.any_cons, Bool.or_eq_false_iff] at hi
        cases es' with
        | nil =>
          cases es with
          | cons _ _ => have h := h.2; unfold mEs at h; cases h
          | nil => exact ⟨snd_boo1 r1, snd_booT1 (r2 hi.1)⟩
        | cons f' es'' =>
          cases es with
          | nil => have h := h.2; unfold mEs at h; cases h
          | cons f es2 =>
            obtain ⟨b1, b2⟩ := a4 (fun z => by cases z) hi.2 isAnd pos
            exact ⟨snd_boo2 r1 b1, snd_booT2 (r2 hi.1) b2⟩
theorem sndDs : ∀ (es' : List E) (X : Cx) (sc : Scope) (fn : Str → Bool) (es : List Expr), Good P k X N sc fn → mDs N sc es' es = true → PA X es (tDs X.K g (evS (P.ctx k) es'))
  | [], X, sc, fn, es, G, h => by
    cases es with
    | cons _ _ => unfold mDs at h; cases h
    | nil => exact PAw snd_nilD (tDsc fun env => by conv => lhs; unfold evS)
  | e' :: es', X, sc, fn, es, G, h => by
    cases es with
    | nil => unfold mDs at h; cases e' <;> cases h
    | cons e es =>
      by_cases hs : ∃ a, e' = .star a
      · obtain ⟨a, rfl⟩ := hs
        cases e
        case Starred x p =>
          have h : (mE N sc a x && mDs N sc es' es) = true := by
            unfold mDs at h
            exact h
          simp only [Bool.and_eq_true] at h
          exact PAw (snd_starS (snd_frz (sndE a X sc fn _ G h.1).1) (sndDs es' X sc fn es G h.2)) (tDsc fun env => by conv => lhs; unfold evS)
        all_goals
          unfold mDs at h
          simp only [Bool.and_eq_true] at h
          have h := h.1
          unfold mE at h
          cases h
      · have hm : mE N sc e' e = true ∧ mDs N sc es' es = true := by
          unfold mDs at h
          cases e' <;> first | exact absurd ⟨_, rfl⟩ hs | (simp only [Bool.and_eq_true] at h; exact h)
        refine PAw (snd_consD (mE_plain hm.1) (snd_frz (sndE e' X sc fn e G hm.1).1) (sndDs es' X sc fn es G hm.2)) (tDsc fun env => ?_)
        conv => lhs; unfold evS
        cases e' <;> first | exact absurd ⟨_, rfl⟩ hs | rfl
theorem sndKs : ∀ (ks : List Str) (es' : List E) (X : Cx) (sc : Scope) (fn : Str → Bool) (kws : List Keyword), Good P k X N sc fn → mKs N sc ks es' kws = true → PK X kws (tDs X.K g (evD (P.ctx k) es')) ∧
    (∀ pos env, (backToKw pos (keywordEach kws env)).all (·.1.isSome) = true) ∧ (∀ pos env, (backToKw pos (keywordEach kws env)).filterMap (·.1) = ks) ∧ ∀ pos env, (backToKw pos (keywordEach kws env)).any (·.1.isNone) = false
  | [], [], X, sc, fn, [], G, h => ⟨PKw snd_kNil (tDsc fun env => by conv => lhs; unfold evD), fun _ _ => rfl, fun _ _ => rfl, fun _ _ => rfl⟩
  | n :: ks, e' :: es', X, sc, fn, ⟨some m, e, kp⟩ :: kws, G, h => by
    unfold mKs at h
    simp only [Bool.and_eq_true, decide_eq_true_eq] at h
    obtain ⟨⟨rfl, h1⟩, h2⟩ := h
    obtain ⟨a1, a2, a3, a4⟩ := sndKs ks es' X sc fn kws G h2
    refine ⟨PKw (snd_kCons (snd_frz (sndE e' X sc fn e G h1).1) a1) (tDsc fun env => by conv => lhs; unfold evD), fun pos env => ?_, fun pos env => ?_, fun pos env => ?_⟩
    · show (true && (backToKw pos (keywordEach kws env)).all (·.1.isSome)) = true
      rw [a2]
      rfl
    · show n :: (backToKw pos (keywordEach kws env)).filterMap (·.1) = _
      rw [a3]
    · show (false || (backToKw pos (keywordEach kws env)).any (·.1.isNone)) = false
      rw [a4]
      rfl
  | [], _ :: _, X, sc, fn, _, G, h => by unfold mKs at h; cases h
  | [], [], X, sc, fn, _ :: _, G, h => by unfold mKs at h; cases h
  | _ :: _, [], X, sc, fn, _, G, h => by unfold mKs at h; cases h
  | _ :: _, _ :: _, X, sc, fn, [], G, h => by unfold mKs at h; cases h
  | _ :: _, _ :: _, X, sc, fn, ⟨none, _, _⟩ :: _, G, h => by unfold mKs at h; cases h
theorem sndEach : ∀ (es' : List E) (X : Cx) (sc : Scope) (fn : Str → Bool), Good P k X N sc fn → ∀ e' ∈ es', ∀ e, mE N sc e' e = true → PE X e (tR X.K g (evR (P.ctx k) e'))
  | [], X, sc, fn, G, e', he, _, _ => by cases he
  | a :: es', X, sc, fn, G, e', he, e, hm => by
    rcases List.mem_cons.mp he with z | z
    · rw [z] at hm ⊢
      exact (sndE a X sc fn e G hm).1
    · exact sndEach es' X sc fn G e' z e hm
theorem sndI : ∀ (it : I) (X : Cx) (sc : Scope) (fn : Str → Bool) (tg e : Expr), Good P k X N sc fn → mI N sc it tg e = true → PI X tg e (tI X.K g (evI (P.ctx k) it))
  | .seq a, X, sc, fn, tg, e, G, h => by
    unfold mI at h
    exact PIw (snd_iseq (snd_frz (sndE a X sc fn e G h).1)) (tIc fun env => by unfold evI; rfl)
  | .rng es', X, sc, fn, tg, e, G, h => by
    unfold mI at h
    split at h
    · simp only [Bool.and_eq_true, decide_eq_true_eq] at h
      obtain ⟨⟨⟨h1, h2⟩, h3⟩, h4⟩ := h
      obtain ⟨hd, _⟩ := sndEs es' X sc fn _ G h3
      exact PIw (snd_irng G h1 h2 h3 h4 hd) (tIc fun env => by unfold evI; rfl)
    · cases h
  | .enum a, X, sc, fn, tg, e, G, h => by
    unfold mI at h
    split at h
    · simp only [Bool.and_eq_true, decide_eq_true_eq] at h
      obtain ⟨⟨⟨h1, h2⟩, h3⟩, h4⟩ := h
      cases tg <;> first | cases h1 | skip
      exact PIw (snd_ienum G h2 h3 (mE_plain h4) (snd_frz (sndE a X sc fn _ G h4).1)) (tIc fun env => by unfold evI; rfl)
    · cases h
  | .chars a, X, sc, fn, tg, e, G, h => by
    unfold mI at h
    exact PIw (snd_ichars (snd_frz (sndE a X sc fn e G h).1)) (tIc fun env => by unfold evI; rfl)
  | .zip a b, X, sc, fn, tg, e, G, h => by
    unfold mI at h
    split at h
    · simp only [Bool.and_eq_true, decide_eq_true_eq] at h
      obtain ⟨⟨⟨⟨h1, h2⟩, h3⟩, h4⟩, h5⟩ := h
      cases tg <;> first | cases h1 | skip
      exact PIw (snd_izip G h2 h3 (mE_plain h4) (mE_plain h5) (snd_frz (sndE a X sc fn _ G h4).1) (snd_frz (sndE b X sc fn _ G h5).1)) (tIc fun env => by unfold evI; rfl)
    · cases h
end
end
end MI

namespace MI
open PySem PySem.Spec PyProof.Rows L2
/-! ### statements: readings -/
def RetOk (K : PySem.W.Frag) (g : Gh) (F H : Hp) (r : RD) (v : V) : Prop := match r with
  | .old d => Rp K F d v
  | .new d => ∃ p x, v = .ref p ∧ F p = none ∧ g.H0 p = none ∧ H p = some x ∧ Cont K F p d x
def OutP (K : PySem.W.Frag) (g : Gh) (kp F : Hp) (D : Ends) : Out → Prop
  | .nx e => ∀ F' σ' H', Same F F' → Rel K g kp F' e σ' H' → D.nx σ' H'
  | .bk e => ∀ F' σ' H', Same F F' → Rel K g kp F' e σ' H' → D.bk σ' H'
  | .ct e => ∀ F' σ' H', Same F F' → Rel K g kp F' e σ' H' → D.ct σ' H'
  | .rt r e => ∀ F' σ' v H', Same F F' → Rel K g kp F' e σ' H' → RetOk K g F' H' r v → D.rt v H'
def tS (K : PySem.W.Frag) (g : Gh) (ex : Env → Option Out) : TS := fun D σ H => ∃ kp F env o, ex env = some o ∧ Rel K g kp F env σ H ∧ OutP K g kp F D o
section
variable {K : PySem.W.Frag} {g : Gh} {kp F : Hp} {env : Env} {σ : L2.St} {H : Hp} {Ds : Ends}
theorem OutP.mono {F' : Hp} (s : Same F F') : ∀ {o : Out}, OutP K g kp F Ds o → OutP K g kp F' Ds o
  | .nx e, h => fun F2 σ' H' s2 R => h F2 σ' H' (s.trans s2) R
  | .bk e, h => fun F2 σ' H' s2 R => h F2 σ' H' (s.trans s2) R
  | .ct e, h => fun F2 σ' H' s2 R => h F2 σ' H' (s.trans s2) R
  | .rt r e, h => fun F2 σ' v H' s2 R po => h F2 σ' v H' (s.trans s2) R po
theorem PostR.ret {r : RD} {v : V} (h : PostR K g kp F env σ H r v) : RetOk K g F H r v := by
  cases r with
  | old d => exact h
  | new ds =>
    obtain ⟨p, vs, e, f1, h0, _, hp, rl, _⟩ := h
    exact ⟨p, vs, e, f1, h0, hp, rl⟩
theorem PostR.newX {r : RD} {v : V} {p : Addr} {o : HO} (h : PostR K g kp F env σ H r v) (hp : H p = none) : PostR K g kp F env σ (upd H p o) r v := by
  cases r with
  | old d => exact h
  | new ds =>
    obtain ⟨q, vs, e, f1, h0, hk, hq, rl, no⟩ := h
    exact ⟨q, vs, e, f1, h0, hk, by rw [upd_ne (ne_of_none hq hp)]; exact hq, rl, no⟩
theorem Owns.of_set {i : Nat} {s : Sl} {v : V} {q : Addr} (hs : i < σ.length) (o : Owns (env.set i s) (σ.set i (some v)) q) : (v = .ref q ∧ isMut s = true ∧ i < env.length) ∨ Owns env σ q := by
  obtain ⟨j, t, e, m, es⟩ := o
  by_cases hj : i = j
  · subst hj
    have hi : i < env.length := by
      have := (List.getElem?_eq_some_iff.mp e).1
      rwa [List.length_set] at this
    rw [get_set_self hs] at es
    rw [get_set_self hi] at e
    cases es
    cases e
    exact .inl ⟨rfl, m, hi⟩
  · rw [get_set_ne hj] at e es
    exact .inr ⟨j, t, e, m, es⟩
/-- two results side by side -/
theorem Rel.set2 (R : Rel K g kp F env σ H) {i j : Nat} {r1 r2 : RD} {v1 v2 : V} (hi : i < env.length) (hj : j < (env.set i (slOf r1)).length) (p1 : PostR K g kp F env σ H r1 v1) (p2 : PostR K g kp F env σ H r2 v2)
    (ne : ∀ p q ds es, r1 = .new ds → r2 = .new es → v1 = .ref p → v2 = .ref q → q ≠ p) : Rel K g kp F ((env.set i (slOf r1)).set j (slOf r2)) ((σ.set i (some v1)).set j (some v2)) H := by
  refine (R.set hi p1).set hj ?_
  cases r2 with
  | old d => exact p2
  | new es =>
    obtain ⟨q, vs, e, f1, h0, hk, hq, rl, no⟩ := p2
    refine ⟨q, vs, e, f1, h0, hk, hq, rl, fun w => ?_⟩
    rcases w.of_set (by rw [← R.len]; exact hi) with ⟨a, b, _⟩ | w
    · cases r1 with
      | old d => cases b
      | new ds => exact ne q q ds es rfl rfl a e rfl
    · exact no w
end
section
variable {X : Cx} {g : Gh} {P : Prg} {k : Nat} {N : List Str} {sc : Scope} {fn : Str → Bool} {pos : Pos}
theorem tSc {K : PySem.W.Frag} {ex ex' : Env → Option Out} (h : ∀ env, ex env = ex' env) : ∀ D σ H, tS K g ex D σ H → tS K g ex' D σ H := fun D σ H q => by
  have : ex = ex' := funext h
  rw [← this]
  exact q
theorem snd_ret {e : Expr} {ev : Env → Option (RD × Env)} (h : PE X e (tR X.K g ev)) : PS X (.Return (some e) pos) (tS X.K g fun env => (ev env).map fun x => .rt x.1 x.2) :=
  PSw (ps_ret h) fun D σ H ⟨kp, F, env, o, e1, R, q⟩ => by
    obtain ⟨⟨rd, e2⟩, h2, e3⟩ := Option.map_eq_some_iff.mp e1
    cases e3
    exact ⟨kp, F, env, rd, e2, h2, R, fun F' v H' s1 R1 po => q F' σ v H' s1 R1 po.ret⟩
theorem snd_retV (G : Good P k X N sc fn) {i : Nat} {e : Expr} (hm : mE N sc (.var i) e = true) : PS X (.Return (some e) pos) (tS X.K g fun env => match env[i]? with
        | some (.own xs) => some (.rt (.new xs) env)
        | some (.val d) => some (.rt (.old d) env)
        | _ => none) := by
  obtain ⟨x, pos, rfl, h1, h2, h3⟩ := mE_var hm
  refine PSw (ps_ret (G.var h1 h2 h3)) fun D σ H ⟨kp, F, env, o, e1, R, q⟩ => ?_
  simp only at e1
  split at e1
  · rename_i xs hx
    cases e1
    obtain ⟨p, vs, es, f1, h0, hp, rl⟩ := R.sl i _ hx
    exact ⟨.ref p, es, q F σ (.ref p) H (Same.refl F) R ⟨p, vs, rfl, f1, h0, hp, rl⟩⟩
  · rename_i d hx
    cases e1
    obtain ⟨v, es, rp⟩ := R.sl i _ hx
    exact ⟨v, es, q F σ v H (Same.refl F) R rp⟩
  · cases e1
theorem snd_retN {e : E} {C : Ctx} (h : isNon e = true) : PS X (.Return none pos) (tS X.K g fun env => (evR C e env).map fun x => .rt x.1 x.2) :=
  PSw ps_retN fun D σ H ⟨kp, F, env, o, e1, R, q⟩ => by
    have he : e = .cst .non := by
      unfold isNon at h
      split at h
      · rfl
      · cases h
    subst he
    unfold evR at e1
    cases e1
    exact q F σ .non H (Same.refl F) R (show Rp X.K F .non .non from rp_non)
theorem snd_asg (G : Good P k X N sc fn) {i : Nat} {x : Str} {px : Pos} {e : Expr} {ev : Env → Option (RD × Env)} (h1 : isAt N i x = true) (h2 : locB sc fn x = true) (hs : swapsWith e (some (.Name x px)) pos.line X.env = pure false) (h : PE X e (tR X.K g ev)) :
    PS X (.Assign [.Name x px] e pos) (tS X.K g fun env => (ev env).bind fun x => if i < x.2.length then some (.nx (x.2.set i (slOf x.1))) else none) := by
  obtain ⟨l1, l2⟩ := locB_ok h2
  refine PSw (ps_set (by rw [G.hN]; exact G.nd) (by rw [G.hN]; exact isAt_ok h1) (by rw [G.hsc]; exact l1) h hs (by rw [G.hfn, G.hsc]; exact l2)) fun D σ H ⟨kp, F, env, o, e1, R, q⟩ => ?_
  obtain ⟨⟨rd, e2⟩, h2, e3⟩ := Option.bind_eq_some_iff.mp e1
  simp only at e3
  split at e3
  · rename_i hl
    cases e3
    exact ⟨kp, F, env, rd, e2, h2, R, fun F' v H' s1 R1 po => q F' _ H' s1 (R1.set hl po)⟩
  · cases e3
theorem sw_no {e : Expr} {t : Option Expr} {l : Nat} {env : PySem.Env} (h : isLcX e = false) (hp : plainX e = true) : swapsWith e t l env = pure false := by
  cases e <;> first | rfl | (cases hp; done) | (cases h; done)
theorem snd_asgT (G : Good P k X N sc fn) {t : T} {es : List Expr} {k0 : Nat} {p0 : Pos} {e : Expr} {ev : Env → Option (D × Env)} (ht : mT N sc fn t (.Tuple es k0 p0) = true) (h : PE X e (tD X.K g ev)) (hl : isLcX e = false) (hp : plainX e = true) (hT : isTupX e = false) :
    PS X (.Assign [.Tuple es k0 p0] e pos) (tS X.K g fun env => (ev env).bind fun x => (bindT t x.1 x.2).map .nx) := by
  refine PSw (ps_asg h (sndT (g := g) G t _ ht) (by unfold swapsWithSole; exact sw_no hl hp) ?_ rfl) fun D σ H ⟨kp, F, env, o, e1, R, q⟩ => ?_
  · cases e <;> first | rfl | cases hT
  · obtain ⟨⟨d, e2⟩, h2, e3⟩ := Option.bind_eq_some_iff.mp e1
    obtain ⟨e4, h4, e5⟩ := Option.map_eq_some_iff.mp e3
    cases e5
    exact ⟨kp, F, env, d, e2, h2, R, fun F' v H' s1 R1 po => ⟨kp, F', e2, d, e4, h4, R1, po, fun σ' R2 _ _ => q F' σ' H' s1 R2⟩⟩
theorem snd_expr {e : Expr} {ev : Env → Option (RD × Env)} (h : PE X e (tR X.K g ev)) (hl : isLcX e = false) (hp : plainX e = true) : PS X (.Expr e pos) (tS X.K g fun env => (ev env).map fun x => .nx x.2) :=
  PSw (ps_expr h (sw_no hl hp)) fun D σ H ⟨kp, F, env, o, e1, R, q⟩ => by
    obtain ⟨⟨rd, e2⟩, h2, e3⟩ := Option.map_eq_some_iff.mp e1
    cases e3
    exact ⟨kp, F, env, rd, e2, h2, R, fun F' v H' s1 R1 po => q F' σ H' s1 R1⟩
theorem snd_if {c : Expr} {a b : List Stmt} {tc : Env → Option (Bool × Env)} {xa xb : Env → Option Out} (hc : PT X c (tTst X.K g tc)) (ha : PSs X a (tS X.K g xa)) (hb : PSs X b (tS X.K g xb)) :
    PS X (.If c a b pos) (tS X.K g fun env => (tc env).bind fun x => if x.1 then xa x.2 else xb x.2) :=
  PSw (ps_if hc ha hb) fun D σ H ⟨kp, F, env, o, e1, R, q⟩ => by
    obtain ⟨⟨b, e2⟩, h2, e3⟩ := Option.bind_eq_some_iff.mp e1
    refine ⟨kp, F, env, b, e2, h2, R, fun F' H' s1 R1 => ?_⟩
    cases b with
    | true => exact ⟨kp, F', e2, o, e3, R1, q.mono s1⟩
    | false => exact ⟨kp, F', e2, o, e3, R1, q.mono s1⟩
theorem snd_nil : PSs X [] (tS X.K g fun env => some (.nx env)) := PSsw pss_nil fun D σ H ⟨kp, F, env, o, e1, R, q⟩ => by
  cases e1
  exact q F σ H (Same.refl F) R
theorem snd_cons {st : Stmt} {rest : List Stmt} {xa xb : Env → Option Out} (h1 : PS X st (tS X.K g xa)) (h2 : PSs X rest (tS X.K g xb)) : PSs X (st :: rest) (tS X.K g fun env => (xa env).bind fun o => match o with
    | .nx e => xb e
    | o => some o) := PSsw (pss_cons h1 h2) fun D σ H ⟨kp, F, env, o, e1, R, q⟩ => by
  obtain ⟨o1, h3, e2⟩ := Option.bind_eq_some_iff.mp e1
  refine ⟨kp, F, env, o1, h3, R, ?_⟩
  cases o1 with
  | nx e =>
    have e2 : xb e = some o := e2
    exact fun F' σ' H' s1 R1 => ⟨kp, F', e, o, e2, R1, q.mono s1⟩
  | rt r e => cases e2; exact q
  | bk e => cases e2; exact q
  | ct e => cases e2; exact q
theorem snd_for (G : Good P k X N sc fn) (hps : PassesOwn (model X.prog X.w) X.A X.env X.xe) {t : T} {it : I} {tg iter : Expr} {body : List Stmt} {ei : Env → Option (List D × Env)} {xb : Env → Option Out} (ht : mT N sc fn t tg = true) (hf : ∀ x, foldedSetIterable iter X.env x = pure x)
    (hi : PI X tg iter (tI X.K g ei)) (hb : PSs X body (tS X.K g xb)) : PS X (.For tg iter body [] pos) (tS X.K g fun env => (ei env).bind fun x => forGo (fun d e => (bindT t d e).bind xb) x.1 x.2) := by
  refine PSw (ps_for hps G.calm hi (sndT (g := g) G t tg ht) hb hf) fun D σ H ⟨kp, F, env, o, e1, R, q⟩ => ?_
  obtain ⟨⟨ds, e2⟩, h2, e1⟩ := Option.bind_eq_some_iff.mp e1
  refine ⟨kp, F, env, ds, e2, h2, R, fun F1 J H1 s1 R1 Y => ?_⟩
  have q1 := q.mono s1
  refine ⟨fun i m σ H => m = ds.length - i ∧ i ≤ ds.length ∧ ∃ F' env', Same F1 F' ∧ Rel X.K g kp F' env' σ H ∧ forGo (fun d e => (bindT t d e).bind xb) (ds.drop i) env' = some o, ⟨ds.length, by simp, Nat.zero_le _, F1, e2, Same.refl F1, R1, e1⟩, ?_⟩
  rintro i m σ' H' ⟨rfl, hi', F', env', sF, R', hg⟩
  by_cases hlt : i < ds.length
  · refine .inr ⟨Y.go i H' (sF.trans R'.fh) hlt, fun σ2 H2 => ∃ F2 env2, Same F1 F2 ∧ Rel X.K g kp F2 env2 σ2 H2 ∧ forGo (fun d e => (bindT t d e).bind xb) (ds.drop (i + 1)) env2 = some o, fun σ2 H2 h => ⟨ds.length - (i + 1), by omega, rfl, hlt, h⟩, fun x H2 hy => ?_⟩
    obtain ⟨d, hd⟩ := lt_get hlt
    have hdrop : ds.drop i = d :: ds.drop (i + 1) := by
      rw [List.drop_eq_getElem_cons hlt]
      congr 1
      have := List.getElem?_eq_getElem hlt
      rw [hd] at this
      exact (Option.some.inj this).symm
    rw [hdrop] at hg
    unfold forGo at hg
    obtain ⟨o1, h3, hg⟩ := Option.bind_eq_some_iff.mp hg
    obtain ⟨e4, h4, h3⟩ := Option.bind_eq_some_iff.mp h3
    obtain ⟨Fy, sy, Ry, rp, _⟩ := R'.yield sF Y hd hy
    refine ⟨kp, Fy, env', d, e4, h4, Ry, rp, fun σ2 R2 _ _ => ⟨kp, Fy, e4, o1, h3, R2, ?_⟩⟩
    have sT : Same F1 Fy := sF.trans sy
    cases o1 with
    | nx e => exact fun F3 σ3 H3 s3 R3 => ⟨F3, e, sT.trans s3, R3, hg⟩
    | ct e => exact fun F3 σ3 H3 s3 R3 => ⟨F3, e, sT.trans s3, R3, hg⟩
    | bk e =>
      cases hg
      exact fun F3 σ3 H3 s3 R3 => q1 F3 σ3 H3 (sT.trans s3) R3
    | rt v e =>
      cases hg
      exact fun F3 σ3 v3 H3 s3 R3 po => q1 F3 σ3 v3 H3 (sT.trans s3) R3 po
  · have ei : i = ds.length := by omega
    subst ei
    rw [List.drop_length] at hg
    unfold forGo at hg
    cases hg
    exact .inl ⟨Y.stop _ H' (sF.trans R'.fh) (Nat.le_refl _), q1 F' σ' H' sF R'⟩
theorem snd_while (hps : PassesOwn (model X.prog X.w) X.A X.env X.xe) {w : Nat} {c : Expr} {body : List Stmt} {tc : Env → Option (Bool × Env)} {xb : Env → Option Out} (hc : PT X c (tTst X.K g tc)) (hb : PSs X body (tS X.K g xb)) :
    PS X (.While c body [] pos) (tS X.K g (whileGo tc xb w)) := by
  refine PSw (ps_while hps hc hb) fun D σ H ⟨kp, F, env, o, e1, R, q⟩ => ?_
  refine ⟨fun m σ H => ∃ F' env', Same F F' ∧ Rel X.K g kp F' env' σ H ∧ whileGo tc xb m env' = some o, ⟨w, F, env, Same.refl F, R, e1⟩, ?_⟩
  rintro m σ' H' ⟨F', env', sF, R', hg⟩
  cases m with
  | zero => cases hg
  | succ m =>
    unfold whileGo at hg
    obtain ⟨⟨b, e2⟩, h2, hg⟩ := Option.bind_eq_some_iff.mp hg
    refine ⟨kp, F', env', b, e2, h2, R', fun F2 H2 s2 R2 => ?_⟩
    have sT : Same F F2 := sF.trans s2
    cases b with
    | false =>
      cases hg
      exact q F2 σ' H2 sT R2
    | true =>
      have hg : ((xb e2).bind fun o => (match o with
        | .nx e => whileGo tc xb m e
        | .ct e => whileGo tc xb m e
        | .bk e => some (.nx e)
        | .rt v e => some (.rt v e))) = some o := hg
      obtain ⟨o1, h3, hg⟩ := Option.bind_eq_some_iff.mp hg
      refine ⟨fun σ3 H3 => ∃ F3 env3, Same F F3 ∧ Rel X.K g kp F3 env3 σ3 H3 ∧ whileGo tc xb m env3 = some o, fun σ3 H3 h => ⟨m, Nat.lt_succ_self m, h⟩, kp, F2, e2, o1, h3, R2, ?_⟩
      cases o1 with
      | nx e => exact fun F3 σ3 H3 s3 R3 => ⟨F3, e, sT.trans s3, R3, hg⟩
      | ct e => exact fun F3 σ3 H3 s3 R3 => ⟨F3, e, sT.trans s3, R3, hg⟩
      | bk e =>
        cases hg
        exact fun F3 σ3 H3 s3 R3 => q F3 σ3 H3 (sT.trans s3) R3
      | rt v e =>
        cases hg
        exact fun F3 σ3 v3 H3 s3 R3 po => q F3 σ3 v3 H3 (sT.trans s3) R3 po
theorem snd_never {st : Stmt} : PS X st (tS X.K g fun _ => none) := ⟨fun pins s σ H D I ⟨kp, F, env, o, e1, R, q⟩ => by cases e1⟩
theorem snd_pass : PS X (.Pass pos) (tS X.K g fun env => some (.nx env)) := PSw ps_pass fun D σ H ⟨kp, F, env, o, e1, R, q⟩ => by
  cases e1
  exact q F σ H (Same.refl F) R
theorem snd_brk : PS X (.Break pos) (tS X.K g fun env => some (.bk env)) := PSw ps_break fun D σ H ⟨kp, F, env, o, e1, R, q⟩ => by
  cases e1
  exact q F σ H (Same.refl F) R
theorem snd_cont : PS X (.Continue pos) (tS X.K g fun env => some (.ct env)) := PSw ps_continue fun D σ H ⟨kp, F, env, o, e1, R, q⟩ => by
  cases e1
  exact q F σ H (Same.refl F) R
end
end MI

namespace MI
open PySem PySem.Spec PyProof.Rows L2
theorem augD_ok {op : Operator} {a : Int} {d r : D} (h : augD op a d = some r) : ∃ b, d = .int b ∧ ((op = .Add ∧ r = .int (a + b)) ∨ (op = .Sub ∧ r = .int (a - b))) := by
  unfold augD at h
  split at h
  · cases h; exact ⟨_, rfl, .inl ⟨rfl, rfl⟩⟩
  · cases h; exact ⟨_, rfl, .inr ⟨rfl, rfl⟩⟩
  · cases h
theorem setAt_inv {env env' : Env} {i : Nat} {k d : D} (h : setAt env i k d = some env') : ∃ z s xs j, k = .int z ∧ env[i]? = some s ∧ isMut s = true ∧ slotD s = some (.lst xs) ∧ ixN xs.length z = some j ∧ env' = env.set i (reslot (.lst (xs.set j d)) s) := by
  unfold setAt at h
  split at h
  · rename_i z xs hx
    obtain ⟨j, hj, e⟩ := Option.map_eq_some_iff.mp h
    exact ⟨_, _, xs, j, rfl, hx, rfl, rfl, hj, e.symm⟩
  · rename_i z xs hx
    obtain ⟨j, hj, e⟩ := Option.map_eq_some_iff.mp h
    exact ⟨_, _, xs, j, rfl, hx, rfl, rfl, hj, e.symm⟩
  · cases h
theorem appAt_inv {env env' : Env} {i : Nat} {ds : List D} (h : appAt env i ds = some env') : ∃ s xs, env[i]? = some s ∧ isMut s = true ∧ slotD s = some (.lst xs) ∧ xs.length + ds.length < sizeLine ∧ env' = env.set i (reslot (.lst (xs ++ ds)) s) := by
  unfold appAt at h
  split at h
  · rename_i xs hx
    split at h
    · rename_i hl; cases h; exact ⟨_, xs, hx, rfl, rfl, of_decide_eq_true (by rw [lk_eq] at hl; exact hl), rfl⟩
    · cases h
  · rename_i xs hx
    split at h
    · rename_i hl; cases h; exact ⟨_, xs, hx, rfl, rfl, of_decide_eq_true (by rw [lk_eq] at hl; exact hl), rfl⟩
    · cases h
  · cases h
section
variable {K : PySem.W.Frag} {g : Gh} {kp F : Hp} {env : Env} {σ : L2.St} {H : Hp}
theorem Rel.list_at (R : Rel K g kp F env σ H) {i : Nat} {s : Sl} {xs : List D} (e : env[i]? = some s) (m : isMut s = true) (hs : slotD s = some (.lst xs)) : ∃ p vs, σ[i]? = some (some (.ref p)) ∧ F p = none ∧ H p = some (.lst vs) ∧ RpL K F xs vs := by
  obtain ⟨p, x, a, f, b, vs, rfl, c⟩ := R.at_mut e m hs
  exact ⟨p, vs, a, f, b, c⟩
end
section
variable {X : Cx} {g : Gh} {P : Prg} {k : Nat} {N : List Str} {sc : Scope} {fn : Str → Bool} {pos : Pos}
theorem snd_aug (G : Good P k X N sc fn) {i : Nat} {x : Str} {px : Pos} {op : Operator} {e : Expr} {ev : Env → Option (D × Env)} (h1 : isAt N i x = true) (h2 : locB sc fn x = true) (h : PE X e (tD X.K g ev)) :
    PS X (.AugAssign (.Name x px) op e pos) (tS X.K g fun env => match env[i]? with
      | some (.val (.int a)) => (ev env).bind fun x => (augD op a x.1).bind fun d => if i < x.2.length then some (.nx (x.2.set i (.val d))) else none
      | _ => none) := by
  obtain ⟨l1, l2⟩ := locB_ok h2
  have fin : ∀ {f : Int → Int → Int}, (∀ a b r, augD op a b = some r → ∃ j, b = .int j ∧ r = .int (f a j)) → PIp X op (ipI f) → PS X (.AugAssign (.Name x px) op e pos) (tS X.K g fun env => match env[i]? with
      | some (.val (.int a)) => (ev env).bind fun x => (augD op a x.1).bind fun d => if i < x.2.length then some (.nx (x.2.set i (.val d))) else none
      | _ => none) := fun {f} hf ho => by
    refine PSw (ps_aug (by rw [G.hN]; exact G.nd) (by rw [G.hN]; exact isAt_ok h1) (by rw [G.hsc]; exact l1) h ho (by rw [G.hfn, G.hsc]; exact l2)) fun D σ H ⟨kp, F, env, o, e1, R, q⟩ => ?_
    simp only at e1
    split at e1
    · rename_i a ha
      obtain ⟨⟨d, e2⟩, h2, e1⟩ := Option.bind_eq_some_iff.mp e1
      obtain ⟨r, h3, e1⟩ := Option.bind_eq_some_iff.mp e1
      split at e1
      · rename_i hl
        cases e1
        obtain ⟨v, es, rp⟩ := R.sl i _ ha
        unfold Rp at rp
        subst rp
        obtain ⟨j, e4, e5⟩ := hf _ _ _ h3
        simp only at e4
        subst e4 e5
        refine ⟨_, es, kp, F, env, .int j, e2, h2, R, fun F' y H' s1 R1 po => ⟨a, j, rfl, po, ?_⟩⟩
        exact q F' _ H' s1 (R1.setVal hl rp_int)
      · cases e1
    · cases e1
  cases op
  case Add => exact fin (fun a b r h => by obtain ⟨j, e, z | z⟩ := augD_ok h; exact ⟨j, e, z.2⟩; cases z.1) ip_add
  case Sub => exact fin (fun a b r h => by obtain ⟨j, e, z | z⟩ := augD_ok h; cases z.1; exact ⟨j, e, z.2⟩) ip_sub
  all_goals
    refine ⟨fun pins s σ H D I ⟨kp, F, env, o, e1, R, q⟩ => ?_⟩
    simp only at e1
    split at e1
    · obtain ⟨x, _, e1⟩ := Option.bind_eq_some_iff.mp e1
      obtain ⟨r, h3, e1⟩ := Option.bind_eq_some_iff.mp e1
      obtain ⟨j, e, z | z⟩ := augD_ok h3 <;> cases z.1
    · cases e1
theorem snd_app (G : Good P k X N sc fn) {a : Expr} {i : Nat} {x m : Str} {p1 apos cpos : Pos} {ev : Env → Option (D × Env)} (h1 : isAt N i x = true) (h2 : visB sc x = true) (h3 : nmB x = true) (hm : m = "append") (hp : plainX a = true) (hl : (apos.endLine == cpos.line) = true) (ha : PE X a (tD X.K g ev)) :
    PS X (.Expr (.Call (.Attribute (.Name x p1) m apos) [a] [] cpos) pos) (tS X.K g fun env => if mutAt env i then (ev env).bind fun x => (appAt x.2 i [x.1]).map .nx else none) := by
  subst hm
  have st := star_of hp [] X.env
  refine PSw (ps_expr (pe_bm PySem.F.plainAttrs_list PySem.F.slot_list_append PySem.F.type_list_append mt_append (G.var (pos := p1) h1 h2 h3) (pa_cons ha pa_nil st) rfl (by rw [st]; rfl) hl st rfl)) fun D σ H ⟨kp, F, env, o, e1, R, q⟩ => ?_
  simp only at e1
  split at e1
  · rename_i hmt
    obtain ⟨p, vs, es, hp0⟩ := R.mutAt hmt
    obtain ⟨⟨d, e2⟩, h2', e1⟩ := Option.bind_eq_some_iff.mp e1
    obtain ⟨e3, h3', e4⟩ := Option.map_eq_some_iff.mp e1
    cases e4
    obtain ⟨s, xs, hs, hmu, hd, hz, rfl⟩ := appAt_inv h3'
    refine ⟨.ref p, es, .inl ⟨rfl, vs, sqL_of hp0⟩, kp, F, env, d, e2, h2', R, fun F1 v H1 s1 R1 po => ?_⟩
    obtain ⟨p', ws, es', f1, hw, r⟩ := R1.list_at hs hmu hd
    rw [es] at es'
    cases es'
    refine ⟨p, ws, v, rfl, rfl, hw, by rw [← r.len]; simp at hz; omega, ?_⟩
    exact q F1 σ _ s1 (R1.mutate hs hmu es (r.append (.one po)))
  · cases e1
theorem snd_ext (G : Good P k X N sc fn) {a : Expr} {i : Nat} {x m : Str} {p1 apos cpos : Pos} {ev : Env → Option (D × Env)} (h1 : isAt N i x = true) (h2 : visB sc x = true) (h3 : nmB x = true) (hm : m = "extend") (hp : plainX a = true) (hl : (apos.endLine == cpos.line) = true) (ha : PE X a (tD X.K g ev)) :
    PS X (.Expr (.Call (.Attribute (.Name x p1) m apos) [a] [] cpos) pos) (tS X.K g fun env => if mutAt env i then (ev env).bind fun x => (match x.1 with | .lst ds => (appAt x.2 i ds).map .nx | _ => none) else none) := by
  subst hm
  have st := star_of hp [] X.env
  refine PSw (ps_expr (pe_bm PySem.F.plainAttrs_list PySem.F.slot_list_extend PySem.F.type_list_extend mt_extend (G.var (pos := p1) h1 h2 h3) (pa_cons ha pa_nil st) rfl (by rw [st]; rfl) hl st rfl)) fun D σ H ⟨kp, F, env, o, e1, R, q⟩ => ?_
  simp only at e1
  split at e1
  · rename_i hmt
    obtain ⟨p, vs, es, hp0⟩ := R.mutAt hmt
    obtain ⟨⟨d, e2⟩, h2', e1⟩ := Option.bind_eq_some_iff.mp e1
    cases d <;> first | cases e1 | skip
    rename_i ds
    have e1 : (appAt e2 i ds).map Out.nx = some o := e1
    obtain ⟨e3, h3', e4⟩ := Option.map_eq_some_iff.mp e1
    cases e4
    obtain ⟨s, xs, hs, hmu, hd, hz, rfl⟩ := appAt_inv h3'
    refine ⟨.ref p, es, .inl ⟨rfl, vs, sqL_of hp0⟩, kp, F, env, .lst ds, e2, h2', R, fun F1 v H1 s1 R1 po => ?_⟩
    obtain ⟨p', ws, es', f1, hw, r⟩ := R1.list_at hs hmu hd
    rw [es] at es'
    cases es'
    unfold Rp at po
    obtain ⟨b, us, rfl, fb, rb⟩ := po
    refine ⟨p, b, ws, us, rfl, rfl, hw, R1.fh _ _ fb, by rw [← r.len, ← rb.len]; omega, ?_⟩
    exact q F1 σ _ s1 (R1.mutate hs hmu es (r.append rb))
  · cases e1
/-- x[k] = v as a target: the value is frozen -/
def gSet (K : PySem.W.Frag) (g : Gh) (i : Nat) (ek : Env → Option (D × Env)) : TG := fun v σ H Q => ∃ kp F env d k env', mutAt env i = true ∧ ek env = some (k, env') ∧ Rel K g kp F env σ H ∧ Rp K F d v ∧ ∃ env2, setAt env' i k d = some env2 ∧
  ∀ F' H', Same F F' → Rel K g kp F' env2 σ H' → Q σ H'
theorem snd_gset (G : Good P k X N sc fn) {i : Nat} {x : Str} {px : Pos} {ix : Expr} {ek : Env → Option (D × Env)} (h1 : isAt N i x = true) (h2 : visB sc x = true) (h3 : nmB x = true) (hp : plainX ix = true) (h : PE X ix (tD X.K g ek)) : PG X (.Subscript (.Name x px) ix pos) (gSet X.K g i ek) := by
  refine PGw (pg_sub (G.var (pos := px) h1 h2 h3) h set_list ?_) fun v σ H Q ⟨kp, F, env, d, kk, env', hm, hk, R, rp, env2, hs, q⟩ => ?_
  · intro v
    cases ix <;> first | rfl | cases hp
  · obtain ⟨p, vs, es, hp0⟩ := R.mutAt hm
    refine ⟨.ref p, es, kp, F, env, kk, env', hk, R, fun F1 w H1 s1 R1 po => ?_⟩
    obtain ⟨z, s, xs, j, rfl, hx, hmu, hd, hj, rfl⟩ := setAt_inv hs
    obtain ⟨p', ws, es', f1, hw, r⟩ := R1.list_at hx hmu hd
    rw [es] at es'
    cases es'
    unfold Rp at po
    refine ⟨p, ws, z, j, rfl, po, hw, by rw [← r.len]; exact hj, ?_⟩
    exact q F1 _ s1 (R1.mutate hx hmu es (r.set (Rp.mono s1 _ _ rp) j))
theorem each_sub {o i : Expr} {p : Pos} {env : PySem.Env} : (assignEach [.Subscript o i p] env).map (·.2) = [assign (.Subscript o i p) env] := rfl
theorem snd_setI (G : Good P k X N sc fn) {i : Nat} {x : Str} {px p0 : Pos} {ix e : Expr} {ek ev : Env → Option (D × Env)} (h1 : isAt N i x = true) (h2 : visB sc x = true) (h3 : nmB x = true) (hp : plainX ix = true) (h : PE X ix (tD X.K g ek)) (he : PE X e (tD X.K g ev)) (hl : isLcX e = false) (hpe : plainX e = true) :
    PS X (.Assign [.Subscript (.Name x px) ix p0] e pos) (tS X.K g fun env => (ev env).bind fun x => if mutAt x.2 i then (ek x.2).bind fun k => (setAt k.2 i k.1 x.1).map .nx else none) := by
  refine PSw (ps_asg he (snd_gset G h1 h2 h3 hp h) (by unfold swapsWithSole; exact sw_no hl hpe) (by rfl) (by rfl)) fun D σ H ⟨kp, F, env, o, e1, R, q⟩ => ?_
  obtain ⟨⟨d, e2⟩, h2, e1⟩ := Option.bind_eq_some_iff.mp e1
  simp only at e1
  split at e1
  · rename_i hm
    obtain ⟨⟨kk, e3⟩, h3, e1⟩ := Option.bind_eq_some_iff.mp e1
    obtain ⟨e4, h4, e5⟩ := Option.map_eq_some_iff.mp e1
    cases e5
    exact ⟨kp, F, env, d, e2, h2, R, fun F' v H' s1 R1 po => ⟨kp, F', e2, d, kk, e3, hm, h3, R1, po, e4, h4, fun F2 H2 s2 R2 => q F2 σ H2 (s1.trans s2) R2⟩⟩
  · cases e1
theorem ss_set2 {x y : Str} {px py p1 p2 pt pt2 : Pos} {kt k2 : Nat} {ix ix2 v v2 : Expr} {env : PySem.Env} (h1 : plainX v = true) (h2 : plainX v2 = true) :
    swappedStores [.Tuple [.Subscript (.Name x px) ix p1, .Subscript (.Name y py) ix2 p2] kt pt] (.Tuple [v, v2] k2 pt2) env = pure none := by
  unfold swappedStores
  by_cases hb : (env.blockKind != .function) = true
  · simp [hb]
  · simp [hb]
theorem snd_set2 (G : Good P k X N sc fn) {i i2 : Nat} {x y : Str} {px py p1 p2 pt pt2 : Pos} {kt k2 : Nat} {ix ix2 e e2 : Expr} {ek ek2 ev ev2 : Env → Option (D × Env)}
    (h1 : isAt N i x = true) (h2 : visB sc x = true) (h3 : nmB x = true) (hp : plainX ix = true) (h : PE X ix (tD X.K g ek)) (he : PE X e (tD X.K g ev)) (hpe : plainX e = true)
    (h1' : isAt N i2 y = true) (h2' : visB sc y = true) (h3' : nmB y = true) (hp' : plainX ix2 = true) (h' : PE X ix2 (tD X.K g ek2)) (he' : PE X e2 (tD X.K g ev2)) (hpe' : plainX e2 = true) :
    PS X (.Assign [.Tuple [.Subscript (.Name x px) ix p1, .Subscript (.Name y py) ix2 p2] kt pt] (.Tuple [e, e2] k2 pt2) pos) (tS X.K g fun env => (ev env).bind fun x => (ev2 x.2).bind fun x' => if mutAt x'.2 i then (ek x'.2).bind fun k =>
      (setAt k.2 i k.1 x.1).bind fun e1 => if mutAt e1 i2 then (ek2 e1).bind fun k' => (setAt k'.2 i2 k'.1 x'.1).map .nx else none else none) := by
  have st1 := star_of hpe [e2] X.env
  have st2 := star_of hpe' [] X.env
  refine PSw (ps_asg (pe_tup (pa_cons he (pa_cons he' pa_nil st2) st1)) (pg_tup G.calm (pgs_cons (snd_gset G h1 h2 h3 hp h) (pgs_cons (snd_gset G h1' h2' h3' hp' h') pgs_nil rfl) rfl) rfl rfl) rfl (ss_set2 hpe hpe') rfl) fun D σ H ⟨kp, F, env, o, q1, R, q⟩ => ?_
  obtain ⟨⟨d, e3⟩, a3, q1⟩ := Option.bind_eq_some_iff.mp q1
  obtain ⟨⟨d2, e4⟩, a4, q1⟩ := Option.bind_eq_some_iff.mp q1
  simp only at q1
  split at q1
  · rename_i hm
    obtain ⟨⟨kk, e5⟩, a5, q1⟩ := Option.bind_eq_some_iff.mp q1
    obtain ⟨e6, a6, q1⟩ := Option.bind_eq_some_iff.mp q1
    split at q1
    · rename_i hm2
      obtain ⟨⟨kk2, e7⟩, a7, q1⟩ := Option.bind_eq_some_iff.mp q1
      obtain ⟨e8, a8, e9⟩ := Option.map_eq_some_iff.mp q1
      cases e9
      refine ⟨kp, F, env, d, e3, a3, R, fun F1 v H1 s1 R1 po => ⟨kp, F1, e3, d2, e4, a4, R1, fun F2 w H2 s2 R2 po2 => ⟨by show 2 ≤ sizeLine; rw [sizeLine_eq]; decide, fun T hT => ⟨T, [v, w], rfl, sqT_of upd_same, rfl, v, [w], rfl, ?_⟩⟩⟩⟩
      refine ⟨kp, F2, e4, d, kk, e5, hm, a5, R2.newX hT, Rp.mono s2 _ _ po, e6, a6, fun F3 H3 s3 R3 => ⟨w, [], rfl, kp, F3, e6, d2, kk2, e7, hm2, a7, R3, Rp.mono s3 _ _ po2, e8, a8, fun F4 H4 s4 R4 => ⟨rfl, ?_⟩⟩⟩
      exact q F4 σ H4 (((s1.trans s2).trans s3).trans s4) R4
    · cases q1
  · cases q1
/-! ### d[k] = v -/
theorem dicAt_inv {env : Env} {i : Nat} (h : dicAt env i = true) : ∃ s d, env[i]? = some s ∧ isMut s = true ∧ slotD s = some d ∧ isDic d = true := by
  unfold dicAt at h
  split at h
  · rename_i d e; exact ⟨_, d, e, rfl, rfl, h⟩
  · rename_i d e; exact ⟨_, d, e, rfl, rfl, h⟩
  · cases h
theorem dputAt_inv {env env' : Env} {i : Nat} {k v : D} (h : dputAt env i k v = some env') : ∃ s d d', env[i]? = some s ∧ isMut s = true ∧ slotD s = some d ∧ storeD d k v = some d' ∧ env' = env.set i (reslot d' s) := by
  unfold dputAt at h
  split at h
  · rename_i d e
    obtain ⟨d', h1, h2⟩ := Option.map_eq_some_iff.mp h
    exact ⟨_, d, d', e, rfl, rfl, h1, h2.symm⟩
  · rename_i d e
    obtain ⟨d', h1, h2⟩ := Option.map_eq_some_iff.mp h
    exact ⟨_, d, d', e, rfl, rfl, h1, h2.symm⟩
  · cases h
theorem store_ok {K : PySem.W.Frag} {F H : Hp} {p : Addr} {x : HO} {d k v d' : D} {y w : V} (c : Cont K F p d x) (hp : H p = some x) (fh : Same F H) (rk : Rp K F k y) (rv : Rp K F v w) (h : storeD d k v = some d') : ∃ x', DPut H p y w (upd H p x') ∧ Cont K F p d' x' := by
  cases d <;> first | (unfold storeD at h; cases h; done) | skip
  · unfold storeD at h
    obtain ⟨kk, hk, h⟩ := Option.bind_eq_some_iff.mp h
    split at h
    · rename_i hl
      cases h
      rw [lk_eq] at hl
      obtain ⟨vs, rfl, h1, h2⟩ := c
      obtain ⟨vs', e1, e2, e3⟩ := put_zip (x := kk) rv h1 h2
      rw [keyD_rp rk hk]
      refine ⟨_, DPut.k hp ?_, vs', congrArg _ e1, e2, e3⟩
      rw [List.length_zip, ← h2.len, ← h1, Nat.min_self]
      exact of_decide_eq_true hl
    · cases h
  · cases k <;> first | (unfold storeD at h; cases h; done) | skip
    unfold storeD at h
    obtain ⟨kk, hk, h⟩ := Option.bind_eq_some_iff.mp h
    split at h
    · rename_i hl
      cases h
      rw [lk_eq] at hl
      obtain ⟨vs, rfl, h1, h2⟩ := c
      obtain ⟨vs', e1, e2, e3⟩ := put_zip (x := kk) rv h1 h2
      unfold Rp at rk
      obtain ⟨b, us, rfl, fb, rb⟩ := rk
      have hb := fh _ _ fb
      rw [keysD_v rb hk] at hb
      refine ⟨_, DPut.t hp hb ?_, vs', congrArg _ e1, e2, e3⟩
      rw [List.length_zip, ← h2.len, ← h1, Nat.min_self]
      exact of_decide_eq_true hl
    · cases h
theorem snd_dput (G : Good P k X N sc fn) {i : Nat} {x : Str} {px p0 : Pos} {ix e : Expr} {ek ev : Env → Option (D × Env)} (h1 : isAt N i x = true) (h2 : visB sc x = true) (h3 : nmB x = true) (h : PE X ix (tD X.K g ek)) (he : PE X e (tD X.K g ev)) (hl : isLcX e = false) (hpe : plainX e = true) :
    PS X (.Assign [.Subscript (.Name x px) ix p0] e pos) (tS X.K g fun env => (ev env).bind fun x => if dicAt x.2 i then (ek x.2).bind fun k => (dputAt k.2 i k.1 x.1).map .nx else none) := by
  refine PSw (ps_dput (by have := G.un; omega) (G.var (pos := px) h1 h2 h3) h he (sw_no hl hpe)) fun D σ H ⟨kp, F, env, o, e1, R, q⟩ => ?_
  obtain ⟨⟨d, e2⟩, h2, e1⟩ := Option.bind_eq_some_iff.mp e1
  simp only at e1
  split at e1
  · rename_i hm
    obtain ⟨⟨kk, e3⟩, h3, e1⟩ := Option.bind_eq_some_iff.mp e1
    obtain ⟨e4, h4, e5⟩ := Option.map_eq_some_iff.mp e1
    cases e5
    obtain ⟨s0, d0, hs0, hm0, hd0, hdic⟩ := dicAt_inv hm
    refine ⟨kp, F, env, d, e2, h2, R, fun F' v H' s1 R1 po => ?_⟩
    obtain ⟨p, x0, es, f1, hp, _⟩ := R1.at_mut hs0 hm0 hd0
    refine ⟨.ref p, es, kp, F', e2, kk, e3, h3, R1, fun F2 y H2 s2 R2 po2 => ?_⟩
    obtain ⟨s, d1, d', hs, hmu, hd, hst, rfl⟩ := dputAt_inv h4
    obtain ⟨p', x1, es', f2, hp2, c2⟩ := R2.at_mut hs hmu hd
    rw [es] at es'
    cases es'
    obtain ⟨x', dp, c'⟩ := store_ok c2 hp2 R2.fh po2 (Rp.mono s2 _ _ po) hst
    exact ⟨p, _, rfl, dp, q F2 σ _ (s1.trans s2) (R2.mutC hs hmu es c')⟩
  · cases e1
/-! ### o.f = v -/
theorem insAt_inv {env : Env} {i : Nat} {a : Addr} (h : insAt env i a = true) : ∃ s ns vs, env[i]? = some s ∧ isMut s = true ∧ slotD s = some (.ins a ns vs) := by
  have key : ∀ d : D, insC d = some a → ∃ ns vs, d = .ins a ns vs := fun d hd => by
    cases d <;> first | (cases hd; done) | skip
    cases hd
    exact ⟨_, _, rfl⟩
  unfold insAt at h
  split at h
  · rename_i d e
    obtain ⟨ns, vs, rfl⟩ := key d (of_decide_eq_true h)
    exact ⟨_, ns, vs, e, rfl, rfl⟩
  · rename_i d e
    obtain ⟨ns, vs, rfl⟩ := key d (of_decide_eq_true h)
    exact ⟨_, ns, vs, e, rfl, rfl⟩
  · cases h
theorem fldAt_inv {env env' : Env} {i : Nat} {f : Str} {v : D} (h : fldAt env i f v = some env') : ∃ s d d', env[i]? = some s ∧ isMut s = true ∧ slotD s = some d ∧ fldD d f v = some d' ∧ env' = env.set i (reslot d' s) := by
  unfold fldAt at h
  split at h
  · rename_i d e
    obtain ⟨d', h1, h2⟩ := Option.map_eq_some_iff.mp h
    exact ⟨_, d, d', e, rfl, rfl, h1, h2.symm⟩
  · rename_i d e
    obtain ⟨d', h1, h2⟩ := Option.map_eq_some_iff.mp h
    exact ⟨_, d, d', e, rfl, rfl, h1, h2.symm⟩
  · cases h
theorem putF_zip {K : PySem.W.Frag} {F : Hp} {f : Str} {z : D} {w : V} (r : Rp K F z w) : ∀ {ns : List Str} {ds : List D} {vs : List V}, ns.length = ds.length → RpL K F ds vs → ∃ vs', L2.putF f w (ns.zip vs) = (MI.putF ns ds f z).1.zip vs' ∧ (MI.putF ns ds f z).1.length = (MI.putF ns ds f z).2.length ∧ RpL K F (MI.putF ns ds f z).2 vs'
  | [], [], vs, _, h => by
    rw [h.nil_inv]
    exact ⟨[w], rfl, rfl, .one r⟩
  | [], _ :: _, _, hl, _ => by simp at hl
  | _ :: _, [], _, hl, _ => by simp at hl
  | n :: ns, d :: ds, vs, hl, h => by
    obtain ⟨v, vs', rfl, h2, h3⟩ := h.cons_inv
    obtain ⟨us, e1, e2, e3⟩ := putF_zip (f := f) r (ns := ns) (by simpa using hl) h3
    rw [List.zip_cons_cons]
    unfold L2.putF MI.putF
    by_cases e : n = f
    · refine ⟨w :: vs', ?_, ?_, ?_⟩
      · simp [e]
      · simpa [e] using hl
      · simp only [e, if_true]
        exact .cons r h3
    · refine ⟨v :: us, ?_, ?_, ?_⟩
      · simp [e, e1]
      · simp [e, e2]
      · simp only [e, if_false]
        exact .cons h2 e3
theorem snd_fld (G : Good P k X N sc fn) {c : Str} {i : Nat} {x f : Str} {px p0 : Pos} {e : Expr} {ev : Env → Option (D × Env)} (h1 : isAt N i x = true) (h2 : visB sc x = true) (h3 : nmB x = true) (he : PE X e (tD X.K g ev)) (hl : isLcX e = false) (hpe : plainX e = true) :
    PS X (.Assign [.Attribute (.Name x px) f p0] e pos) (tS X.K g fun env => (ev env).bind fun x => (P.cls c).bind fun ci => if insAt x.2 i ci.at_ && decide (f ∈ ci.fl) then (fldAt x.2 i f x.1).map .nx else none) := by
  refine PSw (ps_fld (G.var (pos := px) h1 h2 h3) he (sw_no hl hpe)) fun D σ H ⟨kp, F, env, o, e1, R, q⟩ => ?_
  obtain ⟨⟨d, e2⟩, h2, e1⟩ := Option.bind_eq_some_iff.mp e1
  obtain ⟨ci, hci, e1⟩ := Option.bind_eq_some_iff.mp e1
  simp only at e1
  split at e1
  · rename_i hm
    simp only [Bool.and_eq_true, decide_eq_true_eq] at hm
    obtain ⟨e4, h4, e5⟩ := Option.map_eq_some_iff.mp e1
    cases e5
    refine ⟨kp, F, env, d, e2, h2, R, fun F' v H' s1 R1 po => ?_⟩
    obtain ⟨s0, ns, vs, hs0, hm0, hd0⟩ := insAt_inv hm.1
    obtain ⟨s, d1, d', hs, hmu, hd, hst, rfl⟩ := fldAt_inv h4
    rw [hs0] at hs
    cases hs
    rw [hd0] at hd
    cases hd
    obtain ⟨p, x0, es, f1, hp, dx, us, rfl, fdx, hln, r⟩ := R1.at_mut hs0 hm0 hd0
    have ck := G.cls c ci hci
    have hst2 : (if lk (decide (ns.length < 900)) then some (MI.D.ins ci.at_ (MI.putF ns vs f d).1 (MI.putF ns vs f d).2) else none) = some d' := hst
    split at hst2
    · rename_i hlt
      have ed := Option.some.inj hst2
      subst ed
      rw [lk_eq] at hlt
      obtain ⟨vs', e1, e2', e3⟩ := putF_zip (f := f) po hln r
      refine ⟨.ref p, es, p, ci.at_, dx, _, rfl, hp, ck.cl, ck.nf f hm.2, ?_, ?_⟩
      · rw [List.length_zip, ← r.len, ← hln, Nat.min_self]
        have := of_decide_eq_true hlt
        omega
      · rw [e1]
        exact q F' σ _ s1 (R1.mutC hs0 hm0 es ⟨dx, vs', rfl, fdx, e2', e3⟩)
    · cases hst2
  · cases e1
end
end MI

namespace MI
open PySem PySem.Spec PyProof.Rows L2
theorem not_star {v : Expr} (h : plainX v = true) : (match (generalizing := false) v with | .Starred .. => true | _ => false) = false := by
  cases v <;> first | rfl | (cases h; done)
theorem ss_none {x y : Str} {px py pt pt2 : Pos} {kt k2 : Nat} {a b : Expr} {env : PySem.Env} (ha : plainX a = true) (hb : plainX b = true) (hk : env.blockKind = .function)
    (h : (env.kindOf x == some .local && env.kindOf y == some .local && (px.line == py.line)) = false ∨ (foldedForSure 8 a && foldedForSure 8 b) = true) :
    swappedStores [.Tuple [.Name x px, .Name y py] kt pt] (.Tuple [a, b] k2 pt2) env = pure none := by
  have na := not_star ha
  have nb := not_star hb
  unfold swappedStores
  simp only [Bool.and_eq_true, Bool.and_eq_false_iff] at h
  simp only [hk, List.length_cons, List.length_nil, List.any_cons, List.any_nil, na, nb, List.head?_cons, Option.map_some, Option.getD_some, Expr.pos]
  by_cases h1 : (env.kindOf x == some .local) = true
  · by_cases h2 : (env.kindOf y == some .local) = true
    · by_cases h3 : (py.line == px.line) = true
      · have h3' : (px.line == py.line) = true := by rw [beq_iff_eq] at h3 ⊢; exact h3.symm
        have hf : foldedForSure 8 a = true ∧ foldedForSure 8 b = true := by
          rcases h with h | h
          · rw [h1, h2, h3'] at h; simp at h
          · exact h
        simp [List.filterMap, h1, h2, h3, hf.1, hf.2]
      · simp [List.filterMap, h1, h2, h3]
    · simp [List.filterMap, h1, h2]
  · simp only [List.filterMap, h1]
    by_cases h2 : (env.kindOf y == some .local && (py.line == px.line)) = true
    · simp [h2]
    · simp [h2]
theorem ss_some {x y : Str} {px py pt pt2 : Pos} {kt k2 : Nat} {a b : Expr} {env : PySem.Env} (ha : plainX a = true) (hb : plainX b = true) (hk : env.blockKind = .function) (hxy : x ≠ y)
    (h : (env.kindOf x == some .local && env.kindOf y == some .local && (px.line == py.line)) = true) (hf : (foldedForSure 8 a && foldedForSure 8 b) = false) (hc : (constantsAlone 8 a && constantsAlone 8 b) = false) :
    swappedStores [.Tuple [.Name x px, .Name y py] kt pt] (.Tuple [a, b] k2 pt2) env = pure (some [x, y]) := by
  have na := not_star ha
  have nb := not_star hb
  unfold swappedStores
  simp only [Bool.and_eq_true] at h
  obtain ⟨⟨h1, h2⟩, h3⟩ := h
  have h3' : (py.line == px.line) = true := by rw [beq_iff_eq] at h3 ⊢; exact h3.symm
  have e1 : ([x, y] : List Str).eraseDups.length = 2 := by
    have : (y == x) = false := by rw [beq_eq_false_iff_ne]; exact fun z => hxy z.symm
    simp [List.eraseDups_cons, this]
  simp only [hk, List.length_cons, List.length_nil, List.any_cons, List.any_nil, na, nb, List.head?_cons, Option.map_some, Option.getD_some, Expr.pos, List.filterMap, h1, h2, h3', List.all_cons, List.all_nil, Bool.and_true, hf, hc]
  simp [e1]
  intro z
  rcases z with z | z
  · exact absurd (na.symm.trans z) (by decide)
  · exact absurd (nb.symm.trans z) (by decide)
section
variable {K : PySem.W.Frag} {g : Gh}
/-- two new objects stand apart -/
def NeR (r1 r2 : RD) (v w : V) : Prop := ∀ p q ds es, r1 = .new ds → r2 = .new es → v = .ref p → w = .ref q → q ≠ p
theorem NeR.old {d : D} {r : RD} {v w : V} : NeR (.old d) r v w := fun _ _ _ _ z => by cases z
/-- a result is kept over what follows -/
theorem keepR {kp F H : Hp} {env : Env} {σ : L2.St} {r1 : RD} {v : V} (R : Rel K g kp F env σ H) (p1 : PostR K g kp F env σ H r1 v) :
    ∃ kp', Rel K g kp' F env σ H ∧ ∀ {F2 H2 : Hp} {e2 : Env}, Same F F2 → Rel K g kp' F2 e2 σ H2 → Rel K g kp F2 e2 σ H2 ∧ PostR K g kp F2 e2 σ H2 r1 v ∧ ∀ {r2 : RD} {w : V}, PostR K g kp' F2 e2 σ H2 r2 w → PostR K g kp F2 e2 σ H2 r2 w ∧ NeR r1 r2 v w := by
  cases r1 with
  | old d => exact ⟨kp, R, fun {F2 H2 e2} s2 R2 => ⟨R2, Rp.mono s2 _ _ p1, fun {r2 w} p2 => ⟨p2, .old⟩⟩⟩
  | new ds =>
    obtain ⟨p, vs, rfl, f1, h0, hk, hp, rl, no⟩ := p1
    refine ⟨upd kp p vs, R.keep f1 hp no, fun {F2 H2 e2} s2 R2 => ?_⟩
    have hp2 : H2 p = some vs := R2.kept p _ upd_same
    have f2 : F2 p = none := by
      cases q0 : F2 p with
      | none => rfl
      | some u =>
        have z := R2.fk p (by rw [upd_same]; exact fun z => by cases z) (by rw [q0]; exact fun z => by cases z)
        cases q1 : g.F0 p with
        | none => exact absurd q1 z
        | some w => rw [R.f0 _ _ q1] at f1; cases f1
    refine ⟨R2.unkeep hk, ⟨p, vs, rfl, f2, h0, hk, hp2, rl.mono s2, R2.kept_owns⟩, fun {r2 w} p2 => ?_⟩
    cases r2 with
    | old d => exact ⟨p2, fun _ _ _ _ _ z => by cases z⟩
    | new es =>
      obtain ⟨p', ws, rfl, a1, a2, a3, a4, a5, a6⟩ := p2
      have ne : p' ≠ p := fun z => by rw [z, upd_same] at a3; cases a3
      refine ⟨⟨p', ws, rfl, a1, a2, by rw [upd_ne ne] at a3; exact a3, a4, a5, a6⟩, fun p0 q0 _ _ _ _ e1 e2 => ?_⟩
      cases e1
      cases e2
      exact ne
theorem par_pair {ev1 ev2 : Env → Option (RD × Env)} {σ : L2.St} {H : Hp} {Q : List V → Hp → Prop} {kp F : Hp} {env e1 e2 : Env} {r1 r2 : RD} (h1 : ev1 env = some (r1, e1)) (h2 : ev2 e1 = some (r2, e2)) (R : Rel K g kp F env σ H)
    (q : ∀ F' v w H', Same F F' → Rel K g kp F' e2 σ H' → PostR K g kp F' e2 σ H' r1 v → PostR K g kp F' e2 σ H' r2 w → NeR r1 r2 v w → Q [v, w] H') :
    tR K g ev1 σ H fun v H1 => tR K g ev2 σ H1 fun w H2 => Q [v, w] H2 := by
  refine ⟨kp, F, env, r1, e1, h1, R, fun F1 v H1 s1 R1 p1 => ?_⟩
  obtain ⟨kp', Rk, hk⟩ := keepR R1 p1
  refine ⟨kp', F1, e1, r2, e2, h2, Rk, fun F2 w H2 s2 R2 p2 => ?_⟩
  obtain ⟨R3, p1', hp⟩ := hk s2 R2
  obtain ⟨p2', ne⟩ := hp p2
  exact q F2 v w H2 (s1.trans s2) R3 p1' p2' ne
theorem par_triple {ev1 ev2 ev3 : Env → Option (RD × Env)} {σ : L2.St} {H : Hp} {Q : List V → Hp → Prop} {kp F : Hp} {env e1 e2 e3 : Env} {r1 r2 r3 : RD} (h1 : ev1 env = some (r1, e1)) (h2 : ev2 e1 = some (r2, e2)) (h3 : ev3 e2 = some (r3, e3)) (R : Rel K g kp F env σ H)
    (q : ∀ F' u v w H', Same F F' → Rel K g kp F' e3 σ H' → PostR K g kp F' e3 σ H' r1 u → PostR K g kp F' e3 σ H' r2 v → PostR K g kp F' e3 σ H' r3 w → NeR r1 r2 u v → NeR r1 r3 u w → NeR r2 r3 v w → Q [u, v, w] H') :
    tR K g ev1 σ H fun u H1 => tR K g ev2 σ H1 fun v H2 => tR K g ev3 σ H2 fun w H3 => Q [u, v, w] H3 := by
  refine ⟨kp, F, env, r1, e1, h1, R, fun F1 u H1 s1 R1 p1 => ?_⟩
  obtain ⟨kp', Rk, hk⟩ := keepR R1 p1
  refine ⟨kp', F1, e1, r2, e2, h2, Rk, fun F2 v H2 s2 R2 p2 => ?_⟩
  obtain ⟨kp2, Rk2, hk2⟩ := keepR R2 p2
  refine ⟨kp2, F2, e2, r3, e3, h3, Rk2, fun F3 w H3 s3 R3 p3 => ?_⟩
  obtain ⟨R4, p2', hp2⟩ := hk2 s3 R3
  obtain ⟨p3', ne23⟩ := hp2 p3
  obtain ⟨R5, p1', hp1⟩ := hk (s2.trans s3) R4
  obtain ⟨p2'', ne12⟩ := hp1 p2'
  obtain ⟨p3'', ne13⟩ := hp1 p3'
  exact q F3 u v w H3 ((s1.trans s2).trans s3) R5 p1' p2'' p3'' ne12 ne13 ne23
theorem Rel.set3 {kp F : Hp} {env : Env} {σ : L2.St} {H : Hp} (R : Rel K g kp F env σ H) {i j l : Nat} {r1 r2 r3 : RD} {v1 v2 v3 : V} (hi : i < env.length) (hj : j < env.length) (hl : l < env.length) (p1 : PostR K g kp F env σ H r1 v1) (p2 : PostR K g kp F env σ H r2 v2) (p3 : PostR K g kp F env σ H r3 v3)
    (n12 : NeR r1 r2 v1 v2) (n13 : NeR r1 r3 v1 v3) (n23 : NeR r2 r3 v2 v3) : Rel K g kp F (((env.set i (slOf r1)).set j (slOf r2)).set l (slOf r3)) (((σ.set i (some v1)).set j (some v2)).set l (some v3)) H := by
  have hs : i < σ.length := by rw [← R.len]; exact hi
  have hs2 : j < (σ.set i (some v1)).length := by rw [List.length_set, ← R.len]; exact hj
  refine (R.set2 hi (by rw [List.length_set]; exact hj) p1 p2 n12).set (by rw [List.length_set, List.length_set]; exact hl) ?_
  cases r3 with
  | old d => exact p3
  | new es =>
    obtain ⟨q, vs, e, f1, h0, hk, hq, rl, no⟩ := p3
    refine ⟨q, vs, e, f1, h0, hk, hq, rl, fun w => ?_⟩
    rcases w.of_set hs2 with ⟨a, b, _⟩ | w
    · cases r2 with
      | old d => cases b
      | new ds => exact n23 q q ds es rfl rfl a e rfl
    · rcases w.of_set hs with ⟨a, b, _⟩ | w
      · cases r1 with
        | old d => cases b
        | new ds => exact n13 q q ds es rfl rfl a e rfl
      · exact no w
theorem ss_none3 {x y z : Str} {px py pz pt pt2 : Pos} {kt k2 : Nat} {a b c : Expr} {env : PySem.Env} (ha : plainX a = true) (hb : plainX b = true) (hc : plainX c = true) (hk : env.blockKind = .function)
    (h : (env.kindOf x == some .local && env.kindOf y == some .local && env.kindOf z == some .local && (py.line == px.line) && (pz.line == px.line)) = false ∨ (foldedForSure 8 a && foldedForSure 8 b && foldedForSure 8 c) = true) :
    swappedStores [.Tuple [.Name x px, .Name y py, .Name z pz] kt pt] (.Tuple [a, b, c] k2 pt2) env = pure none := by
  have na := not_star ha
  have nb := not_star hb
  have nc := not_star hc
  unfold swappedStores
  simp only [hk, List.length_cons, List.length_nil, List.any_cons, List.any_nil, na, nb, nc, List.head?_cons, Option.map_some, Option.getD_some, Expr.pos]
  rcases h with h | h
  · by_cases h1 : (env.kindOf x == some .local) = true
    · by_cases h2 : (env.kindOf y == some .local && (py.line == px.line)) = true
      · have h2' := h2
        simp only [Bool.and_eq_true] at h2'
        have h3 : (env.kindOf z == some .local && (pz.line == px.line)) = false := by
          rw [h1, h2'.1, h2'.2] at h
          simpa using h
        simp [List.filterMap, h1, h2, h3]
      · by_cases h3 : (env.kindOf z == some .local && (pz.line == px.line)) = true
        · simp [List.filterMap, h1, h2, h3]
        · simp [List.filterMap, h1, h2, h3]
    · by_cases h2 : (env.kindOf y == some .local && (py.line == px.line)) = true
      · by_cases h3 : (env.kindOf z == some .local && (pz.line == px.line)) = true
        · simp [List.filterMap, h1, h2, h3]
        · simp [List.filterMap, h1, h2, h3]
      · by_cases h3 : (env.kindOf z == some .local && (pz.line == px.line)) = true
        · simp [List.filterMap, h1, h2, h3]
        · simp [List.filterMap, h1, h2, h3]
  · simp only [Bool.and_eq_true] at h
    obtain ⟨⟨f1, f2⟩, f3⟩ := h
    simp [f1, f2, f3]
theorem ss_some3 {x y z : Str} {px py pz pt pt2 : Pos} {kt k2 : Nat} {a b c : Expr} {env : PySem.Env} (ha : plainX a = true) (hb : plainX b = true) (hc : plainX c = true) (hk : env.blockKind = .function) (hxy : x ≠ y) (hxz : x ≠ z) (hyz : y ≠ z)
    (h : (env.kindOf x == some .local && env.kindOf y == some .local && env.kindOf z == some .local && (py.line == px.line) && (pz.line == px.line)) = true) (hf : (foldedForSure 8 a && foldedForSure 8 b && foldedForSure 8 c) = false) (hcc : (constantsAlone 8 a && constantsAlone 8 b && constantsAlone 8 c) = false) :
    swappedStores [.Tuple [.Name x px, .Name y py, .Name z pz] kt pt] (.Tuple [a, b, c] k2 pt2) env = pure (some [x, y, z]) := by
  have na := not_star ha
  have nb := not_star hb
  have nc := not_star hc
  unfold swappedStores
  simp only [Bool.and_eq_true] at h
  obtain ⟨⟨⟨⟨h1, h2⟩, h3⟩, h4⟩, h5⟩ := h
  have e1 : ([x, y, z] : List Str).eraseDups.length = 3 := by
    have a1 : (y == x) = false := by rw [beq_eq_false_iff_ne]; exact fun q => hxy q.symm
    have a2 : (z == x) = false := by rw [beq_eq_false_iff_ne]; exact fun q => hxz q.symm
    have a3 : (z == y) = false := by rw [beq_eq_false_iff_ne]; exact fun q => hyz q.symm
    simp [List.eraseDups_cons, a1, a2, a3]
  have hf' : (foldedForSure 8 a && (foldedForSure 8 b && foldedForSure 8 c)) = false := by rw [← Bool.and_assoc]; exact hf
  have hcc' : (constantsAlone 8 a && (constantsAlone 8 b && constantsAlone 8 c)) = false := by rw [← Bool.and_assoc]; exact hcc
  simp only [hk, List.length_cons, List.length_nil, List.any_cons, List.any_nil, na, nb, nc, List.head?_cons, Option.map_some, Option.getD_some, Expr.pos, List.filterMap, h1, h2, h3, h4, h5, List.all_cons, List.all_nil, Bool.and_true, hf', hcc']
  simp [e1]
  intro q
  rcases q with q | q | q
  · exact absurd (na.symm.trans q) (by decide)
  · exact absurd (nb.symm.trans q) (by decide)
  · exact absurd (nc.symm.trans q) (by decide)
end
section
variable {X : Cx} {g : Gh} {P : Prg} {k : Nat} {N : List Str} {sc : Scope} {fn : Str → Bool} {pos : Pos}
theorem nd_ne {N : List Str} (nd : N.Nodup) {i j : Nat} {x y : Str} (h1 : N[i]? = some x) (h2 : N[j]? = some y) (h : i ≠ j) : x ≠ y := fun z => by
  subst z
  obtain ⟨a, b⟩ := List.getElem?_eq_some_iff.mp h1
  obtain ⟨c, d⟩ := List.getElem?_eq_some_iff.mp h2
  exact h (List.getElem_inj nd |>.mp (b.trans d.symm))
theorem snd_par (G : Good P k X N sc fn) {i j : Nat} {x y : Str} {px py pt pt2 : Pos} {kt k2 : Nat} {a b : Expr} {ea eb : Env → Option (RD × Env)} (h1 : isAt N i x = true) (h2 : isAt N j y = true) (h3 : locB sc fn x = true) (h4 : locB sc fn y = true) (ha : plainX a = true) (hb : plainX b = true)
    (pa : PE X a (tR X.K g ea)) (pb : PE X b (tR X.K g eb)) (hij : i ≠ j) (hc : (!(isLoc sc x && isLoc sc y && (px.line == py.line)) || (foldedForSure 8 a && foldedForSure 8 b) || !(constantsAlone 8 a && constantsAlone 8 b)) = true) :
    PS X (.Assign [.Tuple [.Name x px, .Name y py] kt pt] (.Tuple [a, b] k2 pt2) pos) (tS X.K g fun env => (ea env).bind fun u => (eb u.2).bind fun w => if i < w.2.length ∧ j < w.2.length then some (.nx ((w.2.set i (slOf u.1)).set j (slOf w.1))) else none) := by
  obtain ⟨l1, l2⟩ := locB_ok h3
  obtain ⟨l3, l4⟩ := locB_ok h4
  have hk : X.env.blockKind = .function := by unfold PySem.Env.blockKind; rw [G.hsc, G.kind]; rfl
  have hxy := nd_ne G.nd (isAt_ok h1) (isAt_ok h2) hij
  have kx : (X.env.kindOf x == some .local) = isLoc sc x := by
    show (X.env.scope.names.lookup x == some .local) = _
    rw [G.hsc]
    unfold isLoc
    split
    · rename_i e; rw [e]; rfl
    · rename_i e
      rw [beq_eq_false_iff_ne]
      exact fun z => e z
  have ky : (X.env.kindOf y == some .local) = isLoc sc y := by
    show (X.env.scope.names.lookup y == some .local) = _
    rw [G.hsc]
    unfold isLoc
    split
    · rename_i e; rw [e]; rfl
    · rename_i e
      rw [beq_eq_false_iff_ne]
      exact fun z => e z
  have st1 := star_of ha [b] X.env
  have st2 := star_of hb [] X.env
  have hnone : swappedStores [.Tuple [.Name x px, .Name y py] kt pt] (.Tuple [a, b] k2 pt2) X.env = pure none → PS X (.Assign [.Tuple [.Name x px, .Name y py] kt pt] (.Tuple [a, b] k2 pt2) pos) (tS X.K g fun env => (ea env).bind fun u => (eb u.2).bind fun w => if i < w.2.length ∧ j < w.2.length then some (.nx ((w.2.set i (slOf u.1)).set j (slOf w.1))) else none) := fun hw => by
    refine PSw (ps_asg (pe_tup (pa_cons pa (pa_cons pb pa_nil st2) st1)) (pg_tup G.calm (pgs_cons (G.name h1 h3) (pgs_cons (G.name h2 h4) pgs_nil rfl) rfl) rfl rfl) rfl hw rfl) fun D σ H ⟨kp, F, env, o, q1, R, q⟩ => ?_
    obtain ⟨⟨r1, e1⟩, a1, q1⟩ := Option.bind_eq_some_iff.mp q1
    obtain ⟨⟨r2, e2⟩, a2, q1⟩ := Option.bind_eq_some_iff.mp q1
    simp only at q1
    split at q1
    · rename_i hl
      cases q1
      refine par_pair (Q := fun vs H1 => vs.length ≤ sizeLine ∧ ∀ p, H1 p = none → gTup X.K _ _ (.ref p) σ (upd H1 p (.tup vs)) D.nx) a1 a2 R fun F1 v w H1 s1 R1 p1 p2 ne => ⟨by show 2 ≤ sizeLine; rw [sizeLine_eq]; decide, fun T hT => ⟨T, [v, w], rfl, sqT_of upd_same, rfl, v, [w], rfl, w, [], rfl, rfl, ?_⟩⟩
      exact q F1 _ _ s1 ((R1.newX hT).set2 hl.1 (by rw [List.length_set]; exact hl.2) (p1.newX hT) (p2.newX hT) ne)
    · cases q1
  cases hS : (isLoc sc x && isLoc sc y && (px.line == py.line)) with
  | false => exact hnone (ss_none ha hb hk (.inl (by rw [kx, ky]; exact hS)))
  | true =>
    cases hF : (foldedForSure 8 a && foldedForSure 8 b) with
    | true => exact hnone (ss_none ha hb hk (.inr hF))
    | false =>
      rw [hS, hF] at hc
      simp only [Bool.not_true, Bool.or_false, Bool.false_or, Bool.not_eq_true'] at hc
      have hw := ss_some (kt := kt) (k2 := k2) (pt := pt) (pt2 := pt2) ha hb hk hxy (by rw [kx, ky]; exact hS) hF hc
      simp only [Bool.and_eq_true] at hS
      have lx : X.env.scope.names.lookup x = some .local := by
        have := hS.1.1; rw [← kx] at this; exact eq_of_beq this
      have ly : X.env.scope.names.lookup y = some .local := by
        have := hS.1.2; rw [← ky] at this; exact eq_of_beq this
      refine PSw (ps_par G.calm (by rw [G.hN]; exact G.nd) (by rw [G.hN]; exact isAt_ok h1) (by rw [G.hN]; exact isAt_ok h2) hij lx ly (pa_cons pa (pa_cons pb pa_nil st2) st1) hw) fun D σ H ⟨kp, F, env, o, q1, R, q⟩ => ?_
      obtain ⟨⟨r1, e1⟩, a1, q1⟩ := Option.bind_eq_some_iff.mp q1
      obtain ⟨⟨r2, e2⟩, a2, q1⟩ := Option.bind_eq_some_iff.mp q1
      simp only at q1
      split at q1
      · rename_i hl
        cases q1
        refine par_pair (Q := fun vs H1 => ∃ v w, vs = [v, w] ∧ D.nx ((σ.set i (some v)).set j (some w)) H1) a1 a2 R fun F1 v w H1 s1 R1 p1 p2 ne => ⟨v, w, rfl, ?_⟩
        exact q F1 _ _ s1 (R1.set2 hl.1 (by rw [List.length_set]; exact hl.2) p1 p2 ne)
      · cases q1
theorem kind_loc (G : Good P k X N sc fn) (x : Str) : (X.env.kindOf x == some .local) = isLoc sc x := by
  show (X.env.scope.names.lookup x == some .local) = _
  rw [G.hsc]
  unfold isLoc
  split
  · rename_i e; rw [e]; rfl
  · rename_i e
    rw [beq_eq_false_iff_ne]
    exact fun z => e z
theorem snd_par3 (G : Good P k X N sc fn) {i j l : Nat} {x y z : Str} {px py pz pt pt2 : Pos} {kt k2 : Nat} {a b c : Expr} {ea eb ec : Env → Option (RD × Env)} (h1 : isAt N i x = true) (h2 : isAt N j y = true) (h5 : isAt N l z = true) (h3 : locB sc fn x = true) (h4 : locB sc fn y = true) (h6 : locB sc fn z = true) (ha : plainX a = true) (hb : plainX b = true) (hc' : plainX c = true)
    (pa : PE X a (tR X.K g ea)) (pb : PE X b (tR X.K g eb)) (pc : PE X c (tR X.K g ec)) (hij : i ≠ j) (hil : i ≠ l) (hjl : j ≠ l)
    (hc : (!(isLoc sc x && isLoc sc y && isLoc sc z && (py.line == px.line) && (pz.line == px.line)) || (foldedForSure 8 a && foldedForSure 8 b && foldedForSure 8 c) || !(constantsAlone 8 a && constantsAlone 8 b && constantsAlone 8 c)) = true) :
    PS X (.Assign [.Tuple [.Name x px, .Name y py, .Name z pz] kt pt] (.Tuple [a, b, c] k2 pt2) pos) (tS X.K g fun env => (ea env).bind fun u => (eb u.2).bind fun v => (ec v.2).bind fun w => if i < w.2.length ∧ j < w.2.length ∧ l < w.2.length then some (.nx (((w.2.set i (slOf u.1)).set j (slOf v.1)).set l (slOf w.1))) else none) := by
  have hk : X.env.blockKind = .function := by unfold PySem.Env.blockKind; rw [G.hsc, G.kind]; rfl
  have hxy := nd_ne G.nd (isAt_ok h1) (isAt_ok h2) hij
  have hxz := nd_ne G.nd (isAt_ok h1) (isAt_ok h5) hil
  have hyz := nd_ne G.nd (isAt_ok h2) (isAt_ok h5) hjl
  have st1 := star_of ha [b, c] X.env
  have st2 := star_of hb [c] X.env
  have st3 := star_of hc' [] X.env
  have PAs := pa_cons pa (pa_cons pb (pa_cons pc pa_nil st3) st2) st1
  have hnone : swappedStores [.Tuple [.Name x px, .Name y py, .Name z pz] kt pt] (.Tuple [a, b, c] k2 pt2) X.env = pure none → PS X (.Assign [.Tuple [.Name x px, .Name y py, .Name z pz] kt pt] (.Tuple [a, b, c] k2 pt2) pos) (tS X.K g fun env => (ea env).bind fun u => (eb u.2).bind fun v => (ec v.2).bind fun w => if i < w.2.length ∧ j < w.2.length ∧ l < w.2.length then some (.nx (((w.2.set i (slOf u.1)).set j (slOf v.1)).set l (slOf w.1))) else none) := fun hw => by
    refine PSw (ps_asg (pe_tup PAs) (pg_tup G.calm (pgs_cons (G.name h1 h3) (pgs_cons (G.name h2 h4) (pgs_cons (G.name h5 h6) pgs_nil rfl) rfl) rfl) rfl rfl) rfl hw rfl) fun D σ H ⟨kp, F, env, o, q1, R, q⟩ => ?_
    obtain ⟨⟨r1, e1⟩, a1, q1⟩ := Option.bind_eq_some_iff.mp q1
    obtain ⟨⟨r2, e2⟩, a2, q1⟩ := Option.bind_eq_some_iff.mp q1
    obtain ⟨⟨r3, e3⟩, a3, q1⟩ := Option.bind_eq_some_iff.mp q1
    simp only at q1
    split at q1
    · rename_i hl
      cases q1
      refine par_triple (Q := fun vs H1 => vs.length ≤ sizeLine ∧ ∀ p, H1 p = none → gTup X.K _ _ (.ref p) σ (upd H1 p (.tup vs)) D.nx) a1 a2 a3 R fun F1 u v w H1 s1 R1 p1 p2 p3 n12 n13 n23 => ⟨by show 3 ≤ sizeLine; rw [sizeLine_eq]; decide, fun T hT => ⟨T, [u, v, w], rfl, sqT_of upd_same, rfl, u, [v, w], rfl, v, [w], rfl, w, [], rfl, rfl, ?_⟩⟩
      exact q F1 _ _ s1 ((R1.newX hT).set3 hl.1 hl.2.1 hl.2.2 (p1.newX hT) (p2.newX hT) (p3.newX hT) n12 n13 n23)
    · cases q1
  cases hS : (isLoc sc x && isLoc sc y && isLoc sc z && (py.line == px.line) && (pz.line == px.line)) with
  | false => exact hnone (ss_none3 ha hb hc' hk (.inl (by rw [kind_loc G, kind_loc G, kind_loc G]; exact hS)))
  | true =>
    cases hF : (foldedForSure 8 a && foldedForSure 8 b && foldedForSure 8 c) with
    | true => exact hnone (ss_none3 ha hb hc' hk (.inr hF))
    | false =>
      rw [hS, hF] at hc
      simp only [Bool.not_true, Bool.or_false, Bool.false_or, Bool.not_eq_true'] at hc
      have hw := ss_some3 (kt := kt) (k2 := k2) (pt := pt) (pt2 := pt2) ha hb hc' hk hxy hxz hyz (by rw [kind_loc G, kind_loc G, kind_loc G]; exact hS) hF hc
      simp only [Bool.and_eq_true] at hS
      have lx : X.env.scope.names.lookup x = some .local := by
        have := hS.1.1.1.1; rw [← kind_loc G] at this; exact eq_of_beq this
      have ly : X.env.scope.names.lookup y = some .local := by
        have := hS.1.1.1.2; rw [← kind_loc G] at this; exact eq_of_beq this
      have lz : X.env.scope.names.lookup z = some .local := by
        have := hS.1.1.2; rw [← kind_loc G] at this; exact eq_of_beq this
      refine PSw (ps_par3 G.calm (by rw [G.hN]; exact G.nd) (by rw [G.hN]; exact isAt_ok h1) (by rw [G.hN]; exact isAt_ok h2) (by rw [G.hN]; exact isAt_ok h5) hij hil hjl lx ly lz PAs hw) fun D σ H ⟨kp, F, env, o, q1, R, q⟩ => ?_
      obtain ⟨⟨r1, e1⟩, a1, q1⟩ := Option.bind_eq_some_iff.mp q1
      obtain ⟨⟨r2, e2⟩, a2, q1⟩ := Option.bind_eq_some_iff.mp q1
      obtain ⟨⟨r3, e3⟩, a3, q1⟩ := Option.bind_eq_some_iff.mp q1
      simp only at q1
      split at q1
      · rename_i hl
        cases q1
        refine par_triple (Q := fun vs H1 => ∃ u v w, vs = [u, v, w] ∧ D.nx (((σ.set i (some u)).set j (some v)).set l (some w)) H1) a1 a2 a3 R fun F1 u v w H1 s1 R1 p1 p2 p3 n12 n13 n23 => ⟨u, v, w, rfl, ?_⟩
        exact q F1 _ _ s1 (R1.set3 hl.1 hl.2.1 hl.2.2 p1 p2 p3 n12 n13 n23)
      · cases q1
/-! ### (a, b), (c, d) = x, y -/
theorem parOk_ss {xs vs : List Expr} {kt k2 : Nat} {pt pt2 : Pos} {env : PySem.Env} (h : parOk sc xs vs = true) : swappedStores [.Tuple xs kt pt] (.Tuple vs k2 pt2) env = pure none := by
  unfold parOk at h
  simp only [Bool.and_eq_true, decide_eq_true_eq] at h
  obtain ⟨⟨h1, h2⟩, h3⟩ := h
  match xs, vs, h1, h2, h3 with
  | [x1, x2], [v1, v2], h1, _, _ =>
    simp only [List.all_cons, List.all_nil, Bool.and_true, Bool.and_eq_true] at h1
    cases x1 <;> first | (have := h1.1; cases this; done) | skip
    cases x2 <;> first | (have := h1.2; cases this; done) | skip
    unfold swappedStores
    simp [List.filterMap]
  | [], _, _, h2, _ => simp at h2
  | [_], _, _, h2, _ => simp at h2
  | _ :: _ :: _ :: _, _, _, h2, _ => simp at h2
  | _, [], _, _, h3 => simp at h3
  | _, [_], _, _, h3 => simp at h3
  | _, _ :: _ :: _ :: _, _, _, h3 => simp at h3
theorem snd_parT (G : Good P k X N sc fn) {ts : List T} {xs vs : List Expr} {kt k2 : Nat} {pt pt2 : Pos} {evs : Env → Option (List D × Env)} (ht : mTs N sc fn ts xs = true) (hz : vs.length ≤ sizeLine) (hlen : ∀ env ds env', evs env = some (ds, env') → ds.length = vs.length) (h : PA X vs (tDs X.K g evs)) (hp : parOk sc xs vs = true) :
    PS X (.Assign [.Tuple xs kt pt] (.Tuple vs k2 pt2) pos) (tS X.K g fun env => (evs env).bind fun x => (bindTs ts x.1 x.2).map .nx) := by
  obtain ⟨_, b, c⟩ := mTs_each (env := X.env) ht
  refine PSw (ps_asg (pe_tup h) (pg_tup (n := ts.length) G.calm (sndTs (g := g) G ts xs ht) c b) rfl (parOk_ss hp) rfl) fun D σ H ⟨kp, F, env, o, e1, R, q⟩ => ?_
  obtain ⟨⟨ds, e2⟩, h2, e1⟩ := Option.bind_eq_some_iff.mp e1
  obtain ⟨e3, h3, e4⟩ := Option.map_eq_some_iff.mp e1
  cases e4
  refine ⟨kp, F, env, ds, e2, h2, R, fun F1 ws H1 s1 R1 po => ⟨by rw [← po.len, hlen _ _ _ h2]; exact hz, fun T hT => ⟨T, ws, rfl, sqT_of upd_same, ?_, kp, F1, e2, ds, e3, h3, R1.newX hT, po, fun σ' R2 _ _ => q F1 σ' _ s1 R2⟩⟩⟩
  rw [← po.len]
  have key : ∀ {ts : List MI.T} {ds : List MI.D} {env env' : MI.Env}, bindTs ts ds env = some env' → ds.length = ts.length := fun {ts} => by
    induction ts with
    | nil => intro ds env env' h; cases ds with
      | nil => rfl
      | cons _ _ => unfold bindTs at h; cases h
    | cons t ts ih => intro ds env env' h; cases ds with
      | nil => unfold bindTs at h; cases h
      | cons d ds =>
        unfold bindTs at h
        obtain ⟨env1, h2, e1⟩ := Option.bind_eq_some_iff.mp h
        rw [List.length_cons, List.length_cons, ih e1]
  exact key h3
end
end MI

namespace MI
open PySem PySem.Spec PyProof.Rows L2
theorem sw_lc {elt : Expr} {gs : List Comprehension} {scope : Scope} {pos py : Pos} {y : Str} {l : Nat} {env : PySem.Env} : swapsWith (.ListComp elt gs scope pos) (some (.Name y py)) l env = pure (env.blockKind == .function && env.kindOf y == some .local && py.line == pos.line && !(scope.names.any fun (n, k) => n == y && (k == .local || k == .cell))) := rfl
section
variable {P : Prg} {k : Nat} {N : List Str} {g : Gh} {X : Cx} {sc : Scope} {fn : Str → Bool} {pos : Pos}
theorem mE_lc {e' : E} {elt : Expr} {gs : List Comprehension} {scope : Scope} {p : Pos} (h : mE N sc e' (.ListComp elt gs scope p) = true) : (∃ own elt0 tg it cnd, e' = .lc own elt0 tg it cnd) ∨ ∃ own own2 elt0 tg it tg2 it2 cnd, e' = .lc2 own own2 elt0 tg it tg2 it2 cnd := by
  cases e'
  case lc own elt0 tg it cnd => exact .inl ⟨own, elt0, tg, it, cnd, rfl⟩
  case lc2 own own2 elt0 tg it tg2 it2 cnd => exact .inr ⟨own, own2, elt0, tg, it, tg2, it2, cnd, rfl⟩
  case cst d => cases d <;> (unfold mE at h; cases h)
  all_goals (unfold mE at h; cases h)
theorem snd_asgE (G : Good P k X N sc fn) {i : Nat} {x : Str} {px : Pos} {e' : E} {e : Expr} (h1 : isAt N i x = true) (h2 : locB sc fn x = true) (hm : mE N sc e' e = true) :
    PS X (.Assign [.Name x px] e pos) (tS X.K g fun env => (evR (P.ctx k) e' env).bind fun x => if i < x.2.length then some (.nx (x.2.set i (slOf x.1))) else none) := by
  have r := (sndE (g := g) e' X sc fn e G hm).1
  cases hL : isLcX e with
  | false => exact snd_asg G h1 h2 (sw_no hL (mE_plain hm)) r
  | true =>
    cases e <;> first | cases hL | skip
    rename_i elt0 gs scope lpos
    cases hb : (X.env.blockKind == .function && X.env.kindOf x == some .local && px.line == lpos.line && !(scope.names.any fun (n, k) => n == x && (k == .local || k == .cell))) with
    | false => exact snd_asg G h1 h2 (by rw [sw_lc, hb]) r
    | true =>
      have hsw : swapsWith (.ListComp elt0 gs scope lpos) (some (.Name x px)) pos.line X.env = pure true := by rw [sw_lc, hb]
      simp only [Bool.and_eq_true] at hb
      have lx : X.env.scope.names.lookup x = some .local := eq_of_beq hb.1.1.2
      rcases mE_lc hm with ⟨own, elt, tg, it, cnd, rfl⟩ | ⟨own, own2, elt, tg, it, tg2, it2, cnd, rfl⟩
      rotate_left
      · have h0 := hm
        unfold mE at hm
        split at hm
        · rename_i elt' tg' iter' as tg2' iter2' ifs' as2 scope' pos' heq
          cases heq
          simp only [Bool.and_eq_true, decide_eq_true_eq] at hm
          obtain ⟨⟨⟨⟨⟨⟨⟨⟨⟨⟨⟨⟨a1, a1'⟩, a2⟩, a3⟩, a4⟩, a5⟩, a6⟩, a7⟩, a8⟩, a9⟩, a10⟩, a11⟩, a12⟩ := hm
          subst a1 a1'
          have hk := blkC_kind a2
          have ok : BlkOk X.N X.env.scope scope (ownN N own) := by rw [G.hN, G.hsc]; exact blkOk_by a2
          have hsub : ∀ j ∈ slotsT tg, j ∈ own := fun j hj => by
            have := List.all_eq_true.mp a4 j hj
            simpa using this
          have hsub2 : ∀ j ∈ slotsT tg2, j ∈ own2 := fun j hj => by
            have := List.all_eq_true.mp a7 j hj
            simpa using this
          have hown : ∀ j ∈ own2, j ∈ own := fun j hj => by
            have := List.all_eq_true.mp a8 j hj
            simpa using this
          have fin : ∀ {tt : TT}, (∀ σ H Q, tTst X.K g (testOf cnd (evR (P.ctx k) cnd)) σ H Q → tt σ H Q) → ∀ D σ H, tS X.K g (fun env => (evR (P.ctx k) (.lc2 own own2 elt tg it tg2 it2 cnd) env).bind fun x => if i < x.2.length then some (.nx (x.2.set i (slOf x.1))) else none) D σ H →
              tAsg (tLc2 (tI X.K g (evI (P.ctx k) it)) (tgT X.K g tg) tYes (tI X.K g (evI (P.ctx k) it2)) (tgT X.K g tg2) tt (tD X.K g (frz (evR (P.ctx k) elt))) ((ownN N own).map (·.2)) own2) (gName i) D σ H := fun {tt} htt D σ H ⟨kp, F, env, o, e1, R, q⟩ => by
            obtain ⟨⟨rd, e2⟩, h2, e3⟩ := Option.bind_eq_some_iff.mp e1
            simp only at e3
            split at e3
            · rename_i hl
              cases e3
              rw [ownN_snd]
              exact snd_lc2W hsub hsub2 hown htt σ H _ ⟨kp, F, env, rd, e2, h2, R, fun F' v H' s1 R1 po => q F' _ H' s1 (R1.set hl po)⟩
            · cases e3
          cases ifs' with
          | nil =>
            have a12 : isTrueE cnd = true := a12
            have hc := isTrueE_ok a12
            subst hc
            exact PSw (ps_setLc2 (wi1 := tI X.K g (evI (P.ctx k) it2)) (g := tgT X.K g tg) (g1 := tgT X.K g tg2) (te := tD X.K g (frz (evR (P.ctx k) elt))) (vs1 := own2) G.calm (by rw [G.hN]; exact G.nd) (by rw [G.hN]; exact isAt_ok h1) lx hsw (sndI it X sc fn tg' iter' G a9) ok (by rw [ownN_snd]; exact hown) (fun s H C cl fp => sndT (G.blk hk s H C cl fp) tg tg' a3) (fun _ _ _ _ _ => pts_nil)
              (fun s H C cl fp => sndI it2 _ _ _ tg2' iter2' (G.blk hk s H C cl fp) a10) (fun s H C cl fp => sndT (G.blk hk s H C cl fp) tg2 tg2' a6) (fun _ _ _ _ _ => pts_nil)
              (fun s H C cl fp => snd_frz (sndE elt _ _ _ elt0 (G.blk hk s H C cl fp) a11).1) (mI_fold a9 _) (fun env => mI_fold a10 env)) (fin pv_true)
          | cons c rest =>
            cases rest with
            | cons _ _ => cases a12
            | nil =>
              have a12 : (mE N (relS scope sc) cnd c && !isIte cnd) = true := a12
              simp only [Bool.and_eq_true, Bool.not_eq_true'] at a12
              exact PSw (ps_setLc2 (wi1 := tI X.K g (evI (P.ctx k) it2)) (g := tgT X.K g tg) (g1 := tgT X.K g tg2) (tt1 := tTst X.K g (testOf cnd (evR (P.ctx k) cnd))) (te := tD X.K g (frz (evR (P.ctx k) elt))) (vs1 := own2) G.calm (by rw [G.hN]; exact G.nd) (by rw [G.hN]; exact isAt_ok h1) lx hsw (sndI it X sc fn tg' iter' G a9) ok (by rw [ownN_snd]; exact hown) (fun s H C cl fp => sndT (G.blk hk s H C cl fp) tg tg' a3) (fun _ _ _ _ _ => pts_nil)
                (fun s H C cl fp => sndI it2 _ _ _ tg2' iter2' (G.blk hk s H C cl fp) a10) (fun s H C cl fp => sndT (G.blk hk s H C cl fp) tg2 tg2' a6) (fun s H C cl fp => pts_one ((sndE cnd _ _ _ c (G.blk hk s H C cl fp) a12.1).2 a12.2))
                (fun s H C cl fp => snd_frz (sndE elt _ _ _ elt0 (G.blk hk s H C cl fp) a11).1) (mI_fold a9 _) (fun env => mI_fold a10 env)) (fin fun _ _ _ z => z)
        · cases hm
      have h0 := hm
      unfold mE at hm
      split at hm
      · rename_i elt' tg' iter' ifs' as scope' pos' heq
        cases heq
        simp only [Bool.and_eq_true, decide_eq_true_eq] at hm
        obtain ⟨⟨⟨⟨⟨⟨⟨a1, a2⟩, a3⟩, a4⟩, a5⟩, a6⟩, a7⟩, a8⟩ := hm
        subst a1
        have hk := blkC_kind a2
        have ok : BlkOk X.N X.env.scope scope (ownN N own) := by rw [G.hN, G.hsc]; exact blkOk_by a2
        have hsub : ∀ j ∈ slotsT tg, j ∈ own := fun j hj => by
          have := List.all_eq_true.mp a4 j hj
          simpa using this
        have fin : ∀ {tt : TT}, (∀ σ H Q, tTst X.K g (testOf cnd (evR (P.ctx k) cnd)) σ H Q → tt σ H Q) → ∀ D σ H, tS X.K g (fun env => (evR (P.ctx k) (.lc own elt tg it cnd) env).bind fun x => if i < x.2.length then some (.nx (x.2.set i (slOf x.1))) else none) D σ H →
            tAsg (tLc (tI X.K g (evI (P.ctx k) it)) (tgT X.K g tg) tt (tD X.K g (frz (evR (P.ctx k) elt))) ((ownN N own).map (·.2))) (gName i) D σ H := fun {tt} htt D σ H ⟨kp, F, env, o, e1, R, q⟩ => by
          obtain ⟨⟨rd, e2⟩, h2, e3⟩ := Option.bind_eq_some_iff.mp e1
          simp only at e3
          split at e3
          · rename_i hl
            cases e3
            rw [ownN_snd]
            exact snd_lcW hsub htt σ H _ ⟨kp, F, env, rd, e2, h2, R, fun F' v H' s1 R1 po => q F' _ H' s1 (R1.set hl po)⟩
          · cases e3
        cases ifs' with
        | nil =>
          have a8 : isTrueE cnd = true := a8
          have hc := isTrueE_ok a8
          subst hc
          exact PSw (ps_setLc (g := tgT X.K g tg) (te := tD X.K g (frz (evR (P.ctx k) elt))) G.calm (by rw [G.hN]; exact G.nd) (by rw [G.hN]; exact isAt_ok h1) lx hsw (sndI it X sc fn tg' iter' G a6) ok (fun s H C cl fp => sndT (G.blk hk s H C cl fp) tg tg' a3) (fun _ _ _ _ _ => pts_nil)
            (fun s H C cl fp => snd_frz (sndE elt _ _ _ elt0 (G.blk hk s H C cl fp) a7).1) (mI_fold a6 _)) (fin pv_true)
        | cons c rest =>
          cases rest with
          | cons _ _ => cases a8
          | nil =>
            have a8 : (mE N (relS scope sc) cnd c && !isIte cnd) = true := a8
            simp only [Bool.and_eq_true, Bool.not_eq_true'] at a8
            exact PSw (ps_setLc (g := tgT X.K g tg) (tt := tTst X.K g (testOf cnd (evR (P.ctx k) cnd))) (te := tD X.K g (frz (evR (P.ctx k) elt))) G.calm (by rw [G.hN]; exact G.nd) (by rw [G.hN]; exact isAt_ok h1) lx hsw (sndI it X sc fn tg' iter' G a6) ok (fun s H C cl fp => sndT (G.blk hk s H C cl fp) tg tg' a3)
              (fun s H C cl fp => pts_one ((sndE cnd _ _ _ c (G.blk hk s H C cl fp) a8.1).2 a8.2)) (fun s H C cl fp => snd_frz (sndE elt _ _ _ elt0 (G.blk hk s H C cl fp) a7).1) (mI_fold a6 _)) (fin fun _ _ _ z => z)
      · cases hm
theorem mEs_len : ∀ {es : List E} {vs : List Expr}, mEs N sc es vs = true → es.length = vs.length
  | [], [], _ => rfl
  | e :: es, v :: vs, h => by
    unfold mEs at h
    simp only [Bool.and_eq_true] at h
    rw [List.length_cons, List.length_cons, mEs_len h.2]
  | [], _ :: _, h => by unfold mEs at h; cases h
  | _ :: _, [], h => by unfold mEs at h; cases h
theorem par_eq {C : Ctx} {w : Nat} {i j : Nat} {a b : E} (h : i ≠ j) (env : Env) : exS C w (.par [i, j] [a, b]) env = (evR C a env).bind fun u => (evR C b u.2).bind fun w => if i < w.2.length ∧ j < w.2.length then some (.nx ((w.2.set i (slOf u.1)).set j (slOf w.1))) else none := by
  have hn : [i, j].Nodup := by simp [h]
  unfold exS
  rw [if_pos hn]
  simp only [evRs]
  cases q1 : evR C a env with
  | none => rfl
  | some u =>
    simp only [Option.bind_some]
    cases q2 : evR C b u.2 with
    | none => rfl
    | some w =>
      simp only [Option.bind_some, Option.map_some, setIs]
      by_cases hi : i < w.2.length
      · by_cases hj : j < w.2.length
        · simp [hi, hj]
        · simp [hi, hj]
      · simp [hi]
theorem par_eq3 {C : Ctx} {w : Nat} {i j l : Nat} {a b c : E} (h : i ≠ j) (h' : i ≠ l) (h'' : j ≠ l) (env : Env) : exS C w (.par [i, j, l] [a, b, c]) env = (evR C a env).bind fun u => (evR C b u.2).bind fun v => (evR C c v.2).bind fun w => if i < w.2.length ∧ j < w.2.length ∧ l < w.2.length then some (.nx (((w.2.set i (slOf u.1)).set j (slOf v.1)).set l (slOf w.1))) else none := by
  have hn : [i, j, l].Nodup := by simp [h, h', h'']
  unfold exS
  rw [if_pos hn]
  simp only [evRs]
  cases q1 : evR C a env with
  | none => rfl
  | some u =>
    simp only [Option.bind_some]
    cases q2 : evR C b u.2 with
    | none => rfl
    | some v =>
      simp only [Option.bind_some]
      cases q3 : evR C c v.2 with
      | none => rfl
      | some w =>
        simp only [Option.bind_some, Option.map_some, setIs]
        by_cases hi : i < w.2.length
        · by_cases hj : j < w.2.length
          · by_cases hl : l < w.2.length
            · simp [hi, hj, hl]
            · simp [hi, hj, hl]
          · simp [hi, hj]
        · simp [hi]
theorem mS_par {is : List Nat} {es : List E} {st : Stmt} (h : mS N sc fn (.par is es) st = true) : (∃ i j a b, is = [i, j] ∧ es = [a, b]) ∨ ∃ i j l a b c, is = [i, j, l] ∧ es = [a, b, c] := by
  rcases is with _ | ⟨i, _ | ⟨j, _ | ⟨l, _ | ⟨m, r⟩⟩⟩⟩
  · unfold mS at h; cases h
  · unfold mS at h; cases h
  · rcases es with _ | ⟨a, _ | ⟨b, _ | ⟨c, r⟩⟩⟩
    · unfold mS at h; cases h
    · unfold mS at h; cases h
    · exact .inl ⟨i, j, a, b, rfl, rfl⟩
    · unfold mS at h; cases h
  · rcases es with _ | ⟨a, _ | ⟨b, _ | ⟨c, _ | ⟨d, r⟩⟩⟩⟩
    · unfold mS at h; cases h
    · unfold mS at h; cases h
    · unfold mS at h; cases h
    · exact .inr ⟨i, j, l, a, b, c, rfl, rfl⟩
    · unfold mS at h; cases h
  · unfold mS at h; cases h
mutual
theorem sndS (G : Good P k X N sc fn) (hps : PassesOwn (model X.prog X.w) X.A X.env X.xe) : ∀ (s' : S) (st : Stmt), mS N sc fn s' st = true → PS X st (tS X.K g (exS (P.ctx k) P.w s'))
  | .asg i e, st, h => by
    unfold mS at h
    split at h
    · simp only [Bool.and_eq_true] at h
      exact PSw (snd_asgE G h.1.1 h.1.2 h.2) (tSc fun env => by unfold exS; rfl)
    · cases h
  | .asgT t e, st, h => by
    cases t with
    | nm i => unfold mS at h; cases h
    | tp ts =>
      unfold mS at h
      split at h
      · simp only [Bool.and_eq_true, Bool.not_eq_true'] at h
        obtain ⟨⟨⟨h1, h2⟩, h3⟩, h4⟩ := h
        exact PSw (snd_asgT G h1 (snd_frz (sndE e X sc fn _ G h2).1) h4 (mE_plain h2) h3) (tSc fun env => by unfold exS; rfl)
      · cases h
    | tl ts =>
      unfold mS at h
      split at h
      · simp only [Bool.and_eq_true, Bool.not_eq_true'] at h
        obtain ⟨⟨⟨h1, h2⟩, h3⟩, h4⟩ := h
        exact PSw (snd_asgT G h1 (snd_frz (sndE e X sc fn _ G h2).1) h4 (mE_plain h2) h3) (tSc fun env => by unfold exS; rfl)
      · cases h
  | .par is es, st, h => by
    rcases mS_par h with ⟨i, j, a, b, rfl, rfl⟩ | ⟨i, j, l, a, b, c, rfl, rfl⟩
    · unfold mS at h
      split at h
      · simp only [Bool.and_eq_true, decide_eq_true_eq] at h
        obtain ⟨⟨⟨⟨⟨⟨⟨h1, h2⟩, h3⟩, h4⟩, h5⟩, h6⟩, h7⟩, h8⟩ := h
        exact PSw (snd_par G h1 h2 h3 h4 (mE_plain h5) (mE_plain h6) (sndE _ X sc fn _ G h5).1 (sndE _ X sc fn _ G h6).1 h7 h8) (tSc fun env => par_eq h7 env)
      · cases h
    · unfold mS at h
      split at h
      · simp only [Bool.and_eq_true, decide_eq_true_eq] at h
        obtain ⟨⟨⟨⟨⟨⟨⟨⟨⟨⟨⟨⟨h1, h2⟩, h3⟩, h4⟩, h5⟩, h6⟩, h7⟩, h8⟩, h9⟩, h10⟩, h11⟩, h12⟩, h13⟩ := h
        exact PSw (snd_par3 G h1 h2 h3 h4 h5 h6 (mE_plain h7) (mE_plain h8) (mE_plain h9) (sndE _ X sc fn _ G h7).1 (sndE _ X sc fn _ G h8).1 (sndE _ X sc fn _ G h9).1 h10 h11 h12 h13) (tSc fun env => par_eq3 h10 h11 h12 env)
      · cases h
  | .setI i ix e, st, h => by
    unfold mS at h
    split at h
    · simp only [Bool.and_eq_true, Bool.not_eq_true'] at h
      obtain ⟨⟨⟨⟨⟨h1, h2⟩, h3⟩, h4⟩, h5⟩, h6⟩ := h
      exact PSw (snd_setI G h1 h2 h3 (mE_plain h4) (snd_frz (sndE ix X sc fn _ G h4).1) (snd_frz (sndE e X sc fn _ G h5).1) h6 (mE_plain h5)) (tSc fun env => by unfold exS; rfl)
    · cases h
  | .set2 i ix e i2 ix2 e2, st, h => by
    unfold mS at h
    split at h
    · simp only [Bool.and_eq_true] at h
      obtain ⟨⟨⟨⟨⟨⟨⟨⟨⟨h1, h2⟩, h3⟩, h4⟩, h5⟩, h6⟩, h7⟩, h8⟩, h9⟩, h10⟩ := h
      exact PSw (snd_set2 G h1 h2 h3 (mE_plain h4) (snd_frz (sndE ix X sc fn _ G h4).1) (snd_frz (sndE e X sc fn _ G h5).1) (mE_plain h5) h6 h7 h8 (mE_plain h9) (snd_frz (sndE ix2 X sc fn _ G h9).1) (snd_frz (sndE e2 X sc fn _ G h10).1) (mE_plain h10)) (tSc fun env => by unfold exS; rfl)
    · cases h
  | .aug i op e, st, h => by
    unfold mS at h
    split at h
    · simp only [Bool.and_eq_true, decide_eq_true_eq] at h
      obtain ⟨⟨⟨h1, h2⟩, h3⟩, h4⟩ := h
      subst h3
      exact PSw (snd_aug G h1 h2 (snd_frz (sndE e X sc fn _ G h4).1)) (tSc fun env => by unfold exS; rfl)
    · cases h
  | .app i e, st, h => by
    unfold mS at h
    split at h
    · simp only [Bool.and_eq_true, decide_eq_true_eq] at h
      obtain ⟨⟨⟨⟨⟨h1, h2⟩, h3⟩, h4⟩, h5⟩, h6⟩ := h
      exact PSw (snd_app G h1 h2 h3 h4 (mE_plain h5) h6 (snd_frz (sndE e X sc fn _ G h5).1)) (tSc fun env => by unfold exS; rfl)
    · cases h
  | .ext i e, st, h => by
    unfold mS at h
    split at h
    · simp only [Bool.and_eq_true, decide_eq_true_eq] at h
      obtain ⟨⟨⟨⟨⟨h1, h2⟩, h3⟩, h4⟩, h5⟩, h6⟩ := h
      exact PSw (snd_ext G h1 h2 h3 h4 (mE_plain h5) h6 (snd_frz (sndE e X sc fn _ G h5).1)) (tSc fun env => by unfold exS; rfl)
    · cases h
  | .expr e, st, h => by
    unfold mS at h
    split at h
    · simp only [Bool.and_eq_true, Bool.not_eq_true'] at h
      exact PSw (snd_expr (sndE e X sc fn _ G h.1).1 h.2 (mE_plain h.1)) (tSc fun env => by unfold exS; rfl)
    · cases h
  | .ret e, st, h => by
    unfold mS at h
    split at h
    · by_cases hv : ∃ i, e = .var i
      · obtain ⟨i, rfl⟩ := hv
        exact PSw (snd_retV G h) (tSc fun env => by unfold exS; rfl)
      · exact PSw (snd_ret (sndE e X sc fn _ G h).1) (tSc fun env => by
          unfold exS
          split
          · exact absurd ⟨_, rfl⟩ hv
          · rfl)
    · exact PSw (snd_retN (C := P.ctx k) h) (tSc fun env => by
        have he : e = .cst .non := by
          unfold isNon at h
          split at h
          · rfl
          · cases h
        subst he
        unfold exS
        rfl)
    · cases h
  | .ifs c a b, st, h => by
    unfold mS at h
    split at h
    · simp only [Bool.and_eq_true, Bool.not_eq_true'] at h
      obtain ⟨⟨⟨h1, h2⟩, h3⟩, h4⟩ := h
      exact PSw (snd_if ((sndE c X sc fn _ G h1).2 h2) (sndSs G hps a _ h3) (sndSs G hps b _ h4)) (tSc fun env => by unfold exS; rfl)
    · cases h
  | .for_ t it body, st, h => by
    unfold mS at h
    split at h
    · simp only [Bool.and_eq_true] at h
      obtain ⟨⟨h1, h2⟩, h3⟩ := h
      exact PSw (snd_for (it := it) G hps h1 (mI_fold h2 _) (sndI it X sc fn _ _ G h2) (sndSs G hps body _ h3)) (tSc fun env => by unfold exS; rfl)
    · cases h
  | .while_ c body, st, h => by
    unfold mS at h
    split at h
    · simp only [Bool.and_eq_true, Bool.not_eq_true'] at h
      obtain ⟨⟨h1, h2⟩, h3⟩ := h
      exact PSw (snd_while hps ((sndE c X sc fn _ G h1).2 h2) (sndSs G hps body _ h3)) (tSc fun env => by conv => lhs; unfold exS)
    · cases h
  | .dput i ix e, st, h => by
    unfold mS at h
    split at h
    · simp only [Bool.and_eq_true, Bool.not_eq_true'] at h
      obtain ⟨⟨⟨⟨⟨h1, h2⟩, h3⟩, h4⟩, h5⟩, h6⟩ := h
      exact PSw (snd_dput G h1 h2 h3 (snd_frz (sndE ix X sc fn _ G h4).1) (snd_frz (sndE e X sc fn _ G h5).1) h6 (mE_plain h5)) (tSc fun env => by unfold exS; rfl)
    · cases h
  | .fld c i f e, st, h => by
    unfold mS at h
    split at h
    · simp only [Bool.and_eq_true, Bool.not_eq_true', decide_eq_true_eq] at h
      obtain ⟨⟨⟨⟨⟨h1, h2⟩, h3⟩, h4⟩, h5⟩, h6⟩ := h
      subst h4
      exact PSw (snd_fld G h1 h2 h3 (snd_frz (sndE e X sc fn _ G h5).1) h6 (mE_plain h5)) (tSc fun env => by unfold exS; rfl)
    · cases h
  | .parT ts es, st, h => by
    unfold mS at h
    split at h
    · rename_i xs _ _ vs _ _ _
      simp only [Bool.and_eq_true] at h
      obtain ⟨⟨h1, h2⟩, h3⟩ := h
      obtain ⟨hd, _⟩ := sndEs es X sc fn _ G h2
      have hv : vs.length = 2 := by
        unfold parOk at h3
        simp only [Bool.and_eq_true, decide_eq_true_eq] at h3
        exact h3.2
      exact PSw (snd_parT G h1 (by rw [hv, sizeLine_eq]; decide) (fun env ds env' hh => by rw [evD_len hh]; exact mEs_len h2) hd h3) (tSc fun env => by unfold exS; rfl)
    · cases h
  | .pass, st, h => by
    unfold mS at h
    split at h
    · exact PSw snd_pass (tSc fun env => by unfold exS; rfl)
    · cases h
  | .brk, st, h => by
    unfold mS at h
    split at h
    · exact PSw snd_brk (tSc fun env => by unfold exS; rfl)
    · cases h
  | .cont, st, h => by
    unfold mS at h
    split at h
    · exact PSw snd_cont (tSc fun env => by unfold exS; rfl)
    · cases h
  | .stop, st, h => PSw snd_never (tSc fun env => by unfold exS; rfl)
theorem sndSs (G : Good P k X N sc fn) (hps : PassesOwn (model X.prog X.w) X.A X.env X.xe) : ∀ (ss : List S) (sts : List Stmt), mSs N sc fn ss sts = true → PSs X sts (tS X.K g (exSs (P.ctx k) P.w ss))
  | [], [], h => PSsw snd_nil (tSc fun env => by unfold exSs; rfl)
  | s :: ss, st :: sts, h => by
    unfold mSs at h
    simp only [Bool.and_eq_true] at h
    exact PSsw (snd_cons (sndS G hps s st h.1) (sndSs G hps ss sts h.2)) (tSc fun env => by
      first
        | (rw [exSs]; done)
        | (rw [exSs]; cases exS (P.ctx k) P.w s env with
            | none => rfl
            | some o => cases o <;> rfl))
  | [], _ :: _, h => by unfold mSs at h; cases h
  | _ :: _, [], h => by unfold mSs at h; cases h
end
end
end MI

namespace MI
open PySem PySem.Spec PyProof.Rows L2
section
variable {K : PySem.W.Frag} {F H : Hp}
theorem ArgOk.at : ∀ {as : List AV} {vs : List V}, ArgOk K F H as vs → ∀ {i : Nat} {a : AV}, as[i]? = some a → ∃ v, vs[i]? = some v ∧ (match a with
    | .d d => Rp K F d v
    | .b ds => ∃ p ws, v = .ref p ∧ F p = none ∧ p ∈ borsOf as vs ∧ H p = some ws ∧ Cont K F p ds ws)
  | [], _, _, i, a, e => by simp at e
  | .d d :: as, vs, h, i, a, e => by
    obtain ⟨v, vs', rfl, h2, h3⟩ := h
    cases i with
    | zero =>
      simp at e
      subst e
      exact ⟨v, rfl, h2⟩
    | succ i =>
      simp at e
      obtain ⟨w, e1, e2⟩ := ArgOk.at h3 e
      refine ⟨w, by simpa using e1, ?_⟩
      cases a with
      | d d => exact e2
      | b ds => exact e2
  | .b ds :: as, vs, h, i, a, e => by
    obtain ⟨p, ws, vs', rfl, h1, h2, h3, h4⟩ := h
    cases i with
    | zero =>
      simp at e
      subst e
      exact ⟨.ref p, rfl, p, ws, rfl, h1, List.mem_cons_self, h2, h3⟩
    | succ i =>
      simp at e
      obtain ⟨w, e1, e2⟩ := ArgOk.at h4 e
      refine ⟨w, by simpa using e1, ?_⟩
      cases a with
      | d d => exact e2
      | b ds =>
        obtain ⟨p', ws', x1, x2, x3, x4⟩ := e2
        exact ⟨p', ws', x1, x2, List.mem_cons_of_mem _ x3, x4⟩
theorem ArgOk.mem : ∀ {as : List AV} {vs : List V}, ArgOk K F H as vs → ∀ {i : Nat} {ds : D} {p : Addr}, as[i]? = some (.b ds) → vs[i]? = some (.ref p) → p ∈ borsOf as vs := fun {as vs} h {i ds p} e1 e2 => by
  obtain ⟨v, a1, p', ws, rfl, _, a2, _⟩ := h.at e1
  rw [a1] at e2
  cases e2
  exact a2
theorem ArgOk.nd : ∀ {as : List AV} {vs : List V}, ArgOk K F H as vs → (borsOf as vs).Nodup → ∀ {i j : Nat} {ds es : D} {p : Addr}, i ≠ j → as[i]? = some (.b ds) → as[j]? = some (.b es) → vs[i]? = some (.ref p) → vs[j]? = some (.ref p) → False
  | [], _, _, _, i, j, _, _, _, _, e, _, _, _ => by simp at e
  | .d d :: as, vs, h, nd, i, j, ds, es, p, hij, e1, e2, e3, e4 => by
    obtain ⟨v, vs', rfl, h2, h3⟩ := h
    cases i with
    | zero => simp at e1
    | succ i =>
      cases j with
      | zero => simp at e2
      | succ j => exact ArgOk.nd h3 nd (fun z => hij (congrArg Nat.succ z)) (by simpa using e1) (by simpa using e2) (by simpa using e3) (by simpa using e4)
  | .b d :: as, vs, h, nd, i, j, ds, es, p, hij, e1, e2, e3, e4 => by
    obtain ⟨q, ws, vs', rfl, h1, h2, h3, h4⟩ := h
    have nd : (q :: borsOf as vs').Nodup := nd
    obtain ⟨n1, n2⟩ := List.nodup_cons.mp nd
    cases i with
    | zero =>
      cases j with
      | zero => exact hij rfl
      | succ j =>
        simp at e3
        subst e3
        exact n1 (h4.mem (by simpa using e2) (by simpa using e4))
    | succ i =>
      cases j with
      | zero =>
        simp at e4
        subst e4
        exact n1 (h4.mem (by simpa using e1) (by simpa using e3))
      | succ j => exact ArgOk.nd h4 n2 (fun z => hij (congrArg Nat.succ z)) (by simpa using e1) (by simpa using e2) (by simpa using e3) (by simpa using e4)
end
/-- the state at a def's entry -/
def entry (as : List AV) (n : Nat) : Env := as.map argSl ++ List.replicate (n - as.length) .un
def offB (H : Hp) (B : List Addr) : Hp := fun a => if a ∈ B then none else H a
theorem entry_at {as : List AV} {n i : Nat} {s : Sl} (h : (entry as n)[i]? = some s) : (∃ a, as[i]? = some a ∧ s = argSl a) ∨ s = .un := by
  unfold entry at h
  by_cases hi : i < (as.map argSl).length
  · rw [List.getElem?_append_left hi, List.getElem?_map] at h
    obtain ⟨a, e1, e2⟩ := Option.map_eq_some_iff.mp h
    exact .inl ⟨a, e1, e2.symm⟩
  · rw [List.getElem?_append_right (by omega), List.getElem?_replicate] at h
    split at h
    · cases h; exact .inr rfl
    · cases h
theorem start_at {N : List Str} {vs : List V} {i : Nat} {v : V} (h : vs[i]? = some v) : (L2.start N vs)[i]? = some (some v) := by
  unfold L2.start
  have hi := (List.getElem?_eq_some_iff.mp h).1
  rw [List.getElem?_append_left (by rw [List.length_map]; exact hi), List.getElem?_map, h]
  rfl
theorem rel_entry {K : PySem.W.Frag} {F H : Hp} {N : List Str} {as : List AV} {vs : List V} {n : Nat} (hn : n = N.length) (hl : as.length ≤ n) (sF : Same F H) (ha : ArgOk K F H as vs) (nd : (borsOf as vs).Nodup) :
    Rel K ⟨H, F, borsOf as vs, fun i => (L2.start N vs)[i]?⟩ (offB H (borsOf as vs)) F (entry as n) (L2.start N vs) H := by
  have own : ∀ {i : Nat} {s : Sl}, (entry as n)[i]? = some s → isMut s = true → ∃ ds, as[i]? = some (.b ds) ∧ s = .bor ds := fun {i s} e m => by
    rcases entry_at e with ⟨a, e1, e2⟩ | e1
    · cases a with
      | d d => rw [e2] at m; cases m
      | b ds => exact ⟨ds, e1, e2⟩
    · rw [e1] at m; cases m
  have at2 : ∀ {i : Nat} {a : AV} {p : Addr}, as[i]? = some a → (L2.start N vs)[i]? = some (some (.ref p)) → vs[i]? = some (.ref p) := fun {i a p} e1 e2 => by
    obtain ⟨v, a1, _⟩ := ha.at e1
    rw [start_at a1] at e2
    cases e2
    exact a1
  refine ⟨Same.refl F, sF, fun a h => .inl h, fun a h => h, fun a o h => ?_, fun p ⟨i, s, e, m, es⟩ => ?_, fun a _ h => h, ?_, fun i s e => ?_, fun i xs e => rfl, fun i j s t p hij e1 e2 m1 m2 s1 s2 => ?_⟩
  · unfold offB at h
    split at h
    · cases h
    · exact h
  · obtain ⟨ds, e1, rfl⟩ := own e m
    unfold offB
    rw [if_pos (ha.mem e1 (at2 e1 es))]
  · unfold entry L2.start
    rw [List.length_append, List.length_append, List.length_map, List.length_map, List.length_replicate, List.length_replicate, ha.len, hn]
  · rcases entry_at e with ⟨a, e1, rfl⟩ | rfl
    · obtain ⟨v, a1, a2⟩ := ha.at e1
      cases a with
      | d d => exact ⟨v, start_at a1, a2⟩
      | b ds =>
        obtain ⟨p, ws, rfl, b1, b2, b3, b4⟩ := a2
        exact ⟨p, ws, start_at a1, b1, b2, b3, b4⟩
    · trivial
  · obtain ⟨ds, e3, rfl⟩ := own e1 m1
    obtain ⟨es, e4, rfl⟩ := own e2 m2
    exact ha.nd nd hij e3 e4 (at2 e3 s1) (at2 e4 s2)
theorem out_of {K : PySem.W.Frag} {g : Gh} {kp F0 H0 F H : Hp} {env : Env} {σ : L2.St} (R : Rel K g kp F env σ H) : ∀ {as : List AV} {vs : List V} {os : List D} {e : Env} {off : Nat}, ArgOk K F0 H0 as vs → env.drop off = e → outsOf (modesOf as) e = some os → (∀ i v, vs[i]? = some v → g.bs (off + i) = some (some v)) → OutOk K F H as vs os
  | [], vs, os, e, off, h, he, ho, hb => by
    simp [modesOf, outsOf] at ho
    subst ho
    rfl
  | .d d :: as, vs, os, e, off, h, he, ho, hb => by
    obtain ⟨v, vs', rfl, h2, h3⟩ := h
    cases e with
    | nil => simp [modesOf, outsOf] at ho
    | cons s e =>
      have ho : outsOf (modesOf as) e = some os := by simpa [modesOf, outsOf] using ho
      have z : OutOk K F H as vs' os := out_of R (off := off + 1) h3 (by rw [← List.drop_drop, he]; rfl) ho fun i v hi => by
        have := hb (i + 1) v (by simpa using hi)
        rw [← this]; congr 1; omega
      exact z
  | .b d :: as, vs, os, e, off, h, he, ho, hb => by
    obtain ⟨q, ws, vs', rfl, h1, h2, h3, h4⟩ := h
    cases e with
    | nil => simp [modesOf, outsOf] at ho
    | cons s e =>
      cases s with
      | bor xs =>
        have ho : (outsOf (modesOf as) e).map (xs :: ·) = some os := by simpa [modesOf, outsOf] using ho
        obtain ⟨os', ho', rfl⟩ := Option.map_eq_some_iff.mp ho
        have es : env[off]? = some (.bor xs) := by
          have := congrArg (fun l => l[0]?) he
          simpa using this
        obtain ⟨p, us, a1, a2, a3, a4, a5⟩ := R.sl off _ es
        have b1 := R.bo off xs es
        rw [a1] at b1
        have b2 := hb 0 (.ref q) rfl
        rw [Nat.add_zero, ← b1] at b2
        cases b2
        refine ⟨xs, os', us, rfl, a2, a4, a5, ?_⟩
        have z : OutOk K F H as vs' os' := out_of R (off := off + 1) h4 (by rw [← List.drop_drop, he]; rfl) ho' fun i v hi => by
          have := hb (i + 1) v (by simpa using hi)
          rw [← this]; congr 1; omega
        exact z
      | un => simp [modesOf, outsOf] at ho
      | val d => simp [modesOf, outsOf] at ho
      | own d => simp [modesOf, outsOf] at ho
/-! ### the defs of a program -/
structure BodyOk (K : PySem.W.Frag) (x qual : Str) (F : Fn) (st : Stmt) (N : List Str) (a : Addr) (fd : FuncData) : Prop where
  fun_ : Fun K x qual st a fd
  sc : FnScope N F.ps (defScope st)
  body : mSs N (defScope st) (fun _ => true) F.body (defBody st) = true
  n : F.n = N.length
  ms : F.ms.length = F.ps.length
structure DefOk (K : PySem.W.Frag) (mg : Str → Option Value) (kws : List (Str × List Str)) (f : Str) (F : Fn) (st : Stmt) (N : List Str) (a : Addr) (fd : FuncData) : Prop where
  here : mg f = some (.ref a)
  b : BodyOk K f f F st N a fd
  binds : Binds K fd F.ps []
  kw : ∀ ks, (f, ks) ∈ kws → ∀ (s : Shared) (ws us : List Value), pickK ks ws F.ps = some us → ws.length = ks.length → BindsTo s fd ⟨[], ks.zip ws⟩ (F.ps.zip us)
/-- a method, its arguments by places -/
structure MetOk (K : PySem.W.Frag) (P : Prg) (m : Str) (a : Addr) : Prop where
  ex : ∃ (x qual : Str) (F : Fn) (st : Stmt) (N : List Str) (fd : FuncData), P.find m = some F ∧ BodyOk K x qual F st N a fd ∧ Binds K fd F.ps []
/-- __init__(self, *xs) -/
structure IniOk (K : PySem.W.Frag) (P : Prg) (m : Str) (a : Addr) : Prop where
  ex : ∃ (x qual : Str) (F : Fn) (st : Stmt) (N : List Str) (fd : FuncData) (p1 p2 : Str), P.find m = some F ∧ BodyOk K x qual F st N a fd ∧ F.ps = [p1, p2] ∧
    ∀ (u : Value) (rest : List Value), bindArgs fd ⟨u :: rest, []⟩ = (newTuple rest >>= fun t => pure [(p1, u), (p2, t)])
structure CDef (P : Prg) (K : PySem.W.Frag) (mg : Str → Option Value) (c : Str) (ci : CI) : Prop where
  mg : mg c = some (.ref ci.at_)
  cl : Cls K ci.at_
  nf : ∀ f ∈ ci.fl, NoAttr K ci.at_ f
  isC : C8.InsC K ci.at_
  io : ∀ t ∈ ["NoneType", "bool", "int", "str", "tuple", "list"], PySem.W.kitOne K (.type t) (.ref ci.at_) = some false
  mak : ∃ f, Mk K ci.at_ f ∧ IniOk K P ci.ini f
  call : ∀ m, ci.call = some m → ∃ g, StX.CallO K ci.at_ g ∧ MetOk K P m g
  props : ∀ nm m, ci.props.lookup nm = some m → ∃ p g, PropOf K ci.at_ nm p g ∧ MetOk K P m g
structure PrgOk (P : Prg) (K : PySem.W.Frag) (mg : Str → Option Value) : Prop where
  defs : ∀ f F, P.fns.lookup f = some F → ∃ st N a fd, DefOk K mg P.kws f F st N a fd
  bi : ∀ x ∈ biNames, mg x = none
  glob : ∀ x d, P.glob x = some d → ∃ u v, mg x = some u ∧ RelV v u ∧ ∀ F, Rp K F d v
  cls : ∀ c ci, P.cls c = some ci → CDef P K mg c ci
theorem find_fns {P : Prg} {f : Str} {F : Fn} (h : P.fns.lookup f = some F) : P.find f = some F := by
  unfold Prg.find
  rw [h]
theorem spC_len {K : PySem.W.Frag} {P : Prg} {n : Nat} {f : Str} {F : Fn} (hf : P.find f = some F) (hm : F.ms.length = F.ps.length) : ∀ vs H Q E, spC K (P.calls n) f vs H Q E → vs.length = F.ps.length := fun vs H Q E ⟨Fz, as, rd, os, hc, _, ha, _⟩ => by
  obtain ⟨F', e1, e2⟩ := calls_len hc
  rw [hf] at e1
  cases e1
  rw [ha.len, e2, hm]
/-- what all defs of a program keep at a level -/
structure Lev (P : Prg) (prog : Program) (w : World) (K : PySem.W.Frag) (mg : Str → Option Value) (base : Heap) (n : Nat) : Prop where
  defs : ∀ f F, P.fns.lookup f = some F → ∃ a fd, mg f = some (.ref a) ∧ PySem.W.keepIn K (.ref a) = true ∧ Binds K fd F.ps [] ∧ FnG prog w K mg base (2 * n) a fd F.ps (spC K (P.calls n) f) ∧
    ∀ ks, (f, ks) ∈ P.kws → ∀ (s : Shared) (ws us : List Value), pickK ks ws F.ps = some us → ws.length = ks.length → BindsTo s fd ⟨[], ks.zip ws⟩ (F.ps.zip us)
  mets : ∀ m a, MetOk K P m a → FnRG prog w K mg base (2 * n) a (spC K (P.calls n) m)
  inis : ∀ m a, IniOk K P m a → FnRG prog w K mg base (2 * n) a (spIni (spC K (P.calls n) m))
section
variable {P : Prg} {prog : Program} {w : World} {K : PySem.W.Frag} {mg : Str → Option Value} {base : Heap}
/-- a body at the next level -/
theorem body_lev (ok : PrgOk P K mg) {n : Nat} (L : Lev P prog w K mg base n) {f qual : Str} {F : Fn} {st : Stmt} {N : List Str} {a : Addr} {cdv : Value} (hf : P.find f = some F) (sc : FnScope N F.ps (defScope st)) (hbd : mSs N (defScope st) (fun _ => true) F.body (defBody st) = true) (hn : F.n = N.length) (hms : F.ms.length = F.ps.length)
    (A : Around) (outer : List PySem.Env) (s : Shared) (H : Hp) (vs : List V) (Q : VK) (E : XK) (hr : Room (2 * n + 1) (A.deeper (envOfC qual (defScope st) s.heap.objs.size a cdv))) (hg : A.guards = some []) (hsp : spC K (P.calls (n + 1)) f vs H Q E) :
    ∃ t, PSs (cxOf CX0 prog w K mg base N qual (defScope st) a cdv A outer s H E) (defBody st) t ∧ t { nx := fun _ H' => Q .non H', rt := Q } (start N vs) H := by
  obtain ⟨Fz, as, rd, os, hc, sF, ha, nd, post⟩ := hsp
  have G : Good P n (cxOf CX0 prog w K mg base N qual (defScope st) a cdv A outer s H E) N (defScope st) (fun _ => true) := ⟨rfl, sc.nd, rfl, rfl, sc.kind, rfl, hr, hg, L.defs, ok.bi, ok.glob, fun c ci hci => by
    have z := ok.cls c ci hci
    obtain ⟨fi, mk, io⟩ := z.mak
    refine ⟨z.mg, z.cl, z.nf, z.isC, z.io, ⟨fi, mk, L.inis _ _ io⟩, fun m hm => ?_, fun nm m hm => ?_⟩
    · obtain ⟨gg, co, mo⟩ := z.call m hm
      exact ⟨gg, co, L.mets _ _ mo⟩
    · obtain ⟨pp, gg, co, mo⟩ := z.props nm m hm
      exact ⟨pp, gg, co, L.mets _ _ mo⟩⟩
  refine ⟨_, sndSs (g := ⟨H, Fz, borsOf as vs, fun i => (L2.start N vs)[i]?⟩) G PassesOwn.leaving F.body (defBody st) hbd, ?_⟩
  have hal : as.length = F.ms.length := by
    obtain ⟨F', e1, e2⟩ := calls_len hc
    rw [hf] at e1
    cases e1
    exact e2
  unfold Prg.calls at hc
  rw [hf] at hc
  have hc : runFn (P.ctx n) P.w F as = some (rd, os) := hc
  unfold runFn at hc
  split at hc
  · rename_i hm
    obtain ⟨o, ho, hc⟩ := Option.bind_eq_some_iff.mp hc
    have hle : as.length ≤ F.n := by
      rw [hal, hn, hms]
      have := congrArg List.length sc.pre
      rw [List.length_take] at this
      omega
    have R := rel_entry (N := N) hn hle sF ha nd
    have fin : ∀ {r : RD} {e : Env} {F' : Hp} {σ' : L2.St} {v : V} {H' : Hp}, Same Fz F' → Rel K ⟨H, Fz, borsOf as vs, fun i => (L2.start N vs)[i]?⟩ (offB H (borsOf as vs)) F' e σ' H' → RetOk K ⟨H, Fz, borsOf as vs, fun i => (L2.start N vs)[i]?⟩ F' H' r v → outsOf F.ms e = some os → r = rd → Q v H' := fun {r e F' σ' v H'} s1 R1 po ho hr => by
      subst hr
      refine post F' v H' s1 R1.fh R1.fnew (fun a o h hb => R1.kept a o ?_) R1.dom ?_ ?_
      · unfold offB
        rw [if_neg hb]
        exact h
      · exact out_of R1 (off := 0) ha rfl (by rw [hm]; exact ho) fun i v hi => by
          rw [Nat.zero_add]
          exact start_at hi
      · cases r with
        | old d => exact po
        | new ds =>
          obtain ⟨p, ws, x1, x2, x3, x4, x5⟩ := po
          exact ⟨p, ws, x1, x2, x3, x4, x5⟩
    refine ⟨_, _, _, o, ho, R, ?_⟩
    cases o with
    | nx e =>
      have hc : (outsOf F.ms e).map (fun os => (RD.old D.non, os)) = some (rd, os) := hc
      obtain ⟨os', h1, h2⟩ := Option.map_eq_some_iff.mp hc
      cases h2
      exact fun F' σ' H' s1 R1 => fin (r := .old .non) s1 R1 (show Rp K F' .non .non from rp_non) h1 rfl
    | rt r e =>
      have hc : (outsOf F.ms e).map (fun os => (r, os)) = some (rd, os) := hc
      obtain ⟨os', h1, h2⟩ := Option.map_eq_some_iff.mp hc
      cases h2
      exact fun F' σ' v H' s1 R1 po => fin s1 R1 po h1 rfl
    | bk e => cases hc
    | ct e => cases hc
  · cases hc
theorem fnRG_of {n : Nat} {a : Addr} {fd : FuncData} {ps : List Str} {sp : Sp} (F : FnG prog w K mg base n a fd ps sp) (hb : Binds K fd ps []) : FnRG prog w K mg base n a sp := fun A outer s H us vs Q E hr hg e0 r h => by
  have hl : (us ++ []).length = ps.length := by rw [List.append_nil, ← r.length]; exact F.len _ _ _ _ h
  have KX : K.In s.heap := e0.mod.kin.keeps fun b o e => (e0.bs b o e).1
  have b := hb s us KX hl
  rw [List.append_nil] at b
  exact F.run A outer s H ⟨us, []⟩ us vs Q E hr hg e0 b r h
/-- def f(self, *v) -/
theorem fn_starG {k : Nat} {f : Addr} {name qual : Str} {params : Arguments} {body : List Stmt} {scope : Scope} {dV kV doc pm cdv ct oc : Value} {an od : Option Addr} {osl : Array (Option Value)} {N : List Str} {p1 pv : Str} {sp : Sp}
    (lk : K.lookup f = some ⟨oc, od, .func (PySem.W.fnOf name qual params body scope dV kV doc pm an cdv ct), osl⟩) (hcd : PySem.W.codeIn K cdv qual = true) (S : FnScope N [p1, pv] scope)
    (hb : ∀ (u : Value) (rest : List Value), bindArgs (PySem.W.fnOf name qual params body scope dV kV doc pm an cdv ct) ⟨u :: rest, []⟩ = (newTuple rest >>= fun t => pure [(p1, u), (pv, t)]))
    (hbody : ∀ (A : Around) (outer : List PySem.Env) (s : Shared) (H : Hp) (vs : List V) (Q : VK) (E : XK), Room k (A.deeper (envOfC qual scope s.heap.objs.size f cdv)) → A.guards = some [] → sp vs H Q E →
      ∃ t, PSs (cxOf CX0 prog w K mg base N qual scope f cdv A outer s H E) body t ∧ t { nx := fun _ H' => Q .non H', rt := Q } (start N vs) H) :
    FnRG prog w K mg base (k + 1) f (spIni sp) := by
  intro A outer s H us vs Q E hr hg e0 r hsp
  obtain ⟨v, rest, ev, hz, hq⟩ := hsp
  subst ev
  cases r with
  | cons r1 r2 =>
    rename_i u1 u2
    have hn : H s.heap.objs.size = Option.none := e0.hok.fresh (Nat.le_refl _)
    have hl2 : u2.length ≤ sizeLine := by rw [← r2.length]; exact hz
    refine StX.run_bnd (CX := CX0) lk hcd S hr e0 (G := fun xs H2 => ∃ p, H p = Option.none ∧ xs = [v, V.ref p] ∧ H2 = upd H p (.tup rest)) (fun A' Ex Q' h => ?_) fun s2 H2 xs ⟨p, hp, ex, eH⟩ hr' => ?_
    · rw [hb u1 u2]
      refine wpAny_bind (wpAny_newTuple (wpAny_pure ?_) hl2)
      have new : ObjOk prog w (upd H s.heap.objs.size (.tup rest)) (s.heap.push ({ cls := .type "tuple", data := .seq u2.toArray } : Obj)) s.heap.objs.size (.tup rest) := ⟨hz, u2, r2, ⟨_, Heap.get?_push_size _ rfl, rfl, _, rfl⟩⟩
      have un := StX.un_laid (fs := frs outer) (s := s) (o := ({ cls := .type "tuple", data := .seq u2.toArray } : Obj)) (u := .tup rest) hn
      exact h _ _ [v, V.ref s.heap.objs.size] [u1, Value.ref s.heap.objs.size] (StX.env0_laid e0 new) un rfl (fun e s' z => z.elim) (.cons r1 (.cons rfl .nil)) rfl ⟨_, hn, rfl, rfl⟩
    · subst ex eH
      exact hbody A outer s2 _ _ Q E hr' hg (hq p hp)
theorem lev (ok : PrgOk P K mg) : ∀ n : Nat, Lev P prog w K mg base n
  | 0 => by
    refine ⟨fun f F hf => ?_, fun m a hm => ?_, fun m a hm => ?_⟩
    · obtain ⟨st, N, a, fd, dk⟩ := ok.defs f F hf
      exact ⟨a, fd, dk.here, dk.b.fun_.kp, dk.binds, ⟨spC_len (find_fns hf) dk.b.ms, fun A outer s H args us vs Q E _ _ _ _ _ ⟨Fz, as, rd, os, hc, _⟩ => by cases hc⟩, dk.kw⟩
    · exact fun A outer s H us vs Q E _ _ _ _ ⟨Fz, as, rd, os, hc, _⟩ => by cases hc
    · exact fun A outer s H us vs Q E hr hg e0 r ⟨v, rest, ev, hz, hq⟩ => by
        obtain ⟨Fz, as, rd, os, hc, _⟩ := hq _ (e0.hok.fresh (Nat.le_refl _))
        cases hc
  | n + 1 => by
    have L := lev ok n
    have mk : ∀ {f x qual : Str} {F : Fn} {st : Stmt} {N : List Str} {a : Addr} {fd : FuncData}, P.find f = some F → BodyOk K x qual F st N a fd → FnG prog w K mg base (2 * (n + 1)) a fd F.ps (spC K (P.calls (n + 1)) f) := fun {f x qual F st N a fd} hf bk => by
      obtain ⟨oc, od, kV, doc, pm, an, cdv, ct, osl, rfl, lk, hcd⟩ := bk.fun_.ex
      refine fn_ofG (k := 2 * n + 1) lk hcd bk.sc (spC_len hf bk.ms) fun A outer s H vs Q E hr hg hsp => body_lev ok L hf bk.sc bk.body bk.n bk.ms A outer s H vs Q E hr hg hsp
    refine ⟨fun f F hf => ?_, fun m a hm => ?_, fun m a hm => ?_⟩
    · obtain ⟨st, N, a, fd, dk⟩ := ok.defs f F hf
      exact ⟨a, fd, dk.here, dk.b.fun_.kp, dk.binds, mk (find_fns hf) dk.b, dk.kw⟩
    · obtain ⟨x, qual, F, st, N, fd, hf, bk, hb⟩ := hm.ex
      exact fnRG_of (mk hf bk) hb
    · obtain ⟨x, qual, F, st, N, fd, p1, p2, hf, bk, hps, hb⟩ := hm.ex
      obtain ⟨oc, od, kV, doc, pm, an, cdv, ct, osl, rfl, lk, hcd⟩ := bk.fun_.ex
      have sc := bk.sc
      rw [hps] at sc
      refine fn_starG (k := 2 * n + 1) lk hcd sc hb fun A outer s H vs Q E hr hg hsp => body_lev ok L hf bk.sc bk.body bk.n bk.ms A outer s H vs Q E hr hg hsp
theorem fn_lev (ok : PrgOk P K mg) {n : Nat} {f : Str} {F : Fn} {st : Stmt} {N : List Str} {a : Addr} {fd : FuncData} (hf : P.fns.lookup f = some F) (dk : DefOk K mg P.kws f F st N a fd) : FnG prog w K mg base (2 * n) a fd F.ps (spC K (P.calls n) f) := by
  cases n with
  | zero => exact ⟨spC_len (find_fns hf) dk.b.ms, fun A outer s H args us vs Q E _ _ _ _ _ ⟨Fz, as, rd, os, hc, _⟩ => by cases hc⟩
  | succ n =>
    obtain ⟨oc, od, kV, doc, pm, an, cdv, ct, osl, rfl, lk, hcd⟩ := dk.b.fun_.ex
    refine fn_ofG (k := 2 * n + 1) lk hcd dk.b.sc (spC_len (find_fns hf) dk.b.ms) fun A outer s H vs Q E hr hg hsp => body_lev ok (lev ok n) (find_fns hf) dk.b.sc dk.b.body dk.b.n dk.b.ms A outer s H vs Q E hr hg hsp
end
end MI

namespace MI
open PySem PySem.Spec PyProof.Rows L2
/-! ### the end of a law: its def run at the script -/
def Ans (h0 : Heap) (o0 : Shared) (r : Result) (t : Shared) : Prop := r = .ok (.ret (.bool true)) ∧ OldK h0 t.heap ∧ t.os = o0.os ∧ AllBare t.gens
theorem run_law {P : Program} {w : World} {K : PySem.W.Frag} {mg mb : Str → Option Value} {k : Nat} {fa a : Addr} {fd : FuncData} {x : Str} {sp : Sp} {t : Shared} {us : List Value} {ns : List Int}
    (kin : K.In t.heap) (gns : t.heap.Ns mainGlobals mg) (bns : t.heap.Ns builtinsNs mb) (bbs : ∀ y : Str, y ≠ "__name__" → mb y = bootBuiltins y) (lim : t.heap.NoLimit) (gen : t.gens = #[])
    (at_ : t.heap.get? a = some { cls := .type "list", data := .seq us.toArray }) (its_ : IntsAre us ns) (few : ns.length ≤ sizeLine) (room : Room k callerA)
    (fn : ∀ b : Heap, K.In b → b.Ns mainGlobals mg → FnG P w K mg b k fa fd [x] sp) (bd : BindsTo t fd ⟨[.ref a], []⟩ [(x, .ref a)])
    (keeps : ∀ T : Hp, Only T → SqL K T a (ns.map V.int) → sp [.ref a] T (fun v _ => v = .bl true) E0) :
    codeAny (model P w) callerA (.call (.ref fa) ⟨[.ref a], []⟩) (Ans t.heap t) t := by
  have vals := vals_ints its_
  have go : ∀ T : Hp, Only T → SqL K T a (ns.map V.int) → HOk P w T t.heap → (∀ b, T b ≠ none → b = a) → (T a ≠ none → K.lookup a = none) → codeAny (model P w) callerA (.call (.ref fa) ⟨[.ref a], []⟩) (Ans t.heap t) t := by
    intro T only sq hok alone own
    have isA : ∀ {b : Addr} {u : HO}, T b = some u → b = a := fun {b u} q => alone b (by rw [q]; exact fun z => by cases z)
    have dicts : ∀ {b : Addr} {o : Obj} {es : Array DictEntry} {ep : Nat}, t.heap.get? b = some o → o.data = .dict es ep → T b = none := fun {b o es ep} e dd => by
      cases q : T b with
      | none => rfl
      | some u =>
        rw [isA q, at_] at e
        cases e
        have z : Data.seq us.toArray _ = Data.dict es ep := dd
        cases z
    have nsOf : ∀ {b : Addr} {m : Str → Option Value}, t.heap.Ns b m → (hidT t.heap T).Ns b m := fun {b m} ⟨o, es, ep, e, dd, r⟩ => ⟨o, es, ep, hidT_get e (dicts e dd), dd, r⟩
    have kinB : K.In (hidT t.heap T) := fun b o e => hidT_get (kin b o e) (by
      cases q : T b with
      | none => rfl
      | some u =>
        have eb := isA q
        rw [eb] at e q
        rw [own (by rw [q]; exact fun z => by cases z)] at e
        cases e)
    have mod : Mod K mg (hidT t.heap T) := ⟨kinB, nsOf gns, ⟨mb, nsOf bns, bbs⟩, let ⟨mc, x1, x2⟩ := lim; ⟨mc, nsOf x1, x2⟩⟩
    have env : Env0 P w K mg (hidT t.heap T) callerA [] t T := ⟨rfl, mod, fun b o e => of_hidT e, Nat.le_of_eq (hidT_size _ _), trivial, fun b hb => absurd (show b ∈ ([] : List Addr) from hb) (by simp), hok, .of_eq gen⟩
    have ran := (fn _ kinB (nsOf gns)).run callerA [] t T ⟨[.ref a], []⟩ [.ref a] [.ref a] _ _ room rfl env bd (.cons rfl .nil) (keeps T only sq)
    refine codeAny_mono ran fun r t' h => ?_
    cases r with
    | error e => exact False.elim h
    | ok fl =>
      cases fl with
      | next => exact False.elim h
      | brk => exact False.elim h
      | cont => exact False.elim h
      | ret u =>
        obtain ⟨v, T', os, bare, un, hok', rel, ans⟩ := h
        have ans : v = .bl true := ans
        subst ans
        have eu : u = Value.bool true := rel
        subst eu
        refine ⟨rfl, OldK.of_keep fun b o e => ?_, os, bare⟩
        cases q : T b with
        | none => exact un.keep b o e q (fun z => absurd (show b ∈ ([] : List Addr) from z) (by simp)) (by simp)
        | some u =>
          rcases only b with z | ⟨ob, xs, z⟩
          · rw [q] at z
            cases z
          · obtain ⟨e1, _⟩ := hok b _ z
            obtain ⟨e2, _⟩ := hok' b _ (un.frzs b ob _ z)
            rw [e] at e1
            cases e1
            exact e2
  cases hk : K.lookup a with
  | some o =>
    have e := kin a o hk
    rw [at_] at e
    cases e
    exact go (fun _ => none) (fun _ => .inl rfl) (.inr ⟨_, us.toArray, _, hk, rfl, rfl, rfl, by rw [List.size_toArray, its_.length]; exact few, by simpa using vals⟩) (fun b u z => by have z : (none : Option HO) = some u := z; cases z) (fun b z => absurd rfl z) fun z => absurd rfl z
  | none =>
    have T1 : ∀ b, (fun b => if b = a then some (HO.frz { cls := .type "list", data := .seq us.toArray } (.lst (ns.map V.int))) else none) b = none ∨ b = a := fun b => by
      by_cases hb : b = a
      · exact .inr hb
      · exact .inl (if_neg hb)
    refine go (fun b => if b = a then some (HO.frz { cls := .type "list", data := .seq us.toArray } (.lst (ns.map V.int))) else none) (fun b => ?_) (.inl (.inr ⟨{ cls := .type "list", data := .seq us.toArray }, if_pos rfl⟩)) (fun b u z => ?_) (fun b z => (T1 b).resolve_left z) fun _ => hk
    · rcases T1 b with z | z
      · exact .inl z
      · exact .inr ⟨_, _, if_pos z⟩
    · rcases T1 b with y | y
      · rw [y] at z
        cases z
      · have z2 := (if_pos y).symm.trans z
        cases z2
        subst y
        exact ⟨at_, by rw [List.length_map]; exact few, us, _, vals, at_⟩
/-- a program's law def keeps its promise at every script -/
theorem keeps_law {K : PySem.W.Frag} {P : Prg} {k n : Nat} {f : Str} (hP : ∀ ns : List Int, ns.length ≤ n → P.calls k f [.d (.scr ns)] = some (.old (.bl true), [])) {a : Addr} {ns : List Int} (hl : ns.length ≤ n) {T : Hp} (sq : SqL K T a (ns.map V.int)) :
    spC K (P.calls k) f [.ref a] T (fun v _ => v = .bl true) E0 := by
  refine ⟨T, [.d (.scr ns)], .old (.bl true), [], hP ns hl, Same.refl T, ⟨.ref a, [], rfl, ?_, rfl⟩, List.nodup_nil, fun F' v H' _ _ _ _ _ _ rs => ?_⟩
  · unfold Rp
    exact ⟨a, rfl, sq⟩
  · have rs : Rp K F' (.bl true) v := rs
    unfold Rp at rs
    exact rs
/-- THE END: what k_head leaves, from a run of the small interpreter; PP: the program, by the places of its classes -/
theorem walk_law {l : PySem.W.OpenLaw} {n k : Nat} {q : Program} {loose : List Str} {XP : (Str → Option Value) → Heap → Prop} {YP : World → Heap → Prop} {d : DefRec} {K : Params → PySem.W.Frag} {PP : (Nat → Addr) → Prg} {x : Str} {Fl : Fn}
    (most : l.most = some n) (few : n ≤ sizeLine) (nodef : d.params.defaults = []) (room : Room (2 * k) callerA)
    (writ : ∀ (w : World) (h : Heap), YP w h → (K w.params).In h)
    (law : ∀ C, (PP C).fns.lookup d.name = some Fl) (hps : Fl.ps = [x])
    (facts : ∀ (w : World) (mg : Str → Option Value) (fa : Addr) (h : Heap), (K w.params).In h → h.Ns mainGlobals mg → mg d.name = some (.ref fa) → ∃ C, PrgOk (PP C) (K w.params) mg)
    (run : ∀ (C : Nat → Addr) (ns : List Int), ns.length ≤ n → (PP C).calls k d.name [.d (.scr ns)] = some (.old (.bl true), [])) :
    PySem.W.WalkO q loose XP YP l.row.toRowW d [] (fun f vs => PySem.call f vs) := by
  refine Att.attach_call most nodef fun w s0 t mg mb fa o pm cd doc a us ns gr y ho hd hcd hmg at_ its_ few' gen => ?_
  have kin := writ w _ y
  obtain ⟨C, ok⟩ := facts w mg fa _ kin gr.T.g hmg
  obtain ⟨st, N, a', fd, dk⟩ := ok.defs d.name Fl (law C)
  have e := dk.here
  rw [hmg] at e
  cases e
  have bd := dk.binds t [.ref a] kin (by rw [hps]; rfl)
  rw [hps] at bd
  refine run_law (fd := fd) (x := x) kin gr.T.g gr.T.b gr.T.builtins gr.T.nolimit gen at_ its_ (Nat.le_trans few' few) room (fun b _ _ => ?_) bd fun T only sq => keeps_law (run C) few' sq
  have z := fn_lev (prog := l.prog) (w := w) (base := b) (n := k) ok (law C) dk
  rw [hps] at z
  exact z
end MI
namespace MI
open PySem PySem.Spec PyProof.Rows L2
inductive AllD (K : PySem.W.Frag) (mg : Str → Option Value) (kws : List (Str × List Str)) : List (Str × Fn) → Prop where
  | nil : AllD K mg kws []
  | cons {f : Str} {F : Fn} {r : List (Str × Fn)} : (∃ st N a fd, DefOk K mg kws f F st N a fd) → AllD K mg kws r → AllD K mg kws ((f, F) :: r)
inductive AllN (mg : Str → Option Value) : List Str → Prop where
  | nil : AllN mg []
  | cons {x : Str} {r : List Str} : mg x = none → AllN mg r → AllN mg (x :: r)
theorem of_mems {K : PySem.W.Frag} {mg : Str → Option Value} {kws : List (Str × List Str)} : ∀ {l : List (Str × Fn)}, AllD K mg kws l → ∀ f F, l.lookup f = some F → ∃ st N a fd, DefOk K mg kws f F st N a fd
  | [], _, f, F, h => by cases h
  | (f', F') :: r, .cons d ds, f, F, h => by
    rw [List.lookup_cons] at h
    split at h
    · rename_i hq
      cases h
      have e : f = f' := eq_of_beq hq
      subst e
      exact d
    · exact of_mems ds f F h
theorem of_bis {mg : Str → Option Value} : ∀ {l : List Str}, AllN mg l → ∀ x ∈ l, mg x = none
  | _, .cons d ds, x, h => (List.mem_cons.mp h).elim (fun e => e ▸ d) fun h => of_bis ds x h
theorem no_kw {kws : List (Str × List Str)} {f : Str} {ks : List Str} (h : kws.all (fun p => decide (p.1 ≠ f)) = true) : (f, ks) ∉ kws := fun hk =>
  absurd rfl (of_decide_eq_true (List.all_eq_true.mp h _ hk))
theorem kw_is {kws : List (Str × List Str)} {f : Str} {ks ks0 : List Str} (h : kws.filter (fun p => decide (p.1 = f)) = [(f, ks0)]) (hk : (f, ks) ∈ kws) : ks = ks0 := by
  have z : (f, ks) ∈ kws.filter (fun p => decide (p.1 = f)) := List.mem_filter.mpr ⟨hk, decide_eq_true rfl⟩
  rw [h] at z
  have z := List.mem_singleton.mp z
  cases z
  rfl
end MI

namespace MI
open PySem L2
theorem calls_eq {P : Prg} {f : Str} {F : Fn} (h : P.find f = some F) (n : Nat) (as : List AV) : P.calls (n + 1) f as = runFn (P.ctx n) P.w F as := by
  show ((P.find f).bind fun fn => runFn ⟨P.calls n, P.glob, P.modes, P.names, P.cls, P.kws⟩ P.w fn as) = _
  rw [h]
  rfl
/-! ### loops -/
theorem forGo_inv {f : D → Env → Option Out} {I : Nat → Env → Prop} : ∀ {ds : List D} {k : Nat} {e : Env}, (∀ i d e, ds[i]? = some d → I (k + i) e → ∃ e', (f d e = some (.nx e') ∨ f d e = some (.ct e')) ∧ I (k + i + 1) e') → I k e → ∃ e', forGo f ds e = some (.nx e') ∧ I (k + ds.length) e'
  | [], k, e, _, h => ⟨e, rfl, h⟩
  | d :: r, k, e, hs, h => by
    obtain ⟨e1, h1, h2⟩ := hs 0 d e rfl h
    obtain ⟨e2, h3, h4⟩ := forGo_inv (k := k + 1) (e := e1) (I := I) (f := f) (ds := r) (fun i d e hd hi => by
      have := hs (i + 1) d e (by simpa using hd) (by rw [show k + (i + 1) = k + 1 + i by omega]; exact hi)
      rw [show k + (i + 1) + 1 = k + 1 + i + 1 by omega] at this
      exact this) h2
    refine ⟨e2, ?_, by rw [List.length_cons, show k + (r.length + 1) = k + 1 + r.length by omega]; exact h4⟩
    unfold forGo
    rcases h1 with h1 | h1 <;> (rw [h1]; exact h3)
theorem lcGo_inv {f : D → Env → Option (Option D × Env)} {I : Nat → Env → Prop} {Q : D → Prop} : ∀ {ds : List D} {k : Nat} {e : Env}, (∀ i d e, ds[i]? = some d → I (k + i) e → ∃ y e', f d e = some (some y, e') ∧ I (k + i + 1) e' ∧ Q y) → I k e →
    ∃ ys e', lcGo f ds e = some (ys, e') ∧ I (k + ds.length) e' ∧ ys.length = ds.length ∧ ∀ y ∈ ys, Q y
  | [], k, e, _, h => ⟨[], e, rfl, h, rfl, fun y hy => by cases hy⟩
  | d :: r, k, e, hs, h => by
    obtain ⟨y, e1, h1, h2, hq⟩ := hs 0 d e rfl h
    obtain ⟨ys, e2, h3, h4, h5, h6⟩ := lcGo_inv (k := k + 1) (e := e1) (I := I) (f := f) (ds := r) (fun i d e hd hi => by
      have := hs (i + 1) d e (by simpa using hd) (by rw [show k + (i + 1) = k + 1 + i by omega]; exact hi)
      rw [show k + (i + 1) + 1 = k + 1 + i + 1 by omega] at this
      exact this) h2
    refine ⟨y :: ys, e2, ?_, by rw [List.length_cons, show k + (r.length + 1) = k + 1 + r.length by omega]; exact h4, by rw [List.length_cons, List.length_cons, h5], fun z hz => ?_⟩
    · unfold lcGo
      rw [h1, Option.bind_some, h3]
      rfl
    · rcases List.mem_cons.mp hz with hz | hz
      · rw [hz]; exact hq
      · exact h6 z hz
theorem lcGo_map {f : D → Env → Option (Option D × Env)} {g : D → D} {e : Env} : ∀ {ds : List D}, (∀ d ∈ ds, f d e = some (some (g d), e)) → lcGo f ds e = some (ds.map g, e)
  | [], _ => rfl
  | d :: r, h => by
    unfold lcGo
    rw [h d List.mem_cons_self, Option.bind_some, lcGo_map fun x hx => h x (List.mem_cons_of_mem _ hx)]
    rfl
/-! ### steps of a run -/
theorem run_rt {C : Ctx} {w : Nat} {F : Fn} {as : List AV} {r : RD} {e : Env} {os : List D} {env : Env} (h0 : as.map argSl ++ List.replicate (F.n - as.length) .un = env) (h1 : modesOf as = F.ms) (h2 : exSs C w F.body env = some (.rt r e)) (h3 : outsOf F.ms e = some os) : runFn C w F as = some (r, os) := by
  unfold runFn
  rw [if_pos h1, h0, h2, Option.bind_some]
  simp only [h3, Option.map_some]
theorem run_nx {C : Ctx} {w : Nat} {F : Fn} {as : List AV} {e : Env} {os : List D} {env : Env} (h0 : as.map argSl ++ List.replicate (F.n - as.length) .un = env) (h1 : modesOf as = F.ms) (h2 : exSs C w F.body env = some (.nx e)) (h3 : outsOf F.ms e = some os) : runFn C w F as = some (.old .non, os) := by
  unfold runFn
  rw [if_pos h1, h0, h2, Option.bind_some]
  simp only [h3, Option.map_some]
theorem sq {C : Ctx} {w : Nat} {s : S} {ss : List S} {env e : Env} {o : Option Out} (h : exS C w s env = some (.nx e)) (h2 : exSs C w ss e = o) : exSs C w (s :: ss) env = o := by
  rw [exSs, h, Option.bind_some]
  exact h2
theorem sr {C : Ctx} {w : Nat} {s : S} {ss : List S} {env e : Env} {r : RD} (h : exS C w s env = some (.rt r e)) : exSs C w (s :: ss) env = some (.rt r e) := by
  rw [exSs, h, Option.bind_some]
theorem sn {C : Ctx} {w : Nat} {env : Env} : exSs C w [] env = some (.nx env) := by rw [exSs]
theorem if_yes {C : Ctx} {w : Nat} {c : E} {a b : List S} {env e : Env} {o : Option Out} (h : testOf c (evR C c) env = some (true, e)) (h2 : exSs C w a e = o) : exS C w (.ifs c a b) env = o := by
  rw [exS, h, Option.bind_some]
  exact h2
theorem if_no {C : Ctx} {w : Nat} {c : E} {a b : List S} {env e : Env} {o : Option Out} (h : testOf c (evR C c) env = some (false, e)) (h2 : exSs C w b e = o) : exS C w (.ifs c a b) env = o := by
  rw [exS, h, Option.bind_some]
  exact h2
theorem for_inv {C : Ctx} {w : Nat} {t : T} {it : I} {body : List S} {env e1 : Env} {ds : List D} {J : Nat → Env → Prop} (h : evI C it env = some (ds, e1)) (h0 : J 0 e1)
    (hs : ∀ i d e, ds[i]? = some d → J i e → ∃ e2 e', bindT t d e = some e2 ∧ (exSs C w body e2 = some (.nx e') ∨ exSs C w body e2 = some (.ct e')) ∧ J (i + 1) e') : ∃ e', exS C w (.for_ t it body) env = some (.nx e') ∧ J ds.length e' := by
  obtain ⟨e', h1, h2⟩ := forGo_inv (f := fun d e => (bindT t d e).bind (exSs C w body)) (I := J) (ds := ds) (k := 0) (e := e1) (fun i d e hd hi => by
    rw [Nat.zero_add] at hi ⊢
    obtain ⟨e2, e', a, b, c⟩ := hs i d e hd hi
    refine ⟨e', ?_, c⟩
    show (bindT t d e).bind (exSs C w body) = _ ∨ (bindT t d e).bind (exSs C w body) = _
    rw [a]
    exact b) h0
  rw [Nat.zero_add] at h2
  refine ⟨e', ?_, h2⟩
  rw [exS, h, Option.bind_some]
  exact h1
/-- a comprehension without a test: the elements one by one -/
theorem lc_inv {C : Ctx} {own : List Nat} {elt : E} {t : T} {it : I} {env e1 : Env} {ds : List D} {J : Nat → Env → Prop} {Q : D → Prop} (h : evI C it env = some (ds, e1)) (hw : wipeable e1 own = true) (hz : ds.length ≤ 2 ^ 24) (h0 : J 0 (wipeE e1 own))
    (hs : ∀ i d e, ds[i]? = some d → J i e → ∃ e2 rd e3, bindT t d e = some e2 ∧ evR C elt e2 = some (rd, e3) ∧ wipeable e3 own = true ∧ J (i + 1) (wipeE e3 own) ∧ Q rd.d) :
    ∃ ys e', evR C (.lc own elt t it (.cst (.bl true))) env = some (.new (.lst ys), restoreE e1 e' own) ∧ J ds.length e' ∧ ys.length = ds.length ∧ ∀ y ∈ ys, Q y := by
  have hz : szOk ds.length = true := by
    unfold szOk
    rw [lk_eq, decide_eq_true_eq, sizeLine_eq]
    exact Nat.le_trans hz (by decide)
  obtain ⟨ys, e', h1, h2, h3, h4⟩ := lcGo_inv (f := fun d e => (bindT t d e).bind fun e1 => (testOf (.cst (.bl true)) (evR C (.cst (.bl true))) e1).bind fun b =>
          if b.1 then (frz (evR C elt) b.2).bind fun y => wiped own (some y.1) y.2 else wiped own none b.2) (I := J) (Q := Q) (ds := ds) (k := 0) (e := wipeE e1 own) (fun i d e hd hi => by
    rw [Nat.zero_add] at hi ⊢
    obtain ⟨e2, rd, e3, a, b, c, d', q⟩ := hs i d e hd hi
    refine ⟨rd.d, wipeE e3 own, ?_, d', q⟩
    simp only [a, Option.bind_some, testOf, toP, evR, Option.map_some, getP, RD.d, truth, frz, b, wiped, c, if_true]) h0
  rw [Nat.zero_add] at h2
  refine ⟨ys, e', ?_, h2, h3, h4⟩
  rw [evR, h, Option.bind_some]
  simp only [hw, hz, Bool.and_self, if_true, h1, Option.map_some]
/-- and where each element is a function of the item -/
theorem lc_map {C : Ctx} {own : List Nat} {elt : E} {t : T} {it : I} {env e1 : Env} {ds : List D} {f : D → D} (h : evI C it env = some (ds, e1)) (hw : wipeable e1 own = true) (hz : ds.length ≤ 2 ^ 24)
    (hs : ∀ d ∈ ds, ∃ e2 rd e3, bindT t d (wipeE e1 own) = some e2 ∧ evR C elt e2 = some (rd, e3) ∧ wipeable e3 own = true ∧ wipeE e3 own = wipeE e1 own ∧ rd.d = f d) :
    evR C (.lc own elt t it (.cst (.bl true))) env = some (.new (.lst (ds.map f)), restoreE e1 (wipeE e1 own) own) := by
  have hz : szOk ds.length = true := by
    unfold szOk
    rw [lk_eq, decide_eq_true_eq, sizeLine_eq]
    exact Nat.le_trans hz (by decide)
  have h1 := lcGo_map (f := fun d e => (bindT t d e).bind fun e1 => (testOf (.cst (.bl true)) (evR C (.cst (.bl true))) e1).bind fun b =>
          if b.1 then (frz (evR C elt) b.2).bind fun y => wiped own (some y.1) y.2 else wiped own none b.2) (g := f) (e := wipeE e1 own) (ds := ds) (fun d hd => by
    obtain ⟨e2, rd, e3, a, b, c, d', q⟩ := hs d hd
    simp only [a, Option.bind_some, testOf, toP, evR, Option.map_some, getP, RD.d, truth, frz, b, wiped, c, if_true, d', ← q])
  rw [evR, h, Option.bind_some]
  simp only [hw, hz, Bool.and_self, if_true, h1, Option.map_some]
/-! ### lists of ints -/
theorem intsOf_map : ∀ ns : List Int, intsOf (ns.map .int) = some ns
  | [] => rfl
  | n :: r => by
    show (intsOf (r.map .int)).map (n :: ·) = _
    rw [intsOf_map r]
    rfl
theorem boolsOf_map : ∀ ns : List Bool, boolsOf (ns.map .bl) = some ns
  | [] => rfl
  | n :: r => by
    show (boolsOf (r.map .bl)).map (n :: ·) = _
    rw [boolsOf_map r]
    rfl
/-! ### the shown text -/
mutual
def shD : Nat → D → Bool
  | _, .non => true
  | _, .bl _ => true
  | _, .int i => decide (i.natAbs < 10 ^ 12)
  | _, .str x => PyData.strOk x && decide ((PyData.str x).shown.length ≤ 40)
  | n + 1, .tup xs => shDs n xs
  | n + 1, .lst xs => shDs n xs
  | _, _ => false
def shDs : Nat → List D → Bool
  | _, [] => true
  | n, x :: xs => shD n x && shDs n xs
end
mutual
def lenB : D → Nat
  | .non => 4
  | .bl _ => 5
  | .int _ => 13
  | .str _ => 40
  | .tup xs => lenBs xs + 3
  | .lst xs => lenBs xs + 3
  | .scr _ => 0
  | .dk _ _ => 0
  | .dt _ _ => 0
  | .ins _ _ _ => 0
def lenBs : List D → Nat
  | [] => 0
  | x :: xs => lenB x + 2 + lenBs xs
end
mutual
theorem shD_ok : ∀ (n : Nat) (d : D), shD n d = true → flatD n d = true ∧ (pyOf d).showable = true ∧ (pyOf d).shown.length ≤ lenB d
  | _, .non, _ => ⟨by unfold flatD; rfl, by simp [pyOf, PyData.showable], by simp only [pyOf, PyData.shown, lenB]; decide⟩
  | _, .bl b, _ => ⟨by unfold flatD; rfl, by simp [pyOf, PyData.showable], by simp only [pyOf, PyData.shown, lenB]; cases b <;> decide⟩
  | _, .int i, h => by
    have h : i.natAbs < 10 ^ 12 := by
      unfold shD at h
      exact of_decide_eq_true h
    refine ⟨by unfold flatD; rfl, ?_, ?_⟩
    · simp only [pyOf, PyData.showable, decide_eq_true_eq]
      by_cases hz : i.natAbs = 0
      · rw [hz]
        decide
      · rw [Nat.log2_lt hz]
        exact Nat.lt_of_lt_of_le h (Nat.le_trans (show 10 ^ 12 ≤ 2 ^ 40 by decide) (Nat.pow_le_pow_right (by decide) (by decide)))
    · exact PyData.shown_int_le h
  | _, .str x, h => by
    unfold shD at h
    simp only [Bool.and_eq_true, decide_eq_true_eq] at h
    exact ⟨by unfold flatD; exact h.1, by simp [pyOf, PyData.showable], by simp only [pyOf, lenB]; exact h.2⟩
  | n + 1, .tup xs, h => by
    unfold shD at h
    obtain ⟨a, b, c⟩ := shDs_ok n xs h
    refine ⟨by unfold flatD; exact a, by simpa only [pyOf, PyData.showable] using b, ?_⟩
    simp only [pyOf, PyData.shown, lenB]
    have := tupleText_len_le (PyData.shownAll (pyOfs xs))
    rw [PyData.shownAll_length] at this
    omega
  | n + 1, .lst xs, h => by
    unfold shD at h
    obtain ⟨a, b, c⟩ := shDs_ok n xs h
    refine ⟨by unfold flatD; exact a, by simpa only [pyOf, PyData.showable] using b, ?_⟩
    simp only [pyOf, PyData.shown, lenB]
    have := listText_len_le (PyData.shownAll (pyOfs xs))
    rw [PyData.shownAll_length] at this
    omega
  | 0, .tup xs, h => by unfold shD at h; cases h
  | 0, .lst xs, h => by unfold shD at h; cases h
  | n, .scr xs, h => by unfold shD at h; cases h
  | n, .dk _ _, h => by unfold shD at h; cases h
  | n, .dt _ _, h => by unfold shD at h; cases h
  | n, .ins _ _ _, h => by unfold shD at h; cases h
theorem shDs_ok : ∀ (n : Nat) (ds : List D), shDs n ds = true → flatDs n ds = true ∧ PyData.showableAll (pyOfs ds) = true ∧ ((PyData.shownAll (pyOfs ds)).map (·.length)).sum + 2 * (pyOfs ds).length ≤ lenBs ds
  | _, [], _ => ⟨by unfold flatDs; rfl, by simp [pyOfs, PyData.showableAll], by simp [pyOfs, PyData.shownAll, lenBs]⟩
  | n, x :: xs, h => by
    unfold shDs at h
    simp only [Bool.and_eq_true] at h
    obtain ⟨a, b, c⟩ := shD_ok n x h.1
    obtain ⟨a', b', c'⟩ := shDs_ok n xs h.2
    refine ⟨by unfold flatDs; rw [a, a']; rfl, by simp only [pyOfs, PyData.showableAll, b, b']; rfl, ?_⟩
    simp only [pyOfs, PyData.shownAll, lenBs, List.map_cons, List.sum_cons, List.length_cons]
    omega
end
theorem repr_small {d : D} (h : shD 40 d = true) (hl : lenB d ≤ 2 ^ 24) : reprD d = some (pyOf d).shown := by
  obtain ⟨a, b, c⟩ := shD_ok 40 d h
  have hz : szOk (pyOf d).shown.length = true := by
    unfold szOk
    rw [lk_eq, decide_eq_true_eq, sizeLine_eq]
    exact Nat.le_trans c (Nat.le_trans hl (by decide))
  unfold reprD
  rw [show dataOk d = true from a, b, hz]
  rfl
theorem shDs_ints (n : Nat) : ∀ (ns : List Int), (∀ i ∈ ns, i.natAbs < 10 ^ 12) → shDs n (ns.map .int) = true
  | [], _ => by simp [shDs]
  | i :: r, h => by
    simp only [List.map_cons, shDs, shD, Bool.and_eq_true, decide_eq_true_eq]
    exact ⟨h i List.mem_cons_self, shDs_ints n r fun j hj => h j (List.mem_cons_of_mem _ hj)⟩
theorem lenBs_ints : ∀ (ns : List Int), lenBs (ns.map .int) = 15 * ns.length
  | [] => rfl
  | i :: r => by
    simp only [List.map_cons, lenBs, lenB, List.length_cons, lenBs_ints r]
    omega
theorem rgD_get {b : Int} {i : Nat} {d : D} (h : (rgD 0 b)[i]? = some d) : d = .int i ∧ (i : Int) < b := by
  have e := rgD_at h
  have hl := (List.getElem?_eq_some_iff.mp h).1
  rw [rgD_len] at hl
  exact ⟨by rw [e]; simp, by omega⟩
theorem rgOk_i {n : Int} (h : 0 ≤ n) (h1 : n < 100000) : rgOk 0 n = true := by
  unfold rgOk
  rw [lk_eq]
  simp
  omega
theorem rng_n {n : Int} (h : 0 ≤ n) (h1 : n < 100000) : rngD [.int n] = some (rgD 0 n) := by
  show (if rgOk 0 n then some (rgD 0 n) else none) = _
  rw [rgOk_i h h1]
  rfl
theorem perm_pop {α : Type} : ∀ {l : List α} {i : Nat} (h : i < l.length), (l[i] :: l.eraseIdx i).Perm l
  | a :: l, 0, _ => List.Perm.refl _
  | a :: l, i + 1, h => (List.Perm.swap _ _ _).trans ((perm_pop (l := l) (i := i) (by simpa using h)).cons a)
/-- a pen -/
def isPen (xs : List D) : Prop := ∃ a b c : Int, xs = [.int a, .int b, .int c] ∧ 0 ≤ b ∧ b < 2147483648
theorem mulOk_l {i j : Int} (h : 0 ≤ i) (h1 : i < 2147483648) : mulOk i j = true := by
  unfold mulOk
  rw [lk_eq]
  have a : decide (-(2 ^ 64) < i) = true := decide_eq_true (by omega)
  have b : decide (i < 2 ^ 64) = true := decide_eq_true (by omega)
  rw [a, b]
  rfl
theorem mulOk_m1 {x j : Int} : mulOk (x % 2147483629) j = true := mulOk_l (Int.emod_nonneg _ (by decide)) (Int.lt_trans (Int.emod_lt_of_pos _ (by decide)) (by decide))
theorem mulOk_m2 {x j : Int} : mulOk (x % 2147483647) j = true := mulOk_l (Int.emod_nonneg _ (by decide)) (Int.lt_trans (Int.emod_lt_of_pos _ (by decide)) (by decide))
end MI
namespace MI
open PySem L2
theorem cut_take {α : Type} {xs : List α} {k : Int} (h : 0 ≤ k) : cut xs none (some k) = xs.take k.toNat := by
  unfold cut
  obtain ⟨n, rfl⟩ : ∃ n : Nat, k = n := ⟨k.toNat, by omega⟩
  rw [HT.sIx_nat, HT.sIx_none, List.drop_zero, Nat.sub_zero, Int.toNat_natCast]
  by_cases hn : n ≤ xs.length
  · rw [Nat.min_eq_left hn]
  · rw [Nat.min_eq_right (by omega), List.take_of_length_le (Nat.le_refl _), List.take_of_length_le (by omega)]
theorem cut_drop {α : Type} {xs : List α} {k : Int} (h : 0 ≤ k) : cut xs (some k) none = xs.drop k.toNat := by
  unfold cut
  obtain ⟨n, rfl⟩ : ∃ n : Nat, k = n := ⟨k.toNat, by omega⟩
  rw [HT.sIx_nat, HT.sIx_none, Int.toNat_natCast]
  by_cases hn : n ≤ xs.length
  · rw [Nat.min_eq_left hn, List.take_of_length_le (by rw [List.length_drop]; omega)]
  · rw [Nat.min_eq_right (by omega), List.drop_of_length_le (Nat.le_refl _), List.drop_of_length_le (by omega), List.take_nil]
theorem cut_mid {α : Type} {xs : List α} {i j : Nat} : cut xs (some (i : Int)) (some (j : Int)) = (xs.drop i).take (j - i) := by
  unfold cut
  rw [HT.sIx_nat, HT.sIx_nat]
  by_cases hn : i ≤ xs.length
  · rw [Nat.min_eq_left hn]
    by_cases hj : j ≤ xs.length
    · rw [Nat.min_eq_left hj]
    · rw [Nat.min_eq_right (by omega), List.take_of_length_le (by rw [List.length_drop]; omega), List.take_of_length_le (by rw [List.length_drop]; omega)]
  · rw [Nat.min_eq_right (show xs.length ≤ i by omega), List.drop_of_length_le (Nat.le_refl _), List.drop_of_length_le (show xs.length ≤ i by omega), List.take_nil, List.take_nil]
theorem ixN_last (n : Nat) : ixN (n + 1) (-1) = some n := by
  unfold ixN
  rw [if_neg (by decide), if_pos (by omega)]
  congr 1
  omega
theorem atI_end {α : Type} (xs : List α) (x : α) : atI (xs ++ [x]) (-1) = some x := by
  unfold atI
  rw [List.length_append, List.length_singleton, ixN_last]
  simp
theorem rep_flat {α : Type} (x : α) : ∀ n : Nat, (List.replicate n [x]).flatten = List.replicate n x
  | 0 => rfl
  | n + 1 => by rw [List.replicate_succ, List.flatten_cons, rep_flat x n]; rfl
end MI
namespace MI
open PySem L2
theorem ctx_call (P : Prg) (n : Nat) : (P.ctx n).call = P.calls n := rfl
theorem ctx_modes (P : Prg) (n : Nat) : (P.ctx n).modes = P.modes := rfl
theorem ctx_glob (P : Prg) (n : Nat) : (P.ctx n).glob = P.glob := rfl
theorem ctx_names (P : Prg) (n : Nat) : (P.ctx n).names = P.names := rfl
theorem ctx_cls (P : Prg) (n : Nat) : (P.ctx n).cls = P.cls := rfl
theorem ctx_kws (P : Prg) (n : Nat) : (P.ctx n).kws = P.kws := rfl
end MI
namespace MI
open PySem L2
theorem map_yes {α : Type} : ∀ l : List α, l.map (fun _ => D.bl true) = List.replicate l.length (.bl true)
  | [] => rfl
  | x :: l => by rw [List.map_cons, map_yes l]; rfl
theorem bools_yes : ∀ n : Nat, boolsOf (List.replicate n (.bl true)) = some (List.replicate n true)
  | 0 => rfl
  | n + 1 => by
    show (boolsOf (List.replicate n (.bl true))).map (true :: ·) = _
    rw [bools_yes n]
    rfl
theorem atI_0 {α : Type} (x : α) (r : List α) : atI (x :: r) 0 = some x := by simp [atI, ixN]
end MI

namespace K73
open PySem PySem.Spec PyProof.Rows L2 MI
def topS (i : Nat) : Stmt := PySem.Challenge.pw_startgaps_k73_works_with_given_bars.main.body.getD i (.Pass ⟨0, 0, 0, 0⟩)
def F_law_pen : Fn := ⟨[false], ["_law_cell_here"], 1, [.ret (.lst [(.bi .max [(.cst (.int 0)), (.bin .Sub (.var 0) (.bin .Pow (.cst (.int 10)) (.cst (.int 18))))]), (.bin .Add (.bin .Mod (.var 0) (.cst (.int 2147483629))) (.cst (.int 1))), (.cst (.int 0))])]⟩
def F_law_same : Fn := ⟨[false, false], ["_law_found", "_law_due"], 2, [.ret (.cmp .Eq (.bi .repr [(.var 0)]) (.bi .repr [(.var 1)]))]⟩
def F_is_between : Fn := ⟨[false, false, false], ["thing", "low", "high"], 3, [.ret (.boo true [(.isi (.var 0) .int), (.nt (.isi (.var 0) .bool)), (.chain .LtE .LtE (.var 1) (.var 0) (.var 2))])]⟩
def C_are_distances_1 : MI.E := .lc [1] (.call "is_between" [(.var 1), (.cst (.int 1)), (.glo "GREATEST_BAR")]) (.nm 1) (.seq (.var 0)) (.cst (.bl true))
theorem tp_C_are_distances_1 (r : MI.Env → Option (RD × MI.Env)) (env : MI.Env) : toP C_are_distances_1 r env = (r env).map fun x => (.d x.1.d, x.2) := rfl
def C_are_distances_2 : MI.E := .lc [1, 2] (.cmp .Lt (.var 1) (.var 2)) (.tp [(.nm 1), (.nm 2)]) (.zip (.var 0) (.sli (.var 0) (.cst (.int 1)) (.cst .non))) (.cst (.bl true))
theorem tp_C_are_distances_2 (r : MI.Env → Option (RD × MI.Env)) (env : MI.Env) : toP C_are_distances_2 r env = (r env).map fun x => (.d x.1.d, x.2) := rfl
def F_are_distances : Fn := ⟨[false], ["thing"], 3, [.ifs (.boo false [(.nt (.isi (.var 0) .tuple)), (.cmp .Gt (.bi .len [(.var 0)]) (.glo "MOST_BARS"))]) [.ret (.cst (.bl false))] [], .ifs (.nt (.bi .all [C_are_distances_1])) [.ret (.cst (.bl false))] [], .ret (.bi .all [C_are_distances_2])]⟩
def S_put_1 : MI.S := .while_ (.boo false [(.cmp .In (.var 3) (.var 0)), (.cmp .In (.bin .Add (.var 3) (.var 1)) (.var 0))]) [.asg 3 (.bin .Add (.var 3) (.cst (.int 1)))]
def F_put : Fn := ⟨[false, false, false], ["stations", "distance", "station"], 4, [.asg 3 (.cst (.int 0)), S_put_1, .ret (.dst (.var 0) (.var 3) (.var 2) (.bin .Add (.var 3) (.var 1)) (.var 2))]⟩
def S_work_with_1 : MI.S := .for_ (.tp [(.nm 3), (.nm 4)]) (.enum (.var 0)) [.asg 1 (.call "put" [(.var 1), (.var 4), (.var 3)])]
def C_work_with_1 : MI.E := .lc [5] (.dget (.var 1) (.var 5) (.glo "NOWHERE")) (.nm 5) (.rng [(.sub (.var 2) (.cst (.int 0))), (.bin .Add (.sub (.var 2) (.neg (.cst (.int 1)))) (.cst (.int 1)))]) (.cst (.bl true))
theorem tp_C_work_with_1 (r : MI.Env → Option (RD × MI.Env)) (env : MI.Env) : toP C_work_with_1 r env = (r env).map fun x => (.d x.1.d, x.2) := rfl
def F_work_with : Fn := ⟨[false], ["distances"], 6, [.ifs (.nt (.call "are_distances" [(.var 0)])) [.stop] [], .asg 1 (.dnew false), S_work_with_1, .ifs (.eqE (.var 1)) [.ret (.tup [(.cst (.int 0))])] [], .asg 2 (.bi .sorted [(.var 1)]), .ret (.bi .tuple [C_work_with_1])]⟩
def S_law_is_job_1 : MI.S := .for_ (.nm 1) (.seq (.var 0)) [.ifs (.boo false [(.nt (.isi (.var 1) .int)), (.isi (.var 1) .bool), (.nt (.chain .LtE .LtE (.neg (.cst (.int 1))) (.var 1) (.cst (.int 9))))]) [.ret (.cst (.bl false))] []]
def F_law_is_job : Fn := ⟨[false], ["_law_thing"], 2, [.ifs (.boo false [(.nt (.isi (.var 0) .tuple)), (.nt (.chain .LtE .LtE (.cst (.int 1)) (.bi .len [(.var 0)]) (.cst (.int 60))))]) [.ret (.cst (.bl false))] [], S_law_is_job_1, .ret (.boo true [(.cmp .NotEq (.sub (.var 0) (.cst (.int 0))) (.neg (.cst (.int 1)))), (.cmp .NotEq (.sub (.var 0) (.neg (.cst (.int 1)))) (.neg (.cst (.int 1))))])]⟩
def S_law_meet_1 : MI.S := .for_ (.tp [(.nm 3), (.nm 4)]) (.enum (.var 0)) [.ifs (.boo true [(.cmp .NotEq (.var 4) (.neg (.cst (.int 1)))), (.chain .LtE .Lt (.cst (.int 0)) (.bin .Sub (.var 3) (.var 2)) (.bi .len [(.var 1)])), (.cmp .Eq (.sub (.var 1) (.bin .Sub (.var 3) (.var 2))) (.var 4))]) [.ret (.cst (.bl true))] []]
def F_law_meet : Fn := ⟨[false, false, false], ["_law_one", "_law_other", "_law_by"], 5, [S_law_meet_1, .ret (.cst (.bl false))]⟩
def C_law_bars_1 : MI.E := .lc [2] (.var 2) (.nm 2) (.rng [(.cst (.int 1)), (.bi .len [(.var 0)])]) (.call "_law_meet" [(.var 0), (.var 1), (.var 2)])
theorem tp_C_law_bars_1 (r : MI.Env → Option (RD × MI.Env)) (env : MI.Env) : toP C_law_bars_1 r env = (r env).map fun x => (.d x.1.d, x.2) := rfl
def F_law_bars : Fn := ⟨[false, false], ["_law_one", "_law_other"], 3, [.ret C_law_bars_1]⟩
def F_law_right : Fn := ⟨[false], ["_law_some_here"], 3, [.par [1, 2] [(.bi .repr [(.var 0)]), (.call "work_with" [(.var 0)])], .ifs (.boo false [(.nt (.call "_law_is_job" [(.var 2)])), (.nt (.call "_law_same" [(.call "work_with" [(.var 0)]), (.var 2)])), (.cmp .NotEq (.bi .repr [(.var 0)]) (.var 1))]) [.ret (.cst (.bl false))] [], .ret (.call "_law_same" [(.bi .tuple [(.call "_law_bars" [(.var 2), (.var 2)])]), (.var 0)])]⟩
def F_law_cell : Fn := ⟨[false, false], ["_law_script", "_law_k"], 2, [.ifs (.cmp .Lt (.var 1) (.bi .len [(.var 0)])) [.ret (.sub (.var 0) (.var 1))] [], .ret (.cst (.int 0))]⟩
def F_law_draw : Fn := ⟨[true, false], ["_law_pen_here", "_law_many"], 4, [.ifs (.cmp .Gt (.sub (.var 0) (.cst (.int 0))) (.cst (.int 0))) [.asg 3 (.bin .Mod (.sub (.var 0) (.cst (.int 0))) (.var 1)), .setI 0 (.cst (.int 0)) (.bin .FloorDiv (.sub (.var 0) (.cst (.int 0))) (.var 1)), .ret (.var 3)] [], .setI 0 (.cst (.int 2)) (.bin .Add (.sub (.var 0) (.cst (.int 2))) (.cst (.int 1))), .setI 0 (.cst (.int 1)) (.bin .Mod (.bin .Add (.bin .Add (.bin .Mult (.sub (.var 0) (.cst (.int 1))) (.cst (.int 48271))) (.bin .Mult (.cst (.int 1009)) (.sub (.var 0) (.cst (.int 2))))) (.cst (.int 7))) (.cst (.int 2147483647))), .asg 2 (.bin .Mod (.bin .Add (.bin .Add (.bin .Mult (.sub (.var 0) (.cst (.int 1))) (.sub (.var 0) (.cst (.int 1)))) (.bin .Mult (.cst (.int 69621)) (.sub (.var 0) (.cst (.int 1))))) (.cst (.int 11))) (.cst (.int 2147483629))), .asg 2 (.bin .Mod (.bin .Add (.bin .Mult (.var 2) (.var 2)) (.bin .Mult (.cst (.int 40014)) (.var 2))) (.cst (.int 2147483587))), .ret (.bin .Mod (.bin .FloorDiv (.var 2) (.cst (.int 16))) (.var 1))]⟩
def S_law_some_1 : MI.S := .for_ (.nm 3) (.rng [(.cst (.int 1)), (.bin .Add (.cst (.int 1)) (.var 1))]) [.ifs (.boo true [(.cmp .Lt (.bi .len [(.var 2)]) (.cst (.int 8))), (.cmp .Eq (.call "_law_draw" [(.var 0), (.bin .Add (.cst (.int 1)) (.bin .FloorDiv (.var 1) (.cst (.int 4))))]) (.cst (.int 0)))]) [.app 2 (.var 3)] []]
def F_law_some : Fn := ⟨[true, false], ["_law_pen_here", "_law_upto"], 4, [.asg 2 (.lst []), S_law_some_1, .ret (.bi .tuple [(.var 2)])]⟩
def S_law_1 : MI.S := .for_ (.nm 1) (.rng [(.cst (.int 1)), (.cst (.int 21))]) [.ifs (.nt (.call "_law_right" [(.tup [(.var 1)])])) [.ret (.cst (.bl false))] []]
def C_law_1 : MI.E := .lc [1] (.bin .Sub (.cst (.int 21)) (.var 1)) (.nm 1) (.seq (.rev (.var 5))) (.cst (.bl true))
theorem tp_C_law_1 (r : MI.Env → Option (RD × MI.Env)) (env : MI.Env) : toP C_law_1 r env = (r env).map fun x => (.d x.1.d, x.2) := rfl
def S_law_2 : MI.S := .for_ (.nm 4) (.rng [(.cst (.int 12))]) [.asg 5 (.call "_law_some" [(.var 3), (.sub (.lst [(.cst (.int 20)), (.cst (.int 8)), (.cst (.int 12)), (.cst (.int 16))]) (.bin .Mod (.var 4) (.cst (.int 4))))]), .ifs (.boo false [(.nt (.call "_law_right" [(.var 5)])), (.nt (.call "_law_right" [(.bi .tuple [C_law_1])]))]) [.ret (.cst (.bl false))] []]
def S_law_3 : MI.S := .for_ (.nm 2) (.rng [(.bi .max [(.cst (.int 1)), (.bi .min [(.bi .len [(.var 0)]), (.cst (.int 3))])])]) [.asg 3 (.call "_law_pen" [(.call "_law_cell" [(.var 0), (.var 2)])]), S_law_2]
def F_law : Fn := ⟨[false], ["_law_script"], 6, [S_law_1, .ifs (.boo false [(.nt (.call "_law_right" [(.tup [])])), (.nt (.call "_law_right" [(.lrng .tuple [(.cst (.int 1)), (.cst (.int 9))])])), (.nt (.call "_law_right" [(.lrng .tuple [(.cst (.int 13)), (.cst (.int 21))])]))]) [.ret (.cst (.bl false))] [], S_law_3, .ret (.cst (.bl true))]⟩
def gl (x : Str) : Option D := if x = "GREATEST_BAR" then some (.int 20) else if x = "MOST_BARS" then some (.int 8) else if x = "NOWHERE" then some (.int (-1)) else none
def cl (cs : Nat → Addr) (x : Str) : Option CI := none
def kw : List (Str × List Str) := []
def fs : List (Str × Fn) := [("_law_pen", F_law_pen), ("_law_same", F_law_same), ("is_between", F_is_between), ("are_distances", F_are_distances), ("put", F_put), ("work_with", F_work_with), ("_law_is_job", F_law_is_job), ("_law_meet", F_law_meet), ("_law_bars", F_law_bars), ("_law_right", F_law_right), ("_law_cell", F_law_cell), ("_law_draw", F_law_draw), ("_law_some", F_law_some), ("law", F_law)]
def mths : List (Str × Fn) := []
def PP (cs : Nat → Addr) : Prg := ⟨fs, mths, gl, cl cs, kw, 100000⟩
theorem scF_law_pen : FnScope ["_law_cell_here"] ["_law_cell_here"] (defScope (topS 14)) := ⟨rfl, rfl, rfl, by decide +kernel, rfl, by decide +kernel, by decide +kernel⟩
theorem ckF_law_pen : mSs ["_law_cell_here"] (defScope (topS 14)) (fun _ => true) F_law_pen.body (defBody (topS 14)) = true := by decide +kernel
theorem scF_law_same : FnScope ["_law_found", "_law_due"] ["_law_found", "_law_due"] (defScope (topS 16)) := ⟨rfl, rfl, rfl, by decide +kernel, rfl, by decide +kernel, by decide +kernel⟩
theorem ckF_law_same : mSs ["_law_found", "_law_due"] (defScope (topS 16)) (fun _ => true) F_law_same.body (defBody (topS 16)) = true := by decide +kernel
theorem scF_is_between : FnScope ["thing", "low", "high"] ["thing", "low", "high"] (defScope (topS 5)) := ⟨rfl, rfl, rfl, by decide +kernel, rfl, by decide +kernel, by decide +kernel⟩
theorem ckF_is_between : mSs ["thing", "low", "high"] (defScope (topS 5)) (fun _ => true) F_is_between.body (defBody (topS 5)) = true := by decide +kernel
theorem scF_are_distances : FnScope ["thing", "one", "other"] ["thing"] (defScope (topS 9)) := ⟨rfl, rfl, rfl, by decide +kernel, rfl, by decide +kernel, by decide +kernel⟩
theorem ckF_are_distances : mSs ["thing", "one", "other"] (defScope (topS 9)) (fun _ => true) F_are_distances.body (defBody (topS 9)) = true := by decide +kernel
theorem scF_put : FnScope ["stations", "distance", "station", "tick"] ["stations", "distance", "station"] (defScope (topS 10)) := ⟨rfl, rfl, rfl, by decide +kernel, rfl, by decide +kernel, by decide +kernel⟩
theorem ckF_put : mSs ["stations", "distance", "station", "tick"] (defScope (topS 10)) (fun _ => true) F_put.body (defBody (topS 10)) = true := by decide +kernel
theorem scF_work_with : FnScope ["distances", "stations", "ticks", "station", "distance", "tick"] ["distances"] (defScope (topS 11)) := ⟨rfl, rfl, rfl, by decide +kernel, rfl, by decide +kernel, by decide +kernel⟩
theorem ckF_work_with : mSs ["distances", "stations", "ticks", "station", "distance", "tick"] (defScope (topS 11)) (fun _ => true) F_work_with.body (defBody (topS 11)) = true := by decide +kernel
theorem scF_law_is_job : FnScope ["_law_thing", "_law_one"] ["_law_thing"] (defScope (topS 19)) := ⟨rfl, rfl, rfl, by decide +kernel, rfl, by decide +kernel, by decide +kernel⟩
theorem ckF_law_is_job : mSs ["_law_thing", "_law_one"] (defScope (topS 19)) (fun _ => true) F_law_is_job.body (defBody (topS 19)) = true := by decide +kernel
theorem scF_law_meet : FnScope ["_law_one", "_law_other", "_law_by", "_law_at", "_law_spot"] ["_law_one", "_law_other", "_law_by"] (defScope (topS 17)) := ⟨rfl, rfl, rfl, by decide +kernel, rfl, by decide +kernel, by decide +kernel⟩
theorem ckF_law_meet : mSs ["_law_one", "_law_other", "_law_by", "_law_at", "_law_spot"] (defScope (topS 17)) (fun _ => true) F_law_meet.body (defBody (topS 17)) = true := by decide +kernel
theorem scF_law_bars : FnScope ["_law_one", "_law_other", "_law_by"] ["_law_one", "_law_other"] (defScope (topS 18)) := ⟨rfl, rfl, rfl, by decide +kernel, rfl, by decide +kernel, by decide +kernel⟩
theorem ckF_law_bars : mSs ["_law_one", "_law_other", "_law_by"] (defScope (topS 18)) (fun _ => true) F_law_bars.body (defBody (topS 18)) = true := by decide +kernel
theorem scF_law_right : FnScope ["_law_some_here", "_law_kept", "_law_told"] ["_law_some_here"] (defScope (topS 20)) := ⟨rfl, rfl, rfl, by decide +kernel, rfl, by decide +kernel, by decide +kernel⟩
theorem ckF_law_right : mSs ["_law_some_here", "_law_kept", "_law_told"] (defScope (topS 20)) (fun _ => true) F_law_right.body (defBody (topS 20)) = true := by decide +kernel
theorem scF_law_cell : FnScope ["_law_script", "_law_k"] ["_law_script", "_law_k"] (defScope (topS 13)) := ⟨rfl, rfl, rfl, by decide +kernel, rfl, by decide +kernel, by decide +kernel⟩
theorem ckF_law_cell : mSs ["_law_script", "_law_k"] (defScope (topS 13)) (fun _ => true) F_law_cell.body (defBody (topS 13)) = true := by decide +kernel
theorem scF_law_draw : FnScope ["_law_pen_here", "_law_many", "_law_mixed", "_law_found"] ["_law_pen_here", "_law_many"] (defScope (topS 15)) := ⟨rfl, rfl, rfl, by decide +kernel, rfl, by decide +kernel, by decide +kernel⟩
theorem ckF_law_draw : mSs ["_law_pen_here", "_law_many", "_law_mixed", "_law_found"] (defScope (topS 15)) (fun _ => true) F_law_draw.body (defBody (topS 15)) = true := by decide +kernel
theorem scF_law_some : FnScope ["_law_pen_here", "_law_upto", "_law_found", "_law_by"] ["_law_pen_here", "_law_upto"] (defScope (topS 21)) := ⟨rfl, rfl, rfl, by decide +kernel, rfl, by decide +kernel, by decide +kernel⟩
theorem ckF_law_some : mSs ["_law_pen_here", "_law_upto", "_law_found", "_law_by"] (defScope (topS 21)) (fun _ => true) F_law_some.body (defBody (topS 21)) = true := by decide +kernel
theorem scF_law : FnScope ["_law_script", "_law_by", "_law_k", "_law_pen_here", "_law_turn", "_law_some_here"] ["_law_script"] (defScope (topS 22)) := ⟨rfl, rfl, rfl, by decide +kernel, rfl, by decide +kernel, by decide +kernel⟩
theorem ckF_law : mSs ["_law_script", "_law_by", "_law_k", "_law_pen_here", "_law_turn", "_law_some_here"] (defScope (topS 22)) (fun _ => true) F_law.body (defBody (topS 22)) = true := by decide +kernel
theorem facts {K : PySem.W.Frag} {h : Heap} {mg : Str → Option Value} {f0 f1 f2 f3 f4 f5 f6 f7 f8 f9 f10 f11 f12 f13   : Addr} (X : K.In h) (G : h.Ns mainGlobals mg)
    {od0 od1 od2 od3 od4 od5 od6 od7 od8 od9 od10 od11 od12 od13 an0 an1 an2 an3 an4 an5 an6 an7 an8 an9 an10 an11 an12 an13 : Option Addr} {sl0 sl1 sl2 sl3 sl4 sl5 sl6 sl7 sl8 sl9 sl10 sl11 sl12 sl13 : Array (Option Value)} {oc0 oc1 oc2 oc3 oc4 oc5 oc6 oc7 oc8 oc9 oc10 oc11 oc12 oc13 kV0 kV1 kV2 kV3 kV4 kV5 kV6 kV7 kV8 kV9 kV10 kV11 kV12 kV13 dc0 dc1 dc2 dc3 dc4 dc5 dc6 dc7 dc8 dc9 dc10 dc11 dc12 dc13 pm0 pm1 pm2 pm3 pm4 pm5 pm6 pm7 pm8 pm9 pm10 pm11 pm12 pm13 cd0 cd1 cd2 cd3 cd4 cd5 cd6 cd7 cd8 cd9 cd10 cd11 cd12 cd13 ct0 ct1 ct2 ct3 ct4 ct5 ct6 ct7 ct8 ct9 ct10 ct11 ct12 ct13 : Value} {tk0 tk1 tk2 : Nat}
    (a0 : PySem.W.nsIn K mainGlobals "_law_pen" = some (some (.ref f0)))
    (l0 : K.lookup f0 = some ⟨oc0, od0, .func (PySem.W.fnOf "_law_pen" "_law_pen" (defArgs (topS 14)) (defBody (topS 14)) (defScope (topS 14)) .none kV0 dc0 pm0 an0 cd0 ct0), sl0⟩)
    (c0 : PySem.W.codeIn K cd0 "_law_pen" = true)
    (k0 : PySem.W.keepIn K (.ref f0) = true)
    (a1 : PySem.W.nsIn K mainGlobals "_law_same" = some (some (.ref f1)))
    (l1 : K.lookup f1 = some ⟨oc1, od1, .func (PySem.W.fnOf "_law_same" "_law_same" (defArgs (topS 16)) (defBody (topS 16)) (defScope (topS 16)) .none kV1 dc1 pm1 an1 cd1 ct1), sl1⟩)
    (c1 : PySem.W.codeIn K cd1 "_law_same" = true)
    (k1 : PySem.W.keepIn K (.ref f1) = true)
    (a2 : PySem.W.nsIn K mainGlobals "is_between" = some (some (.ref f2)))
    (l2 : K.lookup f2 = some ⟨oc2, od2, .func (PySem.W.fnOf "is_between" "is_between" (defArgs (topS 5)) (defBody (topS 5)) (defScope (topS 5)) .none kV2 dc2 pm2 an2 cd2 ct2), sl2⟩)
    (c2 : PySem.W.codeIn K cd2 "is_between" = true)
    (k2 : PySem.W.keepIn K (.ref f2) = true)
    (a3 : PySem.W.nsIn K mainGlobals "are_distances" = some (some (.ref f3)))
    (l3 : K.lookup f3 = some ⟨oc3, od3, .func (PySem.W.fnOf "are_distances" "are_distances" (defArgs (topS 9)) (defBody (topS 9)) (defScope (topS 9)) .none kV3 dc3 pm3 an3 cd3 ct3), sl3⟩)
    (c3 : PySem.W.codeIn K cd3 "are_distances" = true)
    (k3 : PySem.W.keepIn K (.ref f3) = true)
    (a4 : PySem.W.nsIn K mainGlobals "put" = some (some (.ref f4)))
    (l4 : K.lookup f4 = some ⟨oc4, od4, .func (PySem.W.fnOf "put" "put" (defArgs (topS 10)) (defBody (topS 10)) (defScope (topS 10)) .none kV4 dc4 pm4 an4 cd4 ct4), sl4⟩)
    (c4 : PySem.W.codeIn K cd4 "put" = true)
    (k4 : PySem.W.keepIn K (.ref f4) = true)
    (a5 : PySem.W.nsIn K mainGlobals "work_with" = some (some (.ref f5)))
    (l5 : K.lookup f5 = some ⟨oc5, od5, .func (PySem.W.fnOf "work_with" "work_with" (defArgs (topS 11)) (defBody (topS 11)) (defScope (topS 11)) .none kV5 dc5 pm5 an5 cd5 ct5), sl5⟩)
    (c5 : PySem.W.codeIn K cd5 "work_with" = true)
    (k5 : PySem.W.keepIn K (.ref f5) = true)
    (a6 : PySem.W.nsIn K mainGlobals "_law_is_job" = some (some (.ref f6)))
    (l6 : K.lookup f6 = some ⟨oc6, od6, .func (PySem.W.fnOf "_law_is_job" "_law_is_job" (defArgs (topS 19)) (defBody (topS 19)) (defScope (topS 19)) .none kV6 dc6 pm6 an6 cd6 ct6), sl6⟩)
    (c6 : PySem.W.codeIn K cd6 "_law_is_job" = true)
    (k6 : PySem.W.keepIn K (.ref f6) = true)
    (a7 : PySem.W.nsIn K mainGlobals "_law_meet" = some (some (.ref f7)))
    (l7 : K.lookup f7 = some ⟨oc7, od7, .func (PySem.W.fnOf "_law_meet" "_law_meet" (defArgs (topS 17)) (defBody (topS 17)) (defScope (topS 17)) .none kV7 dc7 pm7 an7 cd7 ct7), sl7⟩)
    (c7 : PySem.W.codeIn K cd7 "_law_meet" = true)
    (k7 : PySem.W.keepIn K (.ref f7) = true)
    (a8 : PySem.W.nsIn K mainGlobals "_law_bars" = some (some (.ref f8)))
    (l8 : K.lookup f8 = some ⟨oc8, od8, .func (PySem.W.fnOf "_law_bars" "_law_bars" (defArgs (topS 18)) (defBody (topS 18)) (defScope (topS 18)) .none kV8 dc8 pm8 an8 cd8 ct8), sl8⟩)
    (c8 : PySem.W.codeIn K cd8 "_law_bars" = true)
    (k8 : PySem.W.keepIn K (.ref f8) = true)
    (a9 : PySem.W.nsIn K mainGlobals "_law_right" = some (some (.ref f9)))
    (l9 : K.lookup f9 = some ⟨oc9, od9, .func (PySem.W.fnOf "_law_right" "_law_right" (defArgs (topS 20)) (defBody (topS 20)) (defScope (topS 20)) .none kV9 dc9 pm9 an9 cd9 ct9), sl9⟩)
    (c9 : PySem.W.codeIn K cd9 "_law_right" = true)
    (k9 : PySem.W.keepIn K (.ref f9) = true)
    (a10 : PySem.W.nsIn K mainGlobals "_law_cell" = some (some (.ref f10)))
    (l10 : K.lookup f10 = some ⟨oc10, od10, .func (PySem.W.fnOf "_law_cell" "_law_cell" (defArgs (topS 13)) (defBody (topS 13)) (defScope (topS 13)) .none kV10 dc10 pm10 an10 cd10 ct10), sl10⟩)
    (c10 : PySem.W.codeIn K cd10 "_law_cell" = true)
    (k10 : PySem.W.keepIn K (.ref f10) = true)
    (a11 : PySem.W.nsIn K mainGlobals "_law_draw" = some (some (.ref f11)))
    (l11 : K.lookup f11 = some ⟨oc11, od11, .func (PySem.W.fnOf "_law_draw" "_law_draw" (defArgs (topS 15)) (defBody (topS 15)) (defScope (topS 15)) .none kV11 dc11 pm11 an11 cd11 ct11), sl11⟩)
    (c11 : PySem.W.codeIn K cd11 "_law_draw" = true)
    (k11 : PySem.W.keepIn K (.ref f11) = true)
    (a12 : PySem.W.nsIn K mainGlobals "_law_some" = some (some (.ref f12)))
    (l12 : K.lookup f12 = some ⟨oc12, od12, .func (PySem.W.fnOf "_law_some" "_law_some" (defArgs (topS 21)) (defBody (topS 21)) (defScope (topS 21)) .none kV12 dc12 pm12 an12 cd12 ct12), sl12⟩)
    (c12 : PySem.W.codeIn K cd12 "_law_some" = true)
    (k12 : PySem.W.keepIn K (.ref f12) = true)
    (a13 : PySem.W.nsIn K mainGlobals "law" = some (some (.ref f13)))
    (l13 : K.lookup f13 = some ⟨oc13, od13, .func (PySem.W.fnOf "law" "law" (defArgs (topS 22)) (defBody (topS 22)) (defScope (topS 22)) .none kV13 dc13 pm13 an13 cd13 ct13), sl13⟩)
    (c13 : PySem.W.codeIn K cd13 "law" = true)
    (k13 : PySem.W.keepIn K (.ref f13) = true)
    (z0 : PySem.W.nsIn K mainGlobals "len" = some none)
    (z1 : PySem.W.nsIn K mainGlobals "max" = some none)
    (z2 : PySem.W.nsIn K mainGlobals "min" = some none)
    (z3 : PySem.W.nsIn K mainGlobals "abs" = some none)
    (z4 : PySem.W.nsIn K mainGlobals "sum" = some none)
    (z5 : PySem.W.nsIn K mainGlobals "all" = some none)
    (z6 : PySem.W.nsIn K mainGlobals "any" = some none)
    (z7 : PySem.W.nsIn K mainGlobals "tuple" = some none)
    (z8 : PySem.W.nsIn K mainGlobals "list" = some none)
    (z9 : PySem.W.nsIn K mainGlobals "repr" = some none)
    (z10 : PySem.W.nsIn K mainGlobals "range" = some none)
    (z11 : PySem.W.nsIn K mainGlobals "enumerate" = some none)
    (z12 : PySem.W.nsIn K mainGlobals "zip" = some none)
    (z13 : PySem.W.nsIn K mainGlobals "isinstance" = some none)
    (z14 : PySem.W.nsIn K mainGlobals "int" = some none)
    (z15 : PySem.W.nsIn K mainGlobals "bool" = some none)
    (z16 : PySem.W.nsIn K mainGlobals "str" = some none)
    (z17 : PySem.W.nsIn K mainGlobals "dict" = some none)
    (z18 : PySem.W.nsIn K mainGlobals "sorted" = some none)
    (g0 : PySem.W.nsIn K mainGlobals "GREATEST_BAR" = some (some (.int 20 tk0)))
    (g1 : PySem.W.nsIn K mainGlobals "MOST_BARS" = some (some (.int 8 tk1)))
    (g2 : PySem.W.nsIn K mainGlobals "NOWHERE" = some (some (.int (-1) tk2)))
    : ∃ cs, PrgOk (PP cs) K mg := by
  have u0 := fun_mk (st := (topS 14)) l0 c0 k0
  have b0 : BodyOk K "_law_pen" "_law_pen" F_law_pen (topS 14) ["_law_cell_here"] _ _ := ⟨u0, scF_law_pen, ckF_law_pen, rfl, rfl⟩
  have v0 : Binds K _ F_law_pen.ps [] := u0.binds (ps := ["_law_cell_here"]) fun _ _ _ _ _ _ us hl => match us, hl with | [_], _ => rfl
  have d0 : DefOk K mg kw "_law_pen" F_law_pen (topS 14) ["_law_cell_here"] _ _ := ⟨PySem.W.mg_of X G a0, b0, v0, fun ks hk => absurd hk (no_kw (by decide +kernel))⟩
  have u1 := fun_mk (st := (topS 16)) l1 c1 k1
  have b1 : BodyOk K "_law_same" "_law_same" F_law_same (topS 16) ["_law_found", "_law_due"] _ _ := ⟨u1, scF_law_same, ckF_law_same, rfl, rfl⟩
  have v1 : Binds K _ F_law_same.ps [] := u1.binds (ps := ["_law_found", "_law_due"]) fun _ _ _ _ _ _ us hl => match us, hl with | [_, _], _ => rfl
  have d1 : DefOk K mg kw "_law_same" F_law_same (topS 16) ["_law_found", "_law_due"] _ _ := ⟨PySem.W.mg_of X G a1, b1, v1, fun ks hk => absurd hk (no_kw (by decide +kernel))⟩
  have u2 := fun_mk (st := (topS 5)) l2 c2 k2
  have b2 : BodyOk K "is_between" "is_between" F_is_between (topS 5) ["thing", "low", "high"] _ _ := ⟨u2, scF_is_between, ckF_is_between, rfl, rfl⟩
  have v2 : Binds K _ F_is_between.ps [] := u2.binds (ps := ["thing", "low", "high"]) fun _ _ _ _ _ _ us hl => match us, hl with | [_, _, _], _ => rfl
  have d2 : DefOk K mg kw "is_between" F_is_between (topS 5) ["thing", "low", "high"] _ _ := ⟨PySem.W.mg_of X G a2, b2, v2, fun ks hk => absurd hk (no_kw (by decide +kernel))⟩
  have u3 := fun_mk (st := (topS 9)) l3 c3 k3
  have b3 : BodyOk K "are_distances" "are_distances" F_are_distances (topS 9) ["thing", "one", "other"] _ _ := ⟨u3, scF_are_distances, ckF_are_distances, rfl, rfl⟩
  have v3 : Binds K _ F_are_distances.ps [] := u3.binds (ps := ["thing"]) fun _ _ _ _ _ _ us hl => match us, hl with | [_], _ => rfl
  have d3 : DefOk K mg kw "are_distances" F_are_distances (topS 9) ["thing", "one", "other"] _ _ := ⟨PySem.W.mg_of X G a3, b3, v3, fun ks hk => absurd hk (no_kw (by decide +kernel))⟩
  have u4 := fun_mk (st := (topS 10)) l4 c4 k4
  have b4 : BodyOk K "put" "put" F_put (topS 10) ["stations", "distance", "station", "tick"] _ _ := ⟨u4, scF_put, ckF_put, rfl, rfl⟩
  have v4 : Binds K _ F_put.ps [] := u4.binds (ps := ["stations", "distance", "station"]) fun _ _ _ _ _ _ us hl => match us, hl with | [_, _, _], _ => rfl
  have d4 : DefOk K mg kw "put" F_put (topS 10) ["stations", "distance", "station", "tick"] _ _ := ⟨PySem.W.mg_of X G a4, b4, v4, fun ks hk => absurd hk (no_kw (by decide +kernel))⟩
  have u5 := fun_mk (st := (topS 11)) l5 c5 k5
  have b5 : BodyOk K "work_with" "work_with" F_work_with (topS 11) ["distances", "stations", "ticks", "station", "distance", "tick"] _ _ := ⟨u5, scF_work_with, ckF_work_with, rfl, rfl⟩
  have v5 : Binds K _ F_work_with.ps [] := u5.binds (ps := ["distances"]) fun _ _ _ _ _ _ us hl => match us, hl with | [_], _ => rfl
  have d5 : DefOk K mg kw "work_with" F_work_with (topS 11) ["distances", "stations", "ticks", "station", "distance", "tick"] _ _ := ⟨PySem.W.mg_of X G a5, b5, v5, fun ks hk => absurd hk (no_kw (by decide +kernel))⟩
  have u6 := fun_mk (st := (topS 19)) l6 c6 k6
  have b6 : BodyOk K "_law_is_job" "_law_is_job" F_law_is_job (topS 19) ["_law_thing", "_law_one"] _ _ := ⟨u6, scF_law_is_job, ckF_law_is_job, rfl, rfl⟩
  have v6 : Binds K _ F_law_is_job.ps [] := u6.binds (ps := ["_law_thing"]) fun _ _ _ _ _ _ us hl => match us, hl with | [_], _ => rfl
  have d6 : DefOk K mg kw "_law_is_job" F_law_is_job (topS 19) ["_law_thing", "_law_one"] _ _ := ⟨PySem.W.mg_of X G a6, b6, v6, fun ks hk => absurd hk (no_kw (by decide +kernel))⟩
  have u7 := fun_mk (st := (topS 17)) l7 c7 k7
  have b7 : BodyOk K "_law_meet" "_law_meet" F_law_meet (topS 17) ["_law_one", "_law_other", "_law_by", "_law_at", "_law_spot"] _ _ := ⟨u7, scF_law_meet, ckF_law_meet, rfl, rfl⟩
  have v7 : Binds K _ F_law_meet.ps [] := u7.binds (ps := ["_law_one", "_law_other", "_law_by"]) fun _ _ _ _ _ _ us hl => match us, hl with | [_, _, _], _ => rfl
  have d7 : DefOk K mg kw "_law_meet" F_law_meet (topS 17) ["_law_one", "_law_other", "_law_by", "_law_at", "_law_spot"] _ _ := ⟨PySem.W.mg_of X G a7, b7, v7, fun ks hk => absurd hk (no_kw (by decide +kernel))⟩
  have u8 := fun_mk (st := (topS 18)) l8 c8 k8
  have b8 : BodyOk K "_law_bars" "_law_bars" F_law_bars (topS 18) ["_law_one", "_law_other", "_law_by"] _ _ := ⟨u8, scF_law_bars, ckF_law_bars, rfl, rfl⟩
  have v8 : Binds K _ F_law_bars.ps [] := u8.binds (ps := ["_law_one", "_law_other"]) fun _ _ _ _ _ _ us hl => match us, hl with | [_, _], _ => rfl
  have d8 : DefOk K mg kw "_law_bars" F_law_bars (topS 18) ["_law_one", "_law_other", "_law_by"] _ _ := ⟨PySem.W.mg_of X G a8, b8, v8, fun ks hk => absurd hk (no_kw (by decide +kernel))⟩
  have u9 := fun_mk (st := (topS 20)) l9 c9 k9
  have b9 : BodyOk K "_law_right" "_law_right" F_law_right (topS 20) ["_law_some_here", "_law_kept", "_law_told"] _ _ := ⟨u9, scF_law_right, ckF_law_right, rfl, rfl⟩
  have v9 : Binds K _ F_law_right.ps [] := u9.binds (ps := ["_law_some_here"]) fun _ _ _ _ _ _ us hl => match us, hl with | [_], _ => rfl
  have d9 : DefOk K mg kw "_law_right" F_law_right (topS 20) ["_law_some_here", "_law_kept", "_law_told"] _ _ := ⟨PySem.W.mg_of X G a9, b9, v9, fun ks hk => absurd hk (no_kw (by decide +kernel))⟩
  have u10 := fun_mk (st := (topS 13)) l10 c10 k10
  have b10 : BodyOk K "_law_cell" "_law_cell" F_law_cell (topS 13) ["_law_script", "_law_k"] _ _ := ⟨u10, scF_law_cell, ckF_law_cell, rfl, rfl⟩
  have v10 : Binds K _ F_law_cell.ps [] := u10.binds (ps := ["_law_script", "_law_k"]) fun _ _ _ _ _ _ us hl => match us, hl with | [_, _], _ => rfl
  have d10 : DefOk K mg kw "_law_cell" F_law_cell (topS 13) ["_law_script", "_law_k"] _ _ := ⟨PySem.W.mg_of X G a10, b10, v10, fun ks hk => absurd hk (no_kw (by decide +kernel))⟩
  have u11 := fun_mk (st := (topS 15)) l11 c11 k11
  have b11 : BodyOk K "_law_draw" "_law_draw" F_law_draw (topS 15) ["_law_pen_here", "_law_many", "_law_mixed", "_law_found"] _ _ := ⟨u11, scF_law_draw, ckF_law_draw, rfl, rfl⟩
  have v11 : Binds K _ F_law_draw.ps [] := u11.binds (ps := ["_law_pen_here", "_law_many"]) fun _ _ _ _ _ _ us hl => match us, hl with | [_, _], _ => rfl
  have d11 : DefOk K mg kw "_law_draw" F_law_draw (topS 15) ["_law_pen_here", "_law_many", "_law_mixed", "_law_found"] _ _ := ⟨PySem.W.mg_of X G a11, b11, v11, fun ks hk => absurd hk (no_kw (by decide +kernel))⟩
  have u12 := fun_mk (st := (topS 21)) l12 c12 k12
  have b12 : BodyOk K "_law_some" "_law_some" F_law_some (topS 21) ["_law_pen_here", "_law_upto", "_law_found", "_law_by"] _ _ := ⟨u12, scF_law_some, ckF_law_some, rfl, rfl⟩
  have v12 : Binds K _ F_law_some.ps [] := u12.binds (ps := ["_law_pen_here", "_law_upto"]) fun _ _ _ _ _ _ us hl => match us, hl with | [_, _], _ => rfl
  have d12 : DefOk K mg kw "_law_some" F_law_some (topS 21) ["_law_pen_here", "_law_upto", "_law_found", "_law_by"] _ _ := ⟨PySem.W.mg_of X G a12, b12, v12, fun ks hk => absurd hk (no_kw (by decide +kernel))⟩
  have u13 := fun_mk (st := (topS 22)) l13 c13 k13
  have b13 : BodyOk K "law" "law" F_law (topS 22) ["_law_script", "_law_by", "_law_k", "_law_pen_here", "_law_turn", "_law_some_here"] _ _ := ⟨u13, scF_law, ckF_law, rfl, rfl⟩
  have v13 : Binds K _ F_law.ps [] := u13.binds (ps := ["_law_script"]) fun _ _ _ _ _ _ us hl => match us, hl with | [_], _ => rfl
  have d13 : DefOk K mg kw "law" F_law (topS 22) ["_law_script", "_law_by", "_law_k", "_law_pen_here", "_law_turn", "_law_some_here"] _ _ := ⟨PySem.W.mg_of X G a13, b13, v13, fun ks hk => absurd hk (no_kw (by decide +kernel))⟩
  refine ⟨fun i =>  0, of_mems ?_, of_bis ?_, fun x d hx => ?_, fun c ci hc => ?_⟩
  · exact .cons ⟨_, _, _, _, d0⟩ (.cons ⟨_, _, _, _, d1⟩ (.cons ⟨_, _, _, _, d2⟩ (.cons ⟨_, _, _, _, d3⟩ (.cons ⟨_, _, _, _, d4⟩ (.cons ⟨_, _, _, _, d5⟩ (.cons ⟨_, _, _, _, d6⟩ (.cons ⟨_, _, _, _, d7⟩ (.cons ⟨_, _, _, _, d8⟩ (.cons ⟨_, _, _, _, d9⟩ (.cons ⟨_, _, _, _, d10⟩ (.cons ⟨_, _, _, _, d11⟩ (.cons ⟨_, _, _, _, d12⟩ (.cons ⟨_, _, _, _, d13⟩ (.nil))))))))))))))
  · exact .cons (PySem.W.mg_none_of X G z0) (.cons (PySem.W.mg_none_of X G z1) (.cons (PySem.W.mg_none_of X G z2) (.cons (PySem.W.mg_none_of X G z3) (.cons (PySem.W.mg_none_of X G z4) (.cons (PySem.W.mg_none_of X G z5) (.cons (PySem.W.mg_none_of X G z6) (.cons (PySem.W.mg_none_of X G z7) (.cons (PySem.W.mg_none_of X G z8) (.cons (PySem.W.mg_none_of X G z9) (.cons (PySem.W.mg_none_of X G z10) (.cons (PySem.W.mg_none_of X G z11) (.cons (PySem.W.mg_none_of X G z12) (.cons (PySem.W.mg_none_of X G z13) (.cons (PySem.W.mg_none_of X G z14) (.cons (PySem.W.mg_none_of X G z15) (.cons (PySem.W.mg_none_of X G z16) (.cons (PySem.W.mg_none_of X G z17) (.cons (PySem.W.mg_none_of X G z18) (.nil)))))))))))))))))))
  · unfold PP gl at hx
    simp only at hx
    split at hx
    · rename_i hq; subst hq; cases hx; exact ⟨_, .int _, PySem.W.mg_of X G g0, ⟨_, rfl⟩, fun F => by unfold Rp; rfl⟩
    split at hx
    · rename_i hq; subst hq; cases hx; exact ⟨_, .int _, PySem.W.mg_of X G g1, ⟨_, rfl⟩, fun F => by unfold Rp; rfl⟩
    split at hx
    · rename_i hq; subst hq; cases hx; exact ⟨_, .int _, PySem.W.mg_of X G g2, ⟨_, rfl⟩, fun F => by unfold Rp; rfl⟩
    · cases hx
  · unfold PP cl at hc
    simp only at hc
    cases hc
end K73

namespace MI
open PySem L2
/-- a def of the program, its parameters' names aside -/
def Hs (P : Prg) (f : Str) (F : Fn) : Prop := ∃ ps, P.fns.lookup f = some { F with ps := ps }
theorem Hs.eq {P : Prg} {f : Str} {F : Fn} (h : Hs P f F) {n : Nat} (hn : 1 ≤ n) (as : List AV) : P.calls n f as = runFn (P.ctx (n - 1)) P.w F as := by
  obtain ⟨ps, h⟩ := h
  obtain ⟨m, rfl⟩ : ∃ m, n = m + 1 := ⟨n - 1, by omega⟩
  rw [calls_eq (F := { F with ps := ps }) (by unfold Prg.find; rw [h])]
  rfl
theorem Hs.md {P : Prg} {f : Str} {F : Fn} (h : Hs P f F) : P.modes f = some F.ms := by
  obtain ⟨ps, h⟩ := h
  unfold Prg.modes
  rw [h]
  rfl
/-- a method -/
def Hm (P : Prg) (f : Str) (F : Fn) : Prop := ∃ ps, P.find f = some { F with ps := ps }
theorem Hm.eq {P : Prg} {f : Str} {F : Fn} (h : Hm P f F) {n : Nat} (hn : 1 ≤ n) (as : List AV) : P.calls n f as = runFn (P.ctx (n - 1)) P.w F as := by
  obtain ⟨ps, h⟩ := h
  obtain ⟨m, rfl⟩ : ∃ m, n = m + 1 := ⟨n - 1, by omega⟩
  rw [calls_eq h]
  rfl
/-! ### more about loops -/
/-- a for whose turns keep a relation, or end the def -/
theorem for_any {C : Ctx} {w : Nat} {t : T} {it : I} {body : List S} {env e1 : Env} {ds : List D} {J : Nat → Env → Prop} {Z : RD → Env → Prop} (h : evI C it env = some (ds, e1)) (h0 : J 0 e1)
    (hs : ∀ i d e, ds[i]? = some d → J i e → ∃ e2, bindT t d e = some e2 ∧ ((∃ e', (exSs C w body e2 = some (.nx e') ∨ exSs C w body e2 = some (.ct e')) ∧ J (i + 1) e') ∨ ∃ r e', exSs C w body e2 = some (.rt r e') ∧ Z r e')) :
    (∃ e', exS C w (.for_ t it body) env = some (.nx e') ∧ J ds.length e') ∨ ∃ r e', exS C w (.for_ t it body) env = some (.rt r e') ∧ Z r e' := by
  have go : ∀ (r : List D) (k : Nat) (e : Env), (∀ i, r[i]? = ds[k + i]?) → J k e → (∃ e', forGo (fun d e => (bindT t d e).bind (exSs C w body)) r e = some (.nx e') ∧ J (k + r.length) e') ∨ ∃ v e', forGo (fun d e => (bindT t d e).bind (exSs C w body)) r e = some (.rt v e') ∧ Z v e' := by
    intro r
    induction r with
    | nil => intro k e _ hj; exact .inl ⟨e, rfl, hj⟩
    | cons d r ih =>
      intro k e hr hj
      obtain ⟨e2, hb, hc⟩ := hs k d e (by rw [← Nat.add_zero k, ← hr 0]; rfl) hj
      rcases hc with ⟨e', hx, hj'⟩ | ⟨v, e', hx, hz⟩
      · have := ih (k + 1) e' (fun i => by rw [show k + 1 + i = k + (i + 1) by omega, ← hr (i + 1)]; rfl) hj'
        rw [List.length_cons, show k + (r.length + 1) = k + 1 + r.length by omega]
        unfold forGo
        simp only [hb, Option.bind_some]
        rcases hx with hx | hx <;> (rw [hx]; exact this)
      · refine .inr ⟨v, e', ?_, hz⟩
        unfold forGo
        simp only [hb, Option.bind_some, hx]
  have := go ds 0 e1 (fun i => by rw [Nat.zero_add]) h0
  rw [Nat.zero_add] at this
  rw [exS, h, Option.bind_some]
  exact this
/-- a for as a fold -/
theorem for_fold {α : Type} {C : Ctx} {w : Nat} {t : T} {it : I} {body : List S} {env e1 : Env} {ds : List D} {R : α → Env → Prop} {g : α → D → α} {a0 : α} (h : evI C it env = some (ds, e1)) (h0 : R a0 e1)
    (hs : ∀ d ∈ ds, ∀ a e, R a e → ∃ e2 e', bindT t d e = some e2 ∧ (exSs C w body e2 = some (.nx e') ∨ exSs C w body e2 = some (.ct e')) ∧ R (g a d) e') :
    ∃ e', exS C w (.for_ t it body) env = some (.nx e') ∧ R (ds.foldl g a0) e' := by
  have go : ∀ (r : List D) (a : α) (e : Env), (∀ d ∈ r, d ∈ ds) → R a e → ∃ e', forGo (fun d e => (bindT t d e).bind (exSs C w body)) r e = some (.nx e') ∧ R (r.foldl g a) e' := by
    intro r
    induction r with
    | nil => intro a e _ hj; exact ⟨e, rfl, hj⟩
    | cons d r ih =>
      intro a e hr hj
      obtain ⟨e2, e', hb, hx, hj'⟩ := hs d (hr d List.mem_cons_self) a e hj
      have := ih (g a d) e' (fun x hx => hr x (List.mem_cons_of_mem _ hx)) hj'
      unfold forGo
      simp only [hb, Option.bind_some]
      rcases hx with hx | hx <;> (rw [hx]; exact this)
  have := go ds a0 e1 (fun _ h => h) h0
  rw [exS, h, Option.bind_some]
  exact this
theorem lcGo_fm {f : D → Env → Option (Option D × Env)} {p : D → Bool} {g : D → D} {e : Env} : ∀ {ds : List D}, (∀ d ∈ ds, f d e = some (if p d then some (g d) else none, e)) → lcGo f ds e = some ((ds.filter p).map g, e)
  | [], _ => rfl
  | d :: r, h => by
    unfold lcGo
    rw [h d List.mem_cons_self, Option.bind_some, lcGo_fm fun x hx => h x (List.mem_cons_of_mem _ hx)]
    cases hp : p d <;> simp [hp, List.filter_cons]
/-- a comprehension with a test, each element a function of the item -/
theorem lc_fm {C : Ctx} {own : List Nat} {elt : E} {t : T} {it : I} {cnd : E} {env e1 : Env} {ds : List D} {p : D → Bool} {f : D → D} (h : evI C it env = some (ds, e1)) (hw : wipeable e1 own = true) (hz : ds.length ≤ 2 ^ 24)
    (hs : ∀ d ∈ ds, ∃ e2, bindT t d (wipeE e1 own) = some e2 ∧ testOf cnd (evR C cnd) e2 = some (p d, e2) ∧ (p d = true → ∃ rd, evR C elt e2 = some (rd, e2) ∧ rd.d = f d) ∧ wipeable e2 own = true ∧ wipeE e2 own = wipeE e1 own) :
    evR C (.lc own elt t it cnd) env = some (.new (.lst ((ds.filter p).map f)), restoreE e1 (wipeE e1 own) own) := by
  have hz : szOk ds.length = true := by
    unfold szOk
    rw [lk_eq, decide_eq_true_eq, sizeLine_eq]
    exact Nat.le_trans hz (by decide)
  have h1 := lcGo_fm (f := fun d e => (bindT t d e).bind fun e1 => (testOf cnd (evR C cnd) e1).bind fun b =>
          if b.1 then (frz (evR C elt) b.2).bind fun y => wiped own (some y.1) y.2 else wiped own none b.2) (p := p) (g := f) (e := wipeE e1 own) (ds := ds) (fun d hd => by
    obtain ⟨e2, a, b, c, d', q⟩ := hs d hd
    cases hp : p d with
    | false => simp only [a, Option.bind_some, b, hp, wiped, d', q, if_true, Bool.false_eq_true, if_false]
    | true =>
      obtain ⟨rd, c1, c2⟩ := c hp
      simp only [a, Option.bind_some, b, hp, wiped, d', q, if_true, frz, c1, Option.map_some, c2])
  rw [evR, h, Option.bind_some]
  simp only [hw, hz, Bool.and_self, if_true, h1, Option.map_some]
/-! ### ints of a tuple, nothing beside it -/
def aw (a : List Int) (t : Int) : Int := if t < 0 then -1 else a.getD t.toNat (-1)
theorem aw_nat (a : List Int) (t : Nat) : aw a t = a.getD t (-1) := by
  unfold aw
  rw [if_neg (by omega), Int.toNat_natCast]
theorem aw_0 (a : List Int) : aw a 0 = a.getD 0 (-1) := aw_nat a 0
theorem aw_out {a : List Int} {t : Int} (h : t < 0 ∨ (a.length : Int) ≤ t) : aw a t = -1 := by
  unfold aw
  by_cases h0 : t < 0
  · rw [if_pos h0]
  · rw [if_neg h0, List.getD_eq_getElem?_getD, List.getElem?_eq_none (by omega)]; rfl
theorem aw_in {a : List Int} {t : Int} (h : aw a t ≠ -1) : 0 ≤ t ∧ t < a.length := by
  by_cases h0 : t < 0 ∨ (a.length : Int) ≤ t
  · exact absurd (aw_out h0) h
  · omega
theorem atI_map {α β : Type} (f : α → β) (xs : List α) (i : Int) : atI (xs.map f) i = (atI xs i).map f := by
  unfold atI
  rw [List.length_map]
  cases ixN xs.length i with
  | none => rfl
  | some j => simp
theorem atI_aw {a : List Int} {t : Int} (h0 : 0 ≤ t) (h1 : t < a.length) : atI (a.map D.int) t = some (.int (aw a t)) := by
  rw [atI_map]
  unfold atI ixN aw
  rw [if_pos h0, if_pos h1, if_neg (by omega), Option.bind_some]
  rw [List.getElem?_eq_getElem (by omega), List.getD_eq_getElem?_getD, List.getElem?_eq_getElem (by omega)]
  rfl
theorem atI_awl {a : List Int} (h1 : 0 < a.length) : atI (a.map D.int) (-1) = some (.int (aw a (a.length - 1))) := by
  rw [atI_map]
  unfold atI ixN aw
  rw [if_neg (by omega), if_pos (by omega), if_neg (by omega), Option.bind_some]
  rw [show (-1 + (a.length : Int)).toNat = a.length - 1 by omega, show ((a.length : Int) - 1).toNat = a.length - 1 by omega, List.getElem?_eq_getElem (by omega), List.getD_eq_getElem?_getD, List.getElem?_eq_getElem (by omega)]
  rfl
theorem rgD_mem {a b : Int} {d : D} (h : d ∈ rgD a b) : ∃ i : Int, d = .int i ∧ a ≤ i ∧ i < b := by
  unfold rgD at h
  obtain ⟨i, hi, rfl⟩ := List.mem_map.mp h
  exact ⟨_, rfl, by omega, by have := List.mem_range.mp hi; omega⟩
theorem mem_rgD {a b i : Int} (h0 : a ≤ i) (h1 : i < b) : D.int i ∈ rgD a b := by
  unfold rgD
  refine List.mem_map.mpr ⟨(i - a).toNat, List.mem_range.mpr (by omega), ?_⟩
  congr 1
  omega
/-- range(a, b) as ints -/
def rgI (a b : Int) : List Int := (List.range (b - a).toNat).map fun i => a + (i : Nat)
theorem rgD_eq (a b : Int) : rgD a b = (rgI a b).map .int := by
  unfold rgD rgI
  rw [List.map_map]
  rfl
theorem rgI_mem {a b i : Int} : i ∈ rgI a b ↔ a ≤ i ∧ i < b := by
  unfold rgI
  constructor
  · intro h
    obtain ⟨k, hk, rfl⟩ := List.mem_map.mp h
    have := List.mem_range.mp hk
    omega
  · intro h
    exact List.mem_map.mpr ⟨(i - a).toNat, List.mem_range.mpr (by omega), by omega⟩
theorem rgI_len (a b : Int) : (rgI a b).length = (b - a).toNat := by
  unfold rgI
  rw [List.length_map, List.length_range]
theorem rgD_length (a b : Int) : (rgD a b).length = (b - a).toNat := by rw [rgD_eq, List.length_map, rgI_len]
theorem rng_ab {a b : Int} (h : -100000 < a) (h1 : a < 100000) (h2 : -100000 < b) (h3 : b < 100000) : rngD [.int a, .int b] = some (rgD a b) := by
  have : rgOk a b = true := by
    unfold rgOk
    rw [lk_eq]
    simp
    omega
  show (if rgOk a b then some (rgD a b) else none) = _
  rw [this]
  rfl
theorem filter_map_int {p : D → Bool} {q : Int → Bool} {xs : List Int} (h : ∀ i ∈ xs, p (.int i) = q i) : (xs.map D.int).filter p = (xs.filter q).map .int := by
  rw [List.filter_map]
  congr 1
  exact List.filter_congr fun i hi => h i hi
theorem insC_ins (C : Addr) (ns : List Str) (vs : List D) : insC (.ins C ns vs) = some C := rfl
theorem ret_of {C : Ctx} {w : Nat} {e : E} {env e' : Env} {r : RD} (h : evR C e env = some (r, e')) (hv : ∀ i, e ≠ .var i) : exS C w (.ret e) env = some (.rt r e') := by
  rw [exS, h]
  · rfl
  · exact hv
theorem asg_of {C : Ctx} {w : Nat} {e : E} {i : Nat} {env e' : Env} {r : RD} (h : evR C e env = some (r, e')) (hi : i < e'.length) : exS C w (.asg i e) env = some (.nx (e'.set i (slOf r))) := by
  rw [exS, h, Option.bind_some, if_pos hi]
theorem ixN_0 {n : Nat} (h : 0 < n) : ixN n 0 = some 0 := by
  unfold ixN
  rw [if_pos (by omega), if_pos (by omega)]
  rfl
theorem ixN_m1 {n : Nat} (h : 0 < n) : ixN n (-1) = some (n - 1) := by
  obtain ⟨m, rfl⟩ : ∃ m, n = m + 1 := ⟨n - 1, by omega⟩
  exact ixN_last m
theorem ltS {n : Nat} (h : n < 1000000) : n < sizeLine := by rw [sizeLine_eq]; omega
theorem leS {n : Nat} (h : n < 1000000) : n ≤ sizeLine := by rw [sizeLine_eq]; omega
theorem getD_set {α : Type} {l : List α} {i j : Nat} {v d : α} (h : i < l.length) : (l.set i v).getD j d = if i = j then v else l.getD j d := by
  rw [List.getD_eq_getElem?_getD, List.getElem?_set, List.getD_eq_getElem?_getD]
  by_cases e : i = j
  · subst e
    simp [h]
  · simp [e]
theorem getD_snoc {α : Type} {l : List α} {j : Nat} {v d : α} : (l ++ [v]).getD j d = if j < l.length then l.getD j d else if j = l.length then v else d := by
  rw [List.getD_eq_getElem?_getD, List.getElem?_append, List.getD_eq_getElem?_getD]
  by_cases e : j < l.length
  · simp [e]
  · by_cases e2 : j = l.length
    · subst e2; simp
    · rw [if_neg e, if_neg e, if_neg e2, List.getElem?_eq_none (by simp; omega)]
      rfl
theorem gd_mem {α : Type} {l : List α} {j : Nat} {d : α} (h : j < l.length) : l.getD j d ∈ l := by
  rw [List.getD_eq_getElem?_getD, List.getElem?_eq_getElem h]
  exact List.getElem_mem h
theorem mem_gd {α : Type} {l : List α} {x d : α} (h : x ∈ l) : ∃ j, j < l.length ∧ l.getD j d = x := by
  obtain ⟨j, hj, e⟩ := List.getElem_of_mem h
  exact ⟨j, hj, by rw [List.getD_eq_getElem?_getD, List.getElem?_eq_getElem hj]; exact e⟩
theorem aw_mem {a : List Int} {t : Int} (h : aw a t ≠ -1) : aw a t ∈ a := by
  have := aw_in h
  unfold aw at h ⊢
  rw [if_neg (by omega)] at h ⊢
  exact gd_mem (by omega)
end MI
namespace SG
open MI L2 PySem
def F_law_draw : Fn := ⟨[true, false], ["_law_pen_here", "_law_many"], 4, [.ifs (.cmp .Gt (.sub (.var 0) (.cst (.int 0))) (.cst (.int 0))) [.asg 3 (.bin .Mod (.sub (.var 0) (.cst (.int 0))) (.var 1)), .setI 0 (.cst (.int 0)) (.bin .FloorDiv (.sub (.var 0) (.cst (.int 0))) (.var 1)), .ret (.var 3)] [], .setI 0 (.cst (.int 2)) (.bin .Add (.sub (.var 0) (.cst (.int 2))) (.cst (.int 1))), .setI 0 (.cst (.int 1)) (.bin .Mod (.bin .Add (.bin .Add (.bin .Mult (.sub (.var 0) (.cst (.int 1))) (.cst (.int 48271))) (.bin .Mult (.cst (.int 1009)) (.sub (.var 0) (.cst (.int 2))))) (.cst (.int 7))) (.cst (.int 2147483647))), .asg 2 (.bin .Mod (.bin .Add (.bin .Add (.bin .Mult (.sub (.var 0) (.cst (.int 1))) (.sub (.var 0) (.cst (.int 1)))) (.bin .Mult (.cst (.int 69621)) (.sub (.var 0) (.cst (.int 1))))) (.cst (.int 11))) (.cst (.int 2147483629))), .asg 2 (.bin .Mod (.bin .Add (.bin .Mult (.var 2) (.var 2)) (.bin .Mult (.cst (.int 40014)) (.var 2))) (.cst (.int 2147483587))), .ret (.bin .Mod (.bin .FloorDiv (.var 2) (.cst (.int 16))) (.var 1))]⟩
def F_law_pick : Fn := ⟨[true, false], ["_law_pen_here", "_law_some"], 2, [.ret (.sub (.var 1) (.call "_law_draw" [(.var 0), (.bi .len [(.var 1)])]))]⟩
def F_law_pen : Fn := ⟨[false], ["_law_cell"], 1, [.ret (.lst [(.bi .max [(.cst (.int 0)), (.bin .Sub (.var 0) (.bin .Pow (.cst (.int 10)) (.cst (.int 18))))]), (.bin .Add (.bin .Mod (.var 0) (.cst (.int 2147483629))) (.cst (.int 1))), (.cst (.int 0))])]⟩
def F_law_cell_at : Fn := ⟨[false, false], ["_law_script", "_law_k"], 2, [.ifs (.cmp .Lt (.var 1) (.bi .len [(.var 0)])) [.ret (.sub (.var 0) (.var 1))] [], .ret (.cst (.int 0))]⟩
def F_law_cellA : Fn := ⟨[false, false], ["_law_script", "_law_k"], 2, [.ret (.ite (.cmp .Lt (.var 1) (.bi .len [(.var 0)])) (.sub (.var 0) (.var 1)) (.cst (.int 0)))]⟩
def F_law_cellB : Fn := ⟨[false, false], ["_law_script", "_law_k"], 2, [.ifs (.cmp .Lt (.var 1) (.bi .len [(.var 0)])) [.ret (.sub (.var 0) (.var 1))] [], .ret (.cst (.int 0))]⟩
def F_law_same : Fn := ⟨[false, false], ["_law_found", "_law_due"], 2, [.ret (.cmp .Eq (.bi .repr [(.var 0)]) (.bi .repr [(.var 1)]))]⟩
def F_is_between : Fn := ⟨[false, false, false], ["thing", "low", "high"], 3, [.ret (.boo true [(.isi (.var 0) .int), (.nt (.isi (.var 0) .bool)), (.chain .LtE .LtE (.var 1) (.var 0) (.var 2))])]⟩
def C_is_work_1 : MI.E := .lc [1] (.call "is_between" [(.var 1), (.glo "NOWHERE"), (.glo "LAST_STATION")]) (.nm 1) (.seq (.var 0)) (.cst (.bl true))
theorem tp_C_is_work_1 (r : MI.Env → Option (RD × MI.Env)) (env : MI.Env) : toP C_is_work_1 r env = (r env).map fun x => (.d x.1.d, x.2) := rfl
def F_is_work : Fn := ⟨[false], ["thing"], 2, [.ifs (.boo false [(.nt (.isi (.var 0) .tuple)), (.nt (.chain .LtE .LtE (.cst (.int 1)) (.bi .len [(.var 0)]) (.glo "MOST_TICKS")))]) [.ret (.cst (.bl false))] [], .ifs (.nt (.bi .all [C_is_work_1])) [.ret (.cst (.bl false))] [], .ret (.boo true [(.cmp .NotEq (.sub (.var 0) (.cst (.int 0))) (.glo "NOWHERE")), (.cmp .NotEq (.sub (.var 0) (.neg (.cst (.int 1)))) (.glo "NOWHERE"))])]⟩
def F_need_work : Fn := ⟨[false], ["thing"], 1, [.ifs (.nt (.call "is_work" [(.var 0)])) [.stop] []]⟩
def S_meets_1 : MI.S := .for_ (.nm 4) (.rng [(.bi .max [(.cst (.int 0)), (.var 2)]), (.bi .min [(.bi .len [(.var 0)]), (.bin .Add (.var 2) (.bi .len [(.var 1)]))])]) [.ifs (.boo true [(.cmp .NotEq (.sub (.var 0) (.var 4)) (.glo "NOWHERE")), (.cmp .Eq (.sub (.var 0) (.var 4)) (.sub (.var 1) (.bin .Sub (.var 4) (.var 2))))]) [.app 3 (.tup [(.var 4), (.sub (.var 0) (.var 4))])] []]
def F_meets : Fn := ⟨[false, false, false], ["one", "other", "distance"], 5, [.asg 3 (.lst []), S_meets_1, .ret (.var 3)]⟩
def C_bars_of_1 : MI.E := .lc [2] (.var 2) (.nm 2) (.rng [(.cst (.int 1)), (.bi .len [(.var 0)])]) (.cmp .NotEq (.call "meets" [(.var 0), (.var 1), (.var 2)]) (.lst []))
theorem tp_C_bars_of_1 (r : MI.Env → Option (RD × MI.Env)) (env : MI.Env) : toP C_bars_of_1 r env = (r env).map fun x => (.d x.1.d, x.2) := rfl
def F_bars_of : Fn := ⟨[false, false], ["one", "other"], 3, [.ret (.bi .tuple [C_bars_of_1])]⟩
def C_law_names20_1 : MI.E := .lc [3] (.bin .Mod (.bin .Add (.var 1) (.bin .Mult (.var 2) (.var 3))) (.cst (.int 10))) (.nm 3) (.rng [(.cst (.int 10))]) (.cst (.bl true))
theorem tp_C_law_names20_1 (r : MI.Env → Option (RD × MI.Env)) (env : MI.Env) : toP C_law_names20_1 r env = (r env).map fun x => (.d x.1.d, x.2) := rfl
def F_law_names20 : Fn := ⟨[true], ["_law_pen_here"], 4, [.par [1, 2] [(.call "_law_draw" [(.var 0), (.cst (.int 10))]), (.call "_law_pick" [(.var 0), (.lst [(.cst (.int 1)), (.cst (.int 3)), (.cst (.int 7)), (.cst (.int 9))])])], .ret C_law_names20_1]⟩
def S_law_work20_1 : MI.S := .for_ (.nm 5) (.rng [(.bin .Add (.cst (.int 1)) (.call "_law_draw" [(.var 0), (.bin .Mult (.var 3) (.bin .Add (.var 2) (.cst (.int 1))))]))]) [.asg 8 (.sub (.var 1) (.bin .Add (.bin .Mult (.cst (.int 3)) (.bin .FloorDiv (.var 5) (.bin .Add (.var 2) (.cst (.int 1))))) (.call "_law_draw" [(.var 0), (.var 6)]))), .app 4 (.ite (.cmp .Eq (.call "_law_draw" [(.var 0), (.var 7)]) (.cst (.int 0))) (.var 8) (.neg (.cst (.int 1))))]
def F_law_work20 : Fn := ⟨[true, false, false, false], ["_law_pen_here", "_law_names_here", "_law_far", "_law_blocks"], 9, [.par [6, 7] [(.bin .Add (.cst (.int 1)) (.call "_law_draw" [(.var 0), (.cst (.int 3))])), (.call "_law_pick" [(.var 0), (.lst [(.cst (.int 1)), (.cst (.int 1)), (.cst (.int 2)), (.cst (.int 4))])])], .asg 4 (.lst []), S_law_work20_1, .ifs (.cmp .Eq (.sub (.var 4) (.cst (.int 0))) (.neg (.cst (.int 1)))) [.setI 4 (.cst (.int 0)) (.sub (.var 1) (.cst (.int 0)))] [], .ifs (.cmp .Eq (.sub (.var 4) (.neg (.cst (.int 1)))) (.neg (.cst (.int 1)))) [.setI 4 (.neg (.cst (.int 1))) (.sub (.var 1) (.bin .Mult (.cst (.int 3)) (.bin .FloorDiv (.bin .Sub (.bi .len [(.var 4)]) (.cst (.int 1))) (.bin .Add (.var 2) (.cst (.int 1))))))] [], .ret (.bi .tuple [(.var 4)])]⟩
def S_law_long20_1 : MI.S := .for_ (.nm 8) (.rng [(.bin .Add (.cst (.int 1)) (.call "_law_draw" [(.var 0), (.var 1)]))]) [.asg 10 (.bin .Mod (.bin .Add (.var 2) (.call "_law_draw" [(.var 0), (.var 5)])) (.cst (.int 10))), .app 7 (.ite (.cmp .Eq (.call "_law_draw" [(.var 0), (.var 6)]) (.cst (.int 0))) (.var 10) (.neg (.cst (.int 1))))]
def S_law_long20_2 : MI.S := .for_ (.nm 9) (.seq (.tup [(.cst (.int 0)), (.neg (.cst (.int 1)))])) [.ifs (.cmp .Eq (.sub (.var 7) (.var 9)) (.neg (.cst (.int 1)))) [.setI 7 (.var 9) (.var 2)] []]
def S_law_long20_3 : MI.S := .for_ (.nm 3) (.rng [(.call "_law_pick" [(.var 0), (.lst [(.cst (.int 1)), (.cst (.int 2)), (.cst (.int 3))])])]) [.asg 6 (.call "_law_pick" [(.var 0), (.lst [(.cst (.int 1)), (.cst (.int 2)), (.cst (.int 5))])]), .asg 7 (.lst []), S_law_long20_1, S_law_long20_2, .app 4 (.bi .tuple [(.var 7)])]
def F_law_long20 : Fn := ⟨[true, false], ["_law_pen_here", "_law_most"], 11, [.par [4, 5] [(.lst []), (.call "_law_pick" [(.var 0), (.lst [(.cst (.int 1)), (.cst (.int 2)), (.cst (.int 4)), (.cst (.int 10))])])], .asg 2 (.call "_law_draw" [(.var 0), (.cst (.int 10))]), S_law_long20_3, .ret (.bi .tuple [(.var 4)])]⟩

end SG

namespace SG
open MI L2 PySem
/-- a pen -/
def isPen (d : D) : Prop := ∃ a b c : Int, d = .lst [.int a, .int b, .int c] ∧ 0 ≤ b ∧ b < 2147483648
def pb (b c : Int) : Int := (b * 48271 + 1009 * (c + 1) + 7) % 2147483647
def pu (s : Int) : Int := (s * s + 69621 * s + 11) % 2147483629
def pt (t : Int) : Int := (t * t + 40014 * t) % 2147483587
variable {P : Prg}
theorem draw_runs (h : Hs P "_law_draw" F_law_draw) {n : Nat} (hn : 1 ≤ n) {xs : D} (hp : isPen xs) {m : Int} (h0 : 0 < m) (h1 : m < 1073741824) : ∃ r xs', P.calls n "_law_draw" [.b xs, .d (.int m)] = some (.old (.int r), [xs']) ∧ isPen xs' ∧ 0 ≤ r ∧ r < m := by
  obtain ⟨a, b, c, rfl, hb0, hb1⟩ := hp
  rw [h.eq hn]
  by_cases ha : 0 < a
  · refine ⟨a % m, .lst [.int (a / m), .int b, .int c], ?_, ⟨_, _, _, rfl, hb0, hb1⟩, Int.emod_nonneg _ (by omega), Int.emod_lt_of_pos _ h0⟩
    simp [F_law_draw, runFn, modesOf, argSl, exSs, exS, testOf, toP, evR, evS, evD, evPs, evA, evI, evB, evG, frz, getP, isSet, slotD, itemD, atI, ixN, cmpD, truth, arith, biD, isiD, RD.d, slOf, mutAt, isMut, isL, setAt, appAt, outsOf, argV, sRefs, putBack, reslot, bindT, bindTs, partOf, MI.isNon, sliceD, itemsD, itemsT, isT, setIs, evRs, augD, popOf, wipeable, wipeE, restoreE, wiped, ctx_call, ctx_modes, ctx_glob, ctx_names, ctx_cls, ctx_kws, szOk, lk_eq, mtD, mtK, insC_ins, MI.isObj, isDic, dicAt, dputAt, storeD, lookD, keyD, keysD, insAt, fldAt, fldD, MI.putF, pickK, revD, ha, h0, h1]
  · have m1 : ∀ j, mulOk b j = true := fun j => mulOk_l hb0 hb1
    have m2 : ∀ j, mulOk 1009 j = true := fun j => mulOk_l (by decide) (by decide)
    have m3 : ∀ j, mulOk 69621 j = true := fun j => mulOk_l (by decide) (by decide)
    have m4 : ∀ j, mulOk 40014 j = true := fun j => mulOk_l (by decide) (by decide)
    refine ⟨pt (pu (pb b c)) / 16 % m, .lst [.int a, .int (pb b c), .int (c + 1)], ?_, ⟨a, pb b c, c + 1, rfl, Int.emod_nonneg _ (by decide), Int.lt_trans (Int.emod_lt_of_pos _ (by decide)) (by decide)⟩, Int.emod_nonneg _ (Int.ne_of_gt h0), Int.emod_lt_of_pos _ h0⟩
    simp [F_law_draw, runFn, modesOf, argSl, exSs, exS, testOf, toP, evR, evS, evD, evPs, evA, evI, evB, evG, frz, getP, isSet, slotD, itemD, atI, ixN, cmpD, truth, arith, biD, isiD, RD.d, slOf, mutAt, isMut, isL, setAt, appAt, outsOf, argV, sRefs, putBack, reslot, bindT, bindTs, partOf, MI.isNon, sliceD, itemsD, itemsT, isT, setIs, evRs, augD, popOf, wipeable, wipeE, restoreE, wiped, ctx_call, ctx_modes, ctx_glob, ctx_names, ctx_cls, ctx_kws, szOk, lk_eq, mtD, mtK, insC_ins, MI.isObj, isDic, dicAt, dputAt, storeD, lookD, keyD, keysD, insAt, fldAt, fldD, MI.putF, pickK, revD, ha, h0, h1, m1, m2, m3, m4, mulOk_m1, mulOk_m2, pb, pu, pt]
theorem pick_runs (hd : Hs P "_law_draw" F_law_draw) (h : Hs P "_law_pick" F_law_pick) {n : Nat} (hn : 2 ≤ n) {xs : D} (hp : isPen xs) {vs : List D} (h0 : vs ≠ []) (h1 : vs.length < 1000) : ∃ d xs', P.calls n "_law_pick" [.b xs, .d (.lst vs)] = some (.old d, [xs']) ∧ isPen xs' ∧ d ∈ vs := by
  have hl : 0 < vs.length := List.length_pos_iff.mpr h0
  obtain ⟨r, xs', e, hp', r0, r1⟩ := draw_runs hd (n := n - 1) (by omega) hp (m := (vs.length : Int)) (by omega) (by omega)
  have hr : r.toNat < vs.length := by omega
  have md := hd.md
  rw [h.eq (by omega)]
  refine ⟨vs[r.toNat], xs', ?_, hp', List.getElem_mem hr⟩
  simp [F_law_pick, F_law_draw, runFn, modesOf, argSl, exSs, exS, testOf, toP, evR, evS, evD, evPs, evA, evI, evB, evG, frz, getP, isSet, slotD, itemD, atI, ixN, cmpD, truth, arith, biD, isiD, RD.d, slOf, mutAt, isMut, isL, setAt, appAt, outsOf, argV, sRefs, putBack, reslot, bindT, bindTs, partOf, MI.isNon, sliceD, itemsD, itemsT, isT, setIs, evRs, augD, popOf, wipeable, wipeE, restoreE, wiped, ctx_call, ctx_modes, ctx_glob, ctx_names, ctx_cls, ctx_kws, szOk, lk_eq, mtD, mtK, insC_ins, MI.isObj, isDic, dicAt, dputAt, storeD, lookD, keyD, keysD, insAt, fldAt, fldD, MI.putF, pickK, revD, md, e, r0, r1, hr]
theorem pen_runs (h : Hs P "_law_pen" F_law_pen) {n : Nat} (hn : 1 ≤ n) (k : Int) : ∃ d, P.calls n "_law_pen" [.d (.int k)] = some (.new d, []) ∧ isPen d := by
  rw [h.eq hn]
  refine ⟨.lst [.int (if 0 < k - 10 ^ 18 then k - 10 ^ 18 else 0), .int (k % 2147483629 + 1), .int 0], ?_, _, _, _, rfl, ?_, ?_⟩
  · have : (3 : Nat) ≤ sizeLine := by rw [sizeLine_eq]; decide
    simp [F_law_pen, runFn, modesOf, argSl, exSs, exS, testOf, toP, evR, evS, evD, evPs, evA, evI, evB, evG, frz, getP, isSet, slotD, itemD, atI, ixN, cmpD, truth, arith, biD, isiD, RD.d, slOf, mutAt, isMut, isL, setAt, appAt, outsOf, argV, sRefs, putBack, reslot, bindT, bindTs, partOf, MI.isNon, sliceD, itemsD, itemsT, isT, setIs, evRs, augD, popOf, wipeable, wipeE, restoreE, wiped, ctx_call, ctx_modes, ctx_glob, ctx_names, ctx_cls, ctx_kws, szOk, lk_eq, mtD, mtK, insC_ins, MI.isObj, isDic, dicAt, dputAt, storeD, lookD, keyD, keysD, insAt, fldAt, fldD, MI.putF, pickK, revD, this]
  · have := Int.emod_nonneg k (show (2147483629 : Int) ≠ 0 by decide)
    omega
  · have := Int.emod_lt_of_pos k (show (0 : Int) < 2147483629 by decide)
    omega
theorem cellB_runs {f : Str} (h : Hs P f F_law_cellB) {n : Nat} (hn : 1 ≤ n) (ns : List Int) (k : Nat) : ∃ c, P.calls n f [.d (.scr ns), .d (.int k)] = some (.old (.int c), []) := by
  rw [h.eq hn]
  by_cases hk : k < ns.length
  · refine ⟨ns[k], ?_⟩
    simp [F_law_cellB, runFn, modesOf, argSl, exSs, exS, testOf, toP, evR, evS, evD, evPs, evA, evI, evB, evG, frz, getP, isSet, slotD, itemD, atI, ixN, cmpD, truth, arith, biD, isiD, RD.d, slOf, mutAt, isMut, isL, setAt, appAt, outsOf, argV, sRefs, putBack, reslot, bindT, bindTs, partOf, MI.isNon, sliceD, itemsD, itemsT, isT, setIs, evRs, augD, popOf, wipeable, wipeE, restoreE, wiped, ctx_call, ctx_modes, ctx_glob, ctx_names, ctx_cls, ctx_kws, szOk, lk_eq, mtD, mtK, insC_ins, MI.isObj, isDic, dicAt, dputAt, storeD, lookD, keyD, keysD, insAt, fldAt, fldD, MI.putF, pickK, revD, hk]
  · refine ⟨0, ?_⟩
    simp [F_law_cellB, runFn, modesOf, argSl, exSs, exS, testOf, toP, evR, evS, evD, evPs, evA, evI, evB, evG, frz, getP, isSet, slotD, itemD, atI, ixN, cmpD, truth, arith, biD, isiD, RD.d, slOf, mutAt, isMut, isL, setAt, appAt, outsOf, argV, sRefs, putBack, reslot, bindT, bindTs, partOf, MI.isNon, sliceD, itemsD, itemsT, isT, setIs, evRs, augD, popOf, wipeable, wipeE, restoreE, wiped, ctx_call, ctx_modes, ctx_glob, ctx_names, ctx_cls, ctx_kws, szOk, lk_eq, mtD, mtK, insC_ins, MI.isObj, isDic, dicAt, dputAt, storeD, lookD, keyD, keysD, insAt, fldAt, fldD, MI.putF, pickK, revD, hk]
theorem cellA_runs {f : Str} (h : Hs P f F_law_cellA) {n : Nat} (hn : 1 ≤ n) (ns : List Int) (k : Nat) : ∃ c, P.calls n f [.d (.scr ns), .d (.int k)] = some (.old (.int c), []) := by
  rw [h.eq hn]
  by_cases hk : k < ns.length
  · refine ⟨ns[k], ?_⟩
    simp [F_law_cellA, runFn, modesOf, argSl, exSs, exS, testOf, toP, evR, evS, evD, evPs, evA, evI, evB, evG, frz, getP, isSet, slotD, itemD, atI, ixN, cmpD, truth, arith, biD, isiD, RD.d, slOf, mutAt, isMut, isL, setAt, appAt, outsOf, argV, sRefs, putBack, reslot, bindT, bindTs, partOf, MI.isNon, sliceD, itemsD, itemsT, isT, setIs, evRs, augD, popOf, wipeable, wipeE, restoreE, wiped, ctx_call, ctx_modes, ctx_glob, ctx_names, ctx_cls, ctx_kws, szOk, lk_eq, mtD, mtK, insC_ins, MI.isObj, isDic, dicAt, dputAt, storeD, lookD, keyD, keysD, insAt, fldAt, fldD, MI.putF, pickK, revD, hk]
  · refine ⟨0, ?_⟩
    simp [F_law_cellA, runFn, modesOf, argSl, exSs, exS, testOf, toP, evR, evS, evD, evPs, evA, evI, evB, evG, frz, getP, isSet, slotD, itemD, atI, ixN, cmpD, truth, arith, biD, isiD, RD.d, slOf, mutAt, isMut, isL, setAt, appAt, outsOf, argV, sRefs, putBack, reslot, bindT, bindTs, partOf, MI.isNon, sliceD, itemsD, itemsT, isT, setIs, evRs, augD, popOf, wipeable, wipeE, restoreE, wiped, ctx_call, ctx_modes, ctx_glob, ctx_names, ctx_cls, ctx_kws, szOk, lk_eq, mtD, mtK, insC_ins, MI.isObj, isDic, dicAt, dputAt, storeD, lookD, keyD, keysD, insAt, fldAt, fldD, MI.putF, pickK, revD, hk]
theorem same_runs (h : Hs P "_law_same" F_law_same) {n : Nat} (hn : 1 ≤ n) {d : D} (h1 : shD 40 d = true) (h2 : lenB d ≤ 2 ^ 24) : P.calls n "_law_same" [.d d, .d d] = some (.old (.bl true), []) := by
  rw [h.eq hn]
  have := repr_small h1 h2
  simp [F_law_same, runFn, modesOf, argSl, exSs, exS, testOf, toP, evR, evS, evD, evPs, evA, evI, evB, evG, frz, getP, isSet, slotD, itemD, atI, ixN, cmpD, truth, arith, biD, isiD, RD.d, slOf, mutAt, isMut, isL, setAt, appAt, outsOf, argV, sRefs, putBack, reslot, bindT, bindTs, partOf, MI.isNon, sliceD, itemsD, itemsT, isT, setIs, evRs, augD, popOf, wipeable, wipeE, restoreE, wiped, ctx_call, ctx_modes, ctx_glob, ctx_names, ctx_cls, ctx_kws, szOk, lk_eq, mtD, mtK, insC_ins, MI.isObj, isDic, dicAt, dputAt, storeD, lookD, keyD, keysD, insAt, fldAt, fldD, MI.putF, pickK, revD, this]
/-! ### works -/
structure Works (P : Prg) : Prop where
  is_between : Hs P "is_between" F_is_between
  is_work : Hs P "is_work" F_is_work
  nowhere : P.glob "NOWHERE" = some (.int (-1))
  last : P.glob "LAST_STATION" = some (.int 9)
  ticks : P.glob "MOST_TICKS" = some (.int 60)
theorem between_runs (h : Hs P "is_between" F_is_between) {n : Nat} (hn : 1 ≤ n) {i a b : Int} : P.calls n "is_between" [.d (.int i), .d (.int a), .d (.int b)] = some (.old (.bl (decide (a ≤ i ∧ i ≤ b))), []) := by
  rw [h.eq hn]
  by_cases h1 : a ≤ i
  · simp [F_is_between, runFn, modesOf, argSl, exSs, exS, testOf, toP, evR, evS, evD, evPs, evA, evI, evB, evG, frz, getP, isSet, slotD, itemD, atI, ixN, cmpD, truth, arith, biD, isiD, RD.d, slOf, mutAt, isMut, isL, setAt, appAt, outsOf, argV, sRefs, putBack, reslot, bindT, bindTs, partOf, MI.isNon, sliceD, itemsD, itemsT, isT, setIs, evRs, augD, popOf, wipeable, wipeE, restoreE, wiped, ctx_call, ctx_modes, ctx_glob, ctx_names, ctx_cls, ctx_kws, szOk, lk_eq, mtD, mtK, insC_ins, MI.isObj, isDic, dicAt, dputAt, storeD, lookD, keyD, keysD, insAt, fldAt, fldD, MI.putF, pickK, revD, h1]
  · simp [F_is_between, runFn, modesOf, argSl, exSs, exS, testOf, toP, evR, evS, evD, evPs, evA, evI, evB, evG, frz, getP, isSet, slotD, itemD, atI, ixN, cmpD, truth, arith, biD, isiD, RD.d, slOf, mutAt, isMut, isL, setAt, appAt, outsOf, argV, sRefs, putBack, reslot, bindT, bindTs, partOf, MI.isNon, sliceD, itemsD, itemsT, isT, setIs, evRs, augD, popOf, wipeable, wipeE, restoreE, wiped, ctx_call, ctx_modes, ctx_glob, ctx_names, ctx_cls, ctx_kws, szOk, lk_eq, mtD, mtK, insC_ins, MI.isObj, isDic, dicAt, dputAt, storeD, lookD, keyD, keysD, insAt, fldAt, fldD, MI.putF, pickK, revD, h1]
/-- a work: its stations tick by tick -/
structure IsWork (a : List Int) : Prop where
  len0 : 1 ≤ a.length
  len1 : a.length ≤ 60
  all : ∀ i ∈ a, -1 ≤ i ∧ i ≤ 9
  first : aw a 0 ≠ -1
  last : aw a (a.length - 1) ≠ -1
def wk (a : List Int) : D := .tup (a.map .int)
theorem isWork_runs (h : Works P) {n : Nat} (hn : 2 ≤ n) {a : List Int} (hw : IsWork a) : P.calls n "is_work" [.d (wk a)] = some (.old (.bl true), []) := by
  rw [h.is_work.eq (by omega)]
  have hl0 := hw.len0
  have hl1 := hw.len1
  have lc := lc_map (C := P.ctx (n - 1)) (own := [1]) (elt := .call "is_between" [(.var 1), (.glo "NOWHERE"), (.glo "LAST_STATION")]) (t := .nm 1) (it := .seq (.var 0)) (env := [.val (wk a), .un]) (e1 := [.val (wk a), .un]) (ds := a.map .int) (f := fun _ => .bl true)
    (by simp [wk, runFn, modesOf, argSl, exSs, exS, testOf, toP, evR, evS, evD, evPs, evA, evI, evB, evG, frz, getP, isSet, slotD, itemD, atI, ixN, cmpD, truth, arith, biD, isiD, RD.d, slOf, mutAt, isMut, isL, setAt, appAt, outsOf, argV, sRefs, putBack, reslot, bindT, bindTs, partOf, MI.isNon, sliceD, itemsD, itemsT, isT, setIs, evRs, augD, popOf, wipeable, wipeE, restoreE, wiped, ctx_call, ctx_modes, ctx_glob, ctx_names, ctx_cls, ctx_kws, szOk, lk_eq, mtD, mtK, insC_ins, MI.isObj, isDic, dicAt, dputAt, storeD, lookD, keyD, keysD, insAt, fldAt, fldD, MI.putF, pickK, revD]) (by simp [runFn, modesOf, argSl, exSs, exS, testOf, toP, evR, evS, evD, evPs, evA, evI, evB, evG, frz, getP, isSet, slotD, itemD, atI, ixN, cmpD, truth, arith, biD, isiD, RD.d, slOf, mutAt, isMut, isL, setAt, appAt, outsOf, argV, sRefs, putBack, reslot, bindT, bindTs, partOf, MI.isNon, sliceD, itemsD, itemsT, isT, setIs, evRs, augD, popOf, wipeable, wipeE, restoreE, wiped, ctx_call, ctx_modes, ctx_glob, ctx_names, ctx_cls, ctx_kws, szOk, lk_eq, mtD, mtK, insC_ins, MI.isObj, isDic, dicAt, dputAt, storeD, lookD, keyD, keysD, insAt, fldAt, fldD, MI.putF, pickK, revD]) (by rw [List.length_map]; omega) (fun d hd => by
      obtain ⟨i, hi, rfl⟩ := List.mem_map.mp hd
      have hb := between_runs h.is_between (n := n - 1) (by omega) (i := i) (a := -1) (b := 9)
      have := hw.all i hi
      refine ⟨[.val (wk a), .val (.int i)], .old (.bl true), [.val (wk a), .val (.int i)], by simp [runFn, modesOf, argSl, exSs, exS, testOf, toP, evR, evS, evD, evPs, evA, evI, evB, evG, frz, getP, isSet, slotD, itemD, atI, ixN, cmpD, truth, arith, biD, isiD, RD.d, slOf, mutAt, isMut, isL, setAt, appAt, outsOf, argV, sRefs, putBack, reslot, bindT, bindTs, partOf, MI.isNon, sliceD, itemsD, itemsT, isT, setIs, evRs, augD, popOf, wipeable, wipeE, restoreE, wiped, ctx_call, ctx_modes, ctx_glob, ctx_names, ctx_cls, ctx_kws, szOk, lk_eq, mtD, mtK, insC_ins, MI.isObj, isDic, dicAt, dputAt, storeD, lookD, keyD, keysD, insAt, fldAt, fldD, MI.putF, pickK, revD], ?_, by simp [runFn, modesOf, argSl, exSs, exS, testOf, toP, evR, evS, evD, evPs, evA, evI, evB, evG, frz, getP, isSet, slotD, itemD, atI, ixN, cmpD, truth, arith, biD, isiD, RD.d, slOf, mutAt, isMut, isL, setAt, appAt, outsOf, argV, sRefs, putBack, reslot, bindT, bindTs, partOf, MI.isNon, sliceD, itemsD, itemsT, isT, setIs, evRs, augD, popOf, wipeable, wipeE, restoreE, wiped, ctx_call, ctx_modes, ctx_glob, ctx_names, ctx_cls, ctx_kws, szOk, lk_eq, mtD, mtK, insC_ins, MI.isObj, isDic, dicAt, dputAt, storeD, lookD, keyD, keysD, insAt, fldAt, fldD, MI.putF, pickK, revD], by simp [runFn, modesOf, argSl, exSs, exS, testOf, toP, evR, evS, evD, evPs, evA, evI, evB, evG, frz, getP, isSet, slotD, itemD, atI, ixN, cmpD, truth, arith, biD, isiD, RD.d, slOf, mutAt, isMut, isL, setAt, appAt, outsOf, argV, sRefs, putBack, reslot, bindT, bindTs, partOf, MI.isNon, sliceD, itemsD, itemsT, isT, setIs, evRs, augD, popOf, wipeable, wipeE, restoreE, wiped, ctx_call, ctx_modes, ctx_glob, ctx_names, ctx_cls, ctx_kws, szOk, lk_eq, mtD, mtK, insC_ins, MI.isObj, isDic, dicAt, dputAt, storeD, lookD, keyD, keysD, insAt, fldAt, fldD, MI.putF, pickK, revD], rfl⟩
      have md := h.is_between.md
      simp [runFn, modesOf, argSl, exSs, exS, testOf, toP, evR, evS, evD, evPs, evA, evI, evB, evG, frz, getP, isSet, slotD, itemD, atI, ixN, cmpD, truth, arith, biD, isiD, RD.d, slOf, mutAt, isMut, isL, setAt, appAt, outsOf, argV, sRefs, putBack, reslot, bindT, bindTs, partOf, MI.isNon, sliceD, itemsD, itemsT, isT, setIs, evRs, augD, popOf, wipeable, wipeE, restoreE, wiped, ctx_call, ctx_modes, ctx_glob, ctx_names, ctx_cls, ctx_kws, szOk, lk_eq, mtD, mtK, insC_ins, MI.isObj, isDic, dicAt, dputAt, storeD, lookD, keyD, keysD, insAt, fldAt, fldD, MI.putF, pickK, revD, md, F_is_between, h.nowhere, h.last, hb, this])
  have i0 := atI_aw (a := a) (t := 0) (by omega) (by omega)
  have i1 := atI_awl (a := a) (by omega)
  have f0 := hw.first
  have f1 := hw.last
  have hc : C_is_work_1 = .lc [1] (.call "is_between" [(.var 1), (.glo "NOWHERE"), (.glo "LAST_STATION")]) (.nm 1) (.seq (.var 0)) (.cst (.bl true)) := rfl
  have l60 : ((a.length : Nat) : Int) ≤ 60 := by omega
  have l1 : (1 : Int) ≤ ((a.length : Nat) : Int) := by omega
  refine run_rt (env := [.val (wk a), .un]) (e := [.val (wk a), .un]) rfl rfl ?_ rfl
  refine sq (e := [.val (wk a), .un]) (if_no (e := [.val (wk a), .un]) ?_ sn) ?_
  · simp [runFn, modesOf, argSl, exSs, exS, testOf, toP, evR, evS, evD, evPs, evA, evI, evB, evG, frz, getP, isSet, slotD, itemD, atI, ixN, cmpD, truth, arith, biD, isiD, RD.d, slOf, mutAt, isMut, isL, setAt, appAt, outsOf, argV, sRefs, putBack, reslot, bindT, bindTs, partOf, MI.isNon, sliceD, itemsD, itemsT, isT, setIs, evRs, augD, popOf, wipeable, wipeE, restoreE, wiped, ctx_call, ctx_modes, ctx_glob, ctx_names, ctx_cls, ctx_kws, szOk, lk_eq, mtD, mtK, insC_ins, MI.isObj, isDic, dicAt, dputAt, storeD, lookD, keyD, keysD, insAt, fldAt, fldD, MI.putF, pickK, revD, wk, h.ticks, l60, l1]
  refine sq (e := [.val (wk a), .un]) (if_no (e := [.val (wk a), .un]) ?_ sn) ?_
  · rw [← hc, map_yes] at lc
    simp [runFn, modesOf, argSl, exSs, exS, testOf, toP, evR, evS, evD, evPs, evA, evI, evB, evG, frz, getP, isSet, slotD, itemD, atI, ixN, cmpD, truth, arith, biD, isiD, RD.d, slOf, mutAt, isMut, isL, setAt, appAt, outsOf, argV, sRefs, putBack, reslot, bindT, bindTs, partOf, MI.isNon, sliceD, itemsD, itemsT, isT, setIs, evRs, augD, popOf, wipeable, wipeE, restoreE, wiped, ctx_call, ctx_modes, ctx_glob, ctx_names, ctx_cls, ctx_kws, szOk, lk_eq, mtD, mtK, insC_ins, MI.isObj, isDic, dicAt, dputAt, storeD, lookD, keyD, keysD, insAt, fldAt, fldD, MI.putF, pickK, revD, ↓tp_C_is_work_1, lc, bools_yes]
  · refine sr ?_
    simp [runFn, modesOf, argSl, exSs, exS, testOf, toP, evR, evS, evD, evPs, evA, evI, evB, evG, frz, getP, isSet, slotD, itemD, cmpD, truth, arith, biD, isiD, RD.d, slOf, mutAt, isMut, isL, setAt, appAt, outsOf, argV, sRefs, putBack, reslot, bindT, bindTs, partOf, MI.isNon, sliceD, itemsD, itemsT, isT, setIs, evRs, augD, popOf, wipeable, wipeE, restoreE, wiped, ctx_call, ctx_modes, ctx_glob, ctx_names, ctx_cls, ctx_kws, szOk, lk_eq, mtD, mtK, insC_ins, MI.isObj, isDic, dicAt, dputAt, storeD, lookD, keyD, keysD, insAt, fldAt, fldD, MI.putF, pickK, revD, wk, i0, i1, f0, f1, h.nowhere]
theorem needWork_runs (h : Works P) (h2 : Hs P "need_work" F_need_work) {n : Nat} (hn : 3 ≤ n) {a : List Int} (hw : IsWork a) : P.calls n "need_work" [.d (wk a)] = some (.old .non, []) := by
  rw [h2.eq (by omega)]
  have e := isWork_runs h (n := n - 1) (by omega) hw
  have md := h.is_work.md
  simp [F_need_work, F_is_work, runFn, modesOf, argSl, exSs, exS, testOf, toP, evR, evS, evD, evPs, evA, evI, evB, evG, frz, getP, isSet, slotD, itemD, atI, ixN, cmpD, truth, arith, biD, isiD, RD.d, slOf, mutAt, isMut, isL, setAt, appAt, outsOf, argV, sRefs, putBack, reslot, bindT, bindTs, partOf, MI.isNon, sliceD, itemsD, itemsT, isT, setIs, evRs, augD, popOf, wipeable, wipeE, restoreE, wiped, ctx_call, ctx_modes, ctx_glob, ctx_names, ctx_cls, ctx_kws, szOk, lk_eq, mtD, mtK, insC_ins, MI.isObj, isDic, dicAt, dputAt, storeD, lookD, keyD, keysD, insAt, fldAt, fldD, MI.putF, pickK, revD, md, e]
/-! ### meets and bars -/
/-- the same station at tick t of a and tick t - d of b -/
def hit (a b : List Int) (d t : Int) : Bool := decide (aw a t ≠ -1) && decide (aw a t = aw b (t - d))
theorem hit_in {a b : List Int} {d t : Int} (h : hit a b d t = true) : 0 ≤ t ∧ t < a.length ∧ 0 ≤ t - d ∧ t - d < b.length := by
  unfold hit at h
  simp only [Bool.and_eq_true, decide_eq_true_eq] at h
  have h1 := aw_in h.1
  have h2 := aw_in (h.2 ▸ h.1)
  omega
def meetL (a b : List Int) (d : Int) : List Int := (rgI (max 0 d) (min a.length (d + b.length))).filter (hit a b d)
def meetD (a : List Int) (ts : List Int) : List D := ts.map fun t => .tup [.int t, .int (aw a t)]
theorem mem_meetL {a b : List Int} {d t : Int} : t ∈ meetL a b d ↔ hit a b d t = true := by
  unfold meetL
  rw [List.mem_filter, rgI_mem]
  constructor
  · exact fun h => h.2
  · intro h
    have := hit_in h
    exact ⟨by omega, h⟩
theorem meets_runs (h : Hs P "meets" F_meets) (hw : P.glob "NOWHERE" = some (.int (-1))) {n : Nat} (hn : 1 ≤ n) {a b : List Int} {d : Int} (la : a.length ≤ 10000) (lb : b.length ≤ 10000) (d0 : -10000 ≤ d) (d1 : d ≤ 10000) :
    P.calls n "meets" [.d (wk a), .d (wk b), .d (.int d)] = some (.new (.lst (meetD a (meetL a b d))), []) := by
  rw [h.eq hn]
  have e1 : (if d > 0 then d else 0) = max 0 d := by rw [Int.max_def]; split <;> split <;> omega
  have e2 : (if d + (b.length : Int) < (a.length : Int) then d + (b.length : Int) else (a.length : Int)) = min (a.length : Int) (d + b.length) := by rw [Int.min_def]; split <;> split <;> omega
  have er := rng_ab (a := max 0 d) (b := min (a.length : Int) (d + b.length)) (by omega) (by omega) (by omega) (by omega)
  obtain ⟨e', hx, hs⟩ := for_inv (C := P.ctx (n - 1)) (w := P.w) (t := .nm 4) (it := .rng [(.bi .max [(.cst (.int 0)), (.var 2)]), (.bi .min [(.bi .len [(.var 0)]), (.bin .Add (.var 2) (.bi .len [(.var 1)]))])])
    (body := [.ifs (.boo true [(.cmp .NotEq (.sub (.var 0) (.var 4)) (.glo "NOWHERE")), (.cmp .Eq (.sub (.var 0) (.var 4)) (.sub (.var 1) (.bin .Sub (.var 4) (.var 2))))]) [.app 3 (.tup [(.var 4), (.sub (.var 0) (.var 4))])] []])
    (env := [.val (wk a), .val (wk b), .val (.int d), .own (.lst []), .un]) (e1 := [.val (wk a), .val (wk b), .val (.int d), .own (.lst []), .un]) (ds := (rgI (max 0 d) (min a.length (d + b.length))).map .int)
    (J := fun i e => ∃ s, isMut s = false ∧ e = [.val (wk a), .val (wk b), .val (.int d), .own (.lst (meetD a (((rgI (max 0 d) (min a.length (d + b.length))).take i).filter (hit a b d)))), s])
    (by simp [runFn, modesOf, argSl, exSs, exS, testOf, toP, evR, evS, evD, evPs, evA, evI, evB, evG, frz, getP, isSet, slotD, itemD, cmpD, truth, arith, biD, isiD, RD.d, slOf, mutAt, isMut, isL, setAt, appAt, outsOf, argV, sRefs, putBack, reslot, bindT, bindTs, partOf, MI.isNon, sliceD, itemsD, itemsT, isT, setIs, evRs, augD, popOf, wipeable, wipeE, restoreE, wiped, ctx_call, ctx_modes, ctx_glob, ctx_names, ctx_cls, ctx_kws, szOk, lk_eq, mtD, mtK, insC_ins, MI.isObj, isDic, dicAt, dputAt, storeD, lookD, keyD, keysD, insAt, fldAt, fldD, MI.putF, pickK, revD, wk, e1, e2, er, rgD_eq]) ⟨.un, rfl, rfl⟩ (by
      intro i x e hd ⟨s, hs, he⟩
      subst he
      rw [List.getElem?_map] at hd
      obtain ⟨t, ht, rfl⟩ := Option.map_eq_some_iff.mp hd
      have hm := rgI_mem.mp (List.mem_of_getElem? ht)
      have ta := atI_aw (a := a) (t := t) (by omega) (by omega)
      have tb := atI_aw (a := b) (t := t - d) (by omega) (by omega)
      refine ⟨[.val (wk a), .val (wk b), .val (.int d), .own (.lst (meetD a (((rgI (max 0 d) (min a.length (d + b.length))).take i).filter (hit a b d)))), .val (.int t)], [.val (wk a), .val (wk b), .val (.int d), .own (.lst (meetD a (((rgI (max 0 d) (min a.length (d + b.length))).take (i + 1)).filter (hit a b d)))), .val (.int t)], by simp [runFn, modesOf, argSl, exSs, exS, testOf, toP, evR, evS, evD, evPs, evA, evI, evB, evG, frz, getP, isSet, slotD, itemD, atI, ixN, cmpD, truth, arith, biD, isiD, RD.d, slOf, mutAt, isMut, isL, setAt, appAt, outsOf, argV, sRefs, putBack, reslot, bindT, bindTs, partOf, MI.isNon, sliceD, itemsD, itemsT, isT, setIs, evRs, augD, popOf, wipeable, wipeE, restoreE, wiped, ctx_call, ctx_modes, ctx_glob, ctx_names, ctx_cls, ctx_kws, szOk, lk_eq, mtD, mtK, insC_ins, MI.isObj, isDic, dicAt, dputAt, storeD, lookD, keyD, keysD, insAt, fldAt, fldD, MI.putF, pickK, revD], .inl ?_, ⟨_, rfl, rfl⟩⟩
      rw [List.take_add_one, ht, Option.toList_some, List.filter_append]
      have hlen : (((rgI (max 0 d) (min a.length (d + b.length))).take i).filter (hit a b d)).length + 1 < sizeLine := by
        have h1 := List.length_filter_le (hit a b d) ((rgI (max 0 d) (min a.length (d + b.length))).take i)
        have h2 := List.length_take_le i (rgI (max 0 d) (min a.length (d + b.length)))
        have h3 := List.length_take_le' i (rgI (max 0 d) (min a.length (d + b.length)))
        rw [rgI_len] at h3
        rw [sizeLine_eq]
        omega
      have h2 : (2 : Nat) ≤ sizeLine := by rw [sizeLine_eq]; decide
      by_cases c1 : aw a t = -1
      · have : hit a b d t = false := by unfold hit; simp [c1]
        rw [List.filter_cons_of_neg (by rw [this]; decide), List.filter_nil, List.append_nil]
        refine sq (if_no (e := _) ?_ sn) sn
        simp [runFn, modesOf, argSl, exSs, exS, testOf, toP, evR, evS, evD, evPs, evA, evI, evB, evG, frz, getP, isSet, slotD, itemD, cmpD, truth, arith, biD, isiD, RD.d, slOf, mutAt, isMut, isL, setAt, appAt, outsOf, argV, sRefs, putBack, reslot, bindT, bindTs, partOf, MI.isNon, sliceD, itemsD, itemsT, isT, setIs, evRs, augD, popOf, wipeable, wipeE, restoreE, wiped, ctx_call, ctx_modes, ctx_glob, ctx_names, ctx_cls, ctx_kws, szOk, lk_eq, mtD, mtK, insC_ins, MI.isObj, isDic, dicAt, dputAt, storeD, lookD, keyD, keysD, insAt, fldAt, fldD, MI.putF, pickK, revD, wk, ta, hw, c1]
      · by_cases c2 : aw a t = aw b (t - d)
        · have : hit a b d t = true := by unfold hit; simp only [c1, c2, Bool.and_eq_true, decide_eq_true_eq, ne_eq]; exact ⟨fun z => c1 (c2.trans z), trivial⟩
          rw [List.filter_cons_of_pos this, List.filter_nil]
          refine sq (if_yes (e := [.val (wk a), .val (wk b), .val (.int d), .own (.lst (meetD a (((rgI (max 0 d) (min a.length (d + b.length))).take i).filter (hit a b d)))), .val (.int t)]) ?_ (sq ?_ sn)) sn
          · have c1' : ¬ aw b (t - d) = -1 := c2 ▸ c1
            simp [runFn, modesOf, argSl, exSs, exS, testOf, toP, evR, evS, evD, evPs, evA, evI, evB, evG, frz, getP, isSet, slotD, itemD, cmpD, truth, arith, biD, isiD, RD.d, slOf, mutAt, isMut, isL, setAt, appAt, outsOf, argV, sRefs, putBack, reslot, bindT, bindTs, partOf, MI.isNon, sliceD, itemsD, itemsT, isT, setIs, evRs, augD, popOf, wipeable, wipeE, restoreE, wiped, ctx_call, ctx_modes, ctx_glob, ctx_names, ctx_cls, ctx_kws, szOk, lk_eq, mtD, mtK, insC_ins, MI.isObj, isDic, dicAt, dputAt, storeD, lookD, keyD, keysD, insAt, fldAt, fldD, MI.putF, pickK, revD, wk, ta, tb, hw, c1', c2]
          · simp [runFn, modesOf, argSl, exSs, exS, testOf, toP, evR, evS, evD, evPs, evA, evI, evB, evG, frz, getP, isSet, slotD, itemD, cmpD, truth, arith, biD, isiD, RD.d, slOf, mutAt, isMut, isL, setAt, appAt, outsOf, argV, sRefs, putBack, reslot, bindT, bindTs, partOf, MI.isNon, sliceD, itemsD, itemsT, isT, setIs, evRs, augD, popOf, wipeable, wipeE, restoreE, wiped, ctx_call, ctx_modes, ctx_glob, ctx_names, ctx_cls, ctx_kws, szOk, lk_eq, mtD, mtK, insC_ins, MI.isObj, isDic, dicAt, dputAt, storeD, lookD, keyD, keysD, insAt, fldAt, fldD, MI.putF, pickK, revD, wk, ta, hlen, h2, meetD]
        · have : hit a b d t = false := by unfold hit; simp [c2]
          rw [List.filter_cons_of_neg (by rw [this]; decide), List.filter_nil, List.append_nil]
          refine sq (if_no (e := _) ?_ sn) sn
          simp [runFn, modesOf, argSl, exSs, exS, testOf, toP, evR, evS, evD, evPs, evA, evI, evB, evG, frz, getP, isSet, slotD, itemD, cmpD, truth, arith, biD, isiD, RD.d, slOf, mutAt, isMut, isL, setAt, appAt, outsOf, argV, sRefs, putBack, reslot, bindT, bindTs, partOf, MI.isNon, sliceD, itemsD, itemsT, isT, setIs, evRs, augD, popOf, wipeable, wipeE, restoreE, wiped, ctx_call, ctx_modes, ctx_glob, ctx_names, ctx_cls, ctx_kws, szOk, lk_eq, mtD, mtK, insC_ins, MI.isObj, isDic, dicAt, dputAt, storeD, lookD, keyD, keysD, insAt, fldAt, fldD, MI.putF, pickK, revD, wk, ta, tb, hw, c1, c2])
  obtain ⟨s, hs, rfl⟩ := hs
  rw [List.length_map, List.take_length] at hx
  refine run_rt (env := [.val (wk a), .val (wk b), .val (.int d), .un, .un]) (e := [.val (wk a), .val (wk b), .val (.int d), .own (.lst (meetD a (meetL a b d))), s]) rfl rfl ?_ rfl
  refine sq (e := [.val (wk a), .val (wk b), .val (.int d), .own (.lst []), .un]) (by simp [runFn, modesOf, argSl, exSs, exS, testOf, toP, evR, evS, evD, evPs, evA, evI, evB, evG, frz, getP, isSet, slotD, itemD, atI, ixN, cmpD, truth, arith, biD, isiD, RD.d, slOf, mutAt, isMut, isL, setAt, appAt, outsOf, argV, sRefs, putBack, reslot, bindT, bindTs, partOf, MI.isNon, sliceD, itemsD, itemsT, isT, setIs, evRs, augD, popOf, wipeable, wipeE, restoreE, wiped, ctx_call, ctx_modes, ctx_glob, ctx_names, ctx_cls, ctx_kws, szOk, lk_eq, mtD, mtK, insC_ins, MI.isObj, isDic, dicAt, dputAt, storeD, lookD, keyD, keysD, insAt, fldAt, fldD, MI.putF, pickK, revD]) (sq hx (sr ?_))
  simp [runFn, modesOf, argSl, exSs, exS, testOf, toP, evR, evS, evD, evPs, evA, evI, evB, evG, frz, getP, isSet, slotD, itemD, atI, ixN, cmpD, truth, arith, biD, isiD, RD.d, slOf, mutAt, isMut, isL, setAt, appAt, outsOf, argV, sRefs, putBack, reslot, bindT, bindTs, partOf, MI.isNon, sliceD, itemsD, itemsT, isT, setIs, evRs, augD, popOf, wipeable, wipeE, restoreE, wiped, ctx_call, ctx_modes, ctx_glob, ctx_names, ctx_cls, ctx_kws, szOk, lk_eq, mtD, mtK, insC_ins, MI.isObj, isDic, dicAt, dputAt, storeD, lookD, keyD, keysD, insAt, fldAt, fldD, MI.putF, pickK, revD, meetL]
def barsL (a b : List Int) : List Int := (rgI 1 a.length).filter fun d => !(meetL a b d).isEmpty
theorem flat_meet (n : Nat) (a : List Int) : ∀ ts : List Int, flatDs (n + 1) (meetD a ts) = true
  | [] => by simp [meetD, flatDs]
  | t :: ts => by
    have := flat_meet n a ts
    unfold meetD at this ⊢
    simp [flatDs, flatD, this]
theorem mem_barsL {a b : List Int} {d : Int} : d ∈ barsL a b ↔ 1 ≤ d ∧ d < a.length ∧ ∃ t, hit a b d t = true := by
  unfold barsL
  rw [List.mem_filter, rgI_mem]
  constructor
  · intro ⟨h, h2⟩
    cases e : meetL a b d with
    | nil => rw [e] at h2; cases h2
    | cons t r => exact ⟨h.1, h.2, t, mem_meetL.mp (by rw [e]; exact List.mem_cons_self)⟩
  · intro ⟨h1, h2, t, ht⟩
    refine ⟨⟨h1, h2⟩, ?_⟩
    have := mem_meetL.mpr ht
    cases e : meetL a b d with
    | nil => rw [e] at this; cases this
    | cons t r => rfl
theorem bars_runs (h : Hs P "meets" F_meets) (h2 : Hs P "bars_of" F_bars_of) (hw : P.glob "NOWHERE" = some (.int (-1))) {n : Nat} (hn : 2 ≤ n) {a b : List Int} (la : a.length ≤ 10000) (lb : b.length ≤ 10000) :
    P.calls n "bars_of" [.d (wk a), .d (wk b)] = some (.old (wk (barsL a b)), []) := by
  rw [h2.eq (by omega)]
  have lc := lc_fm (C := P.ctx (n - 1)) (own := [2]) (elt := .var 2) (t := .nm 2) (it := .rng [(.cst (.int 1)), (.bi .len [(.var 0)])]) (cnd := .cmp .NotEq (.call "meets" [(.var 0), (.var 1), (.var 2)]) (.lst [])) (env := [.val (wk a), .val (wk b), .un]) (e1 := [.val (wk a), .val (wk b), .un]) (ds := rgD 1 a.length) (p := fun d => match d with | .int i => !(meetL a b i).isEmpty | _ => false) (f := id)
    (by
      have er := rng_ab (a := 1) (b := (a.length : Int)) (by omega) (by omega) (by omega) (by omega)
      simp [runFn, modesOf, argSl, exSs, exS, testOf, toP, evR, evS, evD, evPs, evA, evI, evB, evG, frz, getP, isSet, slotD, itemD, atI, ixN, cmpD, truth, arith, biD, isiD, RD.d, slOf, mutAt, isMut, isL, setAt, appAt, outsOf, argV, sRefs, putBack, reslot, bindT, bindTs, partOf, MI.isNon, sliceD, itemsD, itemsT, isT, setIs, evRs, augD, popOf, wipeable, wipeE, restoreE, wiped, ctx_call, ctx_modes, ctx_glob, ctx_names, ctx_cls, ctx_kws, szOk, lk_eq, mtD, mtK, insC_ins, MI.isObj, isDic, dicAt, dputAt, storeD, lookD, keyD, keysD, insAt, fldAt, fldD, MI.putF, pickK, revD, wk, er]) (by simp [runFn, modesOf, argSl, exSs, exS, testOf, toP, evR, evS, evD, evPs, evA, evI, evB, evG, frz, getP, isSet, slotD, itemD, atI, ixN, cmpD, truth, arith, biD, isiD, RD.d, slOf, mutAt, isMut, isL, setAt, appAt, outsOf, argV, sRefs, putBack, reslot, bindT, bindTs, partOf, MI.isNon, sliceD, itemsD, itemsT, isT, setIs, evRs, augD, popOf, wipeable, wipeE, restoreE, wiped, ctx_call, ctx_modes, ctx_glob, ctx_names, ctx_cls, ctx_kws, szOk, lk_eq, mtD, mtK, insC_ins, MI.isObj, isDic, dicAt, dputAt, storeD, lookD, keyD, keysD, insAt, fldAt, fldD, MI.putF, pickK, revD]) (by rw [rgD_length]; omega) (fun d hd => by
      obtain ⟨i, rfl, i0, i1⟩ := rgD_mem hd
      have hm := meets_runs h hw (n := n - 1) (by omega) (a := a) (b := b) (d := i) la lb (by omega) (by omega)
      have md := h.md
      refine ⟨[.val (wk a), .val (wk b), .val (.int i)], by simp [runFn, modesOf, argSl, exSs, exS, testOf, toP, evR, evS, evD, evPs, evA, evI, evB, evG, frz, getP, isSet, slotD, itemD, atI, ixN, cmpD, truth, arith, biD, isiD, RD.d, slOf, mutAt, isMut, isL, setAt, appAt, outsOf, argV, sRefs, putBack, reslot, bindT, bindTs, partOf, MI.isNon, sliceD, itemsD, itemsT, isT, setIs, evRs, augD, popOf, wipeable, wipeE, restoreE, wiped, ctx_call, ctx_modes, ctx_glob, ctx_names, ctx_cls, ctx_kws, szOk, lk_eq, mtD, mtK, insC_ins, MI.isObj, isDic, dicAt, dputAt, storeD, lookD, keyD, keysD, insAt, fldAt, fldD, MI.putF, pickK, revD], ?_, fun _ => ⟨.old (.int i), by simp [runFn, modesOf, argSl, exSs, exS, testOf, toP, evR, evS, evD, evPs, evA, evI, evB, evG, frz, getP, isSet, slotD, itemD, atI, ixN, cmpD, truth, arith, biD, isiD, RD.d, slOf, mutAt, isMut, isL, setAt, appAt, outsOf, argV, sRefs, putBack, reslot, bindT, bindTs, partOf, MI.isNon, sliceD, itemsD, itemsT, isT, setIs, evRs, augD, popOf, wipeable, wipeE, restoreE, wiped, ctx_call, ctx_modes, ctx_glob, ctx_names, ctx_cls, ctx_kws, szOk, lk_eq, mtD, mtK, insC_ins, MI.isObj, isDic, dicAt, dputAt, storeD, lookD, keyD, keysD, insAt, fldAt, fldD, MI.putF, pickK, revD], rfl⟩, by simp [runFn, modesOf, argSl, exSs, exS, testOf, toP, evR, evS, evD, evPs, evA, evI, evB, evG, frz, getP, isSet, slotD, itemD, atI, ixN, cmpD, truth, arith, biD, isiD, RD.d, slOf, mutAt, isMut, isL, setAt, appAt, outsOf, argV, sRefs, putBack, reslot, bindT, bindTs, partOf, MI.isNon, sliceD, itemsD, itemsT, isT, setIs, evRs, augD, popOf, wipeable, wipeE, restoreE, wiped, ctx_call, ctx_modes, ctx_glob, ctx_names, ctx_cls, ctx_kws, szOk, lk_eq, mtD, mtK, insC_ins, MI.isObj, isDic, dicAt, dputAt, storeD, lookD, keyD, keysD, insAt, fldAt, fldD, MI.putF, pickK, revD], by simp [runFn, modesOf, argSl, exSs, exS, testOf, toP, evR, evS, evD, evPs, evA, evI, evB, evG, frz, getP, isSet, slotD, itemD, atI, ixN, cmpD, truth, arith, biD, isiD, RD.d, slOf, mutAt, isMut, isL, setAt, appAt, outsOf, argV, sRefs, putBack, reslot, bindT, bindTs, partOf, MI.isNon, sliceD, itemsD, itemsT, isT, setIs, evRs, augD, popOf, wipeable, wipeE, restoreE, wiped, ctx_call, ctx_modes, ctx_glob, ctx_names, ctx_cls, ctx_kws, szOk, lk_eq, mtD, mtK, insC_ins, MI.isObj, isDic, dicAt, dputAt, storeD, lookD, keyD, keysD, insAt, fldAt, fldD, MI.putF, pickK, revD]⟩
      have fl := flat_meet 38 a (meetL a b i)
      have fl0 : dataOk (.lst (meetD a (meetL a b i))) = true := by unfold dataOk flatD; exact fl
      have fl1 : dataOk (.lst []) = true := by simp [dataOk, flatD, flatDs]
      have z : (0 : Nat) ≤ sizeLine := Nat.zero_le _
      cases hq : meetL a b i with
      | nil => 
        rw [hq] at hm fl0
        simp [runFn, modesOf, argSl, exSs, exS, testOf, toP, evR, evS, evD, evPs, evA, evI, evB, evG, frz, getP, isSet, slotD, itemD, atI, ixN, cmpD, truth, arith, biD, isiD, RD.d, slOf, mutAt, isMut, isL, setAt, appAt, outsOf, argV, sRefs, putBack, reslot, bindT, bindTs, partOf, MI.isNon, sliceD, itemsD, itemsT, isT, setIs, evRs, augD, popOf, wipeable, wipeE, restoreE, wiped, ctx_call, ctx_modes, ctx_glob, ctx_names, ctx_cls, ctx_kws, szOk, lk_eq, mtD, mtK, insC_ins, MI.isObj, isDic, dicAt, dputAt, storeD, lookD, keyD, keysD, insAt, fldAt, fldD, MI.putF, pickK, revD, md, F_meets, hm, fl1, meetD, eqD, eqDs, hq]
      | cons t r =>
        rw [hq] at hm fl0
        simp only [meetD, List.map_cons] at hm fl0
        simp [runFn, modesOf, argSl, exSs, exS, testOf, toP, evR, evS, evD, evPs, evA, evI, evB, evG, frz, getP, isSet, slotD, itemD, atI, ixN, cmpD, truth, arith, biD, isiD, RD.d, slOf, mutAt, isMut, isL, setAt, appAt, outsOf, argV, sRefs, putBack, reslot, bindT, bindTs, partOf, MI.isNon, sliceD, itemsD, itemsT, isT, setIs, evRs, augD, popOf, wipeable, wipeE, restoreE, wiped, ctx_call, ctx_modes, ctx_glob, ctx_names, ctx_cls, ctx_kws, szOk, lk_eq, mtD, mtK, insC_ins, MI.isObj, isDic, dicAt, dputAt, storeD, lookD, keyD, keysD, insAt, fldAt, fldD, MI.putF, pickK, revD, md, F_meets, hm, fl0, fl1, eqD, eqDs, hq])
  have hc : C_bars_of_1 = .lc [2] (.var 2) (.nm 2) (.rng [(.cst (.int 1)), (.bi .len [(.var 0)])]) (.cmp .NotEq (.call "meets" [(.var 0), (.var 1), (.var 2)]) (.lst [])) := rfl
  rw [← hc, List.map_id, rgD_eq, filter_map_int (q := fun d => !(meetL a b d).isEmpty) (fun i _ => rfl)] at lc
  have lc : evR (P.ctx (n - 1)) C_bars_of_1 [.val (wk a), .val (wk b), .un] = some (.new (.lst ((barsL a b).map .int)), [.val (wk a), .val (wk b), .un]) := lc
  simp [F_bars_of, runFn, modesOf, argSl, exSs, exS, testOf, toP, evR, evS, evD, evPs, evA, evI, evB, evG, frz, getP, isSet, slotD, itemD, atI, ixN, cmpD, truth, arith, biD, isiD, RD.d, slOf, mutAt, isMut, isL, setAt, appAt, outsOf, argV, sRefs, putBack, reslot, bindT, bindTs, partOf, MI.isNon, sliceD, itemsD, itemsT, isT, setIs, evRs, augD, popOf, wipeable, wipeE, restoreE, wiped, ctx_call, ctx_modes, ctx_glob, ctx_names, ctx_cls, ctx_kws, szOk, lk_eq, mtD, mtK, insC_ins, MI.isObj, isDic, dicAt, dputAt, storeD, lookD, keyD, keysD, insAt, fldAt, fldD, MI.putF, pickK, revD, ↓tp_C_bars_of_1, lc]
  rfl
end SG

namespace SG
open MI L2 PySem
variable {P : Prg}
/-! ### the works of the laws k20 to k39 -/
structure Nms (nm : List Int) : Prop where
  len : nm.length = 10
  all : ∀ i ∈ nm, 0 ≤ i ∧ i ≤ 9
  nodup : nm.Nodup
theorem nms_mk {r s : Int} (hs : s = 1 ∨ s = 3 ∨ s = 7 ∨ s = 9) : Nms ((rgI 0 10).map fun i => (r + s * i) % 10) := by
  refine ⟨rfl, fun i hi => ?_, ?_⟩
  · obtain ⟨k, _, rfl⟩ := List.mem_map.mp hi
    omega
  · have h10 : rgI 0 10 = [0, 1, 2, 3, 4, 5, 6, 7, 8, 9] := by decide
    rw [h10]
    rcases hs with rfl | rfl | rfl | rfl <;> simp <;> omega
theorem names_runs (hd : Hs P "_law_draw" F_law_draw) (hp : Hs P "_law_pick" F_law_pick) (h : Hs P "_law_names" F_law_names20) {n : Nat} (hn : 3 ≤ n) {xs : D} (px : isPen xs) :
    ∃ nm xs', P.calls n "_law_names" [.b xs] = some (.new (.lst (nm.map .int)), [xs']) ∧ isPen xs' ∧ Nms nm := by
  obtain ⟨r, x1, e1, p1, r0, r1⟩ := draw_runs hd (n := n - 1) (by omega) px (m := 10) (by omega) (by omega)
  obtain ⟨s, x2, e2, p2, hs⟩ := pick_runs hd hp (n := n - 1) (by omega) p1 (vs := [.int 1, .int 3, .int 7, .int 9]) (by simp) (by simp)
  obtain ⟨s, rfl, hs2⟩ : ∃ k : Int, s = .int k ∧ (k = 1 ∨ k = 3 ∨ k = 7 ∨ k = 9) := by
    simp at hs
    rcases hs with rfl | rfl | rfl | rfl <;> exact ⟨_, rfl, by decide⟩
  have md := hd.md
  have mp := hp.md
  refine ⟨_, x2, ?_, p2, nms_mk (r := r) hs2⟩
  rw [h.eq (by omega)]
  have lc : evR (P.ctx (n - 1)) C_law_names20_1 [.bor x2, .val (.int r), .val (.int s), .un] = some (.new (.lst (((rgI 0 10).map fun i => (r + s * i) % 10).map .int)), [.bor x2, .val (.int r), .val (.int s), .un]) := by
    unfold C_law_names20_1
    have := lc_map (C := P.ctx (n - 1)) (own := [3]) (elt := .bin .Mod (.bin .Add (.var 1) (.bin .Mult (.var 2) (.var 3))) (.cst (.int 10))) (t := .nm 3) (it := .rng [(.cst (.int 10))]) (env := [.bor x2, .val (.int r), .val (.int s), .un]) (e1 := [.bor x2, .val (.int r), .val (.int s), .un]) (ds := (rgI 0 10).map .int) (f := fun d => match d with | .int i => .int ((r + s * i) % 10) | d => d)
      (by
        have := rng_n (n := 10) (by omega) (by omega)
        rw [rgD_eq] at this
        simp [runFn, modesOf, argSl, exSs, exS, testOf, toP, evR, evS, evD, evPs, evA, evI, evB, evG, frz, getP, isSet, slotD, itemD, atI, ixN, cmpD, truth, arith, biD, isiD, RD.d, slOf, mutAt, isMut, isL, setAt, appAt, outsOf, argV, sRefs, putBack, reslot, bindT, bindTs, partOf, MI.isNon, sliceD, itemsD, itemsT, isT, setIs, evRs, augD, popOf, wipeable, wipeE, restoreE, wiped, ctx_call, ctx_modes, ctx_glob, ctx_names, ctx_cls, ctx_kws, szOk, lk_eq, mtD, mtK, insC_ins, MI.isObj, isDic, dicAt, dputAt, storeD, lookD, keyD, keysD, insAt, fldAt, fldD, MI.putF, pickK, revD, this]) (by simp [runFn, modesOf, argSl, exSs, exS, testOf, toP, evR, evS, evD, evPs, evA, evI, evB, evG, frz, getP, isSet, slotD, itemD, atI, ixN, cmpD, truth, arith, biD, isiD, RD.d, slOf, mutAt, isMut, isL, setAt, appAt, outsOf, argV, sRefs, putBack, reslot, bindT, bindTs, partOf, MI.isNon, sliceD, itemsD, itemsT, isT, setIs, evRs, augD, popOf, wipeable, wipeE, restoreE, wiped, ctx_call, ctx_modes, ctx_glob, ctx_names, ctx_cls, ctx_kws, szOk, lk_eq, mtD, mtK, insC_ins, MI.isObj, isDic, dicAt, dputAt, storeD, lookD, keyD, keysD, insAt, fldAt, fldD, MI.putF, pickK, revD]) (by decide) (fun d hd => by
        obtain ⟨i, hi, rfl⟩ := List.mem_map.mp hd
        have mo : mulOk s i = true := mulOk_l (by omega) (by omega)
        exact ⟨[.bor x2, .val (.int r), .val (.int s), .val (.int i)], .old (.int ((r + s * i) % 10)), [.bor x2, .val (.int r), .val (.int s), .val (.int i)], by simp [runFn, modesOf, argSl, exSs, exS, testOf, toP, evR, evS, evD, evPs, evA, evI, evB, evG, frz, getP, isSet, slotD, itemD, atI, ixN, cmpD, truth, arith, biD, isiD, RD.d, slOf, mutAt, isMut, isL, setAt, appAt, outsOf, argV, sRefs, putBack, reslot, bindT, bindTs, partOf, MI.isNon, sliceD, itemsD, itemsT, isT, setIs, evRs, augD, popOf, wipeable, wipeE, restoreE, wiped, ctx_call, ctx_modes, ctx_glob, ctx_names, ctx_cls, ctx_kws, szOk, lk_eq, mtD, mtK, insC_ins, MI.isObj, isDic, dicAt, dputAt, storeD, lookD, keyD, keysD, insAt, fldAt, fldD, MI.putF, pickK, revD], by simp [runFn, modesOf, argSl, exSs, exS, testOf, toP, evR, evS, evD, evPs, evA, evI, evB, evG, frz, getP, isSet, slotD, itemD, atI, ixN, cmpD, truth, arith, biD, isiD, RD.d, slOf, mutAt, isMut, isL, setAt, appAt, outsOf, argV, sRefs, putBack, reslot, bindT, bindTs, partOf, MI.isNon, sliceD, itemsD, itemsT, isT, setIs, evRs, augD, popOf, wipeable, wipeE, restoreE, wiped, ctx_call, ctx_modes, ctx_glob, ctx_names, ctx_cls, ctx_kws, szOk, lk_eq, mtD, mtK, insC_ins, MI.isObj, isDic, dicAt, dputAt, storeD, lookD, keyD, keysD, insAt, fldAt, fldD, MI.putF, pickK, revD, mo], by simp [runFn, modesOf, argSl, exSs, exS, testOf, toP, evR, evS, evD, evPs, evA, evI, evB, evG, frz, getP, isSet, slotD, itemD, atI, ixN, cmpD, truth, arith, biD, isiD, RD.d, slOf, mutAt, isMut, isL, setAt, appAt, outsOf, argV, sRefs, putBack, reslot, bindT, bindTs, partOf, MI.isNon, sliceD, itemsD, itemsT, isT, setIs, evRs, augD, popOf, wipeable, wipeE, restoreE, wiped, ctx_call, ctx_modes, ctx_glob, ctx_names, ctx_cls, ctx_kws, szOk, lk_eq, mtD, mtK, insC_ins, MI.isObj, isDic, dicAt, dputAt, storeD, lookD, keyD, keysD, insAt, fldAt, fldD, MI.putF, pickK, revD], by simp [runFn, modesOf, argSl, exSs, exS, testOf, toP, evR, evS, evD, evPs, evA, evI, evB, evG, frz, getP, isSet, slotD, itemD, atI, ixN, cmpD, truth, arith, biD, isiD, RD.d, slOf, mutAt, isMut, isL, setAt, appAt, outsOf, argV, sRefs, putBack, reslot, bindT, bindTs, partOf, MI.isNon, sliceD, itemsD, itemsT, isT, setIs, evRs, augD, popOf, wipeable, wipeE, restoreE, wiped, ctx_call, ctx_modes, ctx_glob, ctx_names, ctx_cls, ctx_kws, szOk, lk_eq, mtD, mtK, insC_ins, MI.isObj, isDic, dicAt, dputAt, storeD, lookD, keyD, keysD, insAt, fldAt, fldD, MI.putF, pickK, revD], rfl⟩)
    rw [this]
    simp [runFn, modesOf, argSl, exSs, exS, testOf, toP, evR, evS, evD, evPs, evA, evI, evB, evG, frz, getP, isSet, slotD, itemD, atI, ixN, cmpD, truth, arith, biD, isiD, RD.d, slOf, mutAt, isMut, isL, setAt, appAt, outsOf, argV, sRefs, putBack, reslot, bindT, bindTs, partOf, MI.isNon, sliceD, itemsD, itemsT, isT, setIs, evRs, augD, popOf, wipeable, wipeE, restoreE, wiped, ctx_call, ctx_modes, ctx_glob, ctx_names, ctx_cls, ctx_kws, szOk, lk_eq, mtD, mtK, insC_ins, MI.isObj, isDic, dicAt, dputAt, storeD, lookD, keyD, keysD, insAt, fldAt, fldD, MI.putF, pickK, revD]
  have l4 := leS (n := 4) (by decide)
  refine run_rt (env := [.bor xs, .un, .un, .un]) (e := [.bor x2, .val (.int r), .val (.int s), .un]) rfl rfl ?_ rfl
  refine sq (e := [.bor x2, .val (.int r), .val (.int s), .un]) ?_ (sr (ret_of lc fun i z => by cases z))
  simp [runFn, modesOf, argSl, exSs, exS, testOf, toP, evR, evS, evD, evPs, evA, evI, evB, evG, frz, getP, isSet, slotD, itemD, atI, ixN, cmpD, truth, arith, biD, isiD, RD.d, slOf, mutAt, isMut, isL, setAt, appAt, outsOf, argV, sRefs, putBack, reslot, bindT, bindTs, partOf, MI.isNon, sliceD, itemsD, itemsT, isT, setIs, evRs, augD, popOf, wipeable, wipeE, restoreE, wiped, ctx_call, ctx_modes, ctx_glob, ctx_names, ctx_cls, ctx_kws, szOk, lk_eq, mtD, mtK, insC_ins, MI.isObj, isDic, dicAt, dputAt, storeD, lookD, keyD, keysD, insAt, fldAt, fldD, MI.putF, pickK, revD, md, mp, F_law_draw, F_law_pick, e1, e2, l4]
/-- every station of a block is one of the block's three -/
def Blk (nm : List Int) (far : Nat) (a : List Int) : Prop := ∀ t, t < a.length → a.getD t (-1) = -1 ∨ ∃ j, j < 3 ∧ a.getD t (-1) = nm.getD (3 * (t / (far + 1)) + j) 0
theorem Blk.set {nm : List Int} {far : Nat} {a : List Int} (h : Blk nm far a) {i : Nat} (hi : i < a.length) {v : Int} (hv : ∃ j, j < 3 ∧ v = nm.getD (3 * (i / (far + 1)) + j) 0) : Blk nm far (a.set i v) := by
  intro t ht
  rw [getD_set hi]
  rw [List.length_set] at ht
  by_cases e : i = t
  · subst e
    rw [if_pos rfl]
    exact .inr hv
  · rw [if_neg e]
    exact h t ht
theorem Blk.snoc {nm : List Int} {far : Nat} {a : List Int} (h : Blk nm far a) {v : Int} (hv : v = -1 ∨ ∃ j, j < 3 ∧ v = nm.getD (3 * (a.length / (far + 1)) + j) 0) : Blk nm far (a ++ [v]) := by
  intro t ht
  rw [getD_snoc]
  rw [List.length_append, List.length_singleton] at ht
  by_cases e : t < a.length
  · rw [if_pos e]
    exact h t e
  · have : t = a.length := by omega
    subst this
    rw [if_neg e, if_pos rfl]
    exact hv
theorem idx_lt {t far b : Nat} (h : t < b * (far + 1)) : t / (far + 1) < b := by
  rw [Nat.div_lt_iff_lt_mul (by omega)]
  exact h
theorem work20_runs (hd : Hs P "_law_draw" F_law_draw) (hp : Hs P "_law_pick" F_law_pick) (h : Hs P "_law_work" F_law_work20) {n : Nat} (hn : 3 ≤ n) {xs : D} (px : isPen xs) {nm : List Int} (hnm : Nms nm) {far b : Nat} (hb : 1 ≤ b) (hb3 : b ≤ 3) (hf : b * (far + 1) ≤ 60) :
    ∃ a xs', P.calls n "_law_work" [.b xs, .d (.lst (nm.map .int)), .d (.int far), .d (.int b)] = some (.old (wk a), [xs']) ∧ isPen xs' ∧ IsWork a ∧ a.length ≤ b * (far + 1) ∧ Blk nm far a := by
  obtain ⟨m0, x1, e1, p1, m00, m01⟩ := draw_runs hd (n := n - 1) (by omega) px (m := 3) (by omega) (by omega)
  obtain ⟨s, x2, e2, p2, hs⟩ := pick_runs hd hp (n := n - 1) (by omega) p1 (vs := [.int 1, .int 1, .int 2, .int 4]) (by simp) (by simp)
  obtain ⟨s, rfl, hs2⟩ : ∃ k : Int, s = .int k ∧ 0 < k ∧ k ≤ 4 := by
    simp at hs
    rcases hs with rfl | rfl | rfl <;> exact ⟨_, rfl, by decide⟩
  have hfb : (b : Int) * ((far : Int) + 1) ≤ 60 := by have : ((b * (far + 1) : Nat) : Int) ≤ 60 := by omega
                                                      simpa using this
  have hfb0 : 0 < (b : Int) * ((far : Int) + 1) := Int.mul_pos (by omega) (by omega)
  obtain ⟨l0, x3, e3, p3, l00, l01⟩ := draw_runs hd (n := n - 1) (by omega) p2 (m := (b : Int) * ((far : Int) + 1)) (by omega) (by omega)
  have md := hd.md
  have mp := hp.md
  have l4 := leS (n := 4) (by decide)
  have l00' := leS (n := 0) (by decide)
  have far60 : far < 60 := by
    have : 1 * (far + 1) ≤ b * (far + 1) := Nat.mul_le_mul_right _ hb
    omega
  have mulb : mulOk b ((far : Int) + 1) = true := mulOk_l (by omega) (by omega)
  have er := rng_n (n := 1 + l0) (by omega) (by omega)
  obtain ⟨items, x4, s5, s8, hx, p4, hlen, hblk⟩ : ∃ items x4 s5 s8, exS (P.ctx (n - 1)) P.w S_law_work20_1 [.bor x2, .val (.lst (nm.map .int)), .val (.int far), .val (.int b), .own (.lst []), .un, .val (.int (1 + m0)), .val (.int s), .un]
      = some (.nx [.bor x4, .val (.lst (nm.map .int)), .val (.int far), .val (.int b), .own (.lst (items.map D.int)), s5, .val (.int (1 + m0)), .val (.int s), s8]) ∧ isPen x4 ∧ (items.length : Int) = 1 + l0 ∧ Blk nm far items := by
    unfold S_law_work20_1
    obtain ⟨e', hx, hj⟩ := for_inv (C := P.ctx (n - 1)) (w := P.w) (t := .nm 5) (it := .rng [(.bin .Add (.cst (.int 1)) (.call "_law_draw" [(.var 0), (.bin .Mult (.var 3) (.bin .Add (.var 2) (.cst (.int 1))))]))]) (body := [.asg 8 (.sub (.var 1) (.bin .Add (.bin .Mult (.cst (.int 3)) (.bin .FloorDiv (.var 5) (.bin .Add (.var 2) (.cst (.int 1))))) (.call "_law_draw" [(.var 0), (.var 6)]))), .app 4 (.ite (.cmp .Eq (.call "_law_draw" [(.var 0), (.var 7)]) (.cst (.int 0))) (.var 8) (.neg (.cst (.int 1))))])
      (env := [.bor x2, .val (.lst (nm.map .int)), .val (.int far), .val (.int b), .own (.lst []), .un, .val (.int (1 + m0)), .val (.int s), .un]) (e1 := [.bor x3, .val (.lst (nm.map .int)), .val (.int far), .val (.int b), .own (.lst []), .un, .val (.int (1 + m0)), .val (.int s), .un]) (ds := rgD 0 (1 + l0))
      (J := fun i e => ∃ (items : List Int) (x s5 s8 : _), e = [.bor x, .val (.lst (nm.map .int)), .val (.int far), .val (.int b), .own (.lst (items.map D.int)), s5, .val (.int (1 + m0)), .val (.int s), s8] ∧ isPen x ∧ items.length = i ∧ Blk nm far items)
      (by simp [runFn, modesOf, argSl, exSs, exS, testOf, toP, evR, evS, evD, evPs, evA, evI, evB, evG, frz, getP, isSet, slotD, itemD, atI, ixN, cmpD, truth, arith, biD, isiD, RD.d, slOf, mutAt, isMut, isL, setAt, appAt, outsOf, argV, sRefs, putBack, reslot, bindT, bindTs, partOf, MI.isNon, sliceD, itemsD, itemsT, isT, setIs, evRs, augD, popOf, wipeable, wipeE, restoreE, wiped, ctx_call, ctx_modes, ctx_glob, ctx_names, ctx_cls, ctx_kws, szOk, lk_eq, mtD, mtK, insC_ins, MI.isObj, isDic, dicAt, dputAt, storeD, lookD, keyD, keysD, insAt, fldAt, fldD, MI.putF, pickK, revD, md, F_law_draw, mulb, e3, er]) ⟨[], x3, .un, .un, rfl, p3, rfl, fun t ht => by cases ht⟩ (by
        intro i d e hd' ⟨items, x, s5, s8, he, hpx, hl, hB⟩
        subst he
        obtain ⟨rfl, hi⟩ := rgD_get hd'
        obtain ⟨r1, y1, f1, q1, r10, r11⟩ := draw_runs hd (n := n - 1) (by omega) hpx (m := 1 + m0) (by omega) (by omega)
        obtain ⟨r2, y2, f2, q2, r20, r21⟩ := draw_runs hd (n := n - 1) (by omega) q1 (m := s) (by omega) (by omega)
        have hib : i < b * (far + 1) := by
          have : ((b * (far + 1) : Nat) : Int) = (b : Int) * ((far : Int) + 1) := by push_cast; rfl
          omega
        have hdv := idx_lt hib
        have hix : (3 * ((i : Int) / ((far : Int) + 1)) + r1).toNat = 3 * (i / (far + 1)) + r1.toNat := by
          have : ((i / (far + 1) : Nat) : Int) = (i : Int) / ((far : Int) + 1) := by push_cast; rfl
          omega
        have hdi : ((i / (far + 1) : Nat) : Int) = (i : Int) / ((far : Int) + 1) := by push_cast; rfl
        have at1 : atI (nm.map D.int) (3 * ((i : Int) / ((far : Int) + 1)) + r1) = some (.int (nm.getD (3 * (i / (far + 1)) + r1.toNat) 0)) := by
          rw [atI_map]
          unfold atI ixN
          rw [hnm.len, if_pos (by omega), if_pos (by omega), Option.bind_some, hix, List.getD_eq_getElem?_getD, List.getElem?_eq_getElem (by rw [hnm.len]; omega)]
          rfl
        have mul3 : mulOk 3 ((i : Int) / ((far : Int) + 1)) = true := mulOk_l (by omega) (by omega)
        have dv0 : 0 < (far : Int) + 1 := by omega
        have dv1 : (far : Int) + 1 < 1073741824 := by omega
        have hls : items.length + 1 < sizeLine := ltS (by omega)
        refine ⟨[.bor x, .val (.lst (nm.map .int)), .val (.int far), .val (.int b), .own (.lst (items.map D.int)), .val (.int i), .val (.int (1 + m0)), .val (.int s), s8],
          [.bor y2, .val (.lst (nm.map .int)), .val (.int far), .val (.int b), .own (.lst ((items ++ [if r2 = 0 then nm.getD (3 * (i / (far + 1)) + r1.toNat) 0 else -1]).map D.int)), .val (.int i), .val (.int (1 + m0)), .val (.int s), .val (.int (nm.getD (3 * (i / (far + 1)) + r1.toNat) 0))],
          by simp [runFn, modesOf, argSl, exSs, exS, testOf, toP, evR, evS, evD, evPs, evA, evI, evB, evG, frz, getP, isSet, slotD, itemD, atI, ixN, cmpD, truth, arith, biD, isiD, RD.d, slOf, mutAt, isMut, isL, setAt, appAt, outsOf, argV, sRefs, putBack, reslot, bindT, bindTs, partOf, MI.isNon, sliceD, itemsD, itemsT, isT, setIs, evRs, augD, popOf, wipeable, wipeE, restoreE, wiped, ctx_call, ctx_modes, ctx_glob, ctx_names, ctx_cls, ctx_kws, szOk, lk_eq, mtD, mtK, insC_ins, MI.isObj, isDic, dicAt, dputAt, storeD, lookD, keyD, keysD, insAt, fldAt, fldD, MI.putF, pickK, revD], .inl ?_, ⟨_, _, _, _, rfl, q2, by simp [hl], ?_⟩⟩
        · refine sq (e := [.bor y1, .val (.lst (nm.map .int)), .val (.int far), .val (.int b), .own (.lst (items.map D.int)), .val (.int i), .val (.int (1 + m0)), .val (.int s), .val (.int (nm.getD (3 * (i / (far + 1)) + r1.toNat) 0))]) ?_ (sq ?_ sn)
          · simp [runFn, modesOf, argSl, exSs, exS, testOf, toP, evR, evS, evD, evPs, evA, evI, evB, evG, frz, getP, isSet, slotD, itemD, cmpD, truth, arith, biD, isiD, RD.d, slOf, mutAt, isMut, isL, setAt, appAt, outsOf, argV, sRefs, putBack, reslot, bindT, bindTs, partOf, MI.isNon, sliceD, itemsD, itemsT, isT, setIs, evRs, augD, popOf, wipeable, wipeE, restoreE, wiped, ctx_call, ctx_modes, ctx_glob, ctx_names, ctx_cls, ctx_kws, szOk, lk_eq, mtD, mtK, insC_ins, MI.isObj, isDic, dicAt, dputAt, storeD, lookD, keyD, keysD, insAt, fldAt, fldD, MI.putF, pickK, revD, md, F_law_draw, f1, at1, mul3, dv0, dv1]
          · by_cases hr : r2 = 0
            · subst hr
              simp [runFn, modesOf, argSl, exSs, exS, testOf, toP, evR, evS, evD, evPs, evA, evI, evB, evG, frz, getP, isSet, slotD, itemD, cmpD, truth, arith, biD, isiD, RD.d, slOf, mutAt, isMut, isL, setAt, appAt, outsOf, argV, sRefs, putBack, reslot, bindT, bindTs, partOf, MI.isNon, sliceD, itemsD, itemsT, isT, setIs, evRs, augD, popOf, wipeable, wipeE, restoreE, wiped, ctx_call, ctx_modes, ctx_glob, ctx_names, ctx_cls, ctx_kws, szOk, lk_eq, mtD, mtK, insC_ins, MI.isObj, isDic, dicAt, dputAt, storeD, lookD, keyD, keysD, insAt, fldAt, fldD, MI.putF, pickK, revD, md, F_law_draw, f2, hls]
            · simp [runFn, modesOf, argSl, exSs, exS, testOf, toP, evR, evS, evD, evPs, evA, evI, evB, evG, frz, getP, isSet, slotD, itemD, cmpD, truth, arith, biD, isiD, RD.d, slOf, mutAt, isMut, isL, setAt, appAt, outsOf, argV, sRefs, putBack, reslot, bindT, bindTs, partOf, MI.isNon, sliceD, itemsD, itemsT, isT, setIs, evRs, augD, popOf, wipeable, wipeE, restoreE, wiped, ctx_call, ctx_modes, ctx_glob, ctx_names, ctx_cls, ctx_kws, szOk, lk_eq, mtD, mtK, insC_ins, MI.isObj, isDic, dicAt, dputAt, storeD, lookD, keyD, keysD, insAt, fldAt, fldD, MI.putF, pickK, revD, md, F_law_draw, f2, hls, hr]
        · refine hB.snoc ?_
          rw [hl]
          split
          · exact .inr ⟨r1.toNat, by omega, rfl⟩
          · exact .inl rfl)
    obtain ⟨items, x, s5, s8, rfl, hpx, hl, hB⟩ := hj
    refine ⟨items, x, s5, s8, hx, hpx, ?_, hB⟩
    rw [hl, rgD_length]
    omega
  have hpos : 0 < items.length := by omega
  have hle : items.length ≤ b * (far + 1) := by
    have : ((b * (far + 1) : Nat) : Int) = (b : Int) * ((far : Int) + 1) := by push_cast; rfl
    omega
  have nmI : ∀ k, k < 10 → 0 ≤ nm.getD k 0 ∧ nm.getD k 0 ≤ 9 := fun k hk => hnm.all _ (gd_mem (by rw [hnm.len]; exact hk))
  have n0 : atI (nm.map D.int) 0 = some (.int (nm.getD 0 0)) := by
    rw [atI_map]
    unfold atI
    rw [hnm.len, ixN_0 (by omega), Option.bind_some, List.getD_eq_getElem?_getD, List.getElem?_eq_getElem (by rw [hnm.len]; omega)]
    rfl
  -- the first
  obtain ⟨it1, hl1, hB1, hf1, hx1⟩ : ∃ it1 : List Int, it1.length = items.length ∧ Blk nm far it1 ∧ aw it1 0 ≠ -1 ∧ exS (P.ctx (n - 1)) P.w (.ifs (.cmp .Eq (.sub (.var 4) (.cst (.int 0))) (.neg (.cst (.int 1)))) [.setI 4 (.cst (.int 0)) (.sub (.var 1) (.cst (.int 0)))] []) [.bor x4, .val (.lst (nm.map .int)), .val (.int far), .val (.int b), .own (.lst (items.map D.int)), s5, .val (.int (1 + m0)), .val (.int s), s8] = some (.nx [.bor x4, .val (.lst (nm.map .int)), .val (.int far), .val (.int b), .own (.lst (it1.map D.int)), s5, .val (.int (1 + m0)), .val (.int s), s8]) := by
    have a0 := atI_aw (a := items) (t := 0) (by omega) (by omega)
    have i0 := ixN_0 hpos
    by_cases hq : aw items 0 = -1
    · refine ⟨items.set 0 (nm.getD 0 0), by simp, hblk.set hpos ⟨0, by omega, by simp⟩, ?_, ?_⟩
      · rw [aw_0, getD_set hpos, if_pos rfl]
        have := nmI 0 (by omega)
        omega
      · simp [runFn, modesOf, argSl, exSs, exS, testOf, toP, evR, evS, evD, evPs, evA, evI, evB, evG, frz, getP, isSet, slotD, itemD, cmpD, truth, arith, biD, isiD, RD.d, slOf, mutAt, isMut, isL, setAt, appAt, outsOf, argV, sRefs, putBack, reslot, bindT, bindTs, partOf, MI.isNon, sliceD, itemsD, itemsT, isT, setIs, evRs, augD, popOf, wipeable, wipeE, restoreE, wiped, ctx_call, ctx_modes, ctx_glob, ctx_names, ctx_cls, ctx_kws, szOk, lk_eq, mtD, mtK, insC_ins, MI.isObj, isDic, dicAt, dputAt, storeD, lookD, keyD, keysD, insAt, fldAt, fldD, MI.putF, pickK, revD, a0, hq, n0, i0]
    · exact ⟨items, rfl, hblk, hq, by simp [runFn, modesOf, argSl, exSs, exS, testOf, toP, evR, evS, evD, evPs, evA, evI, evB, evG, frz, getP, isSet, slotD, itemD, cmpD, truth, arith, biD, isiD, RD.d, slOf, mutAt, isMut, isL, setAt, appAt, outsOf, argV, sRefs, putBack, reslot, bindT, bindTs, partOf, MI.isNon, sliceD, itemsD, itemsT, isT, setIs, evRs, augD, popOf, wipeable, wipeE, restoreE, wiped, ctx_call, ctx_modes, ctx_glob, ctx_names, ctx_cls, ctx_kws, szOk, lk_eq, mtD, mtK, insC_ins, MI.isObj, isDic, dicAt, dputAt, storeD, lookD, keyD, keysD, insAt, fldAt, fldD, MI.putF, pickK, revD, a0, hq]⟩
  have hpos1 : 0 < it1.length := by omega
  have hdl : (items.length - 1) / (far + 1) < b := idx_lt (by omega)
  have hdi : (((it1.length - 1) / (far + 1) : Nat) : Int) = ((it1.length : Int) - 1) / ((far : Int) + 1) := by
    rw [show (it1.length : Int) - 1 = ((it1.length - 1 : Nat) : Int) by omega]
    push_cast
    rfl
  rw [← hl1] at hdl
  have dvn : 0 ≤ ((it1.length : Int) - 1) / ((far : Int) + 1) := by rw [← hdi]; exact Int.natCast_nonneg _
  have dvm : ((it1.length : Int) - 1) / ((far : Int) + 1) < b := by rw [← hdi]; exact_mod_cast hdl
  have nl : atI (nm.map D.int) (3 * (((it1.length : Int) - 1) / ((far : Int) + 1))) = some (.int (nm.getD (3 * ((it1.length - 1) / (far + 1))) 0)) := by
    rw [atI_map]
    unfold atI ixN
    rw [hnm.len, if_pos (by omega), if_pos (by omega), Option.bind_some, show (3 * (((it1.length : Int) - 1) / ((far : Int) + 1))).toNat = 3 * ((it1.length - 1) / (far + 1)) by rw [← hdi]; omega, List.getD_eq_getElem?_getD, List.getElem?_eq_getElem (by rw [hnm.len]; omega)]
    rfl
  obtain ⟨it2, hl2, hB2, hf2, hg2, hx2⟩ : ∃ it2 : List Int, it2.length = it1.length ∧ Blk nm far it2 ∧ aw it2 0 ≠ -1 ∧ aw it2 (it2.length - 1) ≠ -1 ∧ exS (P.ctx (n - 1)) P.w (.ifs (.cmp .Eq (.sub (.var 4) (.neg (.cst (.int 1)))) (.neg (.cst (.int 1)))) [.setI 4 (.neg (.cst (.int 1))) (.sub (.var 1) (.bin .Mult (.cst (.int 3)) (.bin .FloorDiv (.bin .Sub (.bi .len [(.var 4)]) (.cst (.int 1))) (.bin .Add (.var 2) (.cst (.int 1))))))] []) [.bor x4, .val (.lst (nm.map .int)), .val (.int far), .val (.int b), .own (.lst (it1.map D.int)), s5, .val (.int (1 + m0)), .val (.int s), s8] = some (.nx [.bor x4, .val (.lst (nm.map .int)), .val (.int far), .val (.int b), .own (.lst (it2.map D.int)), s5, .val (.int (1 + m0)), .val (.int s), s8]) := by
    have a1 := atI_awl (a := it1) hpos1
    have i1 := ixN_m1 hpos1
    have mul3 : mulOk 3 (((it1.length : Int) - 1) / ((far : Int) + 1)) = true := mulOk_l (by omega) (by omega)
    have dv0 : 0 < (far : Int) + 1 := by omega
    have dv1 : (far : Int) + 1 < 1073741824 := by omega
    by_cases hq : aw it1 (it1.length - 1) = -1
    · have hlt : it1.length - 1 < it1.length := by omega
      have hv := nmI (3 * ((it1.length - 1) / (far + 1))) (by omega)
      refine ⟨it1.set (it1.length - 1) (nm.getD (3 * ((it1.length - 1) / (far + 1))) 0), by simp, hB1.set hlt ⟨0, by omega, by simp⟩, ?_, ?_, ?_⟩
      · rw [aw_0, getD_set hlt]
        split
        · omega
        · rw [← aw_0]; exact hf1
      · rw [List.length_set, show (it1.length : Int) - 1 = ((it1.length - 1 : Nat) : Int) by omega, aw_nat, getD_set hlt, if_pos rfl]
        omega
      · simp [runFn, modesOf, argSl, exSs, exS, testOf, toP, evR, evS, evD, evPs, evA, evI, evB, evG, frz, getP, isSet, slotD, itemD, cmpD, truth, arith, biD, isiD, RD.d, slOf, mutAt, isMut, isL, setAt, appAt, outsOf, argV, sRefs, putBack, reslot, bindT, bindTs, partOf, MI.isNon, sliceD, itemsD, itemsT, isT, setIs, evRs, augD, popOf, wipeable, wipeE, restoreE, wiped, ctx_call, ctx_modes, ctx_glob, ctx_names, ctx_cls, ctx_kws, szOk, lk_eq, mtD, mtK, insC_ins, MI.isObj, isDic, dicAt, dputAt, storeD, lookD, keyD, keysD, insAt, fldAt, fldD, MI.putF, pickK, revD, a1, hq, nl, i1, mul3, dv0, dv1]
    · exact ⟨it1, rfl, hB1, hf1, hq, by simp [runFn, modesOf, argSl, exSs, exS, testOf, toP, evR, evS, evD, evPs, evA, evI, evB, evG, frz, getP, isSet, slotD, itemD, cmpD, truth, arith, biD, isiD, RD.d, slOf, mutAt, isMut, isL, setAt, appAt, outsOf, argV, sRefs, putBack, reslot, bindT, bindTs, partOf, MI.isNon, sliceD, itemsD, itemsT, isT, setIs, evRs, augD, popOf, wipeable, wipeE, restoreE, wiped, ctx_call, ctx_modes, ctx_glob, ctx_names, ctx_cls, ctx_kws, szOk, lk_eq, mtD, mtK, insC_ins, MI.isObj, isDic, dicAt, dputAt, storeD, lookD, keyD, keysD, insAt, fldAt, fldD, MI.putF, pickK, revD, a1, hq]⟩
  have hall : ∀ i ∈ it2, -1 ≤ i ∧ i ≤ 9 := by
    intro i hi
    obtain ⟨j, hj, rfl⟩ := mem_gd (d := (-1 : Int)) hi
    rcases hB2 j hj with z | ⟨k, hk, z⟩
    · rw [z]; decide
    · rw [z]
      have hjb : j / (far + 1) < b := idx_lt (by omega)
      have := nmI (3 * (j / (far + 1)) + k) (by omega)
      omega
  refine ⟨it2, x4, ?_, p4, ⟨by omega, by omega, hall, hf2, hg2⟩, by omega, hB2⟩
  rw [h.eq (by omega)]
  refine run_rt (env := [.bor xs, .val (.lst (nm.map .int)), .val (.int far), .val (.int b), .un, .un, .un, .un, .un]) (e := [.bor x4, .val (.lst (nm.map .int)), .val (.int far), .val (.int b), .own (.lst (it2.map D.int)), s5, .val (.int (1 + m0)), .val (.int s), s8]) rfl rfl ?_ rfl
  refine sq (e := [.bor x2, .val (.lst (nm.map .int)), .val (.int far), .val (.int b), .un, .un, .val (.int (1 + m0)), .val (.int s), .un]) ?_ (sq (e := [.bor x2, .val (.lst (nm.map .int)), .val (.int far), .val (.int b), .own (.lst []), .un, .val (.int (1 + m0)), .val (.int s), .un]) ?_ (sq hx (sq hx1 (sq hx2 (sr ?_)))))
  · simp [runFn, modesOf, argSl, exSs, exS, testOf, toP, evR, evS, evD, evPs, evA, evI, evB, evG, frz, getP, isSet, slotD, itemD, atI, ixN, cmpD, truth, arith, biD, isiD, RD.d, slOf, mutAt, isMut, isL, setAt, appAt, outsOf, argV, sRefs, putBack, reslot, bindT, bindTs, partOf, MI.isNon, sliceD, itemsD, itemsT, isT, setIs, evRs, augD, popOf, wipeable, wipeE, restoreE, wiped, ctx_call, ctx_modes, ctx_glob, ctx_names, ctx_cls, ctx_kws, szOk, lk_eq, mtD, mtK, insC_ins, MI.isObj, isDic, dicAt, dputAt, storeD, lookD, keyD, keysD, insAt, fldAt, fldD, MI.putF, pickK, revD, md, mp, F_law_draw, F_law_pick, e1, e2, l4]
  · simp [runFn, modesOf, argSl, exSs, exS, testOf, toP, evR, evS, evD, evPs, evA, evI, evB, evG, frz, getP, isSet, slotD, itemD, atI, ixN, cmpD, truth, arith, biD, isiD, RD.d, slOf, mutAt, isMut, isL, setAt, appAt, outsOf, argV, sRefs, putBack, reslot, bindT, bindTs, partOf, MI.isNon, sliceD, itemsD, itemsT, isT, setIs, evRs, augD, popOf, wipeable, wipeE, restoreE, wiped, ctx_call, ctx_modes, ctx_glob, ctx_names, ctx_cls, ctx_kws, szOk, lk_eq, mtD, mtK, insC_ins, MI.isObj, isDic, dicAt, dputAt, storeD, lookD, keyD, keysD, insAt, fldAt, fldD, MI.putF, pickK, revD, l00']
  · simp [runFn, modesOf, argSl, exSs, exS, testOf, toP, evR, evS, evD, evPs, evA, evI, evB, evG, frz, getP, isSet, slotD, itemD, atI, ixN, cmpD, truth, arith, biD, isiD, RD.d, slOf, mutAt, isMut, isL, setAt, appAt, outsOf, argV, sRefs, putBack, reslot, bindT, bindTs, partOf, MI.isNon, sliceD, itemsD, itemsT, isT, setIs, evRs, augD, popOf, wipeable, wipeE, restoreE, wiped, ctx_call, ctx_modes, ctx_glob, ctx_names, ctx_cls, ctx_kws, szOk, lk_eq, mtD, mtK, insC_ins, MI.isObj, isDic, dicAt, dputAt, storeD, lookD, keyD, keysD, insAt, fldAt, fldD, MI.putF, pickK, revD, wk]
end SG

namespace SG
open MI L2 PySem
def C_Line___init___1 : MI.E := .lc [3] (.call "is_work" [(.var 3)]) (.nm 3) (.seq (.var 1)) (.cst (.bl true))
theorem tp_C_Line___init___1 (r : MI.Env → Option (RD × MI.Env)) (env : MI.Env) : toP C_Line___init___1 r env = (r env).map fun x => (.d x.1.d, x.2) := rfl
def C_Line___init___2 : MI.E := .lc [4] (.call "bars_of" [(.var 2), (.var 4)]) (.nm 4) (.seq (.var 1)) (.cst (.bl true))
theorem tp_C_Line___init___2 (r : MI.Env → Option (RD × MI.Env)) (env : MI.Env) : toP C_Line___init___2 r env = (r env).map fun x => (.d x.1.d, x.2) := rfl
def C_Line___init___3 : MI.E := .lc [2] (.bi .tuple [C_Line___init___2]) (.nm 2) (.seq (.var 1)) (.cst (.bl true))
theorem tp_C_Line___init___3 (r : MI.Env → Option (RD × MI.Env)) (env : MI.Env) : toP C_Line___init___3 r env = (r env).map fun x => (.d x.1.d, x.2) := rfl
def F_Line___init__ : Fn := ⟨[true, false], ["self", "works"], 5, [.ifs (.boo false [(.cmp .Eq (.bi .len [(.var 1)]) (.cst (.int 0))), (.nt (.bi .all [C_Line___init___1]))]) [.stop] [], .ifs (.cmp .Gt (.bi .len [(.var 1)]) (.glo "MOST_WORKS")) [.stop] [], .fld "Line" 0 "own" (.var 1), .fld "Line" 0 "between" (.bi .tuple [C_Line___init___3])]⟩
def F_Line___call__ : Fn := ⟨[false, false, false], ["self", "one", "other"], 3, [.expr (.call "need_kind" [(.var 0), (.var 1)]), .expr (.call "need_kind" [(.var 0), (.var 2)]), .ret (.sub (.sub (.attr "Line" "between" (.var 0)) (.var 1)) (.var 2))]⟩
def F_bars : Fn := ⟨[false, false], ["one", "other"], 2, [.expr (.call "need_work" [(.var 0)]), .expr (.call "need_work" [(.var 1)]), .ret (.call "bars_of" [(.var 0), (.var 1)])]⟩
def F_need_line : Fn := ⟨[false], ["thing"], 1, [.ifs (.nt (.isC (.var 0) "Line")) [.stop] []]⟩
def F_is_kind : Fn := ⟨[false, false], ["line", "thing"], 2, [.ret (.call "is_between" [(.var 1), (.cst (.int 0)), (.bin .Sub (.bi .len [(.attr "Line" "own" (.var 0))]) (.cst (.int 1)))])]⟩
def F_need_kind : Fn := ⟨[false, false], ["line", "thing"], 2, [.ifs (.nt (.call "is_kind" [(.var 0), (.var 1)])) [.stop] []]⟩
def F_is_from : Fn := ⟨[false, false], ["thing", "low"], 2, [.ret (.boo true [(.isi (.var 0) .int), (.nt (.isi (.var 0) .bool)), (.cmp .GtE (.var 0) (.var 1))])]⟩
def F_is_start : Fn := ⟨[false, false], ["line", "thing"], 2, [.ret (.boo true [(.isi (.var 1) .tuple), (.cmp .Eq (.bi .len [(.var 1)]) (.cst (.int 2))), (.call "is_from" [(.sub (.var 1) (.cst (.int 0))), (.cst (.int 0))]), (.call "is_kind" [(.var 0), (.sub (.var 1) (.cst (.int 1)))])])]⟩
def C_has_plan_form_1 : MI.E := .lc [2] (.call "is_start" [(.var 0), (.var 2)]) (.nm 2) (.seq (.var 1)) (.cst (.bl true))
theorem tp_C_has_plan_form_1 (r : MI.Env → Option (RD × MI.Env)) (env : MI.Env) : toP C_has_plan_form_1 r env = (r env).map fun x => (.d x.1.d, x.2) := rfl
def C_has_plan_form_2 : MI.E := .lc [2, 3] (.cmp .Lt (.sub (.var 2) (.cst (.int 0))) (.sub (.var 3) (.cst (.int 0)))) (.tp [(.nm 2), (.nm 3)]) (.zip (.var 1) (.sli (.var 1) (.cst (.int 1)) (.cst .non))) (.cst (.bl true))
theorem tp_C_has_plan_form_2 (r : MI.Env → Option (RD × MI.Env)) (env : MI.Env) : toP C_has_plan_form_2 r env = (r env).map fun x => (.d x.1.d, x.2) := rfl
def F_has_plan_form : Fn := ⟨[false, false], ["line", "thing"], 4, [.ifs (.boo false [(.nt (.isi (.var 1) .tuple)), (.cmp .Gt (.bi .len [(.var 1)]) (.glo "MOST_PIECES")), (.nt (.bi .all [C_has_plan_form_1]))]) [.ret (.cst (.bl false))] [], .ret (.bi .all [C_has_plan_form_2])]⟩
def F_need_plan : Fn := ⟨[false, false], ["line", "thing"], 2, [.ifs (.nt (.call "has_plan_form" [(.var 0), (.var 1)])) [.stop] []]⟩
def C_pair_clashes_1 : MI.E := .lc [8, 9] (.tup [(.bin .Add (.var 4) (.var 8)), (.var 9)]) (.tp [(.nm 8), (.nm 9)]) (.seq (.call "meets" [(.sub (.var 0) (.var 5)), (.sub (.var 0) (.var 7)), (.bin .Sub (.var 6) (.var 4))])) (.cst (.bl true))
theorem tp_C_pair_clashes_1 (r : MI.Env → Option (RD × MI.Env)) (env : MI.Env) : toP C_pair_clashes_1 r env = (r env).map fun x => (.d x.1.d, x.2) := rfl
def F_pair_clashes : Fn := ⟨[false, false, false, false], ["works", "plan", "first", "second"], 10, [.parT [(.tp [(.nm 4), (.nm 5)]), (.tp [(.nm 6), (.nm 7)])] [(.sub (.var 1) (.var 2)), (.sub (.var 1) (.var 3))], .ret C_pair_clashes_1]⟩
def C_all_clashes_1 : MI.E := .lc [5, 6] (.tup [(.var 5), (.var 6), (.var 4), (.var 3)]) (.tp [(.nm 5), (.nm 6)]) (.seq (.call "pair_clashes" [(.var 0), (.var 1), (.var 4), (.var 3)])) (.cst (.bl true))
theorem tp_C_all_clashes_1 (r : MI.Env → Option (RD × MI.Env)) (env : MI.Env) : toP C_all_clashes_1 r env = (r env).map fun x => (.d x.1.d, x.2) := rfl
def S_all_clashes_1 : MI.S := .for_ (.nm 4) (.rng [(.var 3)]) [.ext 2 C_all_clashes_1]
def S_all_clashes_2 : MI.S := .for_ (.nm 3) (.rng [(.bi .len [(.var 1)])]) [S_all_clashes_1]
def F_all_clashes : Fn := ⟨[false, false], ["works", "plan"], 7, [.asg 2 (.lst []), S_all_clashes_2, .ret (.bi .sorted [(.var 2)])]⟩
def C_law_work01_1 : MI.E := .lc [6] (.ite (.cmp .GtE (.call "_law_draw" [(.var 0), (.cst (.int 3))]) (.var 4)) (.call "_law_draw" [(.var 0), (.var 2)]) (.neg (.cst (.int 1)))) (.nm 6) (.rng [(.var 5)]) (.cst (.bl true))
theorem tp_C_law_work01_1 (r : MI.Env → Option (RD × MI.Env)) (env : MI.Env) : toP C_law_work01_1 r env = (r env).map fun x => (.d x.1.d, x.2) := rfl
def F_law_work01 : Fn := ⟨[true, false, false], ["_law_pen_here", "_law_most", "_law_stations"], 7, [.par [4, 5] [(.call "_law_draw" [(.var 0), (.cst (.int 3))]), (.bin .Add (.cst (.int 1)) (.call "_law_draw" [(.var 0), (.var 1)]))], .asg 3 C_law_work01_1, .set2 3 (.cst (.int 0)) (.call "_law_draw" [(.var 0), (.var 2)]) 3 (.neg (.cst (.int 1))) (.call "_law_draw" [(.var 0), (.var 2)]), .ret (.bi .tuple [(.var 3)])]⟩
def F_clash : Fn := ⟨[false, false], ["line", "plan"], 3, [.expr (.call "need_line" [(.var 0)]), .expr (.call "need_plan" [(.var 0), (.var 1)]), .asg 2 (.call "all_clashes" [(.attr "Line" "own" (.var 0)), (.var 1)]), .ret (.ite (.cmp .Eq (.var 2) (.lst [])) (.cst (.non)) (.sub (.var 2) (.cst (.int 0))))]⟩

variable {P : Prg} {Ca : Addr}
/-! ### lines -/
def btwD (as : List (List Int)) : D := .tup (as.map fun a => .tup (as.map fun b => wk (barsL a b)))
def lineD (Ca : Addr) (as : List (List Int)) : D := .ins Ca ["own", "between"] [.tup (as.map wk), btwD as]
theorem ob_ne : ("own" : Str) ≠ "between" := by decide
theorem attr_own (as : List (List Int)) : attrD (lineD Ca as) "own" = some (.tup (as.map wk)) := rfl
theorem attr_btw (as : List (List Int)) : attrD (lineD Ca as) "between" = some (btwD as) := rfl
theorem insC_line (as : List (List Int)) : insC (lineD Ca as) = some Ca := rfl
theorem isC_line (as : List (List Int)) : isCD (lineD Ca as) Ca = some true := by simp [isCD, lineD]
structure Lines (P : Prg) (Ca : Addr) : Prop where
  w : Works P
  meets : Hs P "meets" F_meets
  bars_of : Hs P "bars_of" F_bars_of
  most : P.glob "MOST_WORKS" = some (.int 3)
  cls : ∃ cl pr, P.cls "Line" = some ⟨Ca, "Line.__init__", ["own", "between"], cl, pr⟩
  init : Hm P "Line.__init__" F_Line___init__
structure IsLine (as : List (List Int)) : Prop where
  len0 : 1 ≤ as.length
  len1 : as.length ≤ 3
  all : ∀ a ∈ as, IsWork a
theorem init_runs (h : Lines P Ca) {n : Nat} (hn : 3 ≤ n) {as : List (List Int)} (ha : IsLine as) : P.calls n "Line.__init__" [.b (.ins Ca [] []), .d (.tup (as.map wk))] = some (.old .non, [lineD Ca as]) := by
  obtain ⟨cl, pr, hc⟩ := h.cls
  have l0 := ha.len0
  have l3 := ha.len1
  have mw := h.w.is_work.md
  have mb := h.bars_of.md
  rw [h.init.eq (by omega)]
  have c1 : evR (P.ctx (n - 1)) C_Line___init___1 [.bor (.ins Ca [] []), .val (.tup (as.map wk)), .un, .un, .un] = some (.new (.lst (List.replicate as.length (.bl true))), [.bor (.ins Ca [] []), .val (.tup (as.map wk)), .un, .un, .un]) := by
    unfold C_Line___init___1
    rw [lc_map (e1 := [.bor (.ins Ca [] []), .val (.tup (as.map wk)), .un, .un, .un]) (ds := as.map wk) (f := fun _ => .bl true) (by simp [runFn, modesOf, argSl, exSs, exS, testOf, toP, evR, evS, evD, evPs, evA, evI, evB, evG, frz, getP, isSet, slotD, itemD, atI, ixN, cmpD, truth, arith, biD, isiD, RD.d, slOf, mutAt, isMut, isL, setAt, appAt, outsOf, argV, sRefs, putBack, reslot, bindT, bindTs, partOf, MI.isNon, sliceD, itemsD, itemsT, isT, setIs, evRs, augD, popOf, wipeable, wipeE, restoreE, wiped, ctx_call, ctx_modes, ctx_glob, ctx_names, ctx_cls, ctx_kws, szOk, lk_eq, mtD, mtK, insC_ins, MI.isObj, isDic, dicAt, dputAt, storeD, lookD, keyD, keysD, insAt, fldAt, fldD, MI.putF, pickK, revD]) (by simp [runFn, modesOf, argSl, exSs, exS, testOf, toP, evR, evS, evD, evPs, evA, evI, evB, evG, frz, getP, isSet, slotD, itemD, atI, ixN, cmpD, truth, arith, biD, isiD, RD.d, slOf, mutAt, isMut, isL, setAt, appAt, outsOf, argV, sRefs, putBack, reslot, bindT, bindTs, partOf, MI.isNon, sliceD, itemsD, itemsT, isT, setIs, evRs, augD, popOf, wipeable, wipeE, restoreE, wiped, ctx_call, ctx_modes, ctx_glob, ctx_names, ctx_cls, ctx_kws, szOk, lk_eq, mtD, mtK, insC_ins, MI.isObj, isDic, dicAt, dputAt, storeD, lookD, keyD, keysD, insAt, fldAt, fldD, MI.putF, pickK, revD]) (by rw [List.length_map]; omega) (fun x hx => by
      obtain ⟨a, ha', rfl⟩ := List.mem_map.mp hx
      have e := isWork_runs h.w (n := n - 1) (by omega) (ha.all a ha')
      exact ⟨[.bor (.ins Ca [] []), .val (.tup (as.map wk)), .un, .val (wk a), .un], .old (.bl true), [.bor (.ins Ca [] []), .val (.tup (as.map wk)), .un, .val (wk a), .un], by simp [runFn, modesOf, argSl, exSs, exS, testOf, toP, evR, evS, evD, evPs, evA, evI, evB, evG, frz, getP, isSet, slotD, itemD, atI, ixN, cmpD, truth, arith, biD, isiD, RD.d, slOf, mutAt, isMut, isL, setAt, appAt, outsOf, argV, sRefs, putBack, reslot, bindT, bindTs, partOf, MI.isNon, sliceD, itemsD, itemsT, isT, setIs, evRs, augD, popOf, wipeable, wipeE, restoreE, wiped, ctx_call, ctx_modes, ctx_glob, ctx_names, ctx_cls, ctx_kws, szOk, lk_eq, mtD, mtK, insC_ins, MI.isObj, isDic, dicAt, dputAt, storeD, lookD, keyD, keysD, insAt, fldAt, fldD, MI.putF, pickK, revD], by simp [runFn, modesOf, argSl, exSs, exS, testOf, toP, evR, evS, evD, evPs, evA, evI, evB, evG, frz, getP, isSet, slotD, itemD, atI, ixN, cmpD, truth, arith, biD, isiD, RD.d, slOf, mutAt, isMut, isL, setAt, appAt, outsOf, argV, sRefs, putBack, reslot, bindT, bindTs, partOf, MI.isNon, sliceD, itemsD, itemsT, isT, setIs, evRs, augD, popOf, wipeable, wipeE, restoreE, wiped, ctx_call, ctx_modes, ctx_glob, ctx_names, ctx_cls, ctx_kws, szOk, lk_eq, mtD, mtK, insC_ins, MI.isObj, isDic, dicAt, dputAt, storeD, lookD, keyD, keysD, insAt, fldAt, fldD, MI.putF, pickK, revD, mw, F_is_work, e], by simp [runFn, modesOf, argSl, exSs, exS, testOf, toP, evR, evS, evD, evPs, evA, evI, evB, evG, frz, getP, isSet, slotD, itemD, atI, ixN, cmpD, truth, arith, biD, isiD, RD.d, slOf, mutAt, isMut, isL, setAt, appAt, outsOf, argV, sRefs, putBack, reslot, bindT, bindTs, partOf, MI.isNon, sliceD, itemsD, itemsT, isT, setIs, evRs, augD, popOf, wipeable, wipeE, restoreE, wiped, ctx_call, ctx_modes, ctx_glob, ctx_names, ctx_cls, ctx_kws, szOk, lk_eq, mtD, mtK, insC_ins, MI.isObj, isDic, dicAt, dputAt, storeD, lookD, keyD, keysD, insAt, fldAt, fldD, MI.putF, pickK, revD], by simp [runFn, modesOf, argSl, exSs, exS, testOf, toP, evR, evS, evD, evPs, evA, evI, evB, evG, frz, getP, isSet, slotD, itemD, atI, ixN, cmpD, truth, arith, biD, isiD, RD.d, slOf, mutAt, isMut, isL, setAt, appAt, outsOf, argV, sRefs, putBack, reslot, bindT, bindTs, partOf, MI.isNon, sliceD, itemsD, itemsT, isT, setIs, evRs, augD, popOf, wipeable, wipeE, restoreE, wiped, ctx_call, ctx_modes, ctx_glob, ctx_names, ctx_cls, ctx_kws, szOk, lk_eq, mtD, mtK, insC_ins, MI.isObj, isDic, dicAt, dputAt, storeD, lookD, keyD, keysD, insAt, fldAt, fldD, MI.putF, pickK, revD], rfl⟩), map_yes]
    simp [runFn, modesOf, argSl, exSs, exS, testOf, toP, evR, evS, evD, evPs, evA, evI, evB, evG, frz, getP, isSet, slotD, itemD, atI, ixN, cmpD, truth, arith, biD, isiD, RD.d, slOf, mutAt, isMut, isL, setAt, appAt, outsOf, argV, sRefs, putBack, reslot, bindT, bindTs, partOf, MI.isNon, sliceD, itemsD, itemsT, isT, setIs, evRs, augD, popOf, wipeable, wipeE, restoreE, wiped, ctx_call, ctx_modes, ctx_glob, ctx_names, ctx_cls, ctx_kws, szOk, lk_eq, mtD, mtK, insC_ins, MI.isObj, isDic, dicAt, dputAt, storeD, lookD, keyD, keysD, insAt, fldAt, fldD, MI.putF, pickK, revD]
  have c3 : evR (P.ctx (n - 1)) C_Line___init___3 [.bor (.ins Ca ["own"] [.tup (as.map wk)]), .val (.tup (as.map wk)), .un, .un, .un] = some (.new (.lst (as.map fun a => .tup (as.map fun b => wk (barsL a b)))), [.bor (.ins Ca ["own"] [.tup (as.map wk)]), .val (.tup (as.map wk)), .un, .un, .un]) := by
    unfold C_Line___init___3
    have := lc_map (C := P.ctx (n - 1)) (own := [2]) (elt := .bi .tuple [C_Line___init___2]) (t := .nm 2) (it := .seq (.var 1)) (env := [.bor (.ins Ca ["own"] [.tup (as.map wk)]), .val (.tup (as.map wk)), .un, .un, .un]) (e1 := [.bor (.ins Ca ["own"] [.tup (as.map wk)]), .val (.tup (as.map wk)), .un, .un, .un]) (ds := as.map wk) (f := fun d => match d with | .tup xs => .tup (as.map fun b => wk (barsL ((intsOf xs).getD []) b)) | d => d) (by simp [runFn, modesOf, argSl, exSs, exS, testOf, toP, evR, evS, evD, evPs, evA, evI, evB, evG, frz, getP, isSet, slotD, itemD, atI, ixN, cmpD, truth, arith, biD, isiD, RD.d, slOf, mutAt, isMut, isL, setAt, appAt, outsOf, argV, sRefs, putBack, reslot, bindT, bindTs, partOf, MI.isNon, sliceD, itemsD, itemsT, isT, setIs, evRs, augD, popOf, wipeable, wipeE, restoreE, wiped, ctx_call, ctx_modes, ctx_glob, ctx_names, ctx_cls, ctx_kws, szOk, lk_eq, mtD, mtK, insC_ins, MI.isObj, isDic, dicAt, dputAt, storeD, lookD, keyD, keysD, insAt, fldAt, fldD, MI.putF, pickK, revD]) (by simp [runFn, modesOf, argSl, exSs, exS, testOf, toP, evR, evS, evD, evPs, evA, evI, evB, evG, frz, getP, isSet, slotD, itemD, atI, ixN, cmpD, truth, arith, biD, isiD, RD.d, slOf, mutAt, isMut, isL, setAt, appAt, outsOf, argV, sRefs, putBack, reslot, bindT, bindTs, partOf, MI.isNon, sliceD, itemsD, itemsT, isT, setIs, evRs, augD, popOf, wipeable, wipeE, restoreE, wiped, ctx_call, ctx_modes, ctx_glob, ctx_names, ctx_cls, ctx_kws, szOk, lk_eq, mtD, mtK, insC_ins, MI.isObj, isDic, dicAt, dputAt, storeD, lookD, keyD, keysD, insAt, fldAt, fldD, MI.putF, pickK, revD]) (by rw [List.length_map]; omega) (fun x hx => by
      obtain ⟨a, ha', rfl⟩ := List.mem_map.mp hx
      have wa := ha.all a ha'
      have c2 : evR (P.ctx (n - 1)) C_Line___init___2 [.bor (.ins Ca ["own"] [.tup (as.map wk)]), .val (.tup (as.map wk)), .val (wk a), .un, .un] = some (.new (.lst (as.map fun b => wk (barsL a b))), [.bor (.ins Ca ["own"] [.tup (as.map wk)]), .val (.tup (as.map wk)), .val (wk a), .un, .un]) := by
        unfold C_Line___init___2
        rw [lc_map (e1 := [.bor (.ins Ca ["own"] [.tup (as.map wk)]), .val (.tup (as.map wk)), .val (wk a), .un, .un]) (ds := as.map wk) (f := fun d => match d with | .tup xs => wk (barsL a ((intsOf xs).getD [])) | d => d) (by simp [runFn, modesOf, argSl, exSs, exS, testOf, toP, evR, evS, evD, evPs, evA, evI, evB, evG, frz, getP, isSet, slotD, itemD, atI, ixN, cmpD, truth, arith, biD, isiD, RD.d, slOf, mutAt, isMut, isL, setAt, appAt, outsOf, argV, sRefs, putBack, reslot, bindT, bindTs, partOf, MI.isNon, sliceD, itemsD, itemsT, isT, setIs, evRs, augD, popOf, wipeable, wipeE, restoreE, wiped, ctx_call, ctx_modes, ctx_glob, ctx_names, ctx_cls, ctx_kws, szOk, lk_eq, mtD, mtK, insC_ins, MI.isObj, isDic, dicAt, dputAt, storeD, lookD, keyD, keysD, insAt, fldAt, fldD, MI.putF, pickK, revD]) (by simp [runFn, modesOf, argSl, exSs, exS, testOf, toP, evR, evS, evD, evPs, evA, evI, evB, evG, frz, getP, isSet, slotD, itemD, atI, ixN, cmpD, truth, arith, biD, isiD, RD.d, slOf, mutAt, isMut, isL, setAt, appAt, outsOf, argV, sRefs, putBack, reslot, bindT, bindTs, partOf, MI.isNon, sliceD, itemsD, itemsT, isT, setIs, evRs, augD, popOf, wipeable, wipeE, restoreE, wiped, ctx_call, ctx_modes, ctx_glob, ctx_names, ctx_cls, ctx_kws, szOk, lk_eq, mtD, mtK, insC_ins, MI.isObj, isDic, dicAt, dputAt, storeD, lookD, keyD, keysD, insAt, fldAt, fldD, MI.putF, pickK, revD]) (by rw [List.length_map]; omega) (fun y hy => by
          obtain ⟨b, hb, rfl⟩ := List.mem_map.mp hy
          have wb := ha.all b hb
          have e := bars_runs h.meets h.bars_of h.w.nowhere (n := n - 1) (by omega) (a := a) (b := b) (by have := wa.len1; omega) (by have := wb.len1; omega)
          refine ⟨[.bor (.ins Ca ["own"] [.tup (as.map wk)]), .val (.tup (as.map wk)), .val (wk a), .un, .val (wk b)], .old (wk (barsL a b)), [.bor (.ins Ca ["own"] [.tup (as.map wk)]), .val (.tup (as.map wk)), .val (wk a), .un, .val (wk b)], by simp [runFn, modesOf, argSl, exSs, exS, testOf, toP, evR, evS, evD, evPs, evA, evI, evB, evG, frz, getP, isSet, slotD, itemD, atI, ixN, cmpD, truth, arith, biD, isiD, RD.d, slOf, mutAt, isMut, isL, setAt, appAt, outsOf, argV, sRefs, putBack, reslot, bindT, bindTs, partOf, MI.isNon, sliceD, itemsD, itemsT, isT, setIs, evRs, augD, popOf, wipeable, wipeE, restoreE, wiped, ctx_call, ctx_modes, ctx_glob, ctx_names, ctx_cls, ctx_kws, szOk, lk_eq, mtD, mtK, insC_ins, MI.isObj, isDic, dicAt, dputAt, storeD, lookD, keyD, keysD, insAt, fldAt, fldD, MI.putF, pickK, revD], by simp [runFn, modesOf, argSl, exSs, exS, testOf, toP, evR, evS, evD, evPs, evA, evI, evB, evG, frz, getP, isSet, slotD, itemD, atI, ixN, cmpD, truth, arith, biD, isiD, RD.d, slOf, mutAt, isMut, isL, setAt, appAt, outsOf, argV, sRefs, putBack, reslot, bindT, bindTs, partOf, MI.isNon, sliceD, itemsD, itemsT, isT, setIs, evRs, augD, popOf, wipeable, wipeE, restoreE, wiped, ctx_call, ctx_modes, ctx_glob, ctx_names, ctx_cls, ctx_kws, szOk, lk_eq, mtD, mtK, insC_ins, MI.isObj, isDic, dicAt, dputAt, storeD, lookD, keyD, keysD, insAt, fldAt, fldD, MI.putF, pickK, revD, mb, F_bars_of, e], by simp [runFn, modesOf, argSl, exSs, exS, testOf, toP, evR, evS, evD, evPs, evA, evI, evB, evG, frz, getP, isSet, slotD, itemD, atI, ixN, cmpD, truth, arith, biD, isiD, RD.d, slOf, mutAt, isMut, isL, setAt, appAt, outsOf, argV, sRefs, putBack, reslot, bindT, bindTs, partOf, MI.isNon, sliceD, itemsD, itemsT, isT, setIs, evRs, augD, popOf, wipeable, wipeE, restoreE, wiped, ctx_call, ctx_modes, ctx_glob, ctx_names, ctx_cls, ctx_kws, szOk, lk_eq, mtD, mtK, insC_ins, MI.isObj, isDic, dicAt, dputAt, storeD, lookD, keyD, keysD, insAt, fldAt, fldD, MI.putF, pickK, revD], by simp [runFn, modesOf, argSl, exSs, exS, testOf, toP, evR, evS, evD, evPs, evA, evI, evB, evG, frz, getP, isSet, slotD, itemD, atI, ixN, cmpD, truth, arith, biD, isiD, RD.d, slOf, mutAt, isMut, isL, setAt, appAt, outsOf, argV, sRefs, putBack, reslot, bindT, bindTs, partOf, MI.isNon, sliceD, itemsD, itemsT, isT, setIs, evRs, augD, popOf, wipeable, wipeE, restoreE, wiped, ctx_call, ctx_modes, ctx_glob, ctx_names, ctx_cls, ctx_kws, szOk, lk_eq, mtD, mtK, insC_ins, MI.isObj, isDic, dicAt, dputAt, storeD, lookD, keyD, keysD, insAt, fldAt, fldD, MI.putF, pickK, revD], ?_⟩
          simp [RD.d, wk, intsOf_map])]
        rw [List.map_map]
        have : ((fun d => match d with | .tup xs => wk (barsL a ((intsOf xs).getD [])) | d => d) ∘ wk) = fun b => wk (barsL a b) := by
          funext b
          simp [wk, intsOf_map]
        rw [this]
        simp [runFn, modesOf, argSl, exSs, exS, testOf, toP, evR, evS, evD, evPs, evA, evI, evB, evG, frz, getP, isSet, slotD, itemD, atI, ixN, cmpD, truth, arith, biD, isiD, RD.d, slOf, mutAt, isMut, isL, setAt, appAt, outsOf, argV, sRefs, putBack, reslot, bindT, bindTs, partOf, MI.isNon, sliceD, itemsD, itemsT, isT, setIs, evRs, augD, popOf, wipeable, wipeE, restoreE, wiped, ctx_call, ctx_modes, ctx_glob, ctx_names, ctx_cls, ctx_kws, szOk, lk_eq, mtD, mtK, insC_ins, MI.isObj, isDic, dicAt, dputAt, storeD, lookD, keyD, keysD, insAt, fldAt, fldD, MI.putF, pickK, revD]
      refine ⟨[.bor (.ins Ca ["own"] [.tup (as.map wk)]), .val (.tup (as.map wk)), .val (wk a), .un, .un], .old (.tup (as.map fun b => wk (barsL a b))), [.bor (.ins Ca ["own"] [.tup (as.map wk)]), .val (.tup (as.map wk)), .val (wk a), .un, .un], by simp [runFn, modesOf, argSl, exSs, exS, testOf, toP, evR, evS, evD, evPs, evA, evI, evB, evG, frz, getP, isSet, slotD, itemD, atI, ixN, cmpD, truth, arith, biD, isiD, RD.d, slOf, mutAt, isMut, isL, setAt, appAt, outsOf, argV, sRefs, putBack, reslot, bindT, bindTs, partOf, MI.isNon, sliceD, itemsD, itemsT, isT, setIs, evRs, augD, popOf, wipeable, wipeE, restoreE, wiped, ctx_call, ctx_modes, ctx_glob, ctx_names, ctx_cls, ctx_kws, szOk, lk_eq, mtD, mtK, insC_ins, MI.isObj, isDic, dicAt, dputAt, storeD, lookD, keyD, keysD, insAt, fldAt, fldD, MI.putF, pickK, revD], by simp [runFn, modesOf, argSl, exSs, exS, testOf, toP, evR, evS, evD, evPs, evA, evI, evB, evG, frz, getP, isSet, slotD, itemD, atI, ixN, cmpD, truth, arith, biD, isiD, RD.d, slOf, mutAt, isMut, isL, setAt, appAt, outsOf, argV, sRefs, putBack, reslot, bindT, bindTs, partOf, MI.isNon, sliceD, itemsD, itemsT, isT, setIs, evRs, augD, popOf, wipeable, wipeE, restoreE, wiped, ctx_call, ctx_modes, ctx_glob, ctx_names, ctx_cls, ctx_kws, szOk, lk_eq, mtD, mtK, insC_ins, MI.isObj, isDic, dicAt, dputAt, storeD, lookD, keyD, keysD, insAt, fldAt, fldD, MI.putF, pickK, revD, ↓tp_C_Line___init___2, c2], by simp [runFn, modesOf, argSl, exSs, exS, testOf, toP, evR, evS, evD, evPs, evA, evI, evB, evG, frz, getP, isSet, slotD, itemD, atI, ixN, cmpD, truth, arith, biD, isiD, RD.d, slOf, mutAt, isMut, isL, setAt, appAt, outsOf, argV, sRefs, putBack, reslot, bindT, bindTs, partOf, MI.isNon, sliceD, itemsD, itemsT, isT, setIs, evRs, augD, popOf, wipeable, wipeE, restoreE, wiped, ctx_call, ctx_modes, ctx_glob, ctx_names, ctx_cls, ctx_kws, szOk, lk_eq, mtD, mtK, insC_ins, MI.isObj, isDic, dicAt, dputAt, storeD, lookD, keyD, keysD, insAt, fldAt, fldD, MI.putF, pickK, revD], by simp [runFn, modesOf, argSl, exSs, exS, testOf, toP, evR, evS, evD, evPs, evA, evI, evB, evG, frz, getP, isSet, slotD, itemD, atI, ixN, cmpD, truth, arith, biD, isiD, RD.d, slOf, mutAt, isMut, isL, setAt, appAt, outsOf, argV, sRefs, putBack, reslot, bindT, bindTs, partOf, MI.isNon, sliceD, itemsD, itemsT, isT, setIs, evRs, augD, popOf, wipeable, wipeE, restoreE, wiped, ctx_call, ctx_modes, ctx_glob, ctx_names, ctx_cls, ctx_kws, szOk, lk_eq, mtD, mtK, insC_ins, MI.isObj, isDic, dicAt, dputAt, storeD, lookD, keyD, keysD, insAt, fldAt, fldD, MI.putF, pickK, revD], ?_⟩
      simp [RD.d, wk, intsOf_map])
    rw [this, List.map_map]
    have : ((fun d => match d with | .tup xs => D.tup (as.map fun b => wk (barsL ((intsOf xs).getD []) b)) | d => d) ∘ wk) = fun a => .tup (as.map fun b => wk (barsL a b)) := by
      funext b
      simp [wk, intsOf_map]
    rw [this]
    simp [runFn, modesOf, argSl, exSs, exS, testOf, toP, evR, evS, evD, evPs, evA, evI, evB, evG, frz, getP, isSet, slotD, itemD, atI, ixN, cmpD, truth, arith, biD, isiD, RD.d, slOf, mutAt, isMut, isL, setAt, appAt, outsOf, argV, sRefs, putBack, reslot, bindT, bindTs, partOf, MI.isNon, sliceD, itemsD, itemsT, isT, setIs, evRs, augD, popOf, wipeable, wipeE, restoreE, wiped, ctx_call, ctx_modes, ctx_glob, ctx_names, ctx_cls, ctx_kws, szOk, lk_eq, mtD, mtK, insC_ins, MI.isObj, isDic, dicAt, dputAt, storeD, lookD, keyD, keysD, insAt, fldAt, fldD, MI.putF, pickK, revD]
  have z0 : ¬ ((as.length : Nat) : Int) = 0 := by omega
  have z0' : as ≠ [] := fun z => by rw [z] at l0; cases l0
  have z3 : ¬ (3 : Int) < ((as.length : Nat) : Int) := by omega
  have hob := ob_ne
  refine run_nx (env := [.bor (.ins Ca [] []), .val (.tup (as.map wk)), .un, .un, .un]) (e := [.bor (lineD Ca as), .val (.tup (as.map wk)), .un, .un, .un]) rfl rfl ?_ rfl
  refine sq (e := [.bor (.ins Ca [] []), .val (.tup (as.map wk)), .un, .un, .un]) (if_no (e := [.bor (.ins Ca [] []), .val (.tup (as.map wk)), .un, .un, .un]) ?_ sn) ?_
  · simp [runFn, modesOf, argSl, exSs, exS, testOf, toP, evR, evS, evD, evPs, evA, evI, evB, evG, frz, getP, isSet, slotD, itemD, atI, ixN, cmpD, truth, arith, biD, isiD, RD.d, slOf, mutAt, isMut, isL, setAt, appAt, outsOf, argV, sRefs, putBack, reslot, bindT, bindTs, partOf, MI.isNon, sliceD, itemsD, itemsT, isT, setIs, evRs, augD, popOf, wipeable, wipeE, restoreE, wiped, ctx_call, ctx_modes, ctx_glob, ctx_names, ctx_cls, ctx_kws, szOk, lk_eq, mtD, mtK, insC_ins, MI.isObj, isDic, dicAt, dputAt, storeD, lookD, keyD, keysD, insAt, fldAt, fldD, MI.putF, pickK, revD, z0', ↓tp_C_Line___init___1, c1, bools_yes]
  refine sq (e := [.bor (.ins Ca [] []), .val (.tup (as.map wk)), .un, .un, .un]) (if_no (e := [.bor (.ins Ca [] []), .val (.tup (as.map wk)), .un, .un, .un]) ?_ sn) ?_
  · simp [runFn, modesOf, argSl, exSs, exS, testOf, toP, evR, evS, evD, evPs, evA, evI, evB, evG, frz, getP, isSet, slotD, itemD, atI, ixN, cmpD, truth, arith, biD, isiD, RD.d, slOf, mutAt, isMut, isL, setAt, appAt, outsOf, argV, sRefs, putBack, reslot, bindT, bindTs, partOf, MI.isNon, sliceD, itemsD, itemsT, isT, setIs, evRs, augD, popOf, wipeable, wipeE, restoreE, wiped, ctx_call, ctx_modes, ctx_glob, ctx_names, ctx_cls, ctx_kws, szOk, lk_eq, mtD, mtK, insC_ins, MI.isObj, isDic, dicAt, dputAt, storeD, lookD, keyD, keysD, insAt, fldAt, fldD, MI.putF, pickK, revD, h.most, z3]
  refine sq (e := [.bor (.ins Ca ["own"] [.tup (as.map wk)]), .val (.tup (as.map wk)), .un, .un, .un]) ?_ (sq (e := [.bor (lineD Ca as), .val (.tup (as.map wk)), .un, .un, .un]) ?_ sn)
  · simp [runFn, modesOf, argSl, exSs, exS, testOf, toP, evR, evS, evD, evPs, evA, evI, evB, evG, frz, getP, isSet, slotD, itemD, atI, ixN, cmpD, truth, arith, biD, isiD, RD.d, slOf, mutAt, isMut, isL, setAt, appAt, outsOf, argV, sRefs, putBack, reslot, bindT, bindTs, partOf, MI.isNon, sliceD, itemsD, itemsT, isT, setIs, evRs, augD, popOf, wipeable, wipeE, restoreE, wiped, ctx_call, ctx_modes, ctx_glob, ctx_names, ctx_cls, ctx_kws, szOk, lk_eq, mtD, mtK, insC_ins, MI.isObj, isDic, dicAt, dputAt, storeD, lookD, keyD, keysD, insAt, fldAt, fldD, MI.putF, pickK, revD, hc]
  · simp [runFn, modesOf, argSl, exSs, exS, testOf, toP, evR, evS, evD, evPs, evA, evI, evB, evG, frz, getP, isSet, slotD, itemD, atI, ixN, cmpD, truth, arith, biD, isiD, RD.d, slOf, mutAt, isMut, isL, setAt, appAt, outsOf, argV, sRefs, putBack, reslot, bindT, bindTs, partOf, MI.isNon, sliceD, itemsD, itemsT, isT, setIs, evRs, augD, popOf, wipeable, wipeE, restoreE, wiped, ctx_call, ctx_modes, ctx_glob, ctx_names, ctx_cls, ctx_kws, szOk, lk_eq, mtD, mtK, insC_ins, MI.isObj, isDic, dicAt, dputAt, storeD, lookD, keyD, keysD, insAt, fldAt, fldD, MI.putF, pickK, revD, hc, ↓tp_C_Line___init___3, c3, hob, lineD, btwD]
structure LineCalls (P : Prg) (Ca : Addr) : Prop where
  l : Lines P Ca
  is_kind : Hs P "is_kind" F_is_kind
  need_kind : Hs P "need_kind" F_need_kind
theorem isKind_runs (hl : Lines P Ca) (hk : Hs P "is_kind" F_is_kind) {n : Nat} (hn : 2 ≤ n) {as : List (List Int)} (k : Int) : P.calls n "is_kind" [.d (lineD Ca as), .d (.int k)] = some (.old (.bl (decide (0 ≤ k ∧ k ≤ as.length - 1))), []) := by
  obtain ⟨cl, pr, hc⟩ := hl.cls
  have e := between_runs hl.w.is_between (n := n - 1) (by omega) (i := k) (a := 0) (b := as.length - 1)
  have md := hl.w.is_between.md
  rw [hk.eq (by omega)]
  simp [F_is_kind, F_is_between, runFn, modesOf, argSl, exSs, exS, testOf, toP, evR, evS, evD, evPs, evA, evI, evB, evG, frz, getP, isSet, slotD, itemD, atI, ixN, cmpD, truth, arith, biD, isiD, RD.d, slOf, mutAt, isMut, isL, setAt, appAt, outsOf, argV, sRefs, putBack, reslot, bindT, bindTs, partOf, MI.isNon, sliceD, itemsD, itemsT, isT, setIs, evRs, augD, popOf, wipeable, wipeE, restoreE, wiped, ctx_call, ctx_modes, ctx_glob, ctx_names, ctx_cls, ctx_kws, szOk, lk_eq, mtD, mtK, insC_ins, MI.isObj, isDic, dicAt, dputAt, storeD, lookD, keyD, keysD, insAt, fldAt, fldD, MI.putF, pickK, revD, hc, insC_line, attr_own, md, e]
theorem needKind_runs (h : LineCalls P Ca) {n : Nat} (hn : 3 ≤ n) {as : List (List Int)} {k : Nat} (hk : k < as.length) : P.calls n "need_kind" [.d (lineD Ca as), .d (.int k)] = some (.old .non, []) := by
  have e := isKind_runs h.l h.is_kind (n := n - 1) (by omega) (as := as) k
  have md := h.is_kind.md
  rw [decide_eq_true (by omega)] at e
  rw [h.need_kind.eq (by omega)]
  simp [F_need_kind, F_is_kind, runFn, modesOf, argSl, exSs, exS, testOf, toP, evR, evS, evD, evPs, evA, evI, evB, evG, frz, getP, isSet, slotD, itemD, atI, ixN, cmpD, truth, arith, biD, isiD, RD.d, slOf, mutAt, isMut, isL, setAt, appAt, outsOf, argV, sRefs, putBack, reslot, bindT, bindTs, partOf, MI.isNon, sliceD, itemsD, itemsT, isT, setIs, evRs, augD, popOf, wipeable, wipeE, restoreE, wiped, ctx_call, ctx_modes, ctx_glob, ctx_names, ctx_cls, ctx_kws, szOk, lk_eq, mtD, mtK, insC_ins, MI.isObj, isDic, dicAt, dputAt, storeD, lookD, keyD, keysD, insAt, fldAt, fldD, MI.putF, pickK, revD, md, e]
theorem needLine_runs (h : Hs P "need_line" F_need_line) (hl : Lines P Ca) {n : Nat} (hn : 1 ≤ n) {as : List (List Int)} : P.calls n "need_line" [.d (lineD Ca as)] = some (.old .non, []) := by
  obtain ⟨cl, pr, hc⟩ := hl.cls
  rw [h.eq (by omega)]
  simp [F_need_line, runFn, modesOf, argSl, exSs, exS, testOf, toP, evR, evS, evD, evPs, evA, evI, evB, evG, frz, getP, isSet, slotD, itemD, atI, ixN, cmpD, truth, arith, biD, isiD, RD.d, slOf, mutAt, isMut, isL, setAt, appAt, outsOf, argV, sRefs, putBack, reslot, bindT, bindTs, partOf, MI.isNon, sliceD, itemsD, itemsT, isT, setIs, evRs, augD, popOf, wipeable, wipeE, restoreE, wiped, ctx_call, ctx_modes, ctx_glob, ctx_names, ctx_cls, ctx_kws, szOk, lk_eq, mtD, mtK, insC_ins, MI.isObj, isDic, dicAt, dputAt, storeD, lookD, keyD, keysD, insAt, fldAt, fldD, MI.putF, pickK, revD, hc, isC_line]
theorem atI_nat {α : Type} {l : List α} {k : Nat} {x : α} (h : l[k]? = some x) : atI l (k : Int) = some x := by
  have hk := (List.getElem?_eq_some_iff.mp h).1
  unfold atI ixN
  rw [if_pos (by omega), if_pos (by omega), Option.bind_some, Int.toNat_natCast, h]
theorem callO_runs (h : LineCalls P Ca) (h2 : Hm P "Line.__call__" F_Line___call__) {n : Nat} (hn : 4 ≤ n) {as : List (List Int)} {i j : Nat} {a b : List Int} (hi : as[i]? = some a) (hj : as[j]? = some b) : P.calls n "Line.__call__" [.d (lineD Ca as), .d (.int i), .d (.int j)] = some (.old (wk (barsL a b)), []) := by
  obtain ⟨cl, pr, hc⟩ := h.l.cls
  have e1 := needKind_runs h (n := n - 1) (by omega) (List.getElem?_eq_some_iff.mp hi).1
  have e2 := needKind_runs h (n := n - 1) (by omega) (List.getElem?_eq_some_iff.mp hj).1
  have md := h.need_kind.md
  have a1 : atI (as.map fun a => D.tup (as.map fun b => wk (barsL a b))) (i : Int) = some (D.tup (as.map fun b => wk (barsL a b))) := atI_nat (by rw [List.getElem?_map, hi]; rfl)
  have a2 : atI (as.map fun b => wk (barsL a b)) (j : Int) = some (wk (barsL a b)) := atI_nat (by rw [List.getElem?_map, hj]; rfl)
  rw [h2.eq (by omega)]
  simp [F_Line___call__, F_need_kind, runFn, modesOf, argSl, exSs, exS, testOf, toP, evR, evS, evD, evPs, evA, evI, evB, evG, frz, getP, isSet, slotD, itemD, cmpD, truth, arith, biD, isiD, RD.d, slOf, mutAt, isMut, isL, setAt, appAt, outsOf, argV, sRefs, putBack, reslot, bindT, bindTs, partOf, MI.isNon, sliceD, itemsD, itemsT, isT, setIs, evRs, augD, popOf, wipeable, wipeE, restoreE, wiped, ctx_call, ctx_modes, ctx_glob, ctx_names, ctx_cls, ctx_kws, szOk, lk_eq, mtD, mtK, insC_ins, MI.isObj, isDic, dicAt, dputAt, storeD, lookD, keyD, keysD, insAt, fldAt, fldD, MI.putF, pickK, revD, hc, insC_line, attr_btw, md, e1, e2, btwD, a1, a2]
/-! ### the works of the laws k01 to k19 -/
theorem work01_runs (hd : Hs P "_law_draw" F_law_draw) (h : Hs P "_law_work" F_law_work01) {n : Nat} (hn : 2 ≤ n) {xs : D} (px : isPen xs) {most st : Int} (hm : 1 ≤ most) (hm2 : most ≤ 60) (hs : 1 ≤ st) (hs2 : st ≤ 10) :
    ∃ a xs', P.calls n "_law_work" [.b xs, .d (.int most), .d (.int st)] = some (.old (wk a), [xs']) ∧ isPen xs' ∧ IsWork a ∧ (a.length : Int) ≤ most ∧ ∀ i ∈ a, i < st := by
  obtain ⟨w, x1, e1, p1, w0, w1⟩ := draw_runs hd (n := n - 1) (by omega) px (m := 3) (by omega) (by omega)
  obtain ⟨l, x2, e2, p2, l0, l1⟩ := draw_runs hd (n := n - 1) (by omega) p1 (m := most) (by omega) (by omega)
  have md := hd.md
  have er := rng_n (n := 1 + l) (by omega) (by omega)
  rw [rgD_eq] at er
  obtain ⟨ys, e', hx, ⟨x3, rfl, p3⟩, hl, hall⟩ : ∃ ys e', evR (P.ctx (n - 1)) C_law_work01_1 [.bor x2, .val (.int most), .val (.int st), .un, .val (.int w), .val (.int (1 + l)), .un] = some (.new (.lst ys), restoreE [.bor x2, .val (.int most), .val (.int st), .un, .val (.int w), .val (.int (1 + l)), .un] e' [6]) ∧ (∃ x, e' = [.bor x, .val (.int most), .val (.int st), .un, .val (.int w), .val (.int (1 + l)), .un] ∧ isPen x) ∧ ys.length = ((rgI 0 (1 + l)).map D.int).length ∧ ∀ y ∈ ys, ∃ i : Int, y = .int i ∧ -1 ≤ i ∧ i < st := by
    unfold C_law_work01_1
    refine lc_inv (e1 := [.bor x2, .val (.int most), .val (.int st), .un, .val (.int w), .val (.int (1 + l)), .un]) (ds := (rgI 0 (1 + l)).map .int) (J := fun _ e' => ∃ x, e' = [.bor x, .val (.int most), .val (.int st), .un, .val (.int w), .val (.int (1 + l)), .un] ∧ isPen x) (Q := fun y => ∃ i : Int, y = .int i ∧ -1 ≤ i ∧ i < st) (by simp [runFn, modesOf, argSl, exSs, exS, testOf, toP, evR, evS, evD, evPs, evA, evI, evB, evG, frz, getP, isSet, slotD, itemD, atI, ixN, cmpD, truth, arith, biD, isiD, RD.d, slOf, mutAt, isMut, isL, setAt, appAt, outsOf, argV, sRefs, putBack, reslot, bindT, bindTs, partOf, MI.isNon, sliceD, itemsD, itemsT, isT, setIs, evRs, augD, popOf, wipeable, wipeE, restoreE, wiped, ctx_call, ctx_modes, ctx_glob, ctx_names, ctx_cls, ctx_kws, szOk, lk_eq, mtD, mtK, insC_ins, MI.isObj, isDic, dicAt, dputAt, storeD, lookD, keyD, keysD, insAt, fldAt, fldD, MI.putF, pickK, revD, er]) (by simp [runFn, modesOf, argSl, exSs, exS, testOf, toP, evR, evS, evD, evPs, evA, evI, evB, evG, frz, getP, isSet, slotD, itemD, atI, ixN, cmpD, truth, arith, biD, isiD, RD.d, slOf, mutAt, isMut, isL, setAt, appAt, outsOf, argV, sRefs, putBack, reslot, bindT, bindTs, partOf, MI.isNon, sliceD, itemsD, itemsT, isT, setIs, evRs, augD, popOf, wipeable, wipeE, restoreE, wiped, ctx_call, ctx_modes, ctx_glob, ctx_names, ctx_cls, ctx_kws, szOk, lk_eq, mtD, mtK, insC_ins, MI.isObj, isDic, dicAt, dputAt, storeD, lookD, keyD, keysD, insAt, fldAt, fldD, MI.putF, pickK, revD]) (by rw [List.length_map, rgI_len]; omega) ⟨x2, by simp [runFn, modesOf, argSl, exSs, exS, testOf, toP, evR, evS, evD, evPs, evA, evI, evB, evG, frz, getP, isSet, slotD, itemD, atI, ixN, cmpD, truth, arith, biD, isiD, RD.d, slOf, mutAt, isMut, isL, setAt, appAt, outsOf, argV, sRefs, putBack, reslot, bindT, bindTs, partOf, MI.isNon, sliceD, itemsD, itemsT, isT, setIs, evRs, augD, popOf, wipeable, wipeE, restoreE, wiped, ctx_call, ctx_modes, ctx_glob, ctx_names, ctx_cls, ctx_kws, szOk, lk_eq, mtD, mtK, insC_ins, MI.isObj, isDic, dicAt, dputAt, storeD, lookD, keyD, keysD, insAt, fldAt, fldD, MI.putF, pickK, revD], p2⟩ ?_
    intro i d e hdd ⟨x, he, hx⟩
    subst he
    obtain ⟨r1, y1, f1, q1, r10, r11⟩ := draw_runs hd (n := n - 1) (by omega) hx (m := 3) (by omega) (by omega)
    by_cases hr : w ≤ r1
    · obtain ⟨r2, y2, f2, q2, r20, r21⟩ := draw_runs hd (n := n - 1) (by omega) q1 (m := st) (by omega) (by omega)
      exact ⟨[.bor x, .val (.int most), .val (.int st), .un, .val (.int w), .val (.int (1 + l)), .val d], .old (.int r2), [.bor y2, .val (.int most), .val (.int st), .un, .val (.int w), .val (.int (1 + l)), .val d], by simp [runFn, modesOf, argSl, exSs, exS, testOf, toP, evR, evS, evD, evPs, evA, evI, evB, evG, frz, getP, isSet, slotD, itemD, atI, ixN, cmpD, truth, arith, biD, isiD, RD.d, slOf, mutAt, isMut, isL, setAt, appAt, outsOf, argV, sRefs, putBack, reslot, bindT, bindTs, partOf, MI.isNon, sliceD, itemsD, itemsT, isT, setIs, evRs, augD, popOf, wipeable, wipeE, restoreE, wiped, ctx_call, ctx_modes, ctx_glob, ctx_names, ctx_cls, ctx_kws, szOk, lk_eq, mtD, mtK, insC_ins, MI.isObj, isDic, dicAt, dputAt, storeD, lookD, keyD, keysD, insAt, fldAt, fldD, MI.putF, pickK, revD], by simp [runFn, modesOf, argSl, exSs, exS, testOf, toP, evR, evS, evD, evPs, evA, evI, evB, evG, frz, getP, isSet, slotD, itemD, atI, ixN, cmpD, truth, arith, biD, isiD, RD.d, slOf, mutAt, isMut, isL, setAt, appAt, outsOf, argV, sRefs, putBack, reslot, bindT, bindTs, partOf, MI.isNon, sliceD, itemsD, itemsT, isT, setIs, evRs, augD, popOf, wipeable, wipeE, restoreE, wiped, ctx_call, ctx_modes, ctx_glob, ctx_names, ctx_cls, ctx_kws, szOk, lk_eq, mtD, mtK, insC_ins, MI.isObj, isDic, dicAt, dputAt, storeD, lookD, keyD, keysD, insAt, fldAt, fldD, MI.putF, pickK, revD, md, F_law_draw, f1, f2, hr], by simp [runFn, modesOf, argSl, exSs, exS, testOf, toP, evR, evS, evD, evPs, evA, evI, evB, evG, frz, getP, isSet, slotD, itemD, atI, ixN, cmpD, truth, arith, biD, isiD, RD.d, slOf, mutAt, isMut, isL, setAt, appAt, outsOf, argV, sRefs, putBack, reslot, bindT, bindTs, partOf, MI.isNon, sliceD, itemsD, itemsT, isT, setIs, evRs, augD, popOf, wipeable, wipeE, restoreE, wiped, ctx_call, ctx_modes, ctx_glob, ctx_names, ctx_cls, ctx_kws, szOk, lk_eq, mtD, mtK, insC_ins, MI.isObj, isDic, dicAt, dputAt, storeD, lookD, keyD, keysD, insAt, fldAt, fldD, MI.putF, pickK, revD], ⟨y2, by simp [runFn, modesOf, argSl, exSs, exS, testOf, toP, evR, evS, evD, evPs, evA, evI, evB, evG, frz, getP, isSet, slotD, itemD, atI, ixN, cmpD, truth, arith, biD, isiD, RD.d, slOf, mutAt, isMut, isL, setAt, appAt, outsOf, argV, sRefs, putBack, reslot, bindT, bindTs, partOf, MI.isNon, sliceD, itemsD, itemsT, isT, setIs, evRs, augD, popOf, wipeable, wipeE, restoreE, wiped, ctx_call, ctx_modes, ctx_glob, ctx_names, ctx_cls, ctx_kws, szOk, lk_eq, mtD, mtK, insC_ins, MI.isObj, isDic, dicAt, dputAt, storeD, lookD, keyD, keysD, insAt, fldAt, fldD, MI.putF, pickK, revD], q2⟩, ⟨r2, rfl, by omega, by omega⟩⟩
    · exact ⟨[.bor x, .val (.int most), .val (.int st), .un, .val (.int w), .val (.int (1 + l)), .val d], .old (.int (-1)), [.bor y1, .val (.int most), .val (.int st), .un, .val (.int w), .val (.int (1 + l)), .val d], by simp [runFn, modesOf, argSl, exSs, exS, testOf, toP, evR, evS, evD, evPs, evA, evI, evB, evG, frz, getP, isSet, slotD, itemD, atI, ixN, cmpD, truth, arith, biD, isiD, RD.d, slOf, mutAt, isMut, isL, setAt, appAt, outsOf, argV, sRefs, putBack, reslot, bindT, bindTs, partOf, MI.isNon, sliceD, itemsD, itemsT, isT, setIs, evRs, augD, popOf, wipeable, wipeE, restoreE, wiped, ctx_call, ctx_modes, ctx_glob, ctx_names, ctx_cls, ctx_kws, szOk, lk_eq, mtD, mtK, insC_ins, MI.isObj, isDic, dicAt, dputAt, storeD, lookD, keyD, keysD, insAt, fldAt, fldD, MI.putF, pickK, revD], by simp [runFn, modesOf, argSl, exSs, exS, testOf, toP, evR, evS, evD, evPs, evA, evI, evB, evG, frz, getP, isSet, slotD, itemD, atI, ixN, cmpD, truth, arith, biD, isiD, RD.d, slOf, mutAt, isMut, isL, setAt, appAt, outsOf, argV, sRefs, putBack, reslot, bindT, bindTs, partOf, MI.isNon, sliceD, itemsD, itemsT, isT, setIs, evRs, augD, popOf, wipeable, wipeE, restoreE, wiped, ctx_call, ctx_modes, ctx_glob, ctx_names, ctx_cls, ctx_kws, szOk, lk_eq, mtD, mtK, insC_ins, MI.isObj, isDic, dicAt, dputAt, storeD, lookD, keyD, keysD, insAt, fldAt, fldD, MI.putF, pickK, revD, md, F_law_draw, f1, hr], by simp [runFn, modesOf, argSl, exSs, exS, testOf, toP, evR, evS, evD, evPs, evA, evI, evB, evG, frz, getP, isSet, slotD, itemD, atI, ixN, cmpD, truth, arith, biD, isiD, RD.d, slOf, mutAt, isMut, isL, setAt, appAt, outsOf, argV, sRefs, putBack, reslot, bindT, bindTs, partOf, MI.isNon, sliceD, itemsD, itemsT, isT, setIs, evRs, augD, popOf, wipeable, wipeE, restoreE, wiped, ctx_call, ctx_modes, ctx_glob, ctx_names, ctx_cls, ctx_kws, szOk, lk_eq, mtD, mtK, insC_ins, MI.isObj, isDic, dicAt, dputAt, storeD, lookD, keyD, keysD, insAt, fldAt, fldD, MI.putF, pickK, revD], ⟨y1, by simp [runFn, modesOf, argSl, exSs, exS, testOf, toP, evR, evS, evD, evPs, evA, evI, evB, evG, frz, getP, isSet, slotD, itemD, atI, ixN, cmpD, truth, arith, biD, isiD, RD.d, slOf, mutAt, isMut, isL, setAt, appAt, outsOf, argV, sRefs, putBack, reslot, bindT, bindTs, partOf, MI.isNon, sliceD, itemsD, itemsT, isT, setIs, evRs, augD, popOf, wipeable, wipeE, restoreE, wiped, ctx_call, ctx_modes, ctx_glob, ctx_names, ctx_cls, ctx_kws, szOk, lk_eq, mtD, mtK, insC_ins, MI.isObj, isDic, dicAt, dputAt, storeD, lookD, keyD, keysD, insAt, fldAt, fldD, MI.putF, pickK, revD], q1⟩, ⟨-1, rfl, by omega, by omega⟩⟩
  rw [List.length_map, rgI_len] at hl
  obtain ⟨zs, rfl, hz⟩ : ∃ zs : List Int, ys = zs.map .int ∧ ∀ z ∈ zs, -1 ≤ z ∧ z < st := by
    clear hx hl
    induction ys with
    | nil => exact ⟨[], rfl, fun z hz => by cases hz⟩
    | cons y r ih =>
      obtain ⟨zs, rfl, hz⟩ := ih fun y hy => hall y (List.mem_cons_of_mem _ hy)
      obtain ⟨i, rfl, hi⟩ := hall y List.mem_cons_self
      exact ⟨i :: zs, rfl, fun z hz' => (List.mem_cons.mp hz').elim (fun e => e ▸ hi) (hz z)⟩
  rw [List.length_map] at hl
  obtain ⟨r1, x4, f1, p4, r10, r11⟩ := draw_runs hd (n := n - 1) (by omega) p3 (m := st) (by omega) (by omega)
  obtain ⟨r2, x5, f2, p5, r20, r21⟩ := draw_runs hd (n := n - 1) (by omega) p4 (m := st) (by omega) (by omega)
  have hpos : 0 < zs.length := by omega
  have i0 := ixN_0 hpos
  have i1 := ixN_m1 hpos
  have hlt : zs.length - 1 < (zs.set 0 r1).length := by rw [List.length_set]; omega
  have hall2 : ∀ i ∈ (zs.set 0 r1).set (zs.length - 1) r2, -1 ≤ i ∧ i < st := by
    intro i hi
    rcases List.mem_or_eq_of_mem_set hi with z | z
    · rcases List.mem_or_eq_of_mem_set z with z | z
      · exact hz i z
      · rw [z]; omega
    · rw [z]; omega
  refine ⟨(zs.set 0 r1).set (zs.length - 1) r2, x5, ?_, p5, ⟨by simp; omega, by simp; omega, fun i hi => by have := hall2 i hi; omega, ?_, ?_⟩, by simp; omega, fun i hi => (hall2 i hi).2⟩
  · rw [h.eq (by omega)]
    refine run_rt (env := [.bor xs, .val (.int most), .val (.int st), .un, .un, .un, .un]) (e := [.bor x5, .val (.int most), .val (.int st), .own (.lst (((zs.set 0 r1).set (zs.length - 1) r2).map .int)), .val (.int w), .val (.int (1 + l)), .un]) rfl rfl ?_ rfl
    refine sq (e := [.bor x2, .val (.int most), .val (.int st), .un, .val (.int w), .val (.int (1 + l)), .un]) ?_ (sq (e := [.bor x3, .val (.int most), .val (.int st), .own (.lst (zs.map .int)), .val (.int w), .val (.int (1 + l)), .un]) ?_ (sq (e := [.bor x5, .val (.int most), .val (.int st), .own (.lst (((zs.set 0 r1).set (zs.length - 1) r2).map .int)), .val (.int w), .val (.int (1 + l)), .un]) ?_ (sr ?_)))
    · simp [runFn, modesOf, argSl, exSs, exS, testOf, toP, evR, evS, evD, evPs, evA, evI, evB, evG, frz, getP, isSet, slotD, itemD, atI, ixN, cmpD, truth, arith, biD, isiD, RD.d, slOf, mutAt, isMut, isL, setAt, appAt, outsOf, argV, sRefs, putBack, reslot, bindT, bindTs, partOf, MI.isNon, sliceD, itemsD, itemsT, isT, setIs, evRs, augD, popOf, wipeable, wipeE, restoreE, wiped, ctx_call, ctx_modes, ctx_glob, ctx_names, ctx_cls, ctx_kws, szOk, lk_eq, mtD, mtK, insC_ins, MI.isObj, isDic, dicAt, dputAt, storeD, lookD, keyD, keysD, insAt, fldAt, fldD, MI.putF, pickK, revD, md, F_law_draw, e1, e2]
    · exact asg_of (r := .new (.lst (zs.map .int))) (e' := [.bor x3, .val (.int most), .val (.int st), .un, .val (.int w), .val (.int (1 + l)), .un]) (by rw [hx]; simp [runFn, modesOf, argSl, exSs, exS, testOf, toP, evR, evS, evD, evPs, evA, evI, evB, evG, frz, getP, isSet, slotD, itemD, atI, ixN, cmpD, truth, arith, biD, isiD, RD.d, slOf, mutAt, isMut, isL, setAt, appAt, outsOf, argV, sRefs, putBack, reslot, bindT, bindTs, partOf, MI.isNon, sliceD, itemsD, itemsT, isT, setIs, evRs, augD, popOf, wipeable, wipeE, restoreE, wiped, ctx_call, ctx_modes, ctx_glob, ctx_names, ctx_cls, ctx_kws, szOk, lk_eq, mtD, mtK, insC_ins, MI.isObj, isDic, dicAt, dputAt, storeD, lookD, keyD, keysD, insAt, fldAt, fldD, MI.putF, pickK, revD]) (by simp)
    · simp [runFn, modesOf, argSl, exSs, exS, testOf, toP, evR, evS, evD, evPs, evA, evI, evB, evG, frz, getP, isSet, slotD, itemD, cmpD, truth, arith, biD, isiD, RD.d, slOf, mutAt, isMut, isL, setAt, appAt, outsOf, argV, sRefs, putBack, reslot, bindT, bindTs, partOf, MI.isNon, sliceD, itemsD, itemsT, isT, setIs, evRs, augD, popOf, wipeable, wipeE, restoreE, wiped, ctx_call, ctx_modes, ctx_glob, ctx_names, ctx_cls, ctx_kws, szOk, lk_eq, mtD, mtK, insC_ins, MI.isObj, isDic, dicAt, dputAt, storeD, lookD, keyD, keysD, insAt, fldAt, fldD, MI.putF, pickK, revD, md, F_law_draw, f1, f2, i0, i1]
    · simp [runFn, modesOf, argSl, exSs, exS, testOf, toP, evR, evS, evD, evPs, evA, evI, evB, evG, frz, getP, isSet, slotD, itemD, atI, ixN, cmpD, truth, arith, biD, isiD, RD.d, slOf, mutAt, isMut, isL, setAt, appAt, outsOf, argV, sRefs, putBack, reslot, bindT, bindTs, partOf, MI.isNon, sliceD, itemsD, itemsT, isT, setIs, evRs, augD, popOf, wipeable, wipeE, restoreE, wiped, ctx_call, ctx_modes, ctx_glob, ctx_names, ctx_cls, ctx_kws, szOk, lk_eq, mtD, mtK, insC_ins, MI.isObj, isDic, dicAt, dputAt, storeD, lookD, keyD, keysD, insAt, fldAt, fldD, MI.putF, pickK, revD, wk]
  · rw [aw_0, getD_set hlt]
    split
    · omega
    · rw [getD_set hpos, if_pos rfl]; omega
  · rw [List.length_set, List.length_set, show (zs.length : Int) - 1 = ((zs.length - 1 : Nat) : Int) by omega, aw_nat, getD_set hlt, if_pos rfl]
    omega
end SG

namespace SG
open MI L2 PySem
variable {P : Prg} {Ca : Addr}
/-! ### plans -/
def stD (p : Int × Nat) : D := .tup [.int p.1, .int p.2]
def planD (ps : List (Int × Nat)) : D := .tup (ps.map stD)
structure IsPlan (m : Nat) (ps : List (Int × Nat)) : Prop where
  few : ps.length ≤ 60
  all : ∀ p ∈ ps, 0 ≤ p.1 ∧ p.2 < m
  incr : ∀ pq ∈ ps.zip (ps.drop 1), pq.1.1 < pq.2.1
structure Plans (P : Prg) (Ca : Addr) : Prop where
  l : Lines P Ca
  is_kind : Hs P "is_kind" F_is_kind
  is_from : Hs P "is_from" F_is_from
  is_start : Hs P "is_start" F_is_start
  form : Hs P "has_plan_form" F_has_plan_form
  need : Hs P "need_plan" F_need_plan
  most : P.glob "MOST_PIECES" = some (.int 60)
theorem isFrom_runs (h : Hs P "is_from" F_is_from) {n : Nat} (hn : 1 ≤ n) {i a : Int} : P.calls n "is_from" [.d (.int i), .d (.int a)] = some (.old (.bl (decide (a ≤ i))), []) := by
  rw [h.eq hn]
  simp [F_is_from, runFn, modesOf, argSl, exSs, exS, testOf, toP, evR, evS, evD, evPs, evA, evI, evB, evG, frz, getP, isSet, slotD, itemD, atI, ixN, cmpD, truth, arith, biD, isiD, RD.d, slOf, mutAt, isMut, isL, setAt, appAt, outsOf, argV, sRefs, putBack, reslot, bindT, bindTs, partOf, MI.isNon, sliceD, itemsD, itemsT, isT, setIs, evRs, augD, popOf, wipeable, wipeE, restoreE, wiped, ctx_call, ctx_modes, ctx_glob, ctx_names, ctx_cls, ctx_kws, szOk, lk_eq, mtD, mtK, insC_ins, MI.isObj, isDic, dicAt, dputAt, storeD, lookD, keyD, keysD, insAt, fldAt, fldD, MI.putF, pickK, revD]
theorem isStart_runs (h : Plans P Ca) {n : Nat} (hn : 3 ≤ n) {as : List (List Int)} {p : Int × Nat} (h0 : 0 ≤ p.1) (h1 : p.2 < as.length) : P.calls n "is_start" [.d (lineD Ca as), .d (stD p)] = some (.old (.bl true), []) := by
  have e1 := isFrom_runs h.is_from (n := n - 1) (by omega) (i := p.1) (a := 0)
  have e2 := isKind_runs h.l h.is_kind (n := n - 1) (by omega) (as := as) p.2
  rw [decide_eq_true h0] at e1
  rw [decide_eq_true (by omega)] at e2
  have m1 := h.is_from.md
  have m2 := h.is_kind.md
  rw [h.is_start.eq (by omega)]
  simp [F_is_start, F_is_from, F_is_kind, runFn, modesOf, argSl, exSs, exS, testOf, toP, evR, evS, evD, evPs, evA, evI, evB, evG, frz, getP, isSet, slotD, itemD, atI, ixN, cmpD, truth, arith, biD, isiD, RD.d, slOf, mutAt, isMut, isL, setAt, appAt, outsOf, argV, sRefs, putBack, reslot, bindT, bindTs, partOf, MI.isNon, sliceD, itemsD, itemsT, isT, setIs, evRs, augD, popOf, wipeable, wipeE, restoreE, wiped, ctx_call, ctx_modes, ctx_glob, ctx_names, ctx_cls, ctx_kws, szOk, lk_eq, mtD, mtK, insC_ins, MI.isObj, isDic, dicAt, dputAt, storeD, lookD, keyD, keysD, insAt, fldAt, fldD, MI.putF, pickK, revD, stD, m1, m2, e1, e2]
theorem zipD_map {α : Type} (f : α → D) : ∀ (xs ys : List α), zipD (xs.map f) (ys.map f) = (xs.zip ys).map fun p => .tup [f p.1, f p.2]
  | [], _ => by simp [zipD]
  | _ :: _, [] => by simp [zipD]
  | x :: xs, y :: ys => by
    rw [List.map_cons, List.map_cons, zipD, zipD_map f xs ys]
    rfl
theorem needPlan_runs (h : Plans P Ca) {n : Nat} (hn : 5 ≤ n) {as : List (List Int)} {ps : List (Int × Nat)} (hp : IsPlan as.length ps) : P.calls n "need_plan" [.d (lineD Ca as), .d (planD ps)] = some (.old .non, []) := by
  have few := hp.few
  have form : P.calls (n - 1) "has_plan_form" [.d (lineD Ca as), .d (planD ps)] = some (.old (.bl true), []) := by
    rw [h.form.eq (by omega)]
    have ms := h.is_start.md
    have c1 : evR (P.ctx (n - 1 - 1)) C_has_plan_form_1 [.val (lineD Ca as), .val (planD ps), .un, .un] = some (.new (.lst (List.replicate ps.length (.bl true))), [.val (lineD Ca as), .val (planD ps), .un, .un]) := by
      unfold C_has_plan_form_1
      rw [lc_map (e1 := [.val (lineD Ca as), .val (planD ps), .un, .un]) (ds := ps.map stD) (f := fun _ => .bl true) (by simp [runFn, modesOf, argSl, exSs, exS, testOf, toP, evR, evS, evD, evPs, evA, evI, evB, evG, frz, getP, isSet, slotD, itemD, atI, ixN, cmpD, truth, arith, biD, isiD, RD.d, slOf, mutAt, isMut, isL, setAt, appAt, outsOf, argV, sRefs, putBack, reslot, bindT, bindTs, partOf, MI.isNon, sliceD, itemsD, itemsT, isT, setIs, evRs, augD, popOf, wipeable, wipeE, restoreE, wiped, ctx_call, ctx_modes, ctx_glob, ctx_names, ctx_cls, ctx_kws, szOk, lk_eq, mtD, mtK, insC_ins, MI.isObj, isDic, dicAt, dputAt, storeD, lookD, keyD, keysD, insAt, fldAt, fldD, MI.putF, pickK, revD, planD]) (by simp [runFn, modesOf, argSl, exSs, exS, testOf, toP, evR, evS, evD, evPs, evA, evI, evB, evG, frz, getP, isSet, slotD, itemD, atI, ixN, cmpD, truth, arith, biD, isiD, RD.d, slOf, mutAt, isMut, isL, setAt, appAt, outsOf, argV, sRefs, putBack, reslot, bindT, bindTs, partOf, MI.isNon, sliceD, itemsD, itemsT, isT, setIs, evRs, augD, popOf, wipeable, wipeE, restoreE, wiped, ctx_call, ctx_modes, ctx_glob, ctx_names, ctx_cls, ctx_kws, szOk, lk_eq, mtD, mtK, insC_ins, MI.isObj, isDic, dicAt, dputAt, storeD, lookD, keyD, keysD, insAt, fldAt, fldD, MI.putF, pickK, revD]) (by rw [List.length_map]; omega) (fun x hx => by
        obtain ⟨p, hp', rfl⟩ := List.mem_map.mp hx
        have e := isStart_runs h (n := n - 1 - 1) (by omega) (as := as) (hp.all p hp').1 (hp.all p hp').2
        exact ⟨[.val (lineD Ca as), .val (planD ps), .val (stD p), .un], .old (.bl true), [.val (lineD Ca as), .val (planD ps), .val (stD p), .un], by simp [runFn, modesOf, argSl, exSs, exS, testOf, toP, evR, evS, evD, evPs, evA, evI, evB, evG, frz, getP, isSet, slotD, itemD, atI, ixN, cmpD, truth, arith, biD, isiD, RD.d, slOf, mutAt, isMut, isL, setAt, appAt, outsOf, argV, sRefs, putBack, reslot, bindT, bindTs, partOf, MI.isNon, sliceD, itemsD, itemsT, isT, setIs, evRs, augD, popOf, wipeable, wipeE, restoreE, wiped, ctx_call, ctx_modes, ctx_glob, ctx_names, ctx_cls, ctx_kws, szOk, lk_eq, mtD, mtK, insC_ins, MI.isObj, isDic, dicAt, dputAt, storeD, lookD, keyD, keysD, insAt, fldAt, fldD, MI.putF, pickK, revD], by simp [runFn, modesOf, argSl, exSs, exS, testOf, toP, evR, evS, evD, evPs, evA, evI, evB, evG, frz, getP, isSet, slotD, itemD, atI, ixN, cmpD, truth, arith, biD, isiD, RD.d, slOf, mutAt, isMut, isL, setAt, appAt, outsOf, argV, sRefs, putBack, reslot, bindT, bindTs, partOf, MI.isNon, sliceD, itemsD, itemsT, isT, setIs, evRs, augD, popOf, wipeable, wipeE, restoreE, wiped, ctx_call, ctx_modes, ctx_glob, ctx_names, ctx_cls, ctx_kws, szOk, lk_eq, mtD, mtK, insC_ins, MI.isObj, isDic, dicAt, dputAt, storeD, lookD, keyD, keysD, insAt, fldAt, fldD, MI.putF, pickK, revD, ms, F_is_start, e], by simp [runFn, modesOf, argSl, exSs, exS, testOf, toP, evR, evS, evD, evPs, evA, evI, evB, evG, frz, getP, isSet, slotD, itemD, atI, ixN, cmpD, truth, arith, biD, isiD, RD.d, slOf, mutAt, isMut, isL, setAt, appAt, outsOf, argV, sRefs, putBack, reslot, bindT, bindTs, partOf, MI.isNon, sliceD, itemsD, itemsT, isT, setIs, evRs, augD, popOf, wipeable, wipeE, restoreE, wiped, ctx_call, ctx_modes, ctx_glob, ctx_names, ctx_cls, ctx_kws, szOk, lk_eq, mtD, mtK, insC_ins, MI.isObj, isDic, dicAt, dputAt, storeD, lookD, keyD, keysD, insAt, fldAt, fldD, MI.putF, pickK, revD], by simp [runFn, modesOf, argSl, exSs, exS, testOf, toP, evR, evS, evD, evPs, evA, evI, evB, evG, frz, getP, isSet, slotD, itemD, atI, ixN, cmpD, truth, arith, biD, isiD, RD.d, slOf, mutAt, isMut, isL, setAt, appAt, outsOf, argV, sRefs, putBack, reslot, bindT, bindTs, partOf, MI.isNon, sliceD, itemsD, itemsT, isT, setIs, evRs, augD, popOf, wipeable, wipeE, restoreE, wiped, ctx_call, ctx_modes, ctx_glob, ctx_names, ctx_cls, ctx_kws, szOk, lk_eq, mtD, mtK, insC_ins, MI.isObj, isDic, dicAt, dputAt, storeD, lookD, keyD, keysD, insAt, fldAt, fldD, MI.putF, pickK, revD], rfl⟩), map_yes, List.length_map]
      simp [runFn, modesOf, argSl, exSs, exS, testOf, toP, evR, evS, evD, evPs, evA, evI, evB, evG, frz, getP, isSet, slotD, itemD, atI, ixN, cmpD, truth, arith, biD, isiD, RD.d, slOf, mutAt, isMut, isL, setAt, appAt, outsOf, argV, sRefs, putBack, reslot, bindT, bindTs, partOf, MI.isNon, sliceD, itemsD, itemsT, isT, setIs, evRs, augD, popOf, wipeable, wipeE, restoreE, wiped, ctx_call, ctx_modes, ctx_glob, ctx_names, ctx_cls, ctx_kws, szOk, lk_eq, mtD, mtK, insC_ins, MI.isObj, isDic, dicAt, dputAt, storeD, lookD, keyD, keysD, insAt, fldAt, fldD, MI.putF, pickK, revD]
    have c2 : evR (P.ctx (n - 1 - 1)) C_has_plan_form_2 [.val (lineD Ca as), .val (planD ps), .un, .un] = some (.new (.lst (List.replicate (ps.zip (ps.drop 1)).length (.bl true))), [.val (lineD Ca as), .val (planD ps), .un, .un]) := by
      unfold C_has_plan_form_2
      rw [lc_map (e1 := [.val (lineD Ca as), .val (planD ps), .un, .un]) (ds := (ps.zip (ps.drop 1)).map fun p => .tup [stD p.1, stD p.2]) (f := fun _ => .bl true) (by
        have ct : cut (ps.map stD) (some 1) none = (ps.drop 1).map stD := by rw [cut_drop (by decide), List.map_drop]; rfl
        have zt : zipD (ps.map stD) (ps.map stD).tail = (ps.zip ps.tail).map fun p => .tup [stD p.1, stD p.2] := by rw [← List.map_tail, zipD_map]
        simp [runFn, modesOf, argSl, exSs, exS, testOf, toP, evR, evS, evD, evPs, evA, evI, evB, evG, frz, getP, isSet, slotD, itemD, atI, ixN, cmpD, truth, arith, biD, isiD, RD.d, slOf, mutAt, isMut, isL, setAt, appAt, outsOf, argV, sRefs, putBack, reslot, bindT, bindTs, partOf, MI.isNon, sliceD, itemsD, itemsT, isT, setIs, evRs, augD, popOf, wipeable, wipeE, restoreE, wiped, ctx_call, ctx_modes, ctx_glob, ctx_names, ctx_cls, ctx_kws, szOk, lk_eq, mtD, mtK, insC_ins, MI.isObj, isDic, dicAt, dputAt, storeD, lookD, keyD, keysD, insAt, fldAt, fldD, MI.putF, pickK, revD, planD, ct, zt]) (by simp [runFn, modesOf, argSl, exSs, exS, testOf, toP, evR, evS, evD, evPs, evA, evI, evB, evG, frz, getP, isSet, slotD, itemD, atI, ixN, cmpD, truth, arith, biD, isiD, RD.d, slOf, mutAt, isMut, isL, setAt, appAt, outsOf, argV, sRefs, putBack, reslot, bindT, bindTs, partOf, MI.isNon, sliceD, itemsD, itemsT, isT, setIs, evRs, augD, popOf, wipeable, wipeE, restoreE, wiped, ctx_call, ctx_modes, ctx_glob, ctx_names, ctx_cls, ctx_kws, szOk, lk_eq, mtD, mtK, insC_ins, MI.isObj, isDic, dicAt, dputAt, storeD, lookD, keyD, keysD, insAt, fldAt, fldD, MI.putF, pickK, revD]) (by rw [List.length_map, List.length_zip]; omega) (fun x hx => by
        obtain ⟨p, hp', rfl⟩ := List.mem_map.mp hx
        have e := hp.incr p hp'
        exact ⟨[.val (lineD Ca as), .val (planD ps), .val (stD p.1), .val (stD p.2)], .old (.bl true), [.val (lineD Ca as), .val (planD ps), .val (stD p.1), .val (stD p.2)], by simp [runFn, modesOf, argSl, exSs, exS, testOf, toP, evR, evS, evD, evPs, evA, evI, evB, evG, frz, getP, isSet, slotD, itemD, atI, ixN, cmpD, truth, arith, biD, isiD, RD.d, slOf, mutAt, isMut, isL, setAt, appAt, outsOf, argV, sRefs, putBack, reslot, bindT, bindTs, partOf, MI.isNon, sliceD, itemsD, itemsT, isT, setIs, evRs, augD, popOf, wipeable, wipeE, restoreE, wiped, ctx_call, ctx_modes, ctx_glob, ctx_names, ctx_cls, ctx_kws, szOk, lk_eq, mtD, mtK, insC_ins, MI.isObj, isDic, dicAt, dputAt, storeD, lookD, keyD, keysD, insAt, fldAt, fldD, MI.putF, pickK, revD], by simp [runFn, modesOf, argSl, exSs, exS, testOf, toP, evR, evS, evD, evPs, evA, evI, evB, evG, frz, getP, isSet, slotD, itemD, atI, ixN, cmpD, truth, arith, biD, isiD, RD.d, slOf, mutAt, isMut, isL, setAt, appAt, outsOf, argV, sRefs, putBack, reslot, bindT, bindTs, partOf, MI.isNon, sliceD, itemsD, itemsT, isT, setIs, evRs, augD, popOf, wipeable, wipeE, restoreE, wiped, ctx_call, ctx_modes, ctx_glob, ctx_names, ctx_cls, ctx_kws, szOk, lk_eq, mtD, mtK, insC_ins, MI.isObj, isDic, dicAt, dputAt, storeD, lookD, keyD, keysD, insAt, fldAt, fldD, MI.putF, pickK, revD, stD, e], by simp [runFn, modesOf, argSl, exSs, exS, testOf, toP, evR, evS, evD, evPs, evA, evI, evB, evG, frz, getP, isSet, slotD, itemD, atI, ixN, cmpD, truth, arith, biD, isiD, RD.d, slOf, mutAt, isMut, isL, setAt, appAt, outsOf, argV, sRefs, putBack, reslot, bindT, bindTs, partOf, MI.isNon, sliceD, itemsD, itemsT, isT, setIs, evRs, augD, popOf, wipeable, wipeE, restoreE, wiped, ctx_call, ctx_modes, ctx_glob, ctx_names, ctx_cls, ctx_kws, szOk, lk_eq, mtD, mtK, insC_ins, MI.isObj, isDic, dicAt, dputAt, storeD, lookD, keyD, keysD, insAt, fldAt, fldD, MI.putF, pickK, revD], by simp [runFn, modesOf, argSl, exSs, exS, testOf, toP, evR, evS, evD, evPs, evA, evI, evB, evG, frz, getP, isSet, slotD, itemD, atI, ixN, cmpD, truth, arith, biD, isiD, RD.d, slOf, mutAt, isMut, isL, setAt, appAt, outsOf, argV, sRefs, putBack, reslot, bindT, bindTs, partOf, MI.isNon, sliceD, itemsD, itemsT, isT, setIs, evRs, augD, popOf, wipeable, wipeE, restoreE, wiped, ctx_call, ctx_modes, ctx_glob, ctx_names, ctx_cls, ctx_kws, szOk, lk_eq, mtD, mtK, insC_ins, MI.isObj, isDic, dicAt, dputAt, storeD, lookD, keyD, keysD, insAt, fldAt, fldD, MI.putF, pickK, revD], rfl⟩), map_yes, List.length_map]
      simp [runFn, modesOf, argSl, exSs, exS, testOf, toP, evR, evS, evD, evPs, evA, evI, evB, evG, frz, getP, isSet, slotD, itemD, atI, ixN, cmpD, truth, arith, biD, isiD, RD.d, slOf, mutAt, isMut, isL, setAt, appAt, outsOf, argV, sRefs, putBack, reslot, bindT, bindTs, partOf, MI.isNon, sliceD, itemsD, itemsT, isT, setIs, evRs, augD, popOf, wipeable, wipeE, restoreE, wiped, ctx_call, ctx_modes, ctx_glob, ctx_names, ctx_cls, ctx_kws, szOk, lk_eq, mtD, mtK, insC_ins, MI.isObj, isDic, dicAt, dputAt, storeD, lookD, keyD, keysD, insAt, fldAt, fldD, MI.putF, pickK, revD]
    have few' : ¬ (60 : Int) < ((ps.length : Nat) : Int) := by omega
    refine run_rt (env := [.val (lineD Ca as), .val (planD ps), .un, .un]) (e := [.val (lineD Ca as), .val (planD ps), .un, .un]) rfl rfl ?_ rfl
    refine sq (e := [.val (lineD Ca as), .val (planD ps), .un, .un]) (if_no (e := [.val (lineD Ca as), .val (planD ps), .un, .un]) ?_ sn) (sr ?_)
    · have i1 : isiD (planD ps) .tuple = some true := rfl
      have i2 : biD .len [planD ps] = some (.old (.int ps.length)) := by simp [biD, planD]
      have : evB (P.ctx (n - 1 - 1)) false [(.nt (.isi (.var 1) .tuple)), (.cmp .Gt (.bi .len [(.var 1)]) (.glo "MOST_PIECES")), (.nt (.bi .all [C_has_plan_form_1]))] [.val (lineD Ca as), .val (planD ps), .un, .un] = some (.old (.bl false), [.val (lineD Ca as), .val (planD ps), .un, .un]) := by
        simp only [planD] at c1 ⊢
        simp [runFn, modesOf, argSl, exSs, exS, testOf, toP, evR, evS, evD, evPs, evA, evI, evB, evG, frz, getP, isSet, slotD, itemD, atI, ixN, cmpD, truth, arith, biD, isiD, RD.d, slOf, mutAt, isMut, isL, setAt, appAt, outsOf, argV, sRefs, putBack, reslot, bindT, bindTs, partOf, MI.isNon, sliceD, itemsD, itemsT, isT, setIs, evRs, augD, popOf, wipeable, wipeE, restoreE, wiped, ctx_call, ctx_modes, ctx_glob, ctx_names, ctx_cls, ctx_kws, szOk, lk_eq, mtD, mtK, insC_ins, MI.isObj, isDic, dicAt, dputAt, storeD, lookD, keyD, keysD, insAt, fldAt, fldD, MI.putF, pickK, revD, h.most, few', ↓tp_C_has_plan_form_1, c1, bools_yes]
      simp [testOf, toP, evR, this, getP, truth, RD.d]
    · simp [runFn, modesOf, argSl, exSs, exS, testOf, toP, evR, evS, evD, evPs, evA, evI, evB, evG, frz, getP, isSet, slotD, itemD, atI, ixN, cmpD, truth, arith, biD, isiD, RD.d, slOf, mutAt, isMut, isL, setAt, appAt, outsOf, argV, sRefs, putBack, reslot, bindT, bindTs, partOf, MI.isNon, sliceD, itemsD, itemsT, isT, setIs, evRs, augD, popOf, wipeable, wipeE, restoreE, wiped, ctx_call, ctx_modes, ctx_glob, ctx_names, ctx_cls, ctx_kws, szOk, lk_eq, mtD, mtK, insC_ins, MI.isObj, isDic, dicAt, dputAt, storeD, lookD, keyD, keysD, insAt, fldAt, fldD, MI.putF, pickK, revD, ↓tp_C_has_plan_form_2, c2, bools_yes]
  have md := h.form.md
  rw [h.need.eq (by omega)]
  simp [F_need_plan, F_has_plan_form, runFn, modesOf, argSl, exSs, exS, testOf, toP, evR, evS, evD, evPs, evA, evI, evB, evG, frz, getP, isSet, slotD, itemD, atI, ixN, cmpD, truth, arith, biD, isiD, RD.d, slOf, mutAt, isMut, isL, setAt, appAt, outsOf, argV, sRefs, putBack, reslot, bindT, bindTs, partOf, MI.isNon, sliceD, itemsD, itemsT, isT, setIs, evRs, augD, popOf, wipeable, wipeE, restoreE, wiped, ctx_call, ctx_modes, ctx_glob, ctx_names, ctx_cls, ctx_kws, szOk, lk_eq, mtD, mtK, insC_ins, MI.isObj, isDic, dicAt, dputAt, storeD, lookD, keyD, keysD, insAt, fldAt, fldD, MI.putF, pickK, revD, md, form]
/-! ### clashes -/
def pairL (as : List (List Int)) (ps : List (Int × Nat)) (f s : Nat) : List (List Int) :=
  let p := ps.getD f (0, 0)
  let q := ps.getD s (0, 0)
  (meetL (as.getD p.2 []) (as.getD q.2 []) (q.1 - p.1)).map fun t => [p.1 + t, aw (as.getD p.2 []) t]
def tD (xs : List Int) : D := .tup (xs.map .int)
theorem atI_gd {α : Type} {l : List α} {k : Nat} (d : α) (h : k < l.length) : atI l (k : Int) = some (l.getD k d) := by
  refine atI_nat ?_
  rw [List.getD_eq_getElem?_getD, List.getElem?_eq_getElem h]
  rfl
theorem pair_runs (h : Hs P "pair_clashes" F_pair_clashes) (hl : Lines P Ca) {n : Nat} (hn : 2 ≤ n) {as : List (List Int)} (ha : IsLine as) {ps : List (Int × Nat)} (hp : IsPlan as.length ps) {f s : Nat} (hf : f < ps.length) (hs : s < ps.length) (hb : ∀ p ∈ ps, ∀ q ∈ ps, -10000 ≤ q.1 - p.1 ∧ q.1 - p.1 ≤ 10000) :
    P.calls n "pair_clashes" [.d (.tup (as.map wk)), .d (planD ps), .d (.int f), .d (.int s)] = some (.new (.lst ((pairL as ps f s).map tD)), []) := by
  rw [h.eq (by omega)]
  have mp : ps.getD f (0, 0) ∈ ps := gd_mem hf
  have mq : ps.getD s (0, 0) ∈ ps := gd_mem hs
  have hp1 := hp.all _ mp
  have hq1 := hp.all _ mq
  have hbd := hb _ mp _ mq
  unfold pairL
  dsimp only
  generalize hpp : ps.getD f (0, 0) = p at *
  generalize hqq : ps.getD s (0, 0) = q at *
  have wa := ha.all _ (gd_mem (d := []) hp1.2)
  have wb := ha.all _ (gd_mem (d := []) hq1.2)
  have e := meets_runs hl.meets hl.w.nowhere (n := n - 1) (by omega) (a := as.getD p.2 []) (b := as.getD q.2 []) (d := q.1 - p.1) (by have := wa.len1; omega) (by have := wb.len1; omega) hbd.1 hbd.2
  have md := hl.meets.md
  have a1 : atI (ps.map stD) (f : Int) = some (stD p) := by rw [atI_map, atI_gd (0, 0) hf, hpp]; rfl
  have a2 : atI (ps.map stD) (s : Int) = some (stD q) := by rw [atI_map, atI_gd (0, 0) hs, hqq]; rfl
  have b1 : atI (as.map wk) (p.2 : Int) = some (wk (as.getD p.2 [])) := by rw [atI_map, atI_gd [] hp1.2]; rfl
  have b2 : atI (as.map wk) (q.2 : Int) = some (wk (as.getD q.2 [])) := by rw [atI_map, atI_gd [] hq1.2]; rfl
  have l2 := leS (n := 2) (by decide)
  generalize as.getD p.2 [] = A at *
  generalize as.getD q.2 [] = B at *
  have lc : evR (P.ctx (n - 1)) C_pair_clashes_1 [.val (.tup (as.map wk)), .val (planD ps), .val (.int f), .val (.int s), .val (.int p.1), .val (.int p.2), .val (.int q.1), .val (.int q.2), .un, .un] = some (.new (.lst (((meetL A B (q.1 - p.1)).map fun t => [p.1 + t, aw A t]).map tD)), [.val (.tup (as.map wk)), .val (planD ps), .val (.int f), .val (.int s), .val (.int p.1), .val (.int p.2), .val (.int q.1), .val (.int q.2), .un, .un]) := by
    unfold C_pair_clashes_1
    rw [lc_map (e1 := [.val (.tup (as.map wk)), .val (planD ps), .val (.int f), .val (.int s), .val (.int p.1), .val (.int p.2), .val (.int q.1), .val (.int q.2), .un, .un]) (ds := meetD A (meetL A B (q.1 - p.1))) (f := fun d => match d with | .tup [.int t, .int s] => .tup [.int (p.1 + t), .int s] | d => d)
      (by simp [runFn, modesOf, argSl, exSs, exS, testOf, toP, evR, evS, evD, evPs, evA, evI, evB, evG, frz, getP, isSet, slotD, itemD, cmpD, truth, arith, biD, isiD, RD.d, slOf, mutAt, isMut, isL, setAt, appAt, outsOf, argV, sRefs, putBack, reslot, bindT, bindTs, partOf, MI.isNon, sliceD, itemsD, itemsT, isT, setIs, evRs, augD, popOf, wipeable, wipeE, restoreE, wiped, ctx_call, ctx_modes, ctx_glob, ctx_names, ctx_cls, ctx_kws, szOk, lk_eq, mtD, mtK, insC_ins, MI.isObj, isDic, dicAt, dputAt, storeD, lookD, keyD, keysD, insAt, fldAt, fldD, MI.putF, pickK, revD, md, F_meets, e, b1, b2]) (by simp [runFn, modesOf, argSl, exSs, exS, testOf, toP, evR, evS, evD, evPs, evA, evI, evB, evG, frz, getP, isSet, slotD, itemD, atI, ixN, cmpD, truth, arith, biD, isiD, RD.d, slOf, mutAt, isMut, isL, setAt, appAt, outsOf, argV, sRefs, putBack, reslot, bindT, bindTs, partOf, MI.isNon, sliceD, itemsD, itemsT, isT, setIs, evRs, augD, popOf, wipeable, wipeE, restoreE, wiped, ctx_call, ctx_modes, ctx_glob, ctx_names, ctx_cls, ctx_kws, szOk, lk_eq, mtD, mtK, insC_ins, MI.isObj, isDic, dicAt, dputAt, storeD, lookD, keyD, keysD, insAt, fldAt, fldD, MI.putF, pickK, revD]) (by
        unfold meetD meetL
        rw [List.length_map]
        refine Nat.le_trans (List.length_filter_le _ _) ?_
        rw [rgI_len]
        have := wa.len1
        omega) (fun x hx => by
        unfold meetD at hx
        obtain ⟨t, ht, rfl⟩ := List.mem_map.mp hx
        exact ⟨[.val (.tup (as.map wk)), .val (planD ps), .val (.int f), .val (.int s), .val (.int p.1), .val (.int p.2), .val (.int q.1), .val (.int q.2), .val (.int t), .val (.int (aw A t))], .old (.tup [.int (p.1 + t), .int (aw A t)]), [.val (.tup (as.map wk)), .val (planD ps), .val (.int f), .val (.int s), .val (.int p.1), .val (.int p.2), .val (.int q.1), .val (.int q.2), .val (.int t), .val (.int (aw A t))], by simp [runFn, modesOf, argSl, exSs, exS, testOf, toP, evR, evS, evD, evPs, evA, evI, evB, evG, frz, getP, isSet, slotD, itemD, atI, ixN, cmpD, truth, arith, biD, isiD, RD.d, slOf, mutAt, isMut, isL, setAt, appAt, outsOf, argV, sRefs, putBack, reslot, bindT, bindTs, partOf, MI.isNon, sliceD, itemsD, itemsT, isT, setIs, evRs, augD, popOf, wipeable, wipeE, restoreE, wiped, ctx_call, ctx_modes, ctx_glob, ctx_names, ctx_cls, ctx_kws, szOk, lk_eq, mtD, mtK, insC_ins, MI.isObj, isDic, dicAt, dputAt, storeD, lookD, keyD, keysD, insAt, fldAt, fldD, MI.putF, pickK, revD], by simp [runFn, modesOf, argSl, exSs, exS, testOf, toP, evR, evS, evD, evPs, evA, evI, evB, evG, frz, getP, isSet, slotD, itemD, atI, ixN, cmpD, truth, arith, biD, isiD, RD.d, slOf, mutAt, isMut, isL, setAt, appAt, outsOf, argV, sRefs, putBack, reslot, bindT, bindTs, partOf, MI.isNon, sliceD, itemsD, itemsT, isT, setIs, evRs, augD, popOf, wipeable, wipeE, restoreE, wiped, ctx_call, ctx_modes, ctx_glob, ctx_names, ctx_cls, ctx_kws, szOk, lk_eq, mtD, mtK, insC_ins, MI.isObj, isDic, dicAt, dputAt, storeD, lookD, keyD, keysD, insAt, fldAt, fldD, MI.putF, pickK, revD, l2], by simp [runFn, modesOf, argSl, exSs, exS, testOf, toP, evR, evS, evD, evPs, evA, evI, evB, evG, frz, getP, isSet, slotD, itemD, atI, ixN, cmpD, truth, arith, biD, isiD, RD.d, slOf, mutAt, isMut, isL, setAt, appAt, outsOf, argV, sRefs, putBack, reslot, bindT, bindTs, partOf, MI.isNon, sliceD, itemsD, itemsT, isT, setIs, evRs, augD, popOf, wipeable, wipeE, restoreE, wiped, ctx_call, ctx_modes, ctx_glob, ctx_names, ctx_cls, ctx_kws, szOk, lk_eq, mtD, mtK, insC_ins, MI.isObj, isDic, dicAt, dputAt, storeD, lookD, keyD, keysD, insAt, fldAt, fldD, MI.putF, pickK, revD], by simp [runFn, modesOf, argSl, exSs, exS, testOf, toP, evR, evS, evD, evPs, evA, evI, evB, evG, frz, getP, isSet, slotD, itemD, atI, ixN, cmpD, truth, arith, biD, isiD, RD.d, slOf, mutAt, isMut, isL, setAt, appAt, outsOf, argV, sRefs, putBack, reslot, bindT, bindTs, partOf, MI.isNon, sliceD, itemsD, itemsT, isT, setIs, evRs, augD, popOf, wipeable, wipeE, restoreE, wiped, ctx_call, ctx_modes, ctx_glob, ctx_names, ctx_cls, ctx_kws, szOk, lk_eq, mtD, mtK, insC_ins, MI.isObj, isDic, dicAt, dputAt, storeD, lookD, keyD, keysD, insAt, fldAt, fldD, MI.putF, pickK, revD], rfl⟩)]
    unfold meetD
    rw [List.map_map, List.map_map]
    simp [runFn, modesOf, argSl, exSs, exS, testOf, toP, evR, evS, evD, evPs, evA, evI, evB, evG, frz, getP, isSet, slotD, itemD, atI, ixN, cmpD, truth, arith, biD, isiD, RD.d, slOf, mutAt, isMut, isL, setAt, appAt, outsOf, argV, sRefs, putBack, reslot, bindT, bindTs, partOf, MI.isNon, sliceD, itemsD, itemsT, isT, setIs, evRs, augD, popOf, wipeable, wipeE, restoreE, wiped, ctx_call, ctx_modes, ctx_glob, ctx_names, ctx_cls, ctx_kws, szOk, lk_eq, mtD, mtK, insC_ins, MI.isObj, isDic, dicAt, dputAt, storeD, lookD, keyD, keysD, insAt, fldAt, fldD, MI.putF, pickK, revD]
    intro t ht
    rfl
  refine run_rt (env := [.val (.tup (as.map wk)), .val (planD ps), .val (.int f), .val (.int s), .un, .un, .un, .un, .un, .un]) (e := [.val (.tup (as.map wk)), .val (planD ps), .val (.int f), .val (.int s), .val (.int p.1), .val (.int p.2), .val (.int q.1), .val (.int q.2), .un, .un]) rfl rfl ?_ rfl
  refine sq (e := [.val (.tup (as.map wk)), .val (planD ps), .val (.int f), .val (.int s), .val (.int p.1), .val (.int p.2), .val (.int q.1), .val (.int q.2), .un, .un]) ?_ (sr (ret_of lc fun i z => by cases z))
  simp [runFn, modesOf, argSl, exSs, exS, testOf, toP, evR, evS, evD, evPs, evA, evI, evB, evG, frz, getP, isSet, slotD, itemD, cmpD, truth, arith, biD, isiD, RD.d, slOf, mutAt, isMut, isL, setAt, appAt, outsOf, argV, sRefs, putBack, reslot, bindT, bindTs, partOf, MI.isNon, sliceD, itemsD, itemsT, isT, setIs, evRs, augD, popOf, wipeable, wipeE, restoreE, wiped, ctx_call, ctx_modes, ctx_glob, ctx_names, ctx_cls, ctx_kws, szOk, lk_eq, mtD, mtK, insC_ins, MI.isObj, isDic, dicAt, dputAt, storeD, lookD, keyD, keysD, insAt, fldAt, fldD, MI.putF, pickK, revD, planD, a1, a2, stD]
end SG

namespace MI
theorem toP_of {C : Ctx} {e : E} {env e' : Env} {r : RD} (h : evR C e env = some (r, e')) (hv : ∀ i, e ≠ .var i) : toP e (evR C e) env = some (.d r.d, e') := by
  cases e <;> first | exact absurd rfl (hv _) | (simp only [toP, h, Option.map_some])
theorem cmp_of {C : Ctx} {op : PySem.CmpOp} {a b : E} {env e1 e2 : Env} {ra rb : RD} {z : Bool} (ha : evR C a env = some (ra, e1)) (hav : ∀ i, a ≠ .var i) (hb : evR C b e1 = some (rb, e2)) (hbv : ∀ i, b ≠ .var i) (hz : cmpD op ra.d rb.d = some z) : evR C (.cmp op a b) env = some (.old (.bl z), e2) := by
  rw [evR, toP_of ha hav, Option.bind_some]
  simp only
  rw [toP_of hb hbv, Option.bind_some]
  simp only [getP, Option.bind_some, hz, Option.map_some]
theorem test_of {C : Ctx} {e : E} {env e' : Env} {b : Bool} (h : evR C e env = some (.old (.bl b), e')) (hv : ∀ i, e ≠ .var i) : testOf e (evR C e) env = some (b, e') := by
  unfold testOf
  rw [toP_of h hv]
  rfl
end MI
namespace SG
open MI L2 PySem
variable {P : Prg} {Ca : Addr}
theorem flat_len {α β : Type} {f : α → List β} {c : Nat} : ∀ {l : List α}, (∀ x ∈ l, (f x).length ≤ c) → (l.flatMap f).length ≤ l.length * c
  | [], _ => by simp
  | x :: l, h => by
    rw [List.flatMap_cons, List.length_append, List.length_cons, Nat.add_mul, Nat.one_mul]
    have h1 := h x List.mem_cons_self
    have h2 := flat_len (l := l) fun y hy => h y (List.mem_cons_of_mem _ hy)
    omega
theorem range_snoc (f : Nat → List (List Int)) (i : Nat) : (List.range (i + 1)).flatMap f = (List.range i).flatMap f ++ f i := by
  rw [List.range_succ, List.flatMap_append]
  simp
theorem pair_len {as : List (List Int)} (ha : IsLine as) {ps : List (Int × Nat)} (hp : IsPlan as.length ps) {f : Nat} (hf : f < ps.length) (s : Nat) : (pairL as ps f s).length ≤ 60 := by
  unfold pairL
  dsimp only
  rw [List.length_map]
  have wa := ha.all _ (gd_mem (d := []) (hp.all _ (gd_mem (d := (0, 0)) hf)).2)
  unfold meetL
  refine Nat.le_trans (List.length_filter_le _ _) ?_
  rw [rgI_len]
  have := wa.len1
  omega
/-- all clashes of a plan, in the order of their finding: tick, station, first, second -/
def rowL (as : List (List Int)) (ps : List (Int × Nat)) (s f : Nat) : List (List Int) := (pairL as ps f s).map fun x => x ++ [(f : Int), (s : Int)]
def clL (as : List (List Int)) (ps : List (Int × Nat)) : List (List Int) := (List.range ps.length).flatMap fun s => (List.range s).flatMap (rowL as ps s)
theorem tupsOf_tD : ∀ l : List (List Int), tupsOf (l.map tD) = some l
  | [] => rfl
  | x :: l => by
    show (intsOf (x.map .int)).bind (fun ns => (tupsOf (l.map tD)).map (ns :: ·)) = _
    rw [intsOf_map, tupsOf_tD l]
    rfl
theorem intsOf_tD (x : List Int) (l : List (List Int)) : intsOf ((x :: l).map tD) = none := rfl
theorem sort_tD {l : List (List Int)} {k : Nat} (hk : 0 < k) (h : ∀ x ∈ l, x.length = k) : sortD (l.map tD) = some ((srtB leI l).map tD) := by
  cases l with
  | nil => rfl
  | cons x r =>
    unfold sortD
    rw [intsOf_tD]
    simp only [tupsOf_tD]
    rw [if_pos]
    · rfl
    · refine List.all_eq_true.mpr fun y hy => ?_
      have h1 := h y hy
      have h2 := h x List.mem_cons_self
      simp only [List.headD_cons, h1, h2, beq_self_eq_true, Bool.true_and]
      cases y with
      | nil => simp at h1; omega
      | cons a b => rfl
theorem insB_perm {α : Type} (le : α → α → Bool) (x : α) : ∀ l : List α, (insB le x l).Perm (x :: l)
  | [] => List.Perm.refl _
  | y :: l => by
    unfold insB
    split
    · exact List.Perm.refl _
    · exact ((insB_perm le x l).cons y).trans (List.Perm.swap _ _ _)
theorem srtB_perm {α : Type} (le : α → α → Bool) : ∀ l : List α, (srtB le l).Perm l
  | [] => List.Perm.refl _
  | x :: l => (insB_perm le x _).trans ((srtB_perm le l).cons x)
theorem all_runs (h : Hs P "all_clashes" F_all_clashes) (h2 : Hs P "pair_clashes" F_pair_clashes) (hl : Lines P Ca) {n : Nat} (hn : 3 ≤ n) {as : List (List Int)} (ha : IsLine as) {ps : List (Int × Nat)} (hp : IsPlan as.length ps) (hb : ∀ p ∈ ps, ∀ q ∈ ps, -10000 ≤ q.1 - p.1 ∧ q.1 - p.1 ≤ 10000) :
    P.calls n "all_clashes" [.d (.tup (as.map wk)), .d (planD ps)] = some (.new (.lst ((srtB leI (clL as ps)).map tD)), []) := by
  rw [h.eq (by omega)]
  have few := hp.few
  have md := h2.md
  have l4 := leS (n := 4) (by decide)
  have rowlen : ∀ s, s < ps.length → ∀ f, f < s → (rowL as ps s f).length ≤ 60 := fun s hs f hf => by
    unfold rowL
    rw [List.length_map]
    exact pair_len ha hp (by omega) s
  have inner : ∀ (s : Nat), s < ps.length → ∀ (acc : List (List Int)), acc.length ≤ 3600 * s → ∀ s4 s5 s6, isMut s5 = false → isMut s6 = false → ∃ s4', exS (P.ctx (n - 1)) P.w S_all_clashes_1 [.val (.tup (as.map wk)), .val (planD ps), .own (.lst (acc.map tD)), .val (.int s), s4, s5, s6] = some (.nx [.val (.tup (as.map wk)), .val (planD ps), .own (.lst ((acc ++ (List.range s).flatMap (rowL as ps s)).map tD)), .val (.int s), s4', s5, s6]) := by
    intro s hs acc hacc s4 s5 s6 m5 m6
    have er := rng_n (n := (s : Int)) (by omega) (by omega)
    unfold S_all_clashes_1
    obtain ⟨e', hx, s4', rfl⟩ := for_inv (C := P.ctx (n - 1)) (w := P.w) (t := .nm 4) (it := .rng [(.var 3)]) (body := [.ext 2 C_all_clashes_1]) (env := [.val (.tup (as.map wk)), .val (planD ps), .own (.lst (acc.map tD)), .val (.int s), s4, s5, s6]) (e1 := [.val (.tup (as.map wk)), .val (planD ps), .own (.lst (acc.map tD)), .val (.int s), s4, s5, s6]) (ds := rgD 0 s)
      (J := fun i e' => ∃ s4', e' = [.val (.tup (as.map wk)), .val (planD ps), .own (.lst ((acc ++ (List.range i).flatMap (rowL as ps s)).map tD)), .val (.int s), s4', s5, s6])
      (by simp [runFn, modesOf, argSl, exSs, exS, testOf, toP, evR, evS, evD, evPs, evA, evI, evB, evG, frz, getP, isSet, slotD, itemD, atI, ixN, cmpD, truth, arith, biD, isiD, RD.d, slOf, mutAt, isMut, isL, setAt, appAt, outsOf, argV, sRefs, putBack, reslot, bindT, bindTs, partOf, MI.isNon, sliceD, itemsD, itemsT, isT, setIs, evRs, augD, popOf, wipeable, wipeE, restoreE, wiped, ctx_call, ctx_modes, ctx_glob, ctx_names, ctx_cls, ctx_kws, szOk, lk_eq, mtD, mtK, insC_ins, MI.isObj, isDic, dicAt, dputAt, storeD, lookD, keyD, keysD, insAt, fldAt, fldD, MI.putF, pickK, revD, er]) ⟨s4, by simp⟩ (by
        intro f d e hd ⟨s4', he⟩
        subst he
        obtain ⟨rfl, hf⟩ := rgD_get hd
        have hf' : f < s := by omega
        have e := pair_runs h2 hl (n := n - 1) (by omega) ha hp (f := f) (s := s) (by omega) hs hb
        have lc : evR (P.ctx (n - 1)) C_all_clashes_1 [.val (.tup (as.map wk)), .val (planD ps), .own (.lst ((acc ++ (List.range f).flatMap (rowL as ps s)).map tD)), .val (.int s), .val (.int f), s5, s6] = some (.new (.lst ((rowL as ps s f).map tD)), [.val (.tup (as.map wk)), .val (planD ps), .own (.lst ((acc ++ (List.range f).flatMap (rowL as ps s)).map tD)), .val (.int s), .val (.int f), s5, s6]) := by
          unfold C_all_clashes_1
          rw [lc_map (e1 := [.val (.tup (as.map wk)), .val (planD ps), .own (.lst ((acc ++ (List.range f).flatMap (rowL as ps s)).map tD)), .val (.int s), .val (.int f), s5, s6]) (ds := (pairL as ps f s).map tD) (f := fun d => match d with | .tup xs => .tup (xs ++ [.int f, .int s]) | d => d)
            (by simp [runFn, modesOf, argSl, exSs, exS, testOf, toP, evR, evS, evD, evPs, evA, evI, evB, evG, frz, getP, isSet, slotD, itemD, atI, ixN, cmpD, truth, arith, biD, isiD, RD.d, slOf, mutAt, isMut, isL, setAt, appAt, outsOf, argV, sRefs, putBack, reslot, bindT, bindTs, partOf, MI.isNon, sliceD, itemsD, itemsT, isT, setIs, evRs, augD, popOf, wipeable, wipeE, restoreE, wiped, ctx_call, ctx_modes, ctx_glob, ctx_names, ctx_cls, ctx_kws, szOk, lk_eq, mtD, mtK, insC_ins, MI.isObj, isDic, dicAt, dputAt, storeD, lookD, keyD, keysD, insAt, fldAt, fldD, MI.putF, pickK, revD, md, F_pair_clashes, e]) (by simp only [isMut] at m5 m6; simp [runFn, modesOf, argSl, exSs, exS, testOf, toP, evR, evS, evD, evPs, evA, evI, evB, evG, frz, getP, isSet, slotD, itemD, atI, ixN, cmpD, truth, arith, biD, isiD, RD.d, slOf, mutAt, isMut, isL, setAt, appAt, outsOf, argV, sRefs, putBack, reslot, bindT, bindTs, partOf, MI.isNon, sliceD, itemsD, itemsT, isT, setIs, evRs, augD, popOf, wipeable, wipeE, restoreE, wiped, ctx_call, ctx_modes, ctx_glob, ctx_names, ctx_cls, ctx_kws, szOk, lk_eq, mtD, mtK, insC_ins, MI.isObj, isDic, dicAt, dputAt, storeD, lookD, keyD, keysD, insAt, fldAt, fldD, MI.putF, pickK, revD, m5, m6]) (by
              have := pair_len ha hp (f := f) (by omega) s
              rw [List.length_map]; omega) (fun x hx => by
              obtain ⟨y, hy, rfl⟩ := List.mem_map.mp hx
              unfold pairL at hy
              dsimp only at hy
              obtain ⟨t, ht, rfl⟩ := List.mem_map.mp hy
              generalize (ps.getD f (0, 0)).1 + t = u
              generalize aw (as.getD (ps.getD f (0, 0)).2 []) t = v
              exact ⟨[.val (.tup (as.map wk)), .val (planD ps), .own (.lst ((acc ++ (List.range f).flatMap (rowL as ps s)).map tD)), .val (.int s), .val (.int f), .val (.int u), .val (.int v)], .old (.tup [.int u, .int v, .int f, .int s]), [.val (.tup (as.map wk)), .val (planD ps), .own (.lst ((acc ++ (List.range f).flatMap (rowL as ps s)).map tD)), .val (.int s), .val (.int f), .val (.int u), .val (.int v)], by simp [runFn, modesOf, argSl, exSs, exS, testOf, toP, evR, evS, evD, evPs, evA, evI, evB, evG, frz, getP, isSet, slotD, itemD, atI, ixN, cmpD, truth, arith, biD, isiD, RD.d, slOf, mutAt, isMut, isL, setAt, appAt, outsOf, argV, sRefs, putBack, reslot, bindT, bindTs, partOf, MI.isNon, sliceD, itemsD, itemsT, isT, setIs, evRs, augD, popOf, wipeable, wipeE, restoreE, wiped, ctx_call, ctx_modes, ctx_glob, ctx_names, ctx_cls, ctx_kws, szOk, lk_eq, mtD, mtK, insC_ins, MI.isObj, isDic, dicAt, dputAt, storeD, lookD, keyD, keysD, insAt, fldAt, fldD, MI.putF, pickK, revD, tD], by simp [runFn, modesOf, argSl, exSs, exS, testOf, toP, evR, evS, evD, evPs, evA, evI, evB, evG, frz, getP, isSet, slotD, itemD, atI, ixN, cmpD, truth, arith, biD, isiD, RD.d, slOf, mutAt, isMut, isL, setAt, appAt, outsOf, argV, sRefs, putBack, reslot, bindT, bindTs, partOf, MI.isNon, sliceD, itemsD, itemsT, isT, setIs, evRs, augD, popOf, wipeable, wipeE, restoreE, wiped, ctx_call, ctx_modes, ctx_glob, ctx_names, ctx_cls, ctx_kws, szOk, lk_eq, mtD, mtK, insC_ins, MI.isObj, isDic, dicAt, dputAt, storeD, lookD, keyD, keysD, insAt, fldAt, fldD, MI.putF, pickK, revD, l4], by simp [runFn, modesOf, argSl, exSs, exS, testOf, toP, evR, evS, evD, evPs, evA, evI, evB, evG, frz, getP, isSet, slotD, itemD, atI, ixN, cmpD, truth, arith, biD, isiD, RD.d, slOf, mutAt, isMut, isL, setAt, appAt, outsOf, argV, sRefs, putBack, reslot, bindT, bindTs, partOf, MI.isNon, sliceD, itemsD, itemsT, isT, setIs, evRs, augD, popOf, wipeable, wipeE, restoreE, wiped, ctx_call, ctx_modes, ctx_glob, ctx_names, ctx_cls, ctx_kws, szOk, lk_eq, mtD, mtK, insC_ins, MI.isObj, isDic, dicAt, dputAt, storeD, lookD, keyD, keysD, insAt, fldAt, fldD, MI.putF, pickK, revD], by simp [runFn, modesOf, argSl, exSs, exS, testOf, toP, evR, evS, evD, evPs, evA, evI, evB, evG, frz, getP, isSet, slotD, itemD, atI, ixN, cmpD, truth, arith, biD, isiD, RD.d, slOf, mutAt, isMut, isL, setAt, appAt, outsOf, argV, sRefs, putBack, reslot, bindT, bindTs, partOf, MI.isNon, sliceD, itemsD, itemsT, isT, setIs, evRs, augD, popOf, wipeable, wipeE, restoreE, wiped, ctx_call, ctx_modes, ctx_glob, ctx_names, ctx_cls, ctx_kws, szOk, lk_eq, mtD, mtK, insC_ins, MI.isObj, isDic, dicAt, dputAt, storeD, lookD, keyD, keysD, insAt, fldAt, fldD, MI.putF, pickK, revD], rfl⟩)]
          unfold rowL
          rw [List.map_map, List.map_map]
          simp [runFn, modesOf, argSl, exSs, exS, testOf, toP, evR, evS, evD, evPs, evA, evI, evB, evG, frz, getP, isSet, slotD, itemD, atI, ixN, cmpD, truth, arith, biD, isiD, RD.d, slOf, mutAt, isMut, isL, setAt, appAt, outsOf, argV, sRefs, putBack, reslot, bindT, bindTs, partOf, MI.isNon, sliceD, itemsD, itemsT, isT, setIs, evRs, augD, popOf, wipeable, wipeE, restoreE, wiped, ctx_call, ctx_modes, ctx_glob, ctx_names, ctx_cls, ctx_kws, szOk, lk_eq, mtD, mtK, insC_ins, MI.isObj, isDic, dicAt, dputAt, storeD, lookD, keyD, keysD, insAt, fldAt, fldD, MI.putF, pickK, revD]
          intro x hx
          simp [tD]
        have hlen : (acc ++ (List.range f).flatMap (rowL as ps s)).length + (rowL as ps s f).length < sizeLine := by
          refine ltS ?_
          have h1 := rowlen s hs f hf'
          have h3 := flat_len (l := List.range f) (f := rowL as ps s) (c := 60) fun x hx => rowlen s hs x (by have := List.mem_range.mp hx; omega)
          rw [List.length_range] at h3
          rw [List.length_append]
          omega
        refine ⟨_, [.val (.tup (as.map wk)), .val (planD ps), .own (.lst ((acc ++ (List.range (f + 1)).flatMap (rowL as ps s)).map tD)), .val (.int s), .val (.int f), s5, s6], by simp only [bindT]; rfl, .inl (sq ?_ sn), ⟨_, rfl⟩⟩
        rw [range_snoc, ← List.append_assoc]
        generalize acc ++ (List.range f).flatMap (rowL as ps s) = G at *
        generalize rowL as ps s f = R at *
        have lc2 : evR (P.ctx (n - 1)) C_all_clashes_1 ([.val (.tup (as.map wk)), .val (planD ps), .own (.lst (G.map tD)), .val (.int s), s4', s5, s6].set 4 (.val (.int f))) = some (.new (.lst (R.map tD)), [.val (.tup (as.map wk)), .val (planD ps), .own (.lst (G.map tD)), .val (.int s), .val (.int f), s5, s6]) := lc
        rw [exS]
        simp [runFn, modesOf, argSl, exSs, exS, testOf, toP, evR, evS, evD, evPs, evA, evI, evB, evG, frz, getP, isSet, slotD, itemD, atI, ixN, cmpD, truth, arith, biD, isiD, RD.d, slOf, mutAt, isMut, isL, setAt, appAt, outsOf, argV, sRefs, putBack, reslot, bindT, bindTs, partOf, MI.isNon, sliceD, itemsD, itemsT, isT, setIs, evRs, augD, popOf, wipeable, wipeE, restoreE, wiped, ctx_call, ctx_modes, ctx_glob, ctx_names, ctx_cls, ctx_kws, szOk, lk_eq, mtD, mtK, insC_ins, MI.isObj, isDic, dicAt, dputAt, storeD, lookD, keyD, keysD, insAt, fldAt, fldD, MI.putF, pickK, revD, frz, lc, hlen])
    rw [rgD_length] at hx
    refine ⟨s4', ?_⟩
    rw [hx]
    simp
  obtain ⟨e', hx, s3, s4, rfl⟩ : ∃ e', exS (P.ctx (n - 1)) P.w S_all_clashes_2 [.val (.tup (as.map wk)), .val (planD ps), .own (.lst []), .un, .un, .un, .un] = some (.nx e') ∧ ∃ s3 s4, e' = [.val (.tup (as.map wk)), .val (planD ps), .own (.lst ((clL as ps).map tD)), s3, s4, .un, .un] := by
    have er := rng_n (n := (ps.length : Int)) (by omega) (by omega)
    unfold S_all_clashes_2
    obtain ⟨e', hx, s3, s4, rfl⟩ := for_inv (C := P.ctx (n - 1)) (w := P.w) (t := .nm 3) (it := .rng [(.bi .len [(.var 1)])]) (body := [S_all_clashes_1]) (env := [.val (.tup (as.map wk)), .val (planD ps), .own (.lst []), .un, .un, .un, .un]) (e1 := [.val (.tup (as.map wk)), .val (planD ps), .own (.lst []), .un, .un, .un, .un]) (ds := rgD 0 ps.length)
      (J := fun i e' => ∃ s3 s4, e' = [.val (.tup (as.map wk)), .val (planD ps), .own (.lst (((List.range i).flatMap fun s => (List.range s).flatMap (rowL as ps s)).map tD)), s3, s4, .un, .un])
      (by simp [runFn, modesOf, argSl, exSs, exS, testOf, toP, evR, evS, evD, evPs, evA, evI, evB, evG, frz, getP, isSet, slotD, itemD, atI, ixN, cmpD, truth, arith, biD, isiD, RD.d, slOf, mutAt, isMut, isL, setAt, appAt, outsOf, argV, sRefs, putBack, reslot, bindT, bindTs, partOf, MI.isNon, sliceD, itemsD, itemsT, isT, setIs, evRs, augD, popOf, wipeable, wipeE, restoreE, wiped, ctx_call, ctx_modes, ctx_glob, ctx_names, ctx_cls, ctx_kws, szOk, lk_eq, mtD, mtK, insC_ins, MI.isObj, isDic, dicAt, dputAt, storeD, lookD, keyD, keysD, insAt, fldAt, fldD, MI.putF, pickK, revD, planD, er]) ⟨.un, .un, rfl⟩ (by
        intro s d e hd ⟨s3, s4, he⟩
        subst he
        obtain ⟨rfl, hs⟩ := rgD_get hd
        have hs' : s < ps.length := by omega
        obtain ⟨s4', hx⟩ := inner s hs' ((List.range s).flatMap fun s => (List.range s).flatMap (rowL as ps s)) (by
          have := flat_len (l := List.range s) (f := fun s => (List.range s).flatMap (rowL as ps s)) (c := 3600) fun x hx => by
            have hx := List.mem_range.mp hx
            have h3 := flat_len (l := List.range x) (f := rowL as ps x) (c := 60) fun y hy => rowlen x (by omega) y (by have := List.mem_range.mp hy; omega)
            rw [List.length_range] at h3
            omega
          rw [List.length_range] at this
          omega) s4 .un .un rfl rfl
        refine ⟨_, _, by simp only [bindT]; rfl, .inl (sq hx sn), .val (.int s), s4', ?_⟩
        rw [range_snoc (fun s => (List.range s).flatMap (rowL as ps s))])
    rw [rgD_length] at hx
    refine ⟨_, hx, s3, s4, ?_⟩
    simp [clL]
  have hk : ∀ x ∈ clL as ps, x.length = 4 := by
    intro x hx
    unfold clL at hx
    obtain ⟨s, _, hx⟩ := List.mem_flatMap.mp hx
    obtain ⟨f, _, hx⟩ := List.mem_flatMap.mp hx
    unfold rowL pairL at hx
    dsimp only at hx
    obtain ⟨y, hy, rfl⟩ := List.mem_map.mp hx
    obtain ⟨t, ht, rfl⟩ := List.mem_map.mp hy
    rfl
  have so := sort_tD (by decide) hk
  refine run_rt (env := [.val (.tup (as.map wk)), .val (planD ps), .un, .un, .un, .un, .un]) (e := [.val (.tup (as.map wk)), .val (planD ps), .own (.lst ((clL as ps).map tD)), s3, s4, .un, .un]) rfl rfl ?_ rfl
  refine sq (e := [.val (.tup (as.map wk)), .val (planD ps), .own (.lst []), .un, .un, .un, .un]) (by simp [runFn, modesOf, argSl, exSs, exS, testOf, toP, evR, evS, evD, evPs, evA, evI, evB, evG, frz, getP, isSet, slotD, itemD, atI, ixN, cmpD, truth, arith, biD, isiD, RD.d, slOf, mutAt, isMut, isL, setAt, appAt, outsOf, argV, sRefs, putBack, reslot, bindT, bindTs, partOf, MI.isNon, sliceD, itemsD, itemsT, isT, setIs, evRs, augD, popOf, wipeable, wipeE, restoreE, wiped, ctx_call, ctx_modes, ctx_glob, ctx_names, ctx_cls, ctx_kws, szOk, lk_eq, mtD, mtK, insC_ins, MI.isObj, isDic, dicAt, dputAt, storeD, lookD, keyD, keysD, insAt, fldAt, fldD, MI.putF, pickK, revD]) (sq hx (sr ?_))
  simp [runFn, modesOf, argSl, exSs, exS, testOf, toP, evR, evS, evD, evPs, evA, evI, evB, evG, frz, getP, isSet, slotD, itemD, atI, ixN, cmpD, truth, arith, biD, isiD, RD.d, slOf, mutAt, isMut, isL, setAt, appAt, outsOf, argV, sRefs, putBack, reslot, bindT, bindTs, partOf, MI.isNon, sliceD, itemsD, itemsT, isT, setIs, evRs, augD, popOf, wipeable, wipeE, restoreE, wiped, ctx_call, ctx_modes, ctx_glob, ctx_names, ctx_cls, ctx_kws, szOk, lk_eq, mtD, mtK, insC_ins, MI.isObj, isDic, dicAt, dputAt, storeD, lookD, keyD, keysD, insAt, fldAt, fldD, MI.putF, pickK, revD, so]
/-! ### the first clash -/
theorem flat_ints (n : Nat) : ∀ x : List Int, flatDs n (x.map .int) = true
  | [] => by simp [flatDs]
  | i :: x => by simp [flatDs, flatD, flat_ints n x]
theorem flat_tD (n : Nat) : ∀ l : List (List Int), flatDs (n + 1) (l.map tD) = true
  | [] => by simp [flatDs]
  | x :: l => by simp [flatDs, flatD, tD, flat_ints n x, flat_tD n l]
theorem dataOk_tDs (l : List (List Int)) : dataOk (.lst (l.map tD)) = true := by
  unfold dataOk flatD
  exact flat_tD 38 l
theorem dataOk_nil : dataOk (.lst []) = true := by simp [dataOk, flatD, flatDs]
theorem dataOk_wk (l : List Int) : dataOk (wk l) = true := by
  unfold dataOk wk flatD
  exact flat_ints 39 l
theorem scal_ints (l : List Int) : (l.map D.int).all isScal = true := by
  simp [isScal]
theorem any_ints (l : List Int) (d : Int) : ((l.map D.int).any fun y => eqD y (.int d)) = decide (d ∈ l) := by
  induction l with
  | nil => simp
  | cons x l ih =>
    rw [List.map_cons, List.any_cons, ih]
    by_cases e : x = d
    · simp [eqD, e]
    · simp [eqD, e, Ne.symm e]
theorem notIn_wk (l : List Int) (d : Int) : cmpD .NotIn (.int d) (wk l) = some (!decide (d ∈ l)) := by
  rw [← any_ints]
  simp only [cmpD, wk, scal_ints]
  rfl
theorem in_wk (l : List Int) (d : Int) : cmpD .In (.int d) (wk l) = some (decide (d ∈ l)) := by
  rw [← any_ints]
  simp only [cmpD, wk, scal_ints]
  rfl
mutual
theorem eqD_refl : ∀ (n : Nat) (d : D), flatD n d = true → eqD d d = true
  | _, .non, _ => by simp [eqD]
  | _, .bl b, _ => by simp [eqD]
  | _, .int i, _ => by simp [eqD]
  | _, .str x, _ => by simp [eqD]
  | n + 1, .tup xs, h => by
    unfold flatD at h
    unfold eqD
    exact eqDs_refl n xs h
  | n + 1, .lst xs, h => by
    unfold flatD at h
    unfold eqD
    exact eqDs_refl n xs h
  | 0, .tup _, h => by unfold flatD at h; cases h
  | 0, .lst _, h => by unfold flatD at h; cases h
  | _, .scr _, h => by unfold flatD at h; cases h
  | _, .dk _ _, h => by unfold flatD at h; cases h
  | _, .dt _ _, h => by unfold flatD at h; cases h
  | _, .ins _ _ _, h => by unfold flatD at h; cases h
theorem eqDs_refl : ∀ (n : Nat) (ds : List D), flatDs n ds = true → eqDs ds ds = true
  | _, [], _ => by simp [eqDs]
  | n, d :: r, h => by
    unfold flatDs at h
    simp only [Bool.and_eq_true] at h
    unfold eqDs
    rw [eqD_refl n d h.1, eqDs_refl n r h.2]
    rfl
end
theorem ne_self {d : D} (h : dataOk d = true) : cmpD .NotEq d d = some false := by
  have e := eqD_refl 40 d h
  cases d <;> simp_all [cmpD]
theorem eq_self {d : D} (h : dataOk d = true) : cmpD .Eq d d = some true := by
  have e := eqD_refl 40 d h
  cases d <;> simp_all [cmpD]
def clashD (as : List (List Int)) (ps : List (Int × Nat)) : D := match srtB leI (clL as ps) with
  | [] => .non
  | x :: _ => tD x
structure Clashes (P : Prg) (Ca : Addr) : Prop where
  pl : Plans P Ca
  need_line : Hs P "need_line" F_need_line
  pair : Hs P "pair_clashes" F_pair_clashes
  all : Hs P "all_clashes" F_all_clashes
  clash : Hs P "clash" F_clash
theorem clash_runs (h : Clashes P Ca) {n : Nat} (hn : 6 ≤ n) {as : List (List Int)} (ha : IsLine as) {ps : List (Int × Nat)} (hp : IsPlan as.length ps) (hb : ∀ p ∈ ps, ∀ q ∈ ps, -10000 ≤ q.1 - p.1 ∧ q.1 - p.1 ≤ 10000) :
    P.calls n "clash" [.d (lineD Ca as), .d (planD ps)] = some (.old (clashD as ps), []) := by
  obtain ⟨cl, pr, hc⟩ := h.pl.l.cls
  have e1 := needLine_runs h.need_line h.pl.l (n := n - 1) (by omega) (as := as)
  have e2 := needPlan_runs h.pl (n := n - 1) (by omega) hp
  have e3 := all_runs h.all h.pair h.pl.l (n := n - 1) (by omega) ha hp hb
  have m1 := h.need_line.md
  have m2 := h.pl.need.md
  have m3 := h.all.md
  have d1 := dataOk_tDs (srtB leI (clL as ps))
  have d2 := dataOk_nil
  rw [h.clash.eq (by omega)]
  unfold clashD
  have l0 := leS (n := 0) (by decide)
  cases hq : srtB leI (clL as ps) with
  | nil =>
    rw [hq] at e3
    simp only [List.map_nil] at e3
    simp [F_clash, F_need_line, F_need_plan, F_all_clashes, runFn, modesOf, argSl, exSs, exS, testOf, toP, evR, evS, evD, evPs, evA, evI, evB, evG, frz, getP, isSet, slotD, itemD, atI, ixN, cmpD, truth, arith, biD, isiD, RD.d, slOf, mutAt, isMut, isL, setAt, appAt, outsOf, argV, sRefs, putBack, reslot, bindT, bindTs, partOf, MI.isNon, sliceD, itemsD, itemsT, isT, setIs, evRs, augD, popOf, wipeable, wipeE, restoreE, wiped, ctx_call, ctx_modes, ctx_glob, ctx_names, ctx_cls, ctx_kws, szOk, lk_eq, mtD, mtK, insC_ins, MI.isObj, isDic, dicAt, dputAt, storeD, lookD, keyD, keysD, insAt, fldAt, fldD, MI.putF, pickK, revD, hc, insC_line, attr_own, m1, m2, m3, e1, e2, e3, d2, eqD, eqDs, l0]
  | cons x r =>
    rw [hq] at e3 d1
    simp only [List.map_cons] at e3 d1
    simp [F_clash, F_need_line, F_need_plan, F_all_clashes, runFn, modesOf, argSl, exSs, exS, testOf, toP, evR, evS, evD, evPs, evA, evI, evB, evG, frz, getP, isSet, slotD, itemD, atI, ixN, cmpD, truth, arith, biD, isiD, RD.d, slOf, mutAt, isMut, isL, setAt, appAt, outsOf, argV, sRefs, putBack, reslot, bindT, bindTs, partOf, MI.isNon, sliceD, itemsD, itemsT, isT, setIs, evRs, augD, popOf, wipeable, wipeE, restoreE, wiped, ctx_call, ctx_modes, ctx_glob, ctx_names, ctx_cls, ctx_kws, szOk, lk_eq, mtD, mtK, insC_ins, MI.isObj, isDic, dicAt, dputAt, storeD, lookD, keyD, keysD, insAt, fldAt, fldD, MI.putF, pickK, revD, hc, insC_line, attr_own, m1, m2, m3, e1, e2, e3, d1, d2, eqD, eqDs, l0]
theorem bars2_runs (h : Works P) (h2 : Hs P "need_work" F_need_work) (h3 : Hs P "meets" F_meets) (h4 : Hs P "bars_of" F_bars_of) (h5 : Hs P "bars" F_bars) {n : Nat} (hn : 4 ≤ n) {a b : List Int} (ha : IsWork a) (hb : IsWork b) : P.calls n "bars" [.d (wk a), .d (wk b)] = some (.old (wk (barsL a b)), []) := by
  have e1 := needWork_runs h h2 (n := n - 1) (by omega) ha
  have e2 := needWork_runs h h2 (n := n - 1) (by omega) hb
  have e3 := bars_runs h3 h4 h.nowhere (n := n - 1) (by omega) (a := a) (b := b) (by have := ha.len1; omega) (by have := hb.len1; omega)
  have m1 := h2.md
  have m2 := h4.md
  rw [h5.eq (by omega)]
  simp [F_bars, F_need_work, F_bars_of, runFn, modesOf, argSl, exSs, exS, testOf, toP, evR, evS, evD, evPs, evA, evI, evB, evG, frz, getP, isSet, slotD, itemD, atI, ixN, cmpD, truth, arith, biD, isiD, RD.d, slOf, mutAt, isMut, isL, setAt, appAt, outsOf, argV, sRefs, putBack, reslot, bindT, bindTs, partOf, MI.isNon, sliceD, itemsD, itemsT, isT, setIs, evRs, augD, popOf, wipeable, wipeE, restoreE, wiped, ctx_call, ctx_modes, ctx_glob, ctx_names, ctx_cls, ctx_kws, szOk, lk_eq, mtD, mtK, insC_ins, MI.isObj, isDic, dicAt, dputAt, storeD, lookD, keyD, keysD, insAt, fldAt, fldD, MI.putF, pickK, revD, m1, m2, e1, e2, e3]
theorem make_runs (h : Lines P Ca) {n : Nat} (hn : 3 ≤ n) {as : List (List Int)} (ha : IsLine as) {es : List MI.E} {env env' : MI.Env} (he : evD (P.ctx n) es env = some (as.map wk, env')) : evR (P.ctx n) (.make "Line" es) env = some (.new (lineD Ca as), env') := by
  obtain ⟨cl, pr, hc⟩ := h.cls
  have e := init_runs h hn ha
  have l := leS (n := (as.map wk).length) (by rw [List.length_map]; have := ha.len1; omega)
  rw [evR, he, Option.bind_some]
  simp [runFn, modesOf, argSl, exSs, exS, testOf, toP, evR, evS, evD, evPs, evA, evI, evB, evG, frz, getP, isSet, slotD, itemD, atI, ixN, cmpD, truth, arith, biD, isiD, RD.d, slOf, mutAt, isMut, isL, setAt, appAt, outsOf, argV, sRefs, putBack, reslot, bindT, bindTs, partOf, MI.isNon, sliceD, itemsD, itemsT, isT, setIs, evRs, augD, popOf, wipeable, wipeE, restoreE, wiped, ctx_call, ctx_modes, ctx_glob, ctx_names, ctx_cls, ctx_kws, szOk, lk_eq, mtD, mtK, insC_ins, MI.isObj, isDic, dicAt, dputAt, storeD, lookD, keyD, keysD, insAt, fldAt, fldD, MI.putF, pickK, revD, hc, e]
  simpa using l
end SG

namespace MI
open PySem L2
/-- a while of a known number of turns -/
theorem whileGo_runs {t : Env → Option (Bool × Env)} {f : Env → Option Out} {R : Nat → Env → Prop} {Q : Env → Prop} (h1 : ∀ k e, R (k + 1) e → ∃ e1 e2, t e = some (true, e1) ∧ (f e1 = some (.nx e2) ∨ f e1 = some (.ct e2)) ∧ R k e2) (h0 : ∀ e, R 0 e → ∃ e1, t e = some (false, e1) ∧ Q e1) :
    ∀ (n k : Nat) (e : Env), k < n → R k e → ∃ e1, whileGo t f n e = some (.nx e1) ∧ Q e1
  | 0, k, e, h, _ => by omega
  | n + 1, 0, e, _, hr => by
    obtain ⟨e1, a, b⟩ := h0 e hr
    refine ⟨e1, ?_, b⟩
    unfold whileGo
    rw [a]
    rfl
  | n + 1, k + 1, e, h, hr => by
    obtain ⟨e1, e2, a, b, c⟩ := h1 k e hr
    obtain ⟨e3, d, q⟩ := whileGo_runs h1 h0 n k e2 (by omega) c
    refine ⟨e3, ?_, q⟩
    unfold whileGo
    rw [a]
    simp only [Option.bind_some, if_true]
    rcases b with b | b <;> (rw [b]; exact d)
theorem while_runs {C : Ctx} {w : Nat} {c : E} {body : List S} {env : Env} {R : Nat → Env → Prop} {Q : Env → Prop} (h1 : ∀ k e, R (k + 1) e → ∃ e1 e2, testOf c (evR C c) e = some (true, e1) ∧ (exSs C w body e1 = some (.nx e2) ∨ exSs C w body e1 = some (.ct e2)) ∧ R k e2) (h0 : ∀ e, R 0 e → ∃ e1, testOf c (evR C c) e = some (false, e1) ∧ Q e1) {k : Nat} (hk : k < w) (hr : R k env) :
    ∃ e1, exS C w (.while_ c body) env = some (.nx e1) ∧ Q e1 := by
  obtain ⟨e1, a, b⟩ := whileGo_runs h1 h0 w k env hk hr
  exact ⟨e1, by rw [exS]; exact a, b⟩
/-- the first from t on where p does not hold, looking at so many -/
def ff (p : Int → Bool) : Nat → Int → Int
  | 0, t => t
  | n + 1, t => if p t then ff p n (t + 1) else t
theorem ff_ge (p : Int → Bool) : ∀ (n : Nat) (t : Int), t ≤ ff p n t ∧ ff p n t ≤ t + n
  | 0, t => by simp [ff]
  | n + 1, t => by
    unfold ff
    split
    · have := ff_ge p n (t + 1)
      omega
    · omega
theorem ff_below (p : Int → Bool) : ∀ (n : Nat) (t x : Int), t ≤ x → x < ff p n t → p x = true
  | 0, t, x, h0, h1 => by simp [ff] at h1; omega
  | n + 1, t, x, h0, h1 => by
    unfold ff at h1
    split at h1
    · by_cases e : x = t
      · subst e; assumption
      · exact ff_below p n (t + 1) x (by omega) h1
    · omega
theorem ff_at (p : Int → Bool) : ∀ (n : Nat) (t x : Int), t ≤ x → x ≤ t + n → p x = false → p (ff p n t) = false
  | 0, t, x, h0, h1, h => by
    have : x = t := by omega
    subst this
    exact h
  | n + 1, t, x, h0, h1, h => by
    unfold ff
    split
    · rename_i hp
      by_cases e : x = t
      · subst e; rw [h] at hp; cases hp
      · exact ff_at p n (t + 1) x (by omega) (by omega) h
    · rename_i hp
      exact Bool.not_eq_true _ ▸ hp
theorem ff_congr {p q : Int → Bool} : ∀ (n : Nat) (t : Int), (∀ x, t ≤ x → p x = q x) → ff p n t = ff q n t
  | 0, t, _ => rfl
  | n + 1, t, h => by
    unfold ff
    rw [h t (by omega), ff_congr n (t + 1) fun x hx => h x (by omega)]
end MI
namespace SG
open MI L2 PySem
def C_are_kinds_1 : MI.E := .lc [3] (.call "is_kind" [(.var 0), (.var 3)]) (.nm 3) (.seq (.var 1)) (.cst (.bl true))
theorem tp_C_are_kinds_1 (r : MI.Env → Option (RD × MI.Env)) (env : MI.Env) : toP C_are_kinds_1 r env = (r env).map fun x => (.d x.1.d, x.2) := rfl
def F_are_kinds : Fn := ⟨[false, false, false], ["line", "thing", "many"], 4, [.ifs (.boo false [(.nt (.isi (.var 1) .tuple)), (.nt (.chain .LtE .LtE (.cst (.int 1)) (.bi .len [(.var 1)]) (.var 2)))]) [.ret (.cst (.bl false))] [], .ret (.bi .all [C_are_kinds_1])]⟩
def F_need_kinds : Fn := ⟨[false, false, false], ["line", "thing", "many"], 3, [.ifs (.nt (.call "are_kinds" [(.var 0), (.var 1), (.var 2)])) [.stop] []]⟩
def C_early_tick_1 : MI.E := .lc [4, 5] (.cmp .NotEq (.call "meets" [(.sub (.var 0) (.var 5)), (.sub (.var 0) (.var 2)), (.bin .Sub (.var 3) (.var 4))]) (.lst [])) (.tp [(.nm 4), (.nm 5)]) (.seq (.var 1)) (.cst (.bl true))
theorem tp_C_early_tick_1 (r : MI.Env → Option (RD × MI.Env)) (env : MI.Env) : toP C_early_tick_1 r env = (r env).map fun x => (.d x.1.d, x.2) := rfl
def S_early_tick_1 : MI.S := .while_ (.bi .any [C_early_tick_1]) [.asg 3 (.bin .Add (.var 3) (.cst (.int 1)))]
def F_early_tick : Fn := ⟨[false, false, false, false], ["works", "plan", "kind", "tick"], 6, [S_early_tick_1, .ret (.var 3)]⟩
def S_early_1 : MI.S := .for_ (.nm 3) (.seq (.var 1)) [.asg 4 (.ite (.cmp .Eq (.var 2) (.tup [])) (.cst (.int 0)) (.bin .Add (.sub (.sub (.var 2) (.neg (.cst (.int 1)))) (.cst (.int 0))) (.cst (.int 1)))), .asg 2 (.tup [(.star (.var 2)), (.tup [(.call "early_tick" [(.attr "Line" "own" (.var 0)), (.var 2), (.var 3), (.var 4)]), (.var 3)])])]
def F_early : Fn := ⟨[false, false], ["line", "kinds"], 5, [.expr (.call "need_line" [(.var 0)]), .expr (.call "need_kinds" [(.var 0), (.var 1), (.glo "MOST_IN_ORDER")]), .asg 2 (.tup []), S_early_1, .ret (.var 2)]⟩
def F_law_line20 : Fn := ⟨[false], ["_law_works"], 1, [.ifs (.cmp .Eq (.bi .len [(.var 0)]) (.cst (.int 1))) [.ret (.make "Line" [(.sub (.var 0) (.cst (.int 0)))])] [], .ifs (.cmp .Eq (.bi .len [(.var 0)]) (.cst (.int 2))) [.ret (.make "Line" [(.sub (.var 0) (.cst (.int 0))), (.sub (.var 0) (.cst (.int 1)))])] [], .ret (.make "Line" [(.sub (.var 0) (.cst (.int 0))), (.sub (.var 0) (.cst (.int 1))), (.sub (.var 0) (.cst (.int 2)))])]⟩

variable {P : Prg} {Ca : Addr}
/-! ### lines of works -/
theorem line20_runs (h : Hs P "_law_line" F_law_line20) (hl : Lines P Ca) {n : Nat} (hn : 4 ≤ n) {as : List (List Int)} (ha : IsLine as) : P.calls n "_law_line" [.d (.tup (as.map wk))] = some (.new (lineD Ca as), []) := by
  have l0 := ha.len0
  have l1 := ha.len1
  rw [h.eq (by omega)]
  match as, ha, l0, l1 with
  | [a], ha, _, _ =>
    have mk := make_runs hl (n := n - 1) (by omega) ha (es := [(.sub (.var 0) (.cst (.int 0)))]) (env := [.val (.tup [wk a])]) (env' := [.val (.tup [wk a])]) (by simp [runFn, modesOf, argSl, exSs, exS, testOf, toP, evR, evS, evD, evPs, evA, evI, evB, evG, frz, getP, isSet, slotD, itemD, atI, ixN, cmpD, truth, arith, biD, isiD, RD.d, slOf, mutAt, isMut, isL, setAt, appAt, outsOf, argV, sRefs, putBack, reslot, bindT, bindTs, partOf, MI.isNon, sliceD, itemsD, itemsT, isT, setIs, evRs, augD, popOf, wipeable, wipeE, restoreE, wiped, ctx_call, ctx_modes, ctx_glob, ctx_names, ctx_cls, ctx_kws, szOk, lk_eq, mtD, mtK, insC_ins, MI.isObj, isDic, dicAt, dputAt, storeD, lookD, keyD, keysD, insAt, fldAt, fldD, MI.putF, pickK, revD])
    refine run_rt (env := [.val (.tup [wk a])]) (e := [.val (.tup [wk a])]) rfl rfl (sr (if_yes (e := [.val (.tup [wk a])]) (by simp [runFn, modesOf, argSl, exSs, exS, testOf, toP, evR, evS, evD, evPs, evA, evI, evB, evG, frz, getP, isSet, slotD, itemD, atI, ixN, cmpD, truth, arith, biD, isiD, RD.d, slOf, mutAt, isMut, isL, setAt, appAt, outsOf, argV, sRefs, putBack, reslot, bindT, bindTs, partOf, MI.isNon, sliceD, itemsD, itemsT, isT, setIs, evRs, augD, popOf, wipeable, wipeE, restoreE, wiped, ctx_call, ctx_modes, ctx_glob, ctx_names, ctx_cls, ctx_kws, szOk, lk_eq, mtD, mtK, insC_ins, MI.isObj, isDic, dicAt, dputAt, storeD, lookD, keyD, keysD, insAt, fldAt, fldD, MI.putF, pickK, revD]) (sr (ret_of mk fun i z => by cases z)))) rfl
  | [a, b], ha, _, _ =>
    have mk := make_runs hl (n := n - 1) (by omega) ha (es := [(.sub (.var 0) (.cst (.int 0))), (.sub (.var 0) (.cst (.int 1)))]) (env := [.val (.tup [wk a, wk b])]) (env' := [.val (.tup [wk a, wk b])]) (by simp [runFn, modesOf, argSl, exSs, exS, testOf, toP, evR, evS, evD, evPs, evA, evI, evB, evG, frz, getP, isSet, slotD, itemD, atI, ixN, cmpD, truth, arith, biD, isiD, RD.d, slOf, mutAt, isMut, isL, setAt, appAt, outsOf, argV, sRefs, putBack, reslot, bindT, bindTs, partOf, MI.isNon, sliceD, itemsD, itemsT, isT, setIs, evRs, augD, popOf, wipeable, wipeE, restoreE, wiped, ctx_call, ctx_modes, ctx_glob, ctx_names, ctx_cls, ctx_kws, szOk, lk_eq, mtD, mtK, insC_ins, MI.isObj, isDic, dicAt, dputAt, storeD, lookD, keyD, keysD, insAt, fldAt, fldD, MI.putF, pickK, revD])
    refine run_rt (env := [.val (.tup [wk a, wk b])]) (e := [.val (.tup [wk a, wk b])]) rfl rfl (sq (e := [.val (.tup [wk a, wk b])]) (if_no (e := [.val (.tup [wk a, wk b])]) (by simp [runFn, modesOf, argSl, exSs, exS, testOf, toP, evR, evS, evD, evPs, evA, evI, evB, evG, frz, getP, isSet, slotD, itemD, atI, ixN, cmpD, truth, arith, biD, isiD, RD.d, slOf, mutAt, isMut, isL, setAt, appAt, outsOf, argV, sRefs, putBack, reslot, bindT, bindTs, partOf, MI.isNon, sliceD, itemsD, itemsT, isT, setIs, evRs, augD, popOf, wipeable, wipeE, restoreE, wiped, ctx_call, ctx_modes, ctx_glob, ctx_names, ctx_cls, ctx_kws, szOk, lk_eq, mtD, mtK, insC_ins, MI.isObj, isDic, dicAt, dputAt, storeD, lookD, keyD, keysD, insAt, fldAt, fldD, MI.putF, pickK, revD]) sn) (sr (if_yes (e := [.val (.tup [wk a, wk b])]) (by simp [runFn, modesOf, argSl, exSs, exS, testOf, toP, evR, evS, evD, evPs, evA, evI, evB, evG, frz, getP, isSet, slotD, itemD, atI, ixN, cmpD, truth, arith, biD, isiD, RD.d, slOf, mutAt, isMut, isL, setAt, appAt, outsOf, argV, sRefs, putBack, reslot, bindT, bindTs, partOf, MI.isNon, sliceD, itemsD, itemsT, isT, setIs, evRs, augD, popOf, wipeable, wipeE, restoreE, wiped, ctx_call, ctx_modes, ctx_glob, ctx_names, ctx_cls, ctx_kws, szOk, lk_eq, mtD, mtK, insC_ins, MI.isObj, isDic, dicAt, dputAt, storeD, lookD, keyD, keysD, insAt, fldAt, fldD, MI.putF, pickK, revD]) (sr (ret_of mk fun i z => by cases z))))) rfl
  | [a, b, c], ha, _, _ =>
    have mk := make_runs hl (n := n - 1) (by omega) ha (es := [(.sub (.var 0) (.cst (.int 0))), (.sub (.var 0) (.cst (.int 1))), (.sub (.var 0) (.cst (.int 2)))]) (env := [.val (.tup [wk a, wk b, wk c])]) (env' := [.val (.tup [wk a, wk b, wk c])]) (by simp [runFn, modesOf, argSl, exSs, exS, testOf, toP, evR, evS, evD, evPs, evA, evI, evB, evG, frz, getP, isSet, slotD, itemD, atI, ixN, cmpD, truth, arith, biD, isiD, RD.d, slOf, mutAt, isMut, isL, setAt, appAt, outsOf, argV, sRefs, putBack, reslot, bindT, bindTs, partOf, MI.isNon, sliceD, itemsD, itemsT, isT, setIs, evRs, augD, popOf, wipeable, wipeE, restoreE, wiped, ctx_call, ctx_modes, ctx_glob, ctx_names, ctx_cls, ctx_kws, szOk, lk_eq, mtD, mtK, insC_ins, MI.isObj, isDic, dicAt, dputAt, storeD, lookD, keyD, keysD, insAt, fldAt, fldD, MI.putF, pickK, revD])
    refine run_rt (env := [.val (.tup [wk a, wk b, wk c])]) (e := [.val (.tup [wk a, wk b, wk c])]) rfl rfl (sq (e := [.val (.tup [wk a, wk b, wk c])]) (if_no (e := [.val (.tup [wk a, wk b, wk c])]) (by simp [runFn, modesOf, argSl, exSs, exS, testOf, toP, evR, evS, evD, evPs, evA, evI, evB, evG, frz, getP, isSet, slotD, itemD, atI, ixN, cmpD, truth, arith, biD, isiD, RD.d, slOf, mutAt, isMut, isL, setAt, appAt, outsOf, argV, sRefs, putBack, reslot, bindT, bindTs, partOf, MI.isNon, sliceD, itemsD, itemsT, isT, setIs, evRs, augD, popOf, wipeable, wipeE, restoreE, wiped, ctx_call, ctx_modes, ctx_glob, ctx_names, ctx_cls, ctx_kws, szOk, lk_eq, mtD, mtK, insC_ins, MI.isObj, isDic, dicAt, dputAt, storeD, lookD, keyD, keysD, insAt, fldAt, fldD, MI.putF, pickK, revD]) sn) (sq (e := [.val (.tup [wk a, wk b, wk c])]) (if_no (e := [.val (.tup [wk a, wk b, wk c])]) (by simp [runFn, modesOf, argSl, exSs, exS, testOf, toP, evR, evS, evD, evPs, evA, evI, evB, evG, frz, getP, isSet, slotD, itemD, atI, ixN, cmpD, truth, arith, biD, isiD, RD.d, slOf, mutAt, isMut, isL, setAt, appAt, outsOf, argV, sRefs, putBack, reslot, bindT, bindTs, partOf, MI.isNon, sliceD, itemsD, itemsT, isT, setIs, evRs, augD, popOf, wipeable, wipeE, restoreE, wiped, ctx_call, ctx_modes, ctx_glob, ctx_names, ctx_cls, ctx_kws, szOk, lk_eq, mtD, mtK, insC_ins, MI.isObj, isDic, dicAt, dputAt, storeD, lookD, keyD, keysD, insAt, fldAt, fldD, MI.putF, pickK, revD]) sn) (sr (ret_of mk fun i z => by cases z)))) rfl
/-! ### kinds -/
def ksD (ks : List Nat) : D := .tup (ks.map fun k => D.int (k : Nat))
theorem needKinds_runs (hl : Lines P Ca) (hik : Hs P "is_kind" F_is_kind) (h1 : Hs P "are_kinds" F_are_kinds) (h2 : Hs P "need_kinds" F_need_kinds) {n : Nat} (hn : 4 ≤ n) {as : List (List Int)} {ks : List Nat} {m : Nat} (hk : ∀ k ∈ ks, k < as.length) (l0 : 1 ≤ ks.length) (l1 : ks.length ≤ m) (hm : m ≤ 1000) : P.calls n "need_kinds" [.d (lineD Ca as), .d (ksD ks), .d (.int m)] = some (.old .non, []) := by
  have are : P.calls (n - 1) "are_kinds" [.d (lineD Ca as), .d (ksD ks), .d (.int m)] = some (.old (.bl true), []) := by
    rw [h1.eq (by omega)]
    have mk := hik.md
    have lc : evR (P.ctx (n - 1 - 1)) C_are_kinds_1 [.val (lineD Ca as), .val (ksD ks), .val (.int m), .un] = some (.new (.lst (List.replicate ks.length (.bl true))), [.val (lineD Ca as), .val (ksD ks), .val (.int m), .un]) := by
      unfold C_are_kinds_1
      rw [lc_map (e1 := [.val (lineD Ca as), .val (ksD ks), .val (.int m), .un]) (ds := ks.map fun k => D.int (k : Nat)) (f := fun _ => .bl true) (by simp [runFn, modesOf, argSl, exSs, exS, testOf, toP, evR, evS, evD, evPs, evA, evI, evB, evG, frz, getP, isSet, slotD, itemD, atI, ixN, cmpD, truth, arith, biD, isiD, RD.d, slOf, mutAt, isMut, isL, setAt, appAt, outsOf, argV, sRefs, putBack, reslot, bindT, bindTs, partOf, MI.isNon, sliceD, itemsD, itemsT, isT, setIs, evRs, augD, popOf, wipeable, wipeE, restoreE, wiped, ctx_call, ctx_modes, ctx_glob, ctx_names, ctx_cls, ctx_kws, szOk, lk_eq, mtD, mtK, insC_ins, MI.isObj, isDic, dicAt, dputAt, storeD, lookD, keyD, keysD, insAt, fldAt, fldD, MI.putF, pickK, revD, ksD]) (by simp [runFn, modesOf, argSl, exSs, exS, testOf, toP, evR, evS, evD, evPs, evA, evI, evB, evG, frz, getP, isSet, slotD, itemD, atI, ixN, cmpD, truth, arith, biD, isiD, RD.d, slOf, mutAt, isMut, isL, setAt, appAt, outsOf, argV, sRefs, putBack, reslot, bindT, bindTs, partOf, MI.isNon, sliceD, itemsD, itemsT, isT, setIs, evRs, augD, popOf, wipeable, wipeE, restoreE, wiped, ctx_call, ctx_modes, ctx_glob, ctx_names, ctx_cls, ctx_kws, szOk, lk_eq, mtD, mtK, insC_ins, MI.isObj, isDic, dicAt, dputAt, storeD, lookD, keyD, keysD, insAt, fldAt, fldD, MI.putF, pickK, revD]) (by rw [List.length_map]; omega) (fun x hx => by
        obtain ⟨k, hk', rfl⟩ := List.mem_map.mp hx
        have e := isKind_runs hl hik (n := n - 1 - 1) (by omega) (as := as) (k : Int)
        rw [decide_eq_true (by have := hk k hk'; omega)] at e
        exact ⟨[.val (lineD Ca as), .val (ksD ks), .val (.int m), .val (.int k)], .old (.bl true), [.val (lineD Ca as), .val (ksD ks), .val (.int m), .val (.int k)], by simp [runFn, modesOf, argSl, exSs, exS, testOf, toP, evR, evS, evD, evPs, evA, evI, evB, evG, frz, getP, isSet, slotD, itemD, atI, ixN, cmpD, truth, arith, biD, isiD, RD.d, slOf, mutAt, isMut, isL, setAt, appAt, outsOf, argV, sRefs, putBack, reslot, bindT, bindTs, partOf, MI.isNon, sliceD, itemsD, itemsT, isT, setIs, evRs, augD, popOf, wipeable, wipeE, restoreE, wiped, ctx_call, ctx_modes, ctx_glob, ctx_names, ctx_cls, ctx_kws, szOk, lk_eq, mtD, mtK, insC_ins, MI.isObj, isDic, dicAt, dputAt, storeD, lookD, keyD, keysD, insAt, fldAt, fldD, MI.putF, pickK, revD], by simp [runFn, modesOf, argSl, exSs, exS, testOf, toP, evR, evS, evD, evPs, evA, evI, evB, evG, frz, getP, isSet, slotD, itemD, atI, ixN, cmpD, truth, arith, biD, isiD, RD.d, slOf, mutAt, isMut, isL, setAt, appAt, outsOf, argV, sRefs, putBack, reslot, bindT, bindTs, partOf, MI.isNon, sliceD, itemsD, itemsT, isT, setIs, evRs, augD, popOf, wipeable, wipeE, restoreE, wiped, ctx_call, ctx_modes, ctx_glob, ctx_names, ctx_cls, ctx_kws, szOk, lk_eq, mtD, mtK, insC_ins, MI.isObj, isDic, dicAt, dputAt, storeD, lookD, keyD, keysD, insAt, fldAt, fldD, MI.putF, pickK, revD, mk, F_is_kind, e], by simp [runFn, modesOf, argSl, exSs, exS, testOf, toP, evR, evS, evD, evPs, evA, evI, evB, evG, frz, getP, isSet, slotD, itemD, atI, ixN, cmpD, truth, arith, biD, isiD, RD.d, slOf, mutAt, isMut, isL, setAt, appAt, outsOf, argV, sRefs, putBack, reslot, bindT, bindTs, partOf, MI.isNon, sliceD, itemsD, itemsT, isT, setIs, evRs, augD, popOf, wipeable, wipeE, restoreE, wiped, ctx_call, ctx_modes, ctx_glob, ctx_names, ctx_cls, ctx_kws, szOk, lk_eq, mtD, mtK, insC_ins, MI.isObj, isDic, dicAt, dputAt, storeD, lookD, keyD, keysD, insAt, fldAt, fldD, MI.putF, pickK, revD], by simp [runFn, modesOf, argSl, exSs, exS, testOf, toP, evR, evS, evD, evPs, evA, evI, evB, evG, frz, getP, isSet, slotD, itemD, atI, ixN, cmpD, truth, arith, biD, isiD, RD.d, slOf, mutAt, isMut, isL, setAt, appAt, outsOf, argV, sRefs, putBack, reslot, bindT, bindTs, partOf, MI.isNon, sliceD, itemsD, itemsT, isT, setIs, evRs, augD, popOf, wipeable, wipeE, restoreE, wiped, ctx_call, ctx_modes, ctx_glob, ctx_names, ctx_cls, ctx_kws, szOk, lk_eq, mtD, mtK, insC_ins, MI.isObj, isDic, dicAt, dputAt, storeD, lookD, keyD, keysD, insAt, fldAt, fldD, MI.putF, pickK, revD], rfl⟩), map_yes, List.length_map]
      simp [runFn, modesOf, argSl, exSs, exS, testOf, toP, evR, evS, evD, evPs, evA, evI, evB, evG, frz, getP, isSet, slotD, itemD, atI, ixN, cmpD, truth, arith, biD, isiD, RD.d, slOf, mutAt, isMut, isL, setAt, appAt, outsOf, argV, sRefs, putBack, reslot, bindT, bindTs, partOf, MI.isNon, sliceD, itemsD, itemsT, isT, setIs, evRs, augD, popOf, wipeable, wipeE, restoreE, wiped, ctx_call, ctx_modes, ctx_glob, ctx_names, ctx_cls, ctx_kws, szOk, lk_eq, mtD, mtK, insC_ins, MI.isObj, isDic, dicAt, dputAt, storeD, lookD, keyD, keysD, insAt, fldAt, fldD, MI.putF, pickK, revD]
    have a1 : (1 : Int) ≤ ((ks.length : Nat) : Int) := by omega
    have a2 : ((ks.length : Nat) : Int) ≤ (m : Int) := by omega
    refine run_rt (env := [.val (lineD Ca as), .val (ksD ks), .val (.int m), .un]) (e := [.val (lineD Ca as), .val (ksD ks), .val (.int m), .un]) rfl rfl ?_ rfl
    refine sq (e := [.val (lineD Ca as), .val (ksD ks), .val (.int m), .un]) (if_no (e := [.val (lineD Ca as), .val (ksD ks), .val (.int m), .un]) ?_ sn) (sr ?_)
    · simp [runFn, modesOf, argSl, exSs, exS, testOf, toP, evR, evS, evD, evPs, evA, evI, evB, evG, frz, getP, isSet, slotD, itemD, atI, ixN, cmpD, truth, arith, biD, isiD, RD.d, slOf, mutAt, isMut, isL, setAt, appAt, outsOf, argV, sRefs, putBack, reslot, bindT, bindTs, partOf, MI.isNon, sliceD, itemsD, itemsT, isT, setIs, evRs, augD, popOf, wipeable, wipeE, restoreE, wiped, ctx_call, ctx_modes, ctx_glob, ctx_names, ctx_cls, ctx_kws, szOk, lk_eq, mtD, mtK, insC_ins, MI.isObj, isDic, dicAt, dputAt, storeD, lookD, keyD, keysD, insAt, fldAt, fldD, MI.putF, pickK, revD, ksD, a1, a2]
    · simp [runFn, modesOf, argSl, exSs, exS, testOf, toP, evR, evS, evD, evPs, evA, evI, evB, evG, frz, getP, isSet, slotD, itemD, atI, ixN, cmpD, truth, arith, biD, isiD, RD.d, slOf, mutAt, isMut, isL, setAt, appAt, outsOf, argV, sRefs, putBack, reslot, bindT, bindTs, partOf, MI.isNon, sliceD, itemsD, itemsT, isT, setIs, evRs, augD, popOf, wipeable, wipeE, restoreE, wiped, ctx_call, ctx_modes, ctx_glob, ctx_names, ctx_cls, ctx_kws, szOk, lk_eq, mtD, mtK, insC_ins, MI.isObj, isDic, dicAt, dputAt, storeD, lookD, keyD, keysD, insAt, fldAt, fldD, MI.putF, pickK, revD, ↓tp_C_are_kinds_1, lc, bools_yes]
  have md := h1.md
  rw [h2.eq (by omega)]
  simp [F_need_kinds, F_are_kinds, runFn, modesOf, argSl, exSs, exS, testOf, toP, evR, evS, evD, evPs, evA, evI, evB, evG, frz, getP, isSet, slotD, itemD, atI, ixN, cmpD, truth, arith, biD, isiD, RD.d, slOf, mutAt, isMut, isL, setAt, appAt, outsOf, argV, sRefs, putBack, reslot, bindT, bindTs, partOf, MI.isNon, sliceD, itemsD, itemsT, isT, setIs, evRs, augD, popOf, wipeable, wipeE, restoreE, wiped, ctx_call, ctx_modes, ctx_glob, ctx_names, ctx_cls, ctx_kws, szOk, lk_eq, mtD, mtK, insC_ins, MI.isObj, isDic, dicAt, dputAt, storeD, lookD, keyD, keysD, insAt, fldAt, fldD, MI.putF, pickK, revD, md, are]
/-! ### early -/
/-- does a start of kind k at tick t meet a piece of the plan? -/
def busy (as : List (List Int)) (ps : List (Int × Nat)) (k : Nat) (t : Int) : Bool := ps.any fun p => !(meetL (as.getD p.2 []) (as.getD k []) (t - p.1)).isEmpty
def nextT (ps : List (Int × Nat)) : Int := match ps.getLast? with
  | none => 0
  | some p => p.1 + 1
def earlyStep (as : List (List Int)) (ps : List (Int × Nat)) (k : Nat) : List (Int × Nat) := ps ++ [(ff (busy as ps k) 60 (nextT ps), k)]
def earlyL (as : List (List Int)) (ks : List Nat) : List (Int × Nat) := ks.foldl (earlyStep as) []
/-- starts below t, within 60 times so many ticks -/
structure PlanB (m : Nat) (ps : List (Int × Nat)) : Prop where
  all : ∀ p ∈ ps, 0 ≤ p.1 ∧ p.1 < nextT ps ∧ p.2 < m
  next : nextT ps ≤ 61 * ps.length
theorem nextT_snoc (ps : List (Int × Nat)) (p : Int × Nat) : nextT (ps ++ [p]) = p.1 + 1 := by
  unfold nextT
  rw [List.getLast?_append]
  rfl
theorem nextT_nn {m : Nat} {ps : List (Int × Nat)} (h : PlanB m ps) : 0 ≤ nextT ps := by
  cases ps with
  | nil => decide
  | cons p r =>
    have := h.all p List.mem_cons_self
    omega
theorem busy_far {as : List (List Int)} (ha : IsLine as) {ps : List (Int × Nat)} (hp : PlanB as.length ps) {k : Nat} {t : Int} (ht : nextT ps + 59 ≤ t) : busy as ps k t = false := by
  unfold busy
  refine List.any_eq_false.mpr fun p hpp => ?_
  have h1 := hp.all p hpp
  have wa := ha.all _ (gd_mem (d := []) h1.2.2)
  have : meetL (as.getD p.2 []) (as.getD k []) (t - p.1) = [] := by
    refine List.eq_nil_iff_forall_not_mem.mpr fun u hu => ?_
    have := hit_in (mem_meetL.mp hu)
    have := wa.len1
    omega
  rw [this]
  decide
theorem early_planB {as : List (List Int)} (ha : IsLine as) {ps : List (Int × Nat)} (hp : PlanB as.length ps) {k : Nat} (hk : k < as.length) : PlanB as.length (earlyStep as ps k) := by
  have hg := ff_ge (busy as ps k) 60 (nextT ps)
  have hnn := nextT_nn hp
  constructor
  · intro p hpp
    unfold earlyStep at hpp ⊢
    rw [nextT_snoc]
    rcases List.mem_append.mp hpp with h | h
    · have := hp.all p h
      dsimp only
      omega
    · rw [List.mem_singleton.mp h]
      exact ⟨by dsimp only; omega, by dsimp only; omega, hk⟩
  · unfold earlyStep
    rw [nextT_snoc, List.length_append, List.length_singleton]
    have := hp.next
    dsimp only
    omega
theorem cmp_meet {a b : List Int} {d : Int} : cmpD .NotEq (.lst (meetD a (meetL a b d))) (.lst []) = some (!(meetL a b d).isEmpty) := by
  have fl0 : dataOk (.lst (meetD a (meetL a b d))) = true := by unfold dataOk flatD; exact flat_meet 38 a _
  have fl1 := dataOk_nil
  cases hq : meetL a b d with
  | nil =>
    rw [hq] at fl0
    simp [cmpD, fl0, fl1, meetD, eqD, eqDs]
  | cons t r =>
    rw [hq] at fl0
    simp only [meetD, List.map_cons] at fl0
    simp [cmpD, fl0, fl1, meetD, eqD, eqDs]
theorem earlyTick_runs (h : Hs P "early_tick" F_early_tick) (hl : Lines P Ca) (hw : 1000 ≤ P.w) {n : Nat} (hn : 2 ≤ n) {as : List (List Int)} (ha : IsLine as) {ps : List (Int × Nat)} (hp : PlanB as.length ps) (hlen : ps.length ≤ 100) {k : Nat} (hk : k < as.length) :
    P.calls n "early_tick" [.d (.tup (as.map wk)), .d (planD ps), .d (.int k), .d (.int (nextT ps))] = some (.old (.int (ff (busy as ps k) 60 (nextT ps))), []) := by
  rw [h.eq (by omega)]
  have hnn := nextT_nn hp
  have hnx := hp.next
  have md := hl.meets.md
  have l0 := leS (n := 0) (by decide)
  have hg := ff_ge (busy as ps k) 60 (nextT ps)
  have hfree : busy as ps k (ff (busy as ps k) 60 (nextT ps)) = false := ff_at _ 60 _ (nextT ps + 59) (by omega) (by omega) (busy_far ha hp (by omega))
  have b2 : atI (as.map wk) (k : Int) = some (wk (as.getD k [])) := by rw [atI_map, atI_gd [] hk]; rfl
  have wb := ha.all _ (gd_mem (d := []) hk)
  have test : ∀ t : Int, nextT ps ≤ t → t ≤ nextT ps + 60 → ∀ s4 s5, isMut s4 = false → isMut s5 = false → testOf (.bi .any [C_early_tick_1]) (evR (P.ctx (n - 1)) (.bi .any [C_early_tick_1])) [.val (.tup (as.map wk)), .val (planD ps), .val (.int k), .val (.int t), s4, s5] = some (busy as ps k t, [.val (.tup (as.map wk)), .val (planD ps), .val (.int k), .val (.int t), s4, s5]) := by
    intro t t0 t1 s4 s5 m4 m5
    simp only [isMut] at m4 m5
    have lc : evR (P.ctx (n - 1)) C_early_tick_1 [.val (.tup (as.map wk)), .val (planD ps), .val (.int k), .val (.int t), s4, s5] = some (.new (.lst ((ps.map fun p => !(meetL (as.getD p.2 []) (as.getD k []) (t - p.1)).isEmpty).map .bl)), [.val (.tup (as.map wk)), .val (planD ps), .val (.int k), .val (.int t), s4, s5]) := by
      unfold C_early_tick_1
      rw [lc_map (e1 := [.val (.tup (as.map wk)), .val (planD ps), .val (.int k), .val (.int t), s4, s5]) (ds := ps.map stD) (f := fun d => match d with | .tup [.int b, .int o] => .bl (!(meetL (as.getD o.toNat []) (as.getD k []) (t - b)).isEmpty) | d => d) (by simp [runFn, modesOf, argSl, exSs, exS, testOf, toP, evR, evS, evD, evPs, evA, evI, evB, evG, frz, getP, isSet, slotD, itemD, atI, ixN, cmpD, truth, arith, biD, isiD, RD.d, slOf, mutAt, isMut, isL, setAt, appAt, outsOf, argV, sRefs, putBack, reslot, bindT, bindTs, partOf, MI.isNon, sliceD, itemsD, itemsT, isT, setIs, evRs, augD, popOf, wipeable, wipeE, restoreE, wiped, ctx_call, ctx_modes, ctx_glob, ctx_names, ctx_cls, ctx_kws, szOk, lk_eq, mtD, mtK, insC_ins, MI.isObj, isDic, dicAt, dputAt, storeD, lookD, keyD, keysD, insAt, fldAt, fldD, MI.putF, pickK, revD, planD]) (by simp [runFn, modesOf, argSl, exSs, exS, testOf, toP, evR, evS, evD, evPs, evA, evI, evB, evG, frz, getP, isSet, slotD, itemD, atI, ixN, cmpD, truth, arith, biD, isiD, RD.d, slOf, mutAt, isMut, isL, setAt, appAt, outsOf, argV, sRefs, putBack, reslot, bindT, bindTs, partOf, MI.isNon, sliceD, itemsD, itemsT, isT, setIs, evRs, augD, popOf, wipeable, wipeE, restoreE, wiped, ctx_call, ctx_modes, ctx_glob, ctx_names, ctx_cls, ctx_kws, szOk, lk_eq, mtD, mtK, insC_ins, MI.isObj, isDic, dicAt, dputAt, storeD, lookD, keyD, keysD, insAt, fldAt, fldD, MI.putF, pickK, revD, m4, m5]) (by rw [List.length_map]; omega) (fun x hx => by
        obtain ⟨p, hpp, rfl⟩ := List.mem_map.mp hx
        have h1 := hp.all p hpp
        have wa := ha.all _ (gd_mem (d := []) h1.2.2)
        have b1 : atI (as.map wk) (p.2 : Int) = some (wk (as.getD p.2 [])) := by rw [atI_map, atI_gd [] h1.2.2]; rfl
        have e := meets_runs hl.meets hl.w.nowhere (n := n - 1) (by omega) (a := as.getD p.2 []) (b := as.getD k []) (d := t - p.1) (by have := wa.len1; omega) (by have := wb.len1; omega) (by omega) (by omega)
        have cm := cmp_meet (a := as.getD p.2 []) (b := as.getD k []) (d := t - p.1)
        refine ⟨[.val (.tup (as.map wk)), .val (planD ps), .val (.int k), .val (.int t), .val (.int p.1), .val (.int p.2)], .old (.bl (!(meetL (as.getD p.2 []) (as.getD k []) (t - p.1)).isEmpty)), [.val (.tup (as.map wk)), .val (planD ps), .val (.int k), .val (.int t), .val (.int p.1), .val (.int p.2)], by simp [runFn, modesOf, argSl, exSs, exS, testOf, toP, evR, evS, evD, evPs, evA, evI, evB, evG, frz, getP, isSet, slotD, itemD, atI, ixN, cmpD, truth, arith, biD, isiD, RD.d, slOf, mutAt, isMut, isL, setAt, appAt, outsOf, argV, sRefs, putBack, reslot, bindT, bindTs, partOf, MI.isNon, sliceD, itemsD, itemsT, isT, setIs, evRs, augD, popOf, wipeable, wipeE, restoreE, wiped, ctx_call, ctx_modes, ctx_glob, ctx_names, ctx_cls, ctx_kws, szOk, lk_eq, mtD, mtK, insC_ins, MI.isObj, isDic, dicAt, dputAt, storeD, lookD, keyD, keysD, insAt, fldAt, fldD, MI.putF, pickK, revD, stD], ?_, by simp [runFn, modesOf, argSl, exSs, exS, testOf, toP, evR, evS, evD, evPs, evA, evI, evB, evG, frz, getP, isSet, slotD, itemD, atI, ixN, cmpD, truth, arith, biD, isiD, RD.d, slOf, mutAt, isMut, isL, setAt, appAt, outsOf, argV, sRefs, putBack, reslot, bindT, bindTs, partOf, MI.isNon, sliceD, itemsD, itemsT, isT, setIs, evRs, augD, popOf, wipeable, wipeE, restoreE, wiped, ctx_call, ctx_modes, ctx_glob, ctx_names, ctx_cls, ctx_kws, szOk, lk_eq, mtD, mtK, insC_ins, MI.isObj, isDic, dicAt, dputAt, storeD, lookD, keyD, keysD, insAt, fldAt, fldD, MI.putF, pickK, revD], by simp [runFn, modesOf, argSl, exSs, exS, testOf, toP, evR, evS, evD, evPs, evA, evI, evB, evG, frz, getP, isSet, slotD, itemD, atI, ixN, cmpD, truth, arith, biD, isiD, RD.d, slOf, mutAt, isMut, isL, setAt, appAt, outsOf, argV, sRefs, putBack, reslot, bindT, bindTs, partOf, MI.isNon, sliceD, itemsD, itemsT, isT, setIs, evRs, augD, popOf, wipeable, wipeE, restoreE, wiped, ctx_call, ctx_modes, ctx_glob, ctx_names, ctx_cls, ctx_kws, szOk, lk_eq, mtD, mtK, insC_ins, MI.isObj, isDic, dicAt, dputAt, storeD, lookD, keyD, keysD, insAt, fldAt, fldD, MI.putF, pickK, revD], by simp [RD.d, stD]⟩
        generalize as.getD p.2 [] = A at *
        generalize as.getD k [] = B at *
        refine cmp_of (e1 := [.val (.tup (as.map wk)), .val (planD ps), .val (.int k), .val (.int t), .val (.int p.1), .val (.int p.2)]) (ra := .new (.lst (meetD A (meetL A B (t - p.1))))) (rb := .new (.lst [])) ?_ (fun i z => by cases z) ?_ (fun i z => by cases z) cm
        · simp [runFn, modesOf, argSl, exSs, exS, testOf, toP, evR, evS, evD, evPs, evA, evI, evB, evG, frz, getP, isSet, slotD, itemD, cmpD, truth, arith, biD, isiD, RD.d, slOf, mutAt, isMut, isL, setAt, appAt, outsOf, argV, sRefs, putBack, reslot, bindT, bindTs, partOf, MI.isNon, sliceD, itemsD, itemsT, isT, setIs, evRs, augD, popOf, wipeable, wipeE, restoreE, wiped, ctx_call, ctx_modes, ctx_glob, ctx_names, ctx_cls, ctx_kws, szOk, lk_eq, mtD, mtK, insC_ins, MI.isObj, isDic, dicAt, dputAt, storeD, lookD, keyD, keysD, insAt, fldAt, fldD, MI.putF, pickK, revD, md, F_meets, b1, b2, e]
        · simp [runFn, modesOf, argSl, exSs, exS, testOf, toP, evR, evS, evD, evPs, evA, evI, evB, evG, frz, getP, isSet, slotD, itemD, atI, ixN, cmpD, truth, arith, biD, isiD, RD.d, slOf, mutAt, isMut, isL, setAt, appAt, outsOf, argV, sRefs, putBack, reslot, bindT, bindTs, partOf, MI.isNon, sliceD, itemsD, itemsT, isT, setIs, evRs, augD, popOf, wipeable, wipeE, restoreE, wiped, ctx_call, ctx_modes, ctx_glob, ctx_names, ctx_cls, ctx_kws, szOk, lk_eq, mtD, mtK, insC_ins, MI.isObj, isDic, dicAt, dputAt, storeD, lookD, keyD, keysD, insAt, fldAt, fldD, MI.putF, pickK, revD, l0])]
      rw [List.map_map, List.map_map]
      have : ((fun d => match d with | D.tup [.int b, .int o] => D.bl (!(meetL (as.getD o.toNat []) (as.getD k []) (t - b)).isEmpty) | d => d) ∘ stD) = (D.bl ∘ fun p : Int × Nat => !(meetL (as.getD p.2 []) (as.getD k []) (t - p.1)).isEmpty) := by
        funext p
        simp [stD]
      rw [this]
      simp [runFn, modesOf, argSl, exSs, exS, testOf, toP, evR, evS, evD, evPs, evA, evI, evB, evG, frz, getP, isSet, slotD, itemD, atI, ixN, cmpD, truth, arith, biD, isiD, RD.d, slOf, mutAt, isMut, isL, setAt, appAt, outsOf, argV, sRefs, putBack, reslot, bindT, bindTs, partOf, MI.isNon, sliceD, itemsD, itemsT, isT, setIs, evRs, augD, popOf, wipeable, wipeE, restoreE, wiped, ctx_call, ctx_modes, ctx_glob, ctx_names, ctx_cls, ctx_kws, szOk, lk_eq, mtD, mtK, insC_ins, MI.isObj, isDic, dicAt, dputAt, storeD, lookD, keyD, keysD, insAt, fldAt, fldD, MI.putF, pickK, revD]
    have hb : busy as ps k t = (ps.map fun p => !(meetL (as.getD p.2 []) (as.getD k []) (t - p.1)).isEmpty).any id := by
      unfold busy
      rw [List.any_map]
      rfl
    rw [hb]
    refine test_of ?_ (fun i z => by cases z)
    generalize (ps.map fun p => !(meetL (as.getD p.2 []) (as.getD k []) (t - p.1)).isEmpty) = bs at *
    simp [runFn, modesOf, argSl, exSs, exS, testOf, toP, evR, evS, evD, evPs, evA, evI, evB, evG, frz, getP, isSet, slotD, itemD, atI, ixN, cmpD, truth, arith, biD, isiD, RD.d, slOf, mutAt, isMut, isL, setAt, appAt, outsOf, argV, sRefs, putBack, reslot, bindT, bindTs, partOf, MI.isNon, sliceD, itemsD, itemsT, isT, setIs, evRs, augD, popOf, wipeable, wipeE, restoreE, wiped, ctx_call, ctx_modes, ctx_glob, ctx_names, ctx_cls, ctx_kws, szOk, lk_eq, mtD, mtK, insC_ins, MI.isObj, isDic, dicAt, dputAt, storeD, lookD, keyD, keysD, insAt, fldAt, fldD, MI.putF, pickK, revD, ↓tp_C_early_tick_1, lc, boolsOf_map]
  obtain ⟨e1, hx, s4, s5, rfl⟩ : ∃ e1, exS (P.ctx (n - 1)) P.w S_early_tick_1 [.val (.tup (as.map wk)), .val (planD ps), .val (.int k), .val (.int (nextT ps)), .un, .un] = some (.nx e1) ∧ ∃ s4 s5, e1 = [.val (.tup (as.map wk)), .val (planD ps), .val (.int k), .val (.int (ff (busy as ps k) 60 (nextT ps))), s4, s5] := by
    unfold S_early_tick_1
    refine while_runs (R := fun j e => e = [.val (.tup (as.map wk)), .val (planD ps), .val (.int k), .val (.int (ff (busy as ps k) 60 (nextT ps) - j)), .un, .un] ∧ nextT ps ≤ ff (busy as ps k) 60 (nextT ps) - j) ?_ ?_ (k := (ff (busy as ps k) 60 (nextT ps) - nextT ps).toNat) (by omega) ⟨by simp; omega, by omega⟩
    · intro j e ⟨he, hj⟩
      subst he
      have tb := test (ff (busy as ps k) 60 (nextT ps) - (j + 1 : Nat)) hj (by omega) .un .un rfl rfl
      rw [ff_below (busy as ps k) 60 (nextT ps) _ hj (by omega)] at tb
      refine ⟨_, [.val (.tup (as.map wk)), .val (planD ps), .val (.int k), .val (.int (ff (busy as ps k) 60 (nextT ps) - j)), .un, .un], tb, .inl ?_, rfl, by omega⟩
      simp [runFn, modesOf, argSl, exSs, exS, testOf, toP, evR, evS, evD, evPs, evA, evI, evB, evG, frz, getP, isSet, slotD, itemD, atI, ixN, cmpD, truth, arith, biD, isiD, RD.d, slOf, mutAt, isMut, isL, setAt, appAt, outsOf, argV, sRefs, putBack, reslot, bindT, bindTs, partOf, MI.isNon, sliceD, itemsD, itemsT, isT, setIs, evRs, augD, popOf, wipeable, wipeE, restoreE, wiped, ctx_call, ctx_modes, ctx_glob, ctx_names, ctx_cls, ctx_kws, szOk, lk_eq, mtD, mtK, insC_ins, MI.isObj, isDic, dicAt, dputAt, storeD, lookD, keyD, keysD, insAt, fldAt, fldD, MI.putF, pickK, revD]
      omega
    · intro e ⟨he, hj⟩
      subst he
      have tb := test (ff (busy as ps k) 60 (nextT ps) - (0 : Nat)) hj (by omega) .un .un rfl rfl
      rw [show ff (busy as ps k) 60 (nextT ps) - ((0 : Nat) : Int) = ff (busy as ps k) 60 (nextT ps) by simp, hfree] at tb
      rw [show ff (busy as ps k) 60 (nextT ps) - ((0 : Nat) : Int) = ff (busy as ps k) 60 (nextT ps) by simp]
      exact ⟨_, tb, .un, .un, rfl⟩
  refine run_rt (env := [.val (.tup (as.map wk)), .val (planD ps), .val (.int k), .val (.int (nextT ps)), .un, .un]) (e := [.val (.tup (as.map wk)), .val (planD ps), .val (.int k), .val (.int (ff (busy as ps k) 60 (nextT ps))), s4, s5]) rfl rfl (sq hx (sr (by simp [runFn, modesOf, argSl, exSs, exS, testOf, toP, evR, evS, evD, evPs, evA, evI, evB, evG, frz, getP, isSet, slotD, itemD, atI, ixN, cmpD, truth, arith, biD, isiD, RD.d, slOf, mutAt, isMut, isL, setAt, appAt, outsOf, argV, sRefs, putBack, reslot, bindT, bindTs, partOf, MI.isNon, sliceD, itemsD, itemsT, isT, setIs, evRs, augD, popOf, wipeable, wipeE, restoreE, wiped, ctx_call, ctx_modes, ctx_glob, ctx_names, ctx_cls, ctx_kws, szOk, lk_eq, mtD, mtK, insC_ins, MI.isObj, isDic, dicAt, dputAt, storeD, lookD, keyD, keysD, insAt, fldAt, fldD, MI.putF, pickK, revD]))) rfl
end SG

namespace MI
/-- is it a key? -/
def memB {κ : Type} [DecidableEq κ] (x : κ) (ks : List κ) : Bool := decide (x ∈ ks)
theorem memB_iff {κ : Type} [DecidableEq κ] {x : κ} {ks : List κ} : memB x ks = true ↔ x ∈ ks := decide_eq_true_iff
theorem getD?_some {κ : Type} [DecidableEq κ] : ∀ {ks : List κ} {vs : List D} {x : κ}, ks.length = vs.length → (getD? ks vs x).isSome = memB x ks
  | [], [], x, _ => by simp [getD?, memB]
  | k :: ks, v :: vs, x, h => by
    unfold getD?
    by_cases e : k = x
    · simp [e, memB]
    · rw [if_neg e, getD?_some (by simpa using h)]
      simp [Ne.symm e, memB]
  | [], v :: vs, x, h => by cases h
  | k :: ks, [], x, h => by cases h
theorem repD_len {κ : Type} [DecidableEq κ] : ∀ {ks : List κ} {vs : List D} {x : κ} {v : D}, ks.length = vs.length → (repD ks vs x v).length = ks.length
  | [], [], x, v, _ => rfl
  | k :: ks, w :: vs, x, v, h => by
    unfold repD
    rw [List.length_cons, List.length_cons, repD_len (by simpa using h)]
  | [], v :: vs, x, _, h => by cases h
  | k :: ks, [], x, _, h => by cases h
theorem putD_facts {κ : Type} [DecidableEq κ] {ks : List κ} {vs : List D} (x : κ) (v : D) (h : ks.length = vs.length) : (putD ks vs x v).1.length = (putD ks vs x v).2.length ∧ (∀ y, y ∈ (putD ks vs x v).1 ↔ y ∈ ks ∨ y = x) ∧ (putD ks vs x v).1.length ≤ ks.length + 1 := by
  unfold putD
  by_cases e : x ∈ ks
  · rw [if_pos e]
    refine ⟨(repD_len h).symm, fun y => ⟨.inl, fun z => z.elim id fun z => z ▸ e⟩, by dsimp only; omega⟩
  · rw [if_neg e]
    exact ⟨by simp [h], fun y => by simp, by simp⟩
end MI
namespace SG
open MI L2 PySem
abbrev ky (t s : Int) : List Key := [.inl t, .inl s]
variable {P : Prg} {Ca : Addr}
theorem earlyL_snoc (as : List (List Int)) (ks : List Nat) (k : Nat) : earlyL as (ks ++ [k]) = earlyStep as (earlyL as ks) k := by
  unfold earlyL
  rw [List.foldl_append]
  rfl
theorem snoc_ind {α : Type} {p : List α → Prop} (h0 : p []) (h1 : ∀ l a, p l → p (l ++ [a])) (l : List α) : p l := by
  have : ∀ l : List α, p l.reverse := fun l => by
    induction l with
    | nil => exact h0
    | cons a l ih =>
      rw [List.reverse_cons]
      exact h1 _ _ ih
  have := this l.reverse
  rwa [List.reverse_reverse] at this
theorem earlyL_len (as : List (List Int)) (ks : List Nat) : (earlyL as ks).length = ks.length := by
  refine snoc_ind (p := fun ks => (earlyL as ks).length = ks.length) rfl (fun l a ih => ?_) ks
  rw [earlyL_snoc]
  unfold earlyStep
  simp [ih]
theorem earlyL_planB {as : List (List Int)} (ha : IsLine as) (ks : List Nat) : (∀ k ∈ ks, k < as.length) → PlanB as.length (earlyL as ks) := by
  refine snoc_ind (p := fun ks => (∀ k ∈ ks, k < as.length) → PlanB as.length (earlyL as ks)) (fun _ => ⟨fun p hp => (List.not_mem_nil hp).elim, by simp [earlyL, nextT]⟩) (fun l a ih h => ?_) ks
  rw [earlyL_snoc]
  exact early_planB ha (ih fun k hk => h k (List.mem_append_left _ hk)) (h a (by simp))
theorem flat_st (n : Nat) : ∀ ps : List (Int × Nat), flatDs (n + 1) (ps.map stD) = true
  | [] => by simp [flatDs]
  | p :: ps => by simp [flatDs, flatD, stD, flat_st n ps]
theorem dataOk_plan (ps : List (Int × Nat)) : dataOk (planD ps) = true := by
  unfold dataOk planD flatD
  exact flat_st 38 ps
theorem dataOk_t0 : dataOk (.tup []) = true := by simp [dataOk, flatD, flatDs]
/-- the tick that follows a plan -/
theorem next_ev {C : MI.Ctx} {i : Nat} {env : MI.Env} {ps : List (Int × Nat)} (h : env[i]? = some (.val (planD ps))) : evR C (.ite (.cmp .Eq (.var i) (.tup [])) (.cst (.int 0)) (.bin .Add (.sub (.sub (.var i) (.neg (.cst (.int 1)))) (.cst (.int 0))) (.cst (.int 1)))) env = some (.old (.int (nextT ps)), env) := by
  have d1 := dataOk_plan ps
  have d0 := dataOk_t0
  have l0 := leS (n := 0) (by decide)
  cases hq : ps.getLast? with
  | none =>
    have hq : ps = [] := List.getLast?_eq_none_iff.mp hq
    subst hq
    simp only [planD, List.map_nil] at h
    simp [runFn, modesOf, argSl, exSs, exS, testOf, toP, evR, evS, evD, evPs, evA, evI, evB, evG, frz, getP, isSet, slotD, itemD, atI, ixN, cmpD, truth, arith, biD, isiD, RD.d, slOf, mutAt, isMut, isL, setAt, appAt, outsOf, argV, sRefs, putBack, reslot, bindT, bindTs, partOf, MI.isNon, sliceD, itemsD, itemsT, isT, setIs, evRs, augD, popOf, wipeable, wipeE, restoreE, wiped, ctx_call, ctx_modes, ctx_glob, ctx_names, ctx_cls, ctx_kws, szOk, lk_eq, mtD, mtK, insC_ins, MI.isObj, isDic, dicAt, dputAt, storeD, lookD, keyD, keysD, insAt, fldAt, fldD, MI.putF, pickK, revD, h, l0, d0, eqD, eqDs, nextT]
  | some p =>
    obtain ⟨qs, rfl⟩ := List.getLast?_eq_some_iff.mp hq
    have a1 : atI ((qs ++ [p]).map stD) (-1) = some (stD p) := by rw [List.map_append]; exact atI_end _ _
    have e : eqD (planD (qs ++ [p])) (.tup []) = false := by
      unfold planD
      rw [List.map_append]
      cases qs.map stD <;> simp [eqD, eqDs]
    have e2 : cmpD .Eq (planD (qs ++ [p])) (.tup []) = some false := by
      unfold planD at d1 e ⊢
      simp only [cmpD, d1, d0, e]
      rfl
    have hn := nextT_snoc qs p
    have i1 : itemD (planD (qs ++ [p])) (.int (-1)) = some (stD p) := by unfold planD; simp only [itemD]; exact a1
    rw [hn]
    simp [evR, testOf, toP, isSet, h, evS, l0, szOk, lk_eq, getP, slotD, e2, truth, RD.d, frz, i1]
    simp [stD, itemD, atI, ixN, arith]
structure Earlys (P : Prg) (Ca : Addr) : Prop where
  l : Lines P Ca
  is_kind : Hs P "is_kind" F_is_kind
  need_line : Hs P "need_line" F_need_line
  are : Hs P "are_kinds" F_are_kinds
  need : Hs P "need_kinds" F_need_kinds
  tick : Hs P "early_tick" F_early_tick
  early : Hs P "early" F_early
  most : P.glob "MOST_IN_ORDER" = some (.int 12)
  w : 1000 ≤ P.w
theorem early_runs (h : Earlys P Ca) {n : Nat} (hn : 5 ≤ n) {as : List (List Int)} (ha : IsLine as) {ks : List Nat} (hk : ∀ k ∈ ks, k < as.length) (l0 : 1 ≤ ks.length) (l1 : ks.length ≤ 12) :
    P.calls n "early" [.d (lineD Ca as), .d (ksD ks)] = some (.old (planD (earlyL as ks)), []) := by
  obtain ⟨cl, pr, hc⟩ := h.l.cls
  have e1 := needLine_runs h.need_line h.l (n := n - 1) (by omega) (as := as)
  have e2 := needKinds_runs h.l h.is_kind h.are h.need (n := n - 1) (by omega) hk l0 l1 (by decide)
  have e2 : P.calls (n - 1) "need_kinds" [.d (lineD Ca as), .d (ksD ks), .d (.int 12)] = some (.old .non, []) := e2
  have m1 := h.need_line.md
  have m2 := h.need.md
  have m3 := h.tick.md
  have sz0 := leS (n := 0) (by decide)
  have sz2 := leS (n := 2) (by decide)
  rw [h.early.eq (by omega)]
  obtain ⟨e', hx, s3, s4, rfl⟩ : ∃ e', exS (P.ctx (n - 1)) P.w S_early_1 [.val (lineD Ca as), .val (ksD ks), .val (planD []), .un, .un] = some (.nx e') ∧ ∃ s3 s4, e' = [.val (lineD Ca as), .val (ksD ks), .val (planD (earlyL as (ks.take (ks.map fun k => D.int (k : Nat)).length))), s3, s4] := by
    unfold S_early_1
    refine for_inv (e1 := [.val (lineD Ca as), .val (ksD ks), .val (planD []), .un, .un]) (ds := ks.map fun k => D.int (k : Nat)) (J := fun i e' => ∃ s3 s4, e' = [.val (lineD Ca as), .val (ksD ks), .val (planD (earlyL as (ks.take i))), s3, s4]) (by simp [runFn, modesOf, argSl, exSs, exS, testOf, toP, evR, evS, evD, evPs, evA, evI, evB, evG, frz, getP, isSet, slotD, itemD, atI, ixN, cmpD, truth, arith, biD, isiD, RD.d, slOf, mutAt, isMut, isL, setAt, appAt, outsOf, argV, sRefs, putBack, reslot, bindT, bindTs, partOf, MI.isNon, sliceD, itemsD, itemsT, isT, setIs, evRs, augD, popOf, wipeable, wipeE, restoreE, wiped, ctx_call, ctx_modes, ctx_glob, ctx_names, ctx_cls, ctx_kws, szOk, lk_eq, mtD, mtK, insC_ins, MI.isObj, isDic, dicAt, dputAt, storeD, lookD, keyD, keysD, insAt, fldAt, fldD, MI.putF, pickK, revD, ksD]) ⟨.un, .un, by simp [earlyL]⟩ ?_
    intro i d e hd ⟨s3, s4, he⟩
    subst he
    rw [List.getElem?_map] at hd
    obtain ⟨k, hk', rfl⟩ := Option.map_eq_some_iff.mp hd
    have hi := (List.getElem?_eq_some_iff.mp hk').1
    have tk : ks.take (i + 1) = ks.take i ++ [k] := by rw [List.take_add_one, hk']; rfl
    have hkl := hk k (List.mem_of_getElem? hk')
    have pb := earlyL_planB ha (ks.take i) fun x hx => hk x (List.mem_of_mem_take hx)
    have pl := earlyL_len as (ks.take i)
    rw [List.length_take] at pl
    have et := earlyTick_runs h.tick h.l h.w (n := n - 1) (by omega) ha pb (by omega) hkl
    rw [tk, earlyL_snoc]
    unfold earlyStep
    generalize earlyL as (ks.take i) = ps at *
    generalize ff (busy as ps k) 60 (nextT ps) = T at *
    refine ⟨[.val (lineD Ca as), .val (ksD ks), .val (planD ps), .val (.int k), s4], [.val (lineD Ca as), .val (ksD ks), .val (planD (ps ++ [(T, k)])), .val (.int k), .val (.int (nextT ps))], by simp [runFn, modesOf, argSl, exSs, exS, testOf, toP, evR, evS, evD, evPs, evA, evI, evB, evG, frz, getP, isSet, slotD, itemD, atI, ixN, cmpD, truth, arith, biD, isiD, RD.d, slOf, mutAt, isMut, isL, setAt, appAt, outsOf, argV, sRefs, putBack, reslot, bindT, bindTs, partOf, MI.isNon, sliceD, itemsD, itemsT, isT, setIs, evRs, augD, popOf, wipeable, wipeE, restoreE, wiped, ctx_call, ctx_modes, ctx_glob, ctx_names, ctx_cls, ctx_kws, szOk, lk_eq, mtD, mtK, insC_ins, MI.isObj, isDic, dicAt, dputAt, storeD, lookD, keyD, keysD, insAt, fldAt, fldD, MI.putF, pickK, revD], .inl ?_, ⟨_, _, rfl⟩⟩
    have sz : ps.length + 1 ≤ sizeLine := leS (by omega)
    refine sq (asg_of (next_ev (i := 2) (ps := ps) rfl) (by simp)) (sq ?_ sn)
    have it : itemsT (planD ps) = some (ps.map stD) := rfl
    simp [runFn, modesOf, argSl, exSs, exS, testOf, toP, evR, evS, evD, evPs, evA, evI, evB, evG, frz, getP, isSet, slotD, itemD, atI, ixN, cmpD, truth, arith, biD, isiD, RD.d, slOf, mutAt, isMut, isL, setAt, appAt, outsOf, argV, sRefs, putBack, reslot, bindT, bindTs, partOf, MI.isNon, sliceD, itemsD, itemsT, isT, setIs, evRs, augD, popOf, wipeable, wipeE, restoreE, wiped, ctx_call, ctx_modes, ctx_glob, ctx_names, ctx_cls, ctx_kws, szOk, lk_eq, mtD, mtK, insC_ins, MI.isObj, isDic, dicAt, dputAt, storeD, lookD, keyD, keysD, insAt, fldAt, fldD, MI.putF, pickK, revD, hc, insC_line, attr_own, m3, F_early_tick, et, it, sz2]
    simp [planD, stD, sz]
  rw [List.length_map, List.take_length] at hx
  refine run_rt (env := [.val (lineD Ca as), .val (ksD ks), .un, .un, .un]) (e := [.val (lineD Ca as), .val (ksD ks), .val (planD (earlyL as ks)), s3, s4]) rfl rfl ?_ rfl
  refine sq (e := [.val (lineD Ca as), .val (ksD ks), .un, .un, .un]) ?_ (sq (e := [.val (lineD Ca as), .val (ksD ks), .un, .un, .un]) ?_ (sq (e := [.val (lineD Ca as), .val (ksD ks), .val (planD []), .un, .un]) ?_ (sq hx (sr ?_))))
  · simp [runFn, modesOf, argSl, exSs, exS, testOf, toP, evR, evS, evD, evPs, evA, evI, evB, evG, frz, getP, isSet, slotD, itemD, atI, ixN, cmpD, truth, arith, biD, isiD, RD.d, slOf, mutAt, isMut, isL, setAt, appAt, outsOf, argV, sRefs, putBack, reslot, bindT, bindTs, partOf, MI.isNon, sliceD, itemsD, itemsT, isT, setIs, evRs, augD, popOf, wipeable, wipeE, restoreE, wiped, ctx_call, ctx_modes, ctx_glob, ctx_names, ctx_cls, ctx_kws, szOk, lk_eq, mtD, mtK, insC_ins, MI.isObj, isDic, dicAt, dputAt, storeD, lookD, keyD, keysD, insAt, fldAt, fldD, MI.putF, pickK, revD, m1, F_need_line, e1]
  · simp [runFn, modesOf, argSl, exSs, exS, testOf, toP, evR, evS, evD, evPs, evA, evI, evB, evG, frz, getP, isSet, slotD, itemD, atI, ixN, cmpD, truth, arith, biD, isiD, RD.d, slOf, mutAt, isMut, isL, setAt, appAt, outsOf, argV, sRefs, putBack, reslot, bindT, bindTs, partOf, MI.isNon, sliceD, itemsD, itemsT, isT, setIs, evRs, augD, popOf, wipeable, wipeE, restoreE, wiped, ctx_call, ctx_modes, ctx_glob, ctx_names, ctx_cls, ctx_kws, szOk, lk_eq, mtD, mtK, insC_ins, MI.isObj, isDic, dicAt, dputAt, storeD, lookD, keyD, keysD, insAt, fldAt, fldD, MI.putF, pickK, revD, m2, F_need_kinds, e2, h.most]
  · simp [runFn, modesOf, argSl, exSs, exS, testOf, toP, evR, evS, evD, evPs, evA, evI, evB, evG, frz, getP, isSet, slotD, itemD, atI, ixN, cmpD, truth, arith, biD, isiD, RD.d, slOf, mutAt, isMut, isL, setAt, appAt, outsOf, argV, sRefs, putBack, reslot, bindT, bindTs, partOf, MI.isNon, sliceD, itemsD, itemsT, isT, setIs, evRs, augD, popOf, wipeable, wipeE, restoreE, wiped, ctx_call, ctx_modes, ctx_glob, ctx_names, ctx_cls, ctx_kws, szOk, lk_eq, mtD, mtK, insC_ins, MI.isObj, isDic, dicAt, dputAt, storeD, lookD, keyD, keysD, insAt, fldAt, fldD, MI.putF, pickK, revD, sz0, planD]
  · simp [runFn, modesOf, argSl, exSs, exS, testOf, toP, evR, evS, evD, evPs, evA, evI, evB, evG, frz, getP, isSet, slotD, itemD, atI, ixN, cmpD, truth, arith, biD, isiD, RD.d, slOf, mutAt, isMut, isL, setAt, appAt, outsOf, argV, sRefs, putBack, reslot, bindT, bindTs, partOf, MI.isNon, sliceD, itemsD, itemsT, isT, setIs, evRs, augD, popOf, wipeable, wipeE, restoreE, wiped, ctx_call, ctx_modes, ctx_glob, ctx_names, ctx_cls, ctx_kws, szOk, lk_eq, mtD, mtK, insC_ins, MI.isObj, isDic, dicAt, dputAt, storeD, lookD, keyD, keysD, insAt, fldAt, fldD, MI.putF, pickK, revD]
end SG

namespace K73
open MI L2 PySem SG
/-! stations by ticks: the plain side -/
def kys (M : List (Int × Int)) : List Int := M.map (·.1)
def blk (M : List (Int × Int)) (d t : Int) : Bool := decide (t ∈ kys M) || decide (t + d ∈ kys M)
def tk (M : List (Int × Int)) (d : Int) : Int := ff (blk M d) (2 * M.length) 0
def putM (M : List (Int × Int)) (d st : Int) : List (Int × Int) := M ++ [(tk M d, st), (tk M d + d, st)]
theorem hole : ∀ (n : Nat) (B : List Int), B.length ≤ n → ∃ t : Nat, t ≤ n ∧ (t : Int) ∉ B
  | 0, B, h => ⟨0, Nat.le_refl _, by
    have : B = [] := List.eq_nil_of_length_eq_zero (by omega)
    subst this
    exact List.not_mem_nil⟩
  | n + 1, B, h => by
    by_cases c : ((n + 1 : Nat) : Int) ∈ B
    · obtain ⟨t, h1, h2⟩ := hole n (B.erase ((n + 1 : Nat) : Int)) (by rw [List.length_erase_of_mem c]; omega)
      refine ⟨t, by omega, fun z => h2 ?_⟩
      exact (List.mem_erase_of_ne (by omega)).mpr z
    · exact ⟨n + 1, Nat.le_refl _, c⟩
theorem tk_ge (M : List (Int × Int)) (d : Int) : 0 ≤ tk M d ∧ tk M d ≤ 2 * M.length := by
  have := ff_ge (blk M d) (2 * M.length) 0
  unfold tk
  omega
theorem tk_free (M : List (Int × Int)) (d : Int) : tk M d ∉ kys M ∧ tk M d + d ∉ kys M := by
  obtain ⟨t, h1, h2⟩ := hole (2 * M.length) (kys M ++ (kys M).map (· - d)) (by simp [kys]; omega)
  rw [List.mem_append, not_or] at h2
  have h3 : (t : Int) + d ∉ kys M := fun z => h2.2 (List.mem_map.mpr ⟨_, z, by omega⟩)
  have := ff_at (blk M d) (2 * M.length) 0 t (by omega) (by omega) (by unfold blk; rw [decide_eq_false h2.1, decide_eq_false h3]; rfl)
  unfold blk at this
  simp only [Bool.or_eq_false_iff, decide_eq_false_iff_not] at this
  exact this
/-- what is laid for some distances -/
structure Laid (ds : List Int) (M : List (Int × Int)) : Prop where
  len : M.length = 2 * ds.length
  nd : (kys M).Nodup
  rg : ∀ k ∈ kys M, 0 ≤ k ∧ k ≤ 4 * ds.length + 16
  has : ∀ (i : Nat) (d : Int), ds[i]? = some d → ∃ t, ((t, (i : Int)) ∈ M ∧ (t + d, (i : Int)) ∈ M)
  of : ∀ k s, (k, s) ∈ M → ∃ (i : Nat) (d t : Int), ds[i]? = some d ∧ s = i ∧ (∀ k', (k', s) ∈ M ↔ k' = t ∨ k' = t + d)
  zero : ds ≠ [] → (0 : Int) ∈ kys M
  pos : ∀ d ∈ ds, 1 ≤ d
theorem laid_nil : Laid [] [] := ⟨rfl, List.nodup_nil, fun k h => (by cases h), fun i d h => (by simp at h), fun k s h => (by cases h), fun h => absurd rfl h, fun d h => (by cases h)⟩
theorem laid_put {ds : List Int} {M : List (Int × Int)} (h : Laid ds M) {d : Int} (d1 : 1 ≤ d) (d2 : d ≤ 20) : Laid (ds ++ [d]) (putM M d ds.length) := by
  obtain ⟨f1, f2⟩ := tk_free M d
  obtain ⟨g1, g2⟩ := tk_ge M d
  have hl := h.len
  have hk : kys (putM M d ds.length) = kys M ++ [tk M d, tk M d + d] := by simp [kys, putM]
  have new : ∀ k, (k, (ds.length : Int)) ∉ M := fun k hm => by
    obtain ⟨i, d', t, h1, h2, _⟩ := h.of k _ hm
    have := (List.getElem?_eq_some_iff.mp h1).1
    omega
  refine ⟨by simp [putM, hl]; omega, ?_, fun k hm => ?_, fun i d' hi => ?_, fun k s hm => ?_, fun _ => ?_, fun x hx => ?_⟩
  · rw [hk, List.nodup_append]
    refine ⟨h.nd, by simp; omega, fun a ha b hb z => ?_⟩
    subst z
    simp only [List.mem_cons, List.not_mem_nil, or_false] at hb
    rcases hb with rfl | rfl
    · exact f1 ha
    · exact f2 ha
  · rw [hk, List.mem_append] at hm
    rw [List.length_append, List.length_singleton]
    rcases hm with hm | hm
    · have := h.rg k hm
      omega
    · simp only [List.mem_cons, List.not_mem_nil, or_false] at hm
      omega
  · by_cases c : i < ds.length
    · rw [List.getElem?_append_left c] at hi
      obtain ⟨t, t1, t2⟩ := h.has i d' hi
      exact ⟨t, List.mem_append_left _ t1, List.mem_append_left _ t2⟩
    · have hi' := (List.getElem?_eq_some_iff.mp hi).1
      rw [List.length_append, List.length_singleton] at hi'
      have : i = ds.length := by omega
      subst this
      rw [List.getElem?_append_right (Nat.le_refl _), Nat.sub_self] at hi
      cases hi
      exact ⟨tk M d, List.mem_append_right _ (by simp), List.mem_append_right _ (by simp)⟩
  · unfold putM at hm ⊢
    rw [List.mem_append] at hm
    rcases hm with hm | hm
    · obtain ⟨i, d', t, h1, rfl, h3⟩ := h.of k s hm
      have hi := (List.getElem?_eq_some_iff.mp h1).1
      refine ⟨i, d', t, by rw [List.getElem?_append_left hi]; exact h1, rfl, fun k' => ?_⟩
      rw [List.mem_append, h3 k']
      constructor
      · rintro (z | z)
        · exact z
        · simp only [List.mem_cons, List.not_mem_nil, or_false, Prod.mk.injEq] at z
          omega
      · exact .inl
    · have hs : s = ds.length := by
        simp only [List.mem_cons, List.not_mem_nil, or_false, Prod.mk.injEq] at hm
        omega
      subst hs
      refine ⟨ds.length, d, tk M d, by simp, rfl, fun k' => ?_⟩
      rw [List.mem_append]
      constructor
      · rintro (z | z)
        · exact absurd z (new k')
        · simpa using z
      · intro z
        exact .inr (by simpa using z)
  · rw [hk]
    by_cases c : ds = []
    · subst c
      have : M = [] := List.eq_nil_of_length_eq_zero (by simpa using hl)
      subst this
      exact List.mem_append_right _ (by simp [tk, ff])
    · exact List.mem_append_left _ (h.zero c)
  · rcases List.mem_append.mp hx with z | z
    · exact h.pos x z
    · rw [List.mem_singleton.mp z]; exact d1
/-- all distances, one behind the other -/
def layM : List Int → List (Int × Int) → Nat → List (Int × Int)
  | [], M, _ => M
  | d :: ds, M, i => layM ds (putM M d i) (i + 1)
theorem laid_all : ∀ (es ds : List Int) (M : List (Int × Int)), Laid ds M → (∀ d ∈ es, 1 ≤ d ∧ d ≤ 20) → Laid (ds ++ es) (layM es M ds.length)
  | [], ds, M, h, _ => by rw [List.append_nil]; exact h
  | d :: es, ds, M, h, hd => by
    have h1 := laid_put h (hd d List.mem_cons_self).1 (hd d List.mem_cons_self).2
    have := laid_all es (ds ++ [d]) _ h1 fun x hx => hd x (List.mem_cons_of_mem _ hx)
    rw [List.append_assoc, List.length_append, List.length_singleton] at this
    exact this
/-- the station at a tick -/
def stA : List (Int × Int) → Int → Int
  | [], _ => -1
  | (k, s) :: M, t => if k = t then s else stA M t
theorem stA_mem : ∀ {M : List (Int × Int)}, (kys M).Nodup → (∀ k s, (k, s) ∈ M → 0 ≤ s) → ∀ (t s : Int), 0 ≤ s → (stA M t = s ↔ (t, s) ∈ M)
  | [], _, _, t, s, h => by simp [stA]; omega
  | (k, s0) :: M, nd, hs, t, s, h => by
    unfold kys at nd
    rw [List.map_cons, List.nodup_cons] at nd
    have ih := stA_mem (M := M) nd.2 (fun k s hm => hs k s (List.mem_cons_of_mem _ hm)) t s h
    unfold stA
    by_cases c : k = t
    · subst c
      rw [if_pos rfl, List.mem_cons, Prod.mk.injEq]
      constructor
      · intro z; exact .inl ⟨rfl, z.symm⟩
      · rintro (z | z)
        · exact z.2.symm
        · exact absurd (List.mem_map.mpr ⟨_, z, rfl⟩) nd.1
    · rw [if_neg c, ih, List.mem_cons, Prod.mk.injEq]
      constructor
      · exact .inr
      · rintro (z | z)
        · exact absurd z.1.symm c
        · exact z
theorem stA_out {M : List (Int × Int)} {t : Int} (h : t ∉ kys M) : stA M t = -1 := by
  induction M with
  | nil => rfl
  | cons p M ih =>
    obtain ⟨k, s⟩ := p
    unfold kys at h
    rw [List.map_cons, List.mem_cons, not_or] at h
    unfold stA
    rw [if_neg (fun z => h.1 z.symm)]
    exact ih h.2
/-- two rows, ascending, with the same members are one -/
theorem asc_eq : ∀ {xs ys : List Int}, xs.Pairwise (· < ·) → ys.Pairwise (· < ·) → (∀ a, a ∈ xs ↔ a ∈ ys) → xs = ys
  | [], [], _, _, _ => rfl
  | [], y :: ys, _, _, h => absurd ((h y).mpr List.mem_cons_self) List.not_mem_nil
  | x :: xs, [], _, _, h => absurd ((h x).mp List.mem_cons_self) List.not_mem_nil
  | x :: xs, y :: ys, px, py, h => by
    rw [List.pairwise_cons] at px py
    have hx : x = y := by
      have h1 := (h x).mp List.mem_cons_self
      have h2 := (h y).mpr List.mem_cons_self
      rcases List.mem_cons.mp h1 with z | z
      · exact z
      · rcases List.mem_cons.mp h2 with w | w
        · exact w.symm
        · have := py.1 x z
          have := px.1 y w
          omega
    subst hx
    rw [asc_eq px.2 py.2 fun a => ?_]
    have := h a
    rw [List.mem_cons, List.mem_cons] at this
    constructor
    · intro z
      rcases this.mp (.inr z) with w | w
      · subst w; exact absurd (px.1 a z) (Int.lt_irrefl _)
      · exact w
    · intro z
      rcases this.mpr (.inr z) with w | w
      · subst w; exact absurd (py.1 a z) (Int.lt_irrefl _)
      · exact w
end K73

namespace SG
open MI L2 PySem
def C_is_lap_1 : MI.E := .lc [2] (.call "is_between" [(.var 2), (.glo "NOTHING"), (.bin .Sub (.bi .len [(.attr "Line" "own" (.var 0))]) (.cst (.int 1)))]) (.nm 2) (.seq (.var 1)) (.cst (.bl true))
theorem tp_C_is_lap_1 (r : MI.Env → Option (RD × MI.Env)) (env : MI.Env) : toP C_is_lap_1 r env = (r env).map fun x => (.d x.1.d, x.2) := rfl
def F_is_lap : Fn := ⟨[false, false], ["line", "thing"], 3, [.ifs (.boo false [(.nt (.isi (.var 1) .tuple)), (.cmp .Eq (.var 1) (.tup []))]) [.ret (.cst (.bl false))] [], .ret (.bi .all [C_is_lap_1])]⟩
def F_need_lap : Fn := ⟨[false, false], ["line", "thing"], 2, [.ifs (.nt (.call "is_lap" [(.var 0), (.var 1)])) [.stop] []]⟩
def C_does_fit_1 : MI.E := .lc [5] (.cmp .Eq (.sub (.var 1) (.bin .Mod (.bin .Add (.var 2) (.var 5)) (.bi .len [(.var 1)]))) (.var 4)) (.nm 5) (.seq (.sub (.sub (.attr "Line" "between" (.var 0)) (.var 3)) (.var 4))) (.cst (.bl true))
theorem tp_C_does_fit_1 (r : MI.Env → Option (RD × MI.Env)) (env : MI.Env) : toP C_does_fit_1 r env = (r env).map fun x => (.d x.1.d, x.2) := rfl
def S_does_fit_1 : MI.S := .for_ (.nm 4) (.rng [(.bi .len [(.attr "Line" "own" (.var 0))])]) [.ifs (.bi .any [C_does_fit_1]) [.ret (.cst (.bl false))] []]
def S_does_fit_2 : MI.S := .for_ (.tp [(.nm 2), (.nm 3)]) (.enum (.var 1)) [.ifs (.cmp .NotEq (.var 3) (.glo "NOTHING")) [S_does_fit_1] []]
def F_does_fit : Fn := ⟨[false, false], ["line", "lap"], 6, [S_does_fit_2, .ret (.cst (.bl true))]⟩
def F_fits : Fn := ⟨[false, false], ["line", "lap"], 2, [.expr (.call "need_line" [(.var 0)]), .expr (.call "need_lap" [(.var 0), (.var 1)]), .ret (.call "does_fit" [(.var 0), (.var 1)])]⟩
def S_lowest_1 : MI.S := .while_ (.cmp .NotEq (.var 2) (.cst (.int 0))) [.par [2, 3] [(.bin .Mod (.var 3) (.var 2)), (.var 2)]]
def F_lowest : Fn := ⟨[false, false], ["top", "bottom"], 4, [.par [2, 3] [(.bi .abs [(.var 0)]), (.var 1)], S_lowest_1, .ret (.tup [(.bin .FloorDiv (.var 0) (.var 3)), (.bin .FloorDiv (.var 1) (.var 3))])]⟩
def C_are_worths_1 : MI.E := .lc [2] (.call "is_between" [(.var 2), (.cst (.int 0)), (.glo "MOST_WORTH")]) (.nm 2) (.seq (.var 1)) (.cst (.bl true))
theorem tp_C_are_worths_1 (r : MI.Env → Option (RD × MI.Env)) (env : MI.Env) : toP C_are_worths_1 r env = (r env).map fun x => (.d x.1.d, x.2) := rfl
def F_are_worths : Fn := ⟨[false, false], ["line", "thing"], 3, [.ifs (.boo false [(.nt (.isi (.var 1) .tuple)), (.cmp .NotEq (.bi .len [(.var 1)]) (.bi .len [(.attr "Line" "own" (.var 0))]))]) [.ret (.cst (.bl false))] [], .ret (.boo true [(.bi .all [C_are_worths_1]), (.cmp .Gt (.bi .sum [(.var 1)]) (.cst (.int 0)))])]⟩
def F_need_worths : Fn := ⟨[false, false], ["line", "thing"], 2, [.ifs (.nt (.call "are_worths" [(.var 0), (.var 1)])) [.stop] []]⟩
def F_worth_of : Fn := ⟨[false, false], ["worths", "choice"], 2, [.ret (.ite (.cmp .Eq (.var 1) (.glo "NOTHING")) (.cst (.int 0)) (.sub (.var 0) (.var 1)))]⟩
def C_mean_of_1 : MI.E := .lc [2] (.call "worth_of" [(.var 1), (.var 2)]) (.nm 2) (.seq (.var 0)) (.cst (.bl true))
theorem tp_C_mean_of_1 (r : MI.Env → Option (RD × MI.Env)) (env : MI.Env) : toP C_mean_of_1 r env = (r env).map fun x => (.d x.1.d, x.2) := rfl
def F_mean_of : Fn := ⟨[false, false], ["lap", "worths"], 3, [.ret (.call "lowest" [(.bi .sum [C_mean_of_1]), (.bi .len [(.var 0)])])]⟩
def F_mean : Fn := ⟨[false, false, false], ["line", "lap", "worths"], 3, [.expr (.call "need_line" [(.var 0)]), .expr (.call "need_lap" [(.var 0), (.var 1)]), .expr (.call "need_worths" [(.var 0), (.var 2)]), .ret (.call "mean_of" [(.var 1), (.var 2)])]⟩
def F_need_fitting : Fn := ⟨[false, false], ["line", "lap"], 2, [.expr (.call "need_line" [(.var 0)]), .expr (.call "need_lap" [(.var 0), (.var 1)]), .ifs (.nt (.call "does_fit" [(.var 0), (.var 1)])) [.stop] []]⟩
def C_is_open_1 : MI.E := .lc [5] (.cmp .Eq (.sub (.var 1) (.bin .Mod (.bin .Sub (.var 2) (.var 5)) (.bi .len [(.var 1)]))) (.var 4)) (.nm 5) (.seq (.sub (.sub (.attr "Line" "between" (.var 0)) (.var 4)) (.var 3))) (.cst (.bl true))
theorem tp_C_is_open_1 (r : MI.Env → Option (RD × MI.Env)) (env : MI.Env) : toP C_is_open_1 r env = (r env).map fun x => (.d x.1.d, x.2) := rfl
def C_is_open_2 : MI.E := .lc [5] (.cmp .Eq (.sub (.var 1) (.bin .Mod (.bin .Add (.var 2) (.var 5)) (.bi .len [(.var 1)]))) (.var 4)) (.nm 5) (.seq (.sub (.sub (.attr "Line" "between" (.var 0)) (.var 3)) (.var 4))) (.cst (.bl true))
theorem tp_C_is_open_2 (r : MI.Env → Option (RD × MI.Env)) (env : MI.Env) : toP C_is_open_2 r env = (r env).map fun x => (.d x.1.d, x.2) := rfl
def S_is_open_1 : MI.S := .for_ (.nm 4) (.rng [(.bi .len [(.attr "Line" "own" (.var 0))])]) [.ifs (.bi .any [C_is_open_1]) [.ret (.cst (.bl false))] [], .ifs (.bi .any [C_is_open_2]) [.ret (.cst (.bl false))] []]
def F_is_open : Fn := ⟨[false, false, false, false], ["line", "lap", "tick", "kind"], 6, [S_is_open_1, .ret (.cst (.bl true))]⟩
def C_open_in_1 : MI.E := .lc [5] (.tup [(.var 3), (.var 5)]) (.nm 5) (.rng [(.bi .len [(.attr "Line" "own" (.var 0))])]) (.call "is_open" [(.var 0), (.var 1), (.var 3), (.var 5)])
theorem tp_C_open_in_1 (r : MI.Env → Option (RD × MI.Env)) (env : MI.Env) : toP C_open_in_1 r env = (r env).map fun x => (.d x.1.d, x.2) := rfl
def S_open_in_1 : MI.S := .for_ (.tp [(.nm 3), (.nm 4)]) (.enum (.var 1)) [.ifs (.cmp .Eq (.var 4) (.glo "NOTHING")) [.ext 2 C_open_in_1] []]
def F_open_in : Fn := ⟨[false, false], ["line", "lap"], 6, [.asg 2 (.lst []), S_open_in_1, .ret (.bi .tuple [(.var 2)])]⟩
def F_open_ticks : Fn := ⟨[false, false], ["line", "lap"], 2, [.expr (.call "need_fitting" [(.var 0), (.var 1)]), .ret (.call "open_in" [(.var 0), (.var 1)])]⟩
def F_is_full : Fn := ⟨[false, false], ["line", "lap"], 2, [.expr (.call "need_fitting" [(.var 0), (.var 1)]), .ret (.cmp .Eq (.call "open_in" [(.var 0), (.var 1)]) (.tup []))]⟩
def F_law_made01 : Fn := ⟨[false], ["_law_works_here"], 1, [.ifs (.cmp .Eq (.bi .len [(.var 0)]) (.cst (.int 1))) [.ret (.make "Line" [(.sub (.var 0) (.cst (.int 0)))])] [], .ret (.ite (.cmp .Eq (.bi .len [(.var 0)]) (.cst (.int 2))) (.make "Line" [(.sub (.var 0) (.cst (.int 0))), (.sub (.var 0) (.cst (.int 1)))]) (.make "Line" [(.sub (.var 0) (.cst (.int 0))), (.sub (.var 0) (.cst (.int 1))), (.sub (.var 0) (.cst (.int 2)))]))]⟩

variable {P : Prg} {Ca : Addr}
/-! ### laps -/
structure IsLap (m : Nat) (L : List Int) : Prop where
  len0 : 1 ≤ L.length
  len1 : L.length ≤ 10000
  all : ∀ x ∈ L, -1 ≤ x ∧ x < m
theorem IsLap.at {m : Nat} {L : List Int} (h : IsLap m L) {t : Nat} (ht : t < L.length) : -1 ≤ aw L t ∧ aw L t < m := by
  rw [aw_nat]
  exact h.all _ (gd_mem ht)
structure Laps (P : Prg) (Ca : Addr) : Prop where
  l : Lines P Ca
  is_lap : Hs P "is_lap" F_is_lap
  need_lap : Hs P "need_lap" F_need_lap
  does_fit : Hs P "does_fit" F_does_fit
  nothing : P.glob "NOTHING" = some (.int (-1))
theorem btw_ev {C : MI.Ctx} {ini : Str} {cl : Option Str} {pr : List (Str × Str)} (hc : C.cls "Line" = some ⟨Ca, ini, ["own", "between"], cl, pr⟩) {env : MI.Env} {as : List (List Int)} {l x y : Nat} {i j : Nat} (h0 : env[l]? = some (.val (lineD Ca as))) (hx : env[x]? = some (.val (.int i))) (hy : env[y]? = some (.val (.int j))) (hi : i < as.length) (hj : j < as.length) :
    evR C (.sub (.sub (.attr "Line" "between" (.var l)) (.var x)) (.var y)) env = some (.old (wk (barsL (as.getD i []) (as.getD j []))), env) := by
  have a1 : atI (as.map fun a => D.tup (as.map fun b => wk (barsL a b))) (i : Int) = some (D.tup (as.map fun b => wk (barsL (as.getD i []) b))) := by rw [atI_map, atI_gd [] hi]; rfl
  have a2 : atI (as.map fun b => wk (barsL (as.getD i []) b)) (j : Int) = some (wk (barsL (as.getD i []) (as.getD j []))) := by rw [atI_map, atI_gd [] hj]; rfl
  generalize as.getD i [] = A at *
  generalize as.getD j [] = B at *
  have e : evR C (.attr "Line" "between" (.var l)) env = some (.old (btwD as), env) := by
    simp [evR, toP, isSet, h0, getP, slotD, hc, insC_line, attr_btw]
  have e1 : itemD (btwD as) (.int i) = some (D.tup (as.map fun b => wk (barsL A b))) := by unfold btwD; simp only [itemD]; exact a1
  have e2 : itemD (D.tup (as.map fun b => wk (barsL A b))) (.int j) = some (wk (barsL A B)) := by simp only [itemD]; exact a2
  rw [evR, toP_of (r := .old (D.tup (as.map fun b => wk (barsL A b)))) (e' := env) ?_ (fun i z => by cases z), Option.bind_some]
  · simp [evR, hy, frz, RD.d, getP, e2]
  · rw [evR, toP_of e (fun i z => by cases z), Option.bind_some]
    simp [evR, hx, frz, RD.d, getP, e1]
theorem own_len {C : MI.Ctx} {ini : Str} {cl : Option Str} {pr : List (Str × Str)} (hc : C.cls "Line" = some ⟨Ca, ini, ["own", "between"], cl, pr⟩) {env : MI.Env} {as : List (List Int)} {l : Nat} (h0 : env[l]? = some (.val (lineD Ca as))) : evR C (.bi .len [(.attr "Line" "own" (.var l))]) env = some (.old (.int as.length), env) := by
  simp [runFn, modesOf, argSl, exSs, exS, testOf, toP, evR, evS, evD, evPs, evA, evI, evB, evG, frz, getP, isSet, slotD, itemD, atI, ixN, cmpD, truth, arith, biD, isiD, RD.d, slOf, mutAt, isMut, isL, setAt, appAt, outsOf, argV, sRefs, putBack, reslot, bindT, bindTs, partOf, MI.isNon, sliceD, itemsD, itemsT, isT, setIs, evRs, augD, popOf, wipeable, wipeE, restoreE, wiped, ctx_call, ctx_modes, ctx_glob, ctx_names, ctx_cls, ctx_kws, szOk, lk_eq, mtD, mtK, insC_ins, MI.isObj, isDic, dicAt, dputAt, storeD, lookD, keyD, keysD, insAt, fldAt, fldD, MI.putF, pickK, revD, h0, hc, insC_line, attr_own]
theorem isLap_runs (h : Laps P Ca) {n : Nat} (hn : 2 ≤ n) {as : List (List Int)} {L : List Int} (hL : IsLap as.length L) : P.calls n "is_lap" [.d (lineD Ca as), .d (wk L)] = some (.old (.bl true), []) := by
  obtain ⟨cl, pr, hc⟩ := h.l.cls
  have len0 := hL.len0
  have len1 := hL.len1
  rw [h.is_lap.eq (by omega)]
  have mb := h.l.w.is_between.md
  have lc : evR (P.ctx (n - 1)) C_is_lap_1 [.val (lineD Ca as), .val (wk L), .un] = some (.new (.lst (List.replicate L.length (.bl true))), [.val (lineD Ca as), .val (wk L), .un]) := by
    unfold C_is_lap_1
    rw [lc_map (e1 := [.val (lineD Ca as), .val (wk L), .un]) (ds := L.map .int) (f := fun _ => .bl true) (by simp [runFn, modesOf, argSl, exSs, exS, testOf, toP, evR, evS, evD, evPs, evA, evI, evB, evG, frz, getP, isSet, slotD, itemD, atI, ixN, cmpD, truth, arith, biD, isiD, RD.d, slOf, mutAt, isMut, isL, setAt, appAt, outsOf, argV, sRefs, putBack, reslot, bindT, bindTs, partOf, MI.isNon, sliceD, itemsD, itemsT, isT, setIs, evRs, augD, popOf, wipeable, wipeE, restoreE, wiped, ctx_call, ctx_modes, ctx_glob, ctx_names, ctx_cls, ctx_kws, szOk, lk_eq, mtD, mtK, insC_ins, MI.isObj, isDic, dicAt, dputAt, storeD, lookD, keyD, keysD, insAt, fldAt, fldD, MI.putF, pickK, revD, wk]) (by simp [runFn, modesOf, argSl, exSs, exS, testOf, toP, evR, evS, evD, evPs, evA, evI, evB, evG, frz, getP, isSet, slotD, itemD, atI, ixN, cmpD, truth, arith, biD, isiD, RD.d, slOf, mutAt, isMut, isL, setAt, appAt, outsOf, argV, sRefs, putBack, reslot, bindT, bindTs, partOf, MI.isNon, sliceD, itemsD, itemsT, isT, setIs, evRs, augD, popOf, wipeable, wipeE, restoreE, wiped, ctx_call, ctx_modes, ctx_glob, ctx_names, ctx_cls, ctx_kws, szOk, lk_eq, mtD, mtK, insC_ins, MI.isObj, isDic, dicAt, dputAt, storeD, lookD, keyD, keysD, insAt, fldAt, fldD, MI.putF, pickK, revD]) (by rw [List.length_map]; omega) (fun x hx => by
      obtain ⟨k, hk, rfl⟩ := List.mem_map.mp hx
      have e := between_runs h.l.w.is_between (n := n - 1) (by omega) (i := k) (a := -1) (b := as.length - 1)
      have h1 := hL.all k hk
      rw [decide_eq_true (by omega)] at e
      exact ⟨[.val (lineD Ca as), .val (wk L), .val (.int k)], .old (.bl true), [.val (lineD Ca as), .val (wk L), .val (.int k)], by simp [runFn, modesOf, argSl, exSs, exS, testOf, toP, evR, evS, evD, evPs, evA, evI, evB, evG, frz, getP, isSet, slotD, itemD, atI, ixN, cmpD, truth, arith, biD, isiD, RD.d, slOf, mutAt, isMut, isL, setAt, appAt, outsOf, argV, sRefs, putBack, reslot, bindT, bindTs, partOf, MI.isNon, sliceD, itemsD, itemsT, isT, setIs, evRs, augD, popOf, wipeable, wipeE, restoreE, wiped, ctx_call, ctx_modes, ctx_glob, ctx_names, ctx_cls, ctx_kws, szOk, lk_eq, mtD, mtK, insC_ins, MI.isObj, isDic, dicAt, dputAt, storeD, lookD, keyD, keysD, insAt, fldAt, fldD, MI.putF, pickK, revD], by simp [runFn, modesOf, argSl, exSs, exS, testOf, toP, evR, evS, evD, evPs, evA, evI, evB, evG, frz, getP, isSet, slotD, itemD, atI, ixN, cmpD, truth, arith, biD, isiD, RD.d, slOf, mutAt, isMut, isL, setAt, appAt, outsOf, argV, sRefs, putBack, reslot, bindT, bindTs, partOf, MI.isNon, sliceD, itemsD, itemsT, isT, setIs, evRs, augD, popOf, wipeable, wipeE, restoreE, wiped, ctx_call, ctx_modes, ctx_glob, ctx_names, ctx_cls, ctx_kws, szOk, lk_eq, mtD, mtK, insC_ins, MI.isObj, isDic, dicAt, dputAt, storeD, lookD, keyD, keysD, insAt, fldAt, fldD, MI.putF, pickK, revD, mb, F_is_between, h.nothing, hc, insC_line, attr_own, e], by simp [runFn, modesOf, argSl, exSs, exS, testOf, toP, evR, evS, evD, evPs, evA, evI, evB, evG, frz, getP, isSet, slotD, itemD, atI, ixN, cmpD, truth, arith, biD, isiD, RD.d, slOf, mutAt, isMut, isL, setAt, appAt, outsOf, argV, sRefs, putBack, reslot, bindT, bindTs, partOf, MI.isNon, sliceD, itemsD, itemsT, isT, setIs, evRs, augD, popOf, wipeable, wipeE, restoreE, wiped, ctx_call, ctx_modes, ctx_glob, ctx_names, ctx_cls, ctx_kws, szOk, lk_eq, mtD, mtK, insC_ins, MI.isObj, isDic, dicAt, dputAt, storeD, lookD, keyD, keysD, insAt, fldAt, fldD, MI.putF, pickK, revD], by simp [runFn, modesOf, argSl, exSs, exS, testOf, toP, evR, evS, evD, evPs, evA, evI, evB, evG, frz, getP, isSet, slotD, itemD, atI, ixN, cmpD, truth, arith, biD, isiD, RD.d, slOf, mutAt, isMut, isL, setAt, appAt, outsOf, argV, sRefs, putBack, reslot, bindT, bindTs, partOf, MI.isNon, sliceD, itemsD, itemsT, isT, setIs, evRs, augD, popOf, wipeable, wipeE, restoreE, wiped, ctx_call, ctx_modes, ctx_glob, ctx_names, ctx_cls, ctx_kws, szOk, lk_eq, mtD, mtK, insC_ins, MI.isObj, isDic, dicAt, dputAt, storeD, lookD, keyD, keysD, insAt, fldAt, fldD, MI.putF, pickK, revD], rfl⟩), map_yes, List.length_map]
    simp [runFn, modesOf, argSl, exSs, exS, testOf, toP, evR, evS, evD, evPs, evA, evI, evB, evG, frz, getP, isSet, slotD, itemD, atI, ixN, cmpD, truth, arith, biD, isiD, RD.d, slOf, mutAt, isMut, isL, setAt, appAt, outsOf, argV, sRefs, putBack, reslot, bindT, bindTs, partOf, MI.isNon, sliceD, itemsD, itemsT, isT, setIs, evRs, augD, popOf, wipeable, wipeE, restoreE, wiped, ctx_call, ctx_modes, ctx_glob, ctx_names, ctx_cls, ctx_kws, szOk, lk_eq, mtD, mtK, insC_ins, MI.isObj, isDic, dicAt, dputAt, storeD, lookD, keyD, keysD, insAt, fldAt, fldD, MI.putF, pickK, revD]
  have e0 : cmpD .Eq (wk L) (.tup []) = some false := by
    have d1 := dataOk_wk L
    have d0 : dataOk (.tup []) = true := by simp [dataOk, flatD, flatDs]
    cases L with
    | nil => cases len0
    | cons x r =>
      unfold wk at d1 ⊢
      simp only [List.map_cons] at d1 ⊢
      simp [cmpD, d1, d0, eqD, eqDs]
  have l0 := leS (n := 0) (by decide)
  have i0 : isiD (wk L) .tuple = some true := rfl
  refine run_rt (env := [.val (lineD Ca as), .val (wk L), .un]) (e := [.val (lineD Ca as), .val (wk L), .un]) rfl rfl ?_ rfl
  refine sq (e := [.val (lineD Ca as), .val (wk L), .un]) (if_no (e := [.val (lineD Ca as), .val (wk L), .un]) ?_ sn) (sr ?_)
  · simp [evB, evR, testOf, toP, isSet, frz, getP, slotD, i0, truth, RD.d, evS, szOk, lk_eq, l0, e0]
  · simp [runFn, modesOf, argSl, exSs, exS, testOf, toP, evR, evS, evD, evPs, evA, evI, evB, evG, frz, getP, isSet, slotD, itemD, atI, ixN, cmpD, truth, arith, biD, isiD, RD.d, slOf, mutAt, isMut, isL, setAt, appAt, outsOf, argV, sRefs, putBack, reslot, bindT, bindTs, partOf, MI.isNon, sliceD, itemsD, itemsT, isT, setIs, evRs, augD, popOf, wipeable, wipeE, restoreE, wiped, ctx_call, ctx_modes, ctx_glob, ctx_names, ctx_cls, ctx_kws, szOk, lk_eq, mtD, mtK, insC_ins, MI.isObj, isDic, dicAt, dputAt, storeD, lookD, keyD, keysD, insAt, fldAt, fldD, MI.putF, pickK, revD, ↓tp_C_is_lap_1, lc, bools_yes]
theorem needLap_runs (h : Laps P Ca) {n : Nat} (hn : 3 ≤ n) {as : List (List Int)} {L : List Int} (hL : IsLap as.length L) : P.calls n "need_lap" [.d (lineD Ca as), .d (wk L)] = some (.old .non, []) := by
  have e := isLap_runs h (n := n - 1) (by omega) hL
  have md := h.is_lap.md
  rw [h.need_lap.eq (by omega)]
  simp [F_need_lap, F_is_lap, runFn, modesOf, argSl, exSs, exS, testOf, toP, evR, evS, evD, evPs, evA, evI, evB, evG, frz, getP, isSet, slotD, itemD, atI, ixN, cmpD, truth, arith, biD, isiD, RD.d, slOf, mutAt, isMut, isL, setAt, appAt, outsOf, argV, sRefs, putBack, reslot, bindT, bindTs, partOf, MI.isNon, sliceD, itemsD, itemsT, isT, setIs, evRs, augD, popOf, wipeable, wipeE, restoreE, wiped, ctx_call, ctx_modes, ctx_glob, ctx_names, ctx_cls, ctx_kws, szOk, lk_eq, mtD, mtK, insC_ins, MI.isObj, isDic, dicAt, dputAt, storeD, lookD, keyD, keysD, insAt, fldAt, fldD, MI.putF, pickK, revD, md, e]
/-! ### does a lap fit? -/
def metB (as : List (List Int)) (L : List Int) (t o : Nat) : Bool := (barsL (as.getD (aw L t).toNat []) (as.getD o [])).any fun b => decide (aw L ((t + b) % L.length) = o)
def fitAt (as : List (List Int)) (L : List Int) (t : Nat) : Bool := decide (aw L t = -1) || (List.range as.length).all fun o => !metB as L t o
def fitB (as : List (List Int)) (L : List Int) : Bool := (List.range L.length).all (fitAt as L)
theorem enum_ints : ∀ (l : List Int) (k : Int), enumD k (l.map .int) = (List.range l.length).map fun (i : Nat) => D.tup [.int (k + i), .int (l.getD i (-1))]
  | [], k => rfl
  | x :: r, k => by
    rw [List.map_cons, enumD, enum_ints r, List.length_cons, List.range_succ_eq_map, List.map_cons, List.map_map]
    refine congr (congrArg _ ?_) (List.map_congr_left fun i _ => ?_)
    · simp
    · simp
      omega
theorem enum_aw (l : List Int) : enumD 0 (l.map .int) = (List.range l.length).map fun (i : Nat) => D.tup [.int i, .int (aw l i)] := by
  rw [enum_ints]
  refine List.map_congr_left fun i _ => ?_
  rw [aw_nat]
  simp
theorem range_get {n i : Nat} {α : Type} {f : Nat → α} {d : α} (h : ((List.range n).map f)[i]? = some d) : d = f i ∧ i < n := by
  rw [List.getElem?_map] at h
  obtain ⟨j, hj, rfl⟩ := Option.map_eq_some_iff.mp h
  obtain ⟨hi, e⟩ := List.getElem?_eq_some_iff.mp hj
  rw [List.getElem_range] at e
  rw [List.length_range] at hi
  subst e
  exact ⟨rfl, hi⟩
theorem all_range {n : Nat} {p : Nat → Bool} : (List.range n).all p = true ↔ ∀ i < n, p i = true := by
  rw [List.all_eq_true]
  exact ⟨fun h i hi => h i (List.mem_range.mpr hi), fun h i hi => h i (List.mem_range.mp hi)⟩
theorem any_of {C : MI.Ctx} {e : MI.E} {env env' : MI.Env} {bs : List Bool} (h : evR C e env = some (.new (.lst (bs.map .bl)), env')) (hv : ∀ i, e ≠ .var i) : testOf (.bi .any [e]) (evR C (.bi .any [e])) env = some (bs.any id, env') := by
  refine test_of ?_ (fun i z => by cases z)
  rw [evR, evPs, toP_of h hv, Option.bind_some]
  simp [evPs, evG, getP, RD.d, biD, boolsOf_map]
theorem bars_len (a b : List Int) : (barsL a b).length ≤ a.length := by
  unfold barsL
  refine Nat.le_trans (List.length_filter_le _ _) ?_
  rw [rgI_len]
  omega
theorem doesFit_runs (h : Laps P Ca) {n : Nat} (hn : 1 ≤ n) {as : List (List Int)} (ha : IsLine as) {L : List Int} (hL : IsLap as.length L) : P.calls n "does_fit" [.d (lineD Ca as), .d (wk L)] = some (.old (.bl (fitB as L)), []) := by
  obtain ⟨cl, pr, hc⟩ := h.l.cls
  have hc' : (P.ctx (n - 1)).cls "Line" = some ⟨Ca, "Line.__init__", ["own", "between"], cl, pr⟩ := hc
  have len0 := hL.len0
  have len1 := hL.len1
  have al := ha.len1
  rw [h.does_fit.eq (by omega)]
  -- one tick
  have one : ∀ (t : Nat), t < L.length → aw L t ≠ -1 → ∀ s4 s5 : Sl, isMut s5 = false → (∃ s4' , exS (P.ctx (n - 1)) P.w S_does_fit_1 [.val (lineD Ca as), .val (wk L), .val (.int t), .val (.int (aw L t)), s4, s5] = some (.nx [.val (lineD Ca as), .val (wk L), .val (.int t), .val (.int (aw L t)), s4', s5]) ∧ fitAt as L t = true) ∨ ∃ s4', exS (P.ctx (n - 1)) P.w S_does_fit_1 [.val (lineD Ca as), .val (wk L), .val (.int t), .val (.int (aw L t)), s4, s5] = some (.rt (.old (.bl false)) [.val (lineD Ca as), .val (wk L), .val (.int t), .val (.int (aw L t)), s4', s5]) ∧ fitAt as L t = false := by
    intro t ht hne s4 s5 m5
    simp only [isMut] at m5
    have hat := hL.at ht
    obtain ⟨o, ho⟩ : ∃ o : Nat, aw L t = o := ⟨(aw L t).toNat, by omega⟩
    have er := rng_n (n := (as.length : Int)) (by omega) (by omega)
    have ol := own_len hc' (as := as) (l := 0) (env := [.val (lineD Ca as), .val (wk L), .val (.int t), .val (.int (aw L t)), s4, s5]) rfl
    unfold S_does_fit_1
    rcases for_any (C := P.ctx (n - 1)) (w := P.w) (t := .nm 4) (it := .rng [(.bi .len [(.attr "Line" "own" (.var 0))])]) (body := [.ifs (.bi .any [C_does_fit_1]) [.ret (.cst (.bl false))] []]) (env := [.val (lineD Ca as), .val (wk L), .val (.int t), .val (.int (aw L t)), s4, s5]) (e1 := [.val (lineD Ca as), .val (wk L), .val (.int t), .val (.int (aw L t)), s4, s5]) (ds := rgD 0 as.length)
      (J := fun i e' => ∃ s4', e' = [.val (lineD Ca as), .val (wk L), .val (.int t), .val (.int (aw L t)), s4', s5] ∧ ∀ j < i, metB as L t j = false) (Z := fun r e' => ∃ s4', r = .old (.bl false) ∧ e' = [.val (lineD Ca as), .val (wk L), .val (.int t), .val (.int (aw L t)), s4', s5] ∧ ∃ j < as.length, metB as L t j = true)
      (by rw [evI, evD, frz, ol]; simp [evD, RD.d, er]) ⟨s4, rfl, fun j hj => by omega⟩ (by
        intro i d e hd ⟨s4', he, hJ⟩
        subst he
        obtain ⟨rfl, hi⟩ := rgD_get hd
        have hi' : i < as.length := by omega
        have bt := btw_ev hc' (as := as) (l := 0) (x := 3) (y := 4) (i := o) (j := i) (env := [.val (lineD Ca as), .val (wk L), .val (.int t), .val (.int (aw L t)), .val (.int i), s5]) rfl (by rw [ho]; rfl) rfl (by omega) hi'
        have lc : evR (P.ctx (n - 1)) C_does_fit_1 [.val (lineD Ca as), .val (wk L), .val (.int t), .val (.int (aw L t)), .val (.int i), s5] = some (.new (.lst (((barsL (as.getD o []) (as.getD i [])).map fun b => decide (aw L ((t + b) % L.length) = i)).map .bl)), [.val (lineD Ca as), .val (wk L), .val (.int t), .val (.int (aw L t)), .val (.int i), s5]) := by
          unfold C_does_fit_1
          have hbl := bars_len (as.getD o []) (as.getD i [])
          have wa := ha.all _ (gd_mem (l := as) (j := o) (d := []) (by omega))
          have wl := wa.len1
          generalize barsL (as.getD o []) (as.getD i []) = bs at *
          rw [lc_map (e1 := [.val (lineD Ca as), .val (wk L), .val (.int t), .val (.int (aw L t)), .val (.int i), s5]) (ds := bs.map .int) (f := fun x => match x with | .int b => .bl (decide (aw L ((t + b) % L.length) = i)) | x => x) (by rw [evI, frz, bt]; rfl) (by simp [runFn, modesOf, argSl, exSs, exS, testOf, toP, evR, evS, evD, evPs, evA, evI, evB, evG, frz, getP, isSet, slotD, itemD, atI, ixN, cmpD, truth, arith, biD, isiD, RD.d, slOf, mutAt, isMut, isL, setAt, appAt, outsOf, argV, sRefs, putBack, reslot, bindT, bindTs, partOf, MI.isNon, sliceD, itemsD, itemsT, isT, setIs, evRs, augD, popOf, wipeable, wipeE, restoreE, wiped, ctx_call, ctx_modes, ctx_glob, ctx_names, ctx_cls, ctx_kws, szOk, lk_eq, mtD, mtK, insC_ins, MI.isObj, isDic, dicAt, dputAt, storeD, lookD, keyD, keysD, insAt, fldAt, fldD, MI.putF, pickK, revD, m5]) (by rw [List.length_map]; omega) (fun x hx => by
            obtain ⟨b, hb, rfl⟩ := List.mem_map.mp hx
            have e := atI_aw (a := L) (t := ((t : Int) + b) % L.length) (Int.emod_nonneg _ (by omega)) (Int.emod_lt_of_pos _ (by omega))
            have hp : 0 < L.length := by omega
            refine ⟨[.val (lineD Ca as), .val (wk L), .val (.int t), .val (.int (aw L t)), .val (.int i), .val (.int b)], .old (.bl (decide (aw L ((t + b) % L.length) = i))), [.val (lineD Ca as), .val (wk L), .val (.int t), .val (.int (aw L t)), .val (.int i), .val (.int b)], by simp [runFn, modesOf, argSl, exSs, exS, testOf, toP, evR, evS, evD, evPs, evA, evI, evB, evG, frz, getP, isSet, slotD, itemD, atI, ixN, cmpD, truth, arith, biD, isiD, RD.d, slOf, mutAt, isMut, isL, setAt, appAt, outsOf, argV, sRefs, putBack, reslot, bindT, bindTs, partOf, MI.isNon, sliceD, itemsD, itemsT, isT, setIs, evRs, augD, popOf, wipeable, wipeE, restoreE, wiped, ctx_call, ctx_modes, ctx_glob, ctx_names, ctx_cls, ctx_kws, szOk, lk_eq, mtD, mtK, insC_ins, MI.isObj, isDic, dicAt, dputAt, storeD, lookD, keyD, keysD, insAt, fldAt, fldD, MI.putF, pickK, revD], ?_, by simp [runFn, modesOf, argSl, exSs, exS, testOf, toP, evR, evS, evD, evPs, evA, evI, evB, evG, frz, getP, isSet, slotD, itemD, atI, ixN, cmpD, truth, arith, biD, isiD, RD.d, slOf, mutAt, isMut, isL, setAt, appAt, outsOf, argV, sRefs, putBack, reslot, bindT, bindTs, partOf, MI.isNon, sliceD, itemsD, itemsT, isT, setIs, evRs, augD, popOf, wipeable, wipeE, restoreE, wiped, ctx_call, ctx_modes, ctx_glob, ctx_names, ctx_cls, ctx_kws, szOk, lk_eq, mtD, mtK, insC_ins, MI.isObj, isDic, dicAt, dputAt, storeD, lookD, keyD, keysD, insAt, fldAt, fldD, MI.putF, pickK, revD], by simp [runFn, modesOf, argSl, exSs, exS, testOf, toP, evR, evS, evD, evPs, evA, evI, evB, evG, frz, getP, isSet, slotD, itemD, atI, ixN, cmpD, truth, arith, biD, isiD, RD.d, slOf, mutAt, isMut, isL, setAt, appAt, outsOf, argV, sRefs, putBack, reslot, bindT, bindTs, partOf, MI.isNon, sliceD, itemsD, itemsT, isT, setIs, evRs, augD, popOf, wipeable, wipeE, restoreE, wiped, ctx_call, ctx_modes, ctx_glob, ctx_names, ctx_cls, ctx_kws, szOk, lk_eq, mtD, mtK, insC_ins, MI.isObj, isDic, dicAt, dputAt, storeD, lookD, keyD, keysD, insAt, fldAt, fldD, MI.putF, pickK, revD], rfl⟩
            simp [runFn, modesOf, argSl, exSs, exS, testOf, toP, evR, evS, evD, evPs, evA, evI, evB, evG, frz, getP, isSet, slotD, itemD, cmpD, truth, arith, biD, isiD, RD.d, slOf, mutAt, isMut, isL, setAt, appAt, outsOf, argV, sRefs, putBack, reslot, bindT, bindTs, partOf, MI.isNon, sliceD, itemsD, itemsT, isT, setIs, evRs, augD, popOf, wipeable, wipeE, restoreE, wiped, ctx_call, ctx_modes, ctx_glob, ctx_names, ctx_cls, ctx_kws, szOk, lk_eq, mtD, mtK, insC_ins, MI.isObj, isDic, dicAt, dputAt, storeD, lookD, keyD, keysD, insAt, fldAt, fldD, MI.putF, pickK, revD, wk, e, hp])]
          rw [List.map_map, List.map_map]
          simp [runFn, modesOf, argSl, exSs, exS, testOf, toP, evR, evS, evD, evPs, evA, evI, evB, evG, frz, getP, isSet, slotD, itemD, atI, ixN, cmpD, truth, arith, biD, isiD, RD.d, slOf, mutAt, isMut, isL, setAt, appAt, outsOf, argV, sRefs, putBack, reslot, bindT, bindTs, partOf, MI.isNon, sliceD, itemsD, itemsT, isT, setIs, evRs, augD, popOf, wipeable, wipeE, restoreE, wiped, ctx_call, ctx_modes, ctx_glob, ctx_names, ctx_cls, ctx_kws, szOk, lk_eq, mtD, mtK, insC_ins, MI.isObj, isDic, dicAt, dputAt, storeD, lookD, keyD, keysD, insAt, fldAt, fldD, MI.putF, pickK, revD]
        have hmet : ((barsL (as.getD o []) (as.getD i [])).map fun b => decide (aw L ((t + b) % L.length) = i)).any id = metB as L t i := by
          unfold metB
          rw [ho, List.any_map]
          rfl
        have tb := any_of lc (fun i z => by cases z)
        rw [hmet] at tb
        refine ⟨[.val (lineD Ca as), .val (wk L), .val (.int t), .val (.int (aw L t)), .val (.int i), s5], by simp [runFn, modesOf, argSl, exSs, exS, testOf, toP, evR, evS, evD, evPs, evA, evI, evB, evG, frz, getP, isSet, slotD, itemD, atI, ixN, cmpD, truth, arith, biD, isiD, RD.d, slOf, mutAt, isMut, isL, setAt, appAt, outsOf, argV, sRefs, putBack, reslot, bindT, bindTs, partOf, MI.isNon, sliceD, itemsD, itemsT, isT, setIs, evRs, augD, popOf, wipeable, wipeE, restoreE, wiped, ctx_call, ctx_modes, ctx_glob, ctx_names, ctx_cls, ctx_kws, szOk, lk_eq, mtD, mtK, insC_ins, MI.isObj, isDic, dicAt, dputAt, storeD, lookD, keyD, keysD, insAt, fldAt, fldD, MI.putF, pickK, revD], ?_⟩
        cases hm : metB as L t i with
        | false =>
          rw [hm] at tb
          refine .inl ⟨_, .inl (sq (if_no tb sn) sn), _, rfl, fun j hj => ?_⟩
          by_cases e : j = i
          · subst e; exact hm
          · exact hJ j (by omega)
        | true =>
          rw [hm] at tb
          exact .inr ⟨.old (.bl false), [.val (lineD Ca as), .val (wk L), .val (.int t), .val (.int (aw L t)), .val (.int i), s5], sr (if_yes tb (sr (by simp [runFn, modesOf, argSl, exSs, exS, testOf, toP, evR, evS, evD, evPs, evA, evI, evB, evG, frz, getP, isSet, slotD, itemD, atI, ixN, cmpD, truth, arith, biD, isiD, RD.d, slOf, mutAt, isMut, isL, setAt, appAt, outsOf, argV, sRefs, putBack, reslot, bindT, bindTs, partOf, MI.isNon, sliceD, itemsD, itemsT, isT, setIs, evRs, augD, popOf, wipeable, wipeE, restoreE, wiped, ctx_call, ctx_modes, ctx_glob, ctx_names, ctx_cls, ctx_kws, szOk, lk_eq, mtD, mtK, insC_ins, MI.isObj, isDic, dicAt, dputAt, storeD, lookD, keyD, keysD, insAt, fldAt, fldD, MI.putF, pickK, revD]))), _, rfl, rfl, i, hi', hm⟩) with ⟨e', hx, s4', rfl, hJ⟩ | ⟨r, e', hx, s4', rfl, rfl, j, hj, hm⟩
    · refine .inl ⟨s4', hx, ?_⟩
      rw [rgD_length] at hJ
      unfold fitAt
      rw [(all_range (p := fun o => !metB as L t o)).mpr fun j hj => by rw [hJ j (by omega)]; rfl, Bool.or_true]
    · refine .inr ⟨s4', hx, ?_⟩
      unfold fitAt
      rw [decide_eq_false hne, Bool.false_or]
      exact List.all_eq_false.mpr ⟨j, List.mem_range.mpr hj, by rw [hm]; decide⟩
  have loop : (∃ s2 s3 s4, exS (P.ctx (n - 1)) P.w S_does_fit_2 [.val (lineD Ca as), .val (wk L), .un, .un, .un, .un] = some (.nx [.val (lineD Ca as), .val (wk L), s2, s3, s4, .un]) ∧ fitB as L = true) ∨ ∃ s2 s3 s4, exS (P.ctx (n - 1)) P.w S_does_fit_2 [.val (lineD Ca as), .val (wk L), .un, .un, .un, .un] = some (.rt (.old (.bl false)) [.val (lineD Ca as), .val (wk L), s2, s3, s4, .un]) ∧ fitB as L = false := by
    unfold S_does_fit_2
    rcases for_any (C := P.ctx (n - 1)) (w := P.w) (t := .tp [(.nm 2), (.nm 3)]) (it := .enum (.var 1)) (body := [.ifs (.cmp .NotEq (.var 3) (.glo "NOTHING")) [S_does_fit_1] []]) (env := [.val (lineD Ca as), .val (wk L), .un, .un, .un, .un]) (e1 := [.val (lineD Ca as), .val (wk L), .un, .un, .un, .un]) (ds := (List.range L.length).map fun (i : Nat) => D.tup [.int i, .int (aw L i)])
      (J := fun i e' => ∃ s2 s3 s4, e' = [.val (lineD Ca as), .val (wk L), s2, s3, s4, .un] ∧ ∀ j < i, fitAt as L j = true) (Z := fun r e' => ∃ s2 s3 s4, r = .old (.bl false) ∧ e' = [.val (lineD Ca as), .val (wk L), s2, s3, s4, .un] ∧ ∃ j < L.length, fitAt as L j = false)
      (by
        have := enum_aw L
        simp [runFn, modesOf, argSl, exSs, exS, testOf, toP, evR, evS, evD, evPs, evA, evI, evB, evG, frz, getP, isSet, slotD, itemD, atI, ixN, cmpD, truth, arith, biD, isiD, RD.d, slOf, mutAt, isMut, isL, setAt, appAt, outsOf, argV, sRefs, putBack, reslot, bindT, bindTs, partOf, MI.isNon, sliceD, itemsD, itemsT, isT, setIs, evRs, augD, popOf, wipeable, wipeE, restoreE, wiped, ctx_call, ctx_modes, ctx_glob, ctx_names, ctx_cls, ctx_kws, szOk, lk_eq, mtD, mtK, insC_ins, MI.isObj, isDic, dicAt, dputAt, storeD, lookD, keyD, keysD, insAt, fldAt, fldD, MI.putF, pickK, revD, wk, this]) ⟨_, _, _, rfl, fun j hj => by omega⟩ (by
        intro t d e hd ⟨s2, s3, s4, he, hJ⟩
        subst he
        obtain ⟨rfl, ht⟩ := range_get hd
        refine ⟨[.val (lineD Ca as), .val (wk L), .val (.int t), .val (.int (aw L t)), s4, .un], by simp [runFn, modesOf, argSl, exSs, exS, testOf, toP, evR, evS, evD, evPs, evA, evI, evB, evG, frz, getP, isSet, slotD, itemD, atI, ixN, cmpD, truth, arith, biD, isiD, RD.d, slOf, mutAt, isMut, isL, setAt, appAt, outsOf, argV, sRefs, putBack, reslot, bindT, bindTs, partOf, MI.isNon, sliceD, itemsD, itemsT, isT, setIs, evRs, augD, popOf, wipeable, wipeE, restoreE, wiped, ctx_call, ctx_modes, ctx_glob, ctx_names, ctx_cls, ctx_kws, szOk, lk_eq, mtD, mtK, insC_ins, MI.isObj, isDic, dicAt, dputAt, storeD, lookD, keyD, keysD, insAt, fldAt, fldD, MI.putF, pickK, revD], ?_⟩
        by_cases hne : aw L t = -1
        · refine .inl ⟨[.val (lineD Ca as), .val (wk L), .val (.int t), .val (.int (aw L t)), s4, .un], .inl (sq (if_no (e := [.val (lineD Ca as), .val (wk L), .val (.int t), .val (.int (aw L t)), s4, .un]) (by simp [runFn, modesOf, argSl, exSs, exS, testOf, toP, evR, evS, evD, evPs, evA, evI, evB, evG, frz, getP, isSet, slotD, itemD, atI, ixN, cmpD, truth, arith, biD, isiD, RD.d, slOf, mutAt, isMut, isL, setAt, appAt, outsOf, argV, sRefs, putBack, reslot, bindT, bindTs, partOf, MI.isNon, sliceD, itemsD, itemsT, isT, setIs, evRs, augD, popOf, wipeable, wipeE, restoreE, wiped, ctx_call, ctx_modes, ctx_glob, ctx_names, ctx_cls, ctx_kws, szOk, lk_eq, mtD, mtK, insC_ins, MI.isObj, isDic, dicAt, dputAt, storeD, lookD, keyD, keysD, insAt, fldAt, fldD, MI.putF, pickK, revD, h.nothing, hne]) sn) sn), _, _, _, rfl, fun j hj => ?_⟩
          by_cases e : j = t
          · subst e; unfold fitAt; rw [decide_eq_true hne]; rfl
          · exact hJ j (by omega)
        · have tb : testOf (.cmp .NotEq (.var 3) (.glo "NOTHING")) (evR (P.ctx (n - 1)) (.cmp .NotEq (.var 3) (.glo "NOTHING"))) [.val (lineD Ca as), .val (wk L), .val (.int t), .val (.int (aw L t)), s4, .un] = some (true, [.val (lineD Ca as), .val (wk L), .val (.int t), .val (.int (aw L t)), s4, .un]) := by simp [runFn, modesOf, argSl, exSs, exS, testOf, toP, evR, evS, evD, evPs, evA, evI, evB, evG, frz, getP, isSet, slotD, itemD, atI, ixN, cmpD, truth, arith, biD, isiD, RD.d, slOf, mutAt, isMut, isL, setAt, appAt, outsOf, argV, sRefs, putBack, reslot, bindT, bindTs, partOf, MI.isNon, sliceD, itemsD, itemsT, isT, setIs, evRs, augD, popOf, wipeable, wipeE, restoreE, wiped, ctx_call, ctx_modes, ctx_glob, ctx_names, ctx_cls, ctx_kws, szOk, lk_eq, mtD, mtK, insC_ins, MI.isObj, isDic, dicAt, dputAt, storeD, lookD, keyD, keysD, insAt, fldAt, fldD, MI.putF, pickK, revD, h.nothing, hne]
          rcases one t ht hne s4 .un rfl with ⟨s4', hx, hf⟩ | ⟨s4', hx, hf⟩
          · refine .inl ⟨_, .inl (sq (if_yes tb (sq hx sn)) sn), _, _, _, rfl, fun j hj => ?_⟩
            by_cases e : j = t
            · subst e; exact hf
            · exact hJ j (by omega)
          · exact .inr ⟨_, _, sr (if_yes tb (sr hx)), _, _, _, rfl, rfl, t, ht, hf⟩) with ⟨e', hx, s2, s3, s4, rfl, hJ⟩ | ⟨r, e', hx, s2, s3, s4, rfl, rfl, j, hj, hm⟩
    · rw [List.length_map, List.length_range] at hJ
      exact .inl ⟨s2, s3, s4, hx, all_range.mpr hJ⟩
    · exact .inr ⟨s2, s3, s4, hx, List.all_eq_false.mpr ⟨j, List.mem_range.mpr hj, by rw [hm]; decide⟩⟩
  rcases loop with ⟨s2, s3, s4, hx, hf⟩ | ⟨s2, s3, s4, hx, hf⟩
  · rw [hf]
    exact run_rt (env := [.val (lineD Ca as), .val (wk L), .un, .un, .un, .un]) (e := [.val (lineD Ca as), .val (wk L), s2, s3, s4, .un]) rfl rfl (sq hx (sr (by simp [runFn, modesOf, argSl, exSs, exS, testOf, toP, evR, evS, evD, evPs, evA, evI, evB, evG, frz, getP, isSet, slotD, itemD, atI, ixN, cmpD, truth, arith, biD, isiD, RD.d, slOf, mutAt, isMut, isL, setAt, appAt, outsOf, argV, sRefs, putBack, reslot, bindT, bindTs, partOf, MI.isNon, sliceD, itemsD, itemsT, isT, setIs, evRs, augD, popOf, wipeable, wipeE, restoreE, wiped, ctx_call, ctx_modes, ctx_glob, ctx_names, ctx_cls, ctx_kws, szOk, lk_eq, mtD, mtK, insC_ins, MI.isObj, isDic, dicAt, dputAt, storeD, lookD, keyD, keysD, insAt, fldAt, fldD, MI.putF, pickK, revD]))) rfl
  · rw [hf]
    exact run_rt (env := [.val (lineD Ca as), .val (wk L), .un, .un, .un, .un]) (e := [.val (lineD Ca as), .val (wk L), s2, s3, s4, .un]) rfl rfl (sr hx) rfl
theorem fits_runs (h : Laps P Ca) (hl : Hs P "need_line" F_need_line) (hf : Hs P "fits" F_fits) {n : Nat} (hn : 4 ≤ n) {as : List (List Int)} (ha : IsLine as) {L : List Int} (hL : IsLap as.length L) : P.calls n "fits" [.d (lineD Ca as), .d (wk L)] = some (.old (.bl (fitB as L)), []) := by
  have e1 := needLine_runs hl h.l (n := n - 1) (by omega) (as := as)
  have e2 := needLap_runs h (n := n - 1) (by omega) hL
  have e3 := doesFit_runs h (n := n - 1) (by omega) ha hL
  have m1 := hl.md
  have m2 := h.need_lap.md
  have m3 := h.does_fit.md
  rw [hf.eq (by omega)]
  simp [F_fits, F_need_line, F_need_lap, F_does_fit, runFn, modesOf, argSl, exSs, exS, testOf, toP, evR, evS, evD, evPs, evA, evI, evB, evG, frz, getP, isSet, slotD, itemD, atI, ixN, cmpD, truth, arith, biD, isiD, RD.d, slOf, mutAt, isMut, isL, setAt, appAt, outsOf, argV, sRefs, putBack, reslot, bindT, bindTs, partOf, MI.isNon, sliceD, itemsD, itemsT, isT, setIs, evRs, augD, popOf, wipeable, wipeE, restoreE, wiped, ctx_call, ctx_modes, ctx_glob, ctx_names, ctx_cls, ctx_kws, szOk, lk_eq, mtD, mtK, insC_ins, MI.isObj, isDic, dicAt, dputAt, storeD, lookD, keyD, keysD, insAt, fldAt, fldD, MI.putF, pickK, revD, m1, m2, m3, e1, e2, e3]
end SG

namespace SG
open MI L2 PySem
def S_law_work65_1 : MI.S := .for_ (.nm 3) (.rng [(.bin .Sub (.var 4) (.cst (.int 1)))]) [.app 2 (.ite (.cmp .Gt (.call "_law_draw" [(.var 0), (.cst (.int 5))]) (.cst (.int 1))) (.call "_law_draw" [(.var 0), (.var 5)]) (.neg (.cst (.int 1))))]
def F_law_work65 : Fn := ⟨[true, false], ["_law_pen_here", "_law_most"], 6, [.par [4, 5] [(.call "_law_draw" [(.var 0), (.var 1)]), (.call "_law_pick" [(.var 0), (.lst [(.cst (.int 1)), (.cst (.int 2)), (.cst (.int 3)), (.cst (.int 10))])])], .ifs (.cmp .Eq (.var 4) (.cst (.int 0))) [.ret (.tup [(.call "_law_draw" [(.var 0), (.var 5)])])] [], .asg 2 (.lst []), S_law_work65_1, .ret (.bi .tuple [(.bin .Add (.bin .Add (.lst [(.call "_law_draw" [(.var 0), (.var 5)])]) (.var 2)) (.lst [(.call "_law_draw" [(.var 0), (.var 5)])]))])]⟩
def C_law_set_1 : MI.E := .lc [4] (.call "_law_work" [(.var 0), (.var 2)]) (.nm 4) (.rng [(.bin .Add (.cst (.int 1)) (.call "_law_draw" [(.var 0), (.var 1)]))]) (.cst (.bl true))
theorem tp_C_law_set_1 (r : MI.Env → Option (RD × MI.Env)) (env : MI.Env) : toP C_law_set_1 r env = (r env).map fun x => (.d x.1.d, x.2) := rfl
def F_law_set : Fn := ⟨[true, false, false], ["_law_pen_here", "_law_upto", "_law_most"], 5, [.asg 3 C_law_set_1, .ifs (.boo true [(.cmp .Gt (.bi .len [(.var 3)]) (.cst (.int 1))), (.cmp .Eq (.call "_law_draw" [(.var 0), (.cst (.int 6))]) (.cst (.int 0)))]) [.setI 3 (.neg (.cst (.int 1))) (.sub (.var 3) (.cst (.int 0)))] [], .ret (.var 3)]⟩
def S_law_meet_1 : MI.S := .for_ (.tp [(.nm 3), (.nm 4)]) (.enum (.var 0)) [.ifs (.boo true [(.cmp .NotEq (.var 4) (.neg (.cst (.int 1)))), (.chain .LtE .Lt (.cst (.int 0)) (.bin .Sub (.var 3) (.var 2)) (.bi .len [(.var 1)])), (.cmp .Eq (.sub (.var 1) (.bin .Sub (.var 3) (.var 2))) (.var 4))]) [.ret (.cst (.bl true))] []]
def F_law_meet : Fn := ⟨[false, false, false], ["_law_one", "_law_other", "_law_by"], 5, [S_law_meet_1, .ret (.cst (.bl false))]⟩
def F_law_made65 : Fn := ⟨[false], ["_law_jobs"], 1, [.ifs (.cmp .Eq (.bi .len [(.var 0)]) (.cst (.int 1))) [.ret (.make "Line" [(.sub (.var 0) (.cst (.int 0)))])] [], .ret (.ite (.cmp .Eq (.bi .len [(.var 0)]) (.cst (.int 2))) (.make "Line" [(.sub (.var 0) (.cst (.int 0))), (.sub (.var 0) (.cst (.int 1)))]) (.make "Line" [(.sub (.var 0) (.cst (.int 0))), (.sub (.var 0) (.cst (.int 1))), (.sub (.var 0) (.cst (.int 2)))]))]⟩
def C_law_longest_1 : MI.E := .lc [1] (.bi .len [(.var 1)]) (.nm 1) (.seq (.var 0)) (.cst (.bl true))
theorem tp_C_law_longest_1 (r : MI.Env → Option (RD × MI.Env)) (env : MI.Env) : toP C_law_longest_1 r env = (r env).map fun x => (.d x.1.d, x.2) := rfl
def F_law_longest : Fn := ⟨[false], ["_law_jobs"], 2, [.ret (.bi .max [C_law_longest_1])]⟩
def S_law_starts_1 : MI.S := .for_ (.nm 4) (.rng [(.var 1), (.var 2)]) [.ifs (.cmp .NotEq (.sub (.var 0) (.bin .Mod (.var 4) (.bi .len [(.var 0)]))) (.neg (.cst (.int 1)))) [.app 3 (.tup [(.var 4), (.sub (.var 0) (.bin .Mod (.var 4) (.bi .len [(.var 0)])))])] []]
def F_law_starts : Fn := ⟨[false, false, false], ["_law_row", "_law_low", "_law_high"], 5, [.asg 3 (.lst []), S_law_starts_1, .ret (.var 3)]⟩
def S_law_does_fit_1 : MI.S := .for_ (.tp [(.nm 4), (.nm 5)]) (.seq (.call "_law_starts" [(.var 1), (.bin .Add (.var 2) (.cst (.int 1))), (.bin .Add (.bin .Add (.var 2) (.call "_law_longest" [(.var 0)])) (.cst (.int 1)))])) [.ifs (.call "_law_meet" [(.sub (.var 0) (.var 3)), (.sub (.var 0) (.var 5)), (.bin .Sub (.var 4) (.var 2))]) [.ret (.cst (.bl false))] []]
def S_law_does_fit_2 : MI.S := .for_ (.tp [(.nm 2), (.nm 3)]) (.seq (.call "_law_starts" [(.var 1), (.cst (.int 0)), (.bi .len [(.var 1)])])) [S_law_does_fit_1]
def F_law_does_fit : Fn := ⟨[false, false], ["_law_jobs", "_law_row"], 6, [S_law_does_fit_2, .ret (.cst (.bl true))]⟩
def S_law_fitting_1 : MI.S := .for_ (.nm 5) (.rng [(.var 3)]) [.par [7, 8] [(.call "_law_draw" [(.var 0), (.var 2)]), (.call "_law_draw" [(.var 0), (.bi .len [(.var 1)])])], .asg 6 (.bin .Add (.bin .Add (.sli (.var 4) (.cst .non) (.var 7)) (.tup [(.var 8)])) (.sli (.var 4) (.bin .Add (.var 7) (.cst (.int 1))) (.cst .non))), .asg 4 (.ite (.call "_law_does_fit" [(.var 1), (.var 6)]) (.var 6) (.var 4))]
def F_law_fitting : Fn := ⟨[true, false, false, false], ["_law_pen_here", "_law_jobs", "_law_many", "_law_turns"], 9, [.asg 4 (.bin .Mult (.tup [(.neg (.cst (.int 1)))]) (.var 2)), S_law_fitting_1, .ret (.var 4)]⟩

variable {P : Prg} {Ca : Addr}
/-! ### makers and tests of the laws k65 to k92 -/
theorem work65_runs (hd : Hs P "_law_draw" F_law_draw) (hp : Hs P "_law_pick" F_law_pick) (h : Hs P "_law_work" F_law_work65) {n : Nat} (hn : 3 ≤ n) {xs : D} (px : isPen xs) {most : Int} (hm : 1 ≤ most) (hm2 : most ≤ 60) :
    ∃ a xs', P.calls n "_law_work" [.b xs, .d (.int most)] = some (.old (wk a), [xs']) ∧ isPen xs' ∧ IsWork a ∧ (a.length : Int) ≤ most := by
  obtain ⟨q, x1, e1, p1, q0, q1⟩ := draw_runs hd (n := n - 1) (by omega) px (m := most) (by omega) (by omega)
  obtain ⟨s, x2, e2, p2, hs⟩ := pick_runs hd hp (n := n - 1) (by omega) p1 (vs := [.int 1, .int 2, .int 3, .int 10]) (by simp) (by simp)
  obtain ⟨s, rfl, hs2⟩ : ∃ k : Int, s = .int k ∧ 0 < k ∧ k ≤ 10 := by
    simp at hs
    rcases hs with rfl | rfl | rfl | rfl <;> exact ⟨_, rfl, by decide⟩
  have md := hd.md
  have mp := hp.md
  have l4 := leS (n := 4) (by decide)
  have l1 := leS (n := 1) (by decide)
  have l0 := leS (n := 0) (by decide)
  rw [h.eq (by omega)]
  by_cases hq : q = 0
  · subst hq
    obtain ⟨r, x3, e3, p3, r0, r1⟩ := draw_runs hd (n := n - 1) (by omega) p2 (m := s) (by omega) (by omega)
    refine ⟨[r], x3, ?_, p3, ⟨by simp, by simp, fun i hi => by simp at hi; omega, by simp [aw]; omega, by simp [aw]; omega⟩, by simp; omega⟩
    refine run_rt (env := [.bor xs, .val (.int most), .un, .un, .un, .un]) (e := [.bor x3, .val (.int most), .un, .un, .val (.int 0), .val (.int s)]) rfl rfl ?_ rfl
    refine sq (e := [.bor x2, .val (.int most), .un, .un, .val (.int 0), .val (.int s)]) ?_ (sr (if_yes (e := [.bor x2, .val (.int most), .un, .un, .val (.int 0), .val (.int s)]) ?_ (sr ?_)))
    · simp [runFn, modesOf, argSl, exSs, exS, testOf, toP, evR, evS, evD, evPs, evA, evI, evB, evG, frz, getP, isSet, slotD, itemD, atI, ixN, cmpD, truth, arith, biD, isiD, RD.d, slOf, mutAt, isMut, isL, setAt, appAt, outsOf, argV, sRefs, putBack, reslot, bindT, bindTs, partOf, MI.isNon, sliceD, itemsD, itemsT, isT, setIs, evRs, augD, popOf, wipeable, wipeE, restoreE, wiped, ctx_call, ctx_modes, ctx_glob, ctx_names, ctx_cls, ctx_kws, szOk, lk_eq, mtD, mtK, insC_ins, MI.isObj, isDic, dicAt, dputAt, storeD, lookD, keyD, keysD, insAt, fldAt, fldD, MI.putF, pickK, revD, md, mp, F_law_draw, F_law_pick, e1, e2, l4]
    · simp [runFn, modesOf, argSl, exSs, exS, testOf, toP, evR, evS, evD, evPs, evA, evI, evB, evG, frz, getP, isSet, slotD, itemD, atI, ixN, cmpD, truth, arith, biD, isiD, RD.d, slOf, mutAt, isMut, isL, setAt, appAt, outsOf, argV, sRefs, putBack, reslot, bindT, bindTs, partOf, MI.isNon, sliceD, itemsD, itemsT, isT, setIs, evRs, augD, popOf, wipeable, wipeE, restoreE, wiped, ctx_call, ctx_modes, ctx_glob, ctx_names, ctx_cls, ctx_kws, szOk, lk_eq, mtD, mtK, insC_ins, MI.isObj, isDic, dicAt, dputAt, storeD, lookD, keyD, keysD, insAt, fldAt, fldD, MI.putF, pickK, revD]
    · simp [runFn, modesOf, argSl, exSs, exS, testOf, toP, evR, evS, evD, evPs, evA, evI, evB, evG, frz, getP, isSet, slotD, itemD, atI, ixN, cmpD, truth, arith, biD, isiD, RD.d, slOf, mutAt, isMut, isL, setAt, appAt, outsOf, argV, sRefs, putBack, reslot, bindT, bindTs, partOf, MI.isNon, sliceD, itemsD, itemsT, isT, setIs, evRs, augD, popOf, wipeable, wipeE, restoreE, wiped, ctx_call, ctx_modes, ctx_glob, ctx_names, ctx_cls, ctx_kws, szOk, lk_eq, mtD, mtK, insC_ins, MI.isObj, isDic, dicAt, dputAt, storeD, lookD, keyD, keysD, insAt, fldAt, fldD, MI.putF, pickK, revD, md, F_law_draw, e3, l1, wk]
  · have er := rng_n (n := q - 1) (by omega) (by omega)
    obtain ⟨e', hx, items, x3, s3, rfl, p3, hl, hall⟩ : ∃ e', exS (P.ctx (n - 1)) P.w S_law_work65_1 [.bor x2, .val (.int most), .own (.lst []), .un, .val (.int q), .val (.int s)] = some (.nx e') ∧ ∃ (items : List Int) (x3 : D) (s3 : Sl), e' = [.bor x3, .val (.int most), .own (.lst (items.map .int)), s3, .val (.int q), .val (.int s)] ∧ isPen x3 ∧ items.length = (rgD 0 (q - 1)).length ∧ ∀ i ∈ items, -1 ≤ i ∧ i ≤ 9 := by
      unfold S_law_work65_1
      refine for_inv (e1 := [.bor x2, .val (.int most), .own (.lst []), .un, .val (.int q), .val (.int s)]) (ds := rgD 0 (q - 1)) (J := fun i e' => ∃ (items : List Int) (x3 : D) (s3 : Sl), e' = [.bor x3, .val (.int most), .own (.lst (items.map .int)), s3, .val (.int q), .val (.int s)] ∧ isPen x3 ∧ items.length = i ∧ ∀ i ∈ items, -1 ≤ i ∧ i ≤ 9) (by simp [runFn, modesOf, argSl, exSs, exS, testOf, toP, evR, evS, evD, evPs, evA, evI, evB, evG, frz, getP, isSet, slotD, itemD, atI, ixN, cmpD, truth, arith, biD, isiD, RD.d, slOf, mutAt, isMut, isL, setAt, appAt, outsOf, argV, sRefs, putBack, reslot, bindT, bindTs, partOf, MI.isNon, sliceD, itemsD, itemsT, isT, setIs, evRs, augD, popOf, wipeable, wipeE, restoreE, wiped, ctx_call, ctx_modes, ctx_glob, ctx_names, ctx_cls, ctx_kws, szOk, lk_eq, mtD, mtK, insC_ins, MI.isObj, isDic, dicAt, dputAt, storeD, lookD, keyD, keysD, insAt, fldAt, fldD, MI.putF, pickK, revD, er]) ⟨[], x2, .un, rfl, p2, rfl, fun i hi => by cases hi⟩ ?_
      intro i d e hdd ⟨items, z, s3, he, hz, hl, hall⟩
      subst he
      obtain ⟨rfl, hi⟩ := rgD_get hdd
      obtain ⟨r1, y1, f1, q1', r10, r11⟩ := draw_runs hd (n := n - 1) (by omega) hz (m := 5) (by omega) (by omega)
      have hls : items.length + 1 < sizeLine := ltS (by omega)
      by_cases hr : 1 < r1
      · obtain ⟨r2, y2, f2, q2, r20, r21⟩ := draw_runs hd (n := n - 1) (by omega) q1' (m := s) (by omega) (by omega)
        refine ⟨[.bor z, .val (.int most), .own (.lst (items.map .int)), .val (.int i), .val (.int q), .val (.int s)], [.bor y2, .val (.int most), .own (.lst ((items ++ [r2]).map .int)), .val (.int i), .val (.int q), .val (.int s)], by simp [runFn, modesOf, argSl, exSs, exS, testOf, toP, evR, evS, evD, evPs, evA, evI, evB, evG, frz, getP, isSet, slotD, itemD, atI, ixN, cmpD, truth, arith, biD, isiD, RD.d, slOf, mutAt, isMut, isL, setAt, appAt, outsOf, argV, sRefs, putBack, reslot, bindT, bindTs, partOf, MI.isNon, sliceD, itemsD, itemsT, isT, setIs, evRs, augD, popOf, wipeable, wipeE, restoreE, wiped, ctx_call, ctx_modes, ctx_glob, ctx_names, ctx_cls, ctx_kws, szOk, lk_eq, mtD, mtK, insC_ins, MI.isObj, isDic, dicAt, dputAt, storeD, lookD, keyD, keysD, insAt, fldAt, fldD, MI.putF, pickK, revD], .inl ?_, ⟨_, _, _, rfl, q2, by simp [hl], fun j hj => ?_⟩⟩
        · simp [runFn, modesOf, argSl, exSs, exS, testOf, toP, evR, evS, evD, evPs, evA, evI, evB, evG, frz, getP, isSet, slotD, itemD, atI, ixN, cmpD, truth, arith, biD, isiD, RD.d, slOf, mutAt, isMut, isL, setAt, appAt, outsOf, argV, sRefs, putBack, reslot, bindT, bindTs, partOf, MI.isNon, sliceD, itemsD, itemsT, isT, setIs, evRs, augD, popOf, wipeable, wipeE, restoreE, wiped, ctx_call, ctx_modes, ctx_glob, ctx_names, ctx_cls, ctx_kws, szOk, lk_eq, mtD, mtK, insC_ins, MI.isObj, isDic, dicAt, dputAt, storeD, lookD, keyD, keysD, insAt, fldAt, fldD, MI.putF, pickK, revD, md, F_law_draw, f1, f2, hr, hls]
        · rcases List.mem_append.mp hj with hj | hj
          · exact hall j hj
          · rw [List.mem_singleton.mp hj]; omega
      · refine ⟨[.bor z, .val (.int most), .own (.lst (items.map .int)), .val (.int i), .val (.int q), .val (.int s)], [.bor y1, .val (.int most), .own (.lst ((items ++ [-1]).map .int)), .val (.int i), .val (.int q), .val (.int s)], by simp [runFn, modesOf, argSl, exSs, exS, testOf, toP, evR, evS, evD, evPs, evA, evI, evB, evG, frz, getP, isSet, slotD, itemD, atI, ixN, cmpD, truth, arith, biD, isiD, RD.d, slOf, mutAt, isMut, isL, setAt, appAt, outsOf, argV, sRefs, putBack, reslot, bindT, bindTs, partOf, MI.isNon, sliceD, itemsD, itemsT, isT, setIs, evRs, augD, popOf, wipeable, wipeE, restoreE, wiped, ctx_call, ctx_modes, ctx_glob, ctx_names, ctx_cls, ctx_kws, szOk, lk_eq, mtD, mtK, insC_ins, MI.isObj, isDic, dicAt, dputAt, storeD, lookD, keyD, keysD, insAt, fldAt, fldD, MI.putF, pickK, revD], .inl ?_, ⟨_, _, _, rfl, q1', by simp [hl], fun j hj => ?_⟩⟩
        · simp [runFn, modesOf, argSl, exSs, exS, testOf, toP, evR, evS, evD, evPs, evA, evI, evB, evG, frz, getP, isSet, slotD, itemD, atI, ixN, cmpD, truth, arith, biD, isiD, RD.d, slOf, mutAt, isMut, isL, setAt, appAt, outsOf, argV, sRefs, putBack, reslot, bindT, bindTs, partOf, MI.isNon, sliceD, itemsD, itemsT, isT, setIs, evRs, augD, popOf, wipeable, wipeE, restoreE, wiped, ctx_call, ctx_modes, ctx_glob, ctx_names, ctx_cls, ctx_kws, szOk, lk_eq, mtD, mtK, insC_ins, MI.isObj, isDic, dicAt, dputAt, storeD, lookD, keyD, keysD, insAt, fldAt, fldD, MI.putF, pickK, revD, md, F_law_draw, f1, hr, hls]
        · rcases List.mem_append.mp hj with hj | hj
          · exact hall j hj
          · rw [List.mem_singleton.mp hj]; omega
    rw [rgD_length] at hl
    obtain ⟨r1, x4, f1, p4, r10, r11⟩ := draw_runs hd (n := n - 1) (by omega) p3 (m := s) (by omega) (by omega)
    obtain ⟨r2, x5, f2, p5, r20, r21⟩ := draw_runs hd (n := n - 1) (by omega) p4 (m := s) (by omega) (by omega)
    refine ⟨r1 :: items ++ [r2], x5, ?_, p5, ⟨by simp, by simp; omega, fun i hi => ?_, ?_, ?_⟩, by simp; omega⟩
    · have z1 : items.length + 1 ≤ sizeLine := leS (by omega)
      have z2 : items.length + 1 + 1 ≤ sizeLine := leS (by omega)
      have z3 : 1 + items.length ≤ sizeLine := leS (by omega)
      refine run_rt (env := [.bor xs, .val (.int most), .un, .un, .un, .un]) (e := [.bor x5, .val (.int most), .own (.lst (items.map .int)), s3, .val (.int q), .val (.int s)]) rfl rfl ?_ rfl
      refine sq (e := [.bor x2, .val (.int most), .un, .un, .val (.int q), .val (.int s)]) ?_ (sq (e := [.bor x2, .val (.int most), .un, .un, .val (.int q), .val (.int s)]) (if_no (e := [.bor x2, .val (.int most), .un, .un, .val (.int q), .val (.int s)]) ?_ sn) (sq (e := [.bor x2, .val (.int most), .own (.lst []), .un, .val (.int q), .val (.int s)]) ?_ (sq hx (sr ?_))))
      · simp [runFn, modesOf, argSl, exSs, exS, testOf, toP, evR, evS, evD, evPs, evA, evI, evB, evG, frz, getP, isSet, slotD, itemD, atI, ixN, cmpD, truth, arith, biD, isiD, RD.d, slOf, mutAt, isMut, isL, setAt, appAt, outsOf, argV, sRefs, putBack, reslot, bindT, bindTs, partOf, MI.isNon, sliceD, itemsD, itemsT, isT, setIs, evRs, augD, popOf, wipeable, wipeE, restoreE, wiped, ctx_call, ctx_modes, ctx_glob, ctx_names, ctx_cls, ctx_kws, szOk, lk_eq, mtD, mtK, insC_ins, MI.isObj, isDic, dicAt, dputAt, storeD, lookD, keyD, keysD, insAt, fldAt, fldD, MI.putF, pickK, revD, md, mp, F_law_draw, F_law_pick, e1, e2, l4]
      · simp [runFn, modesOf, argSl, exSs, exS, testOf, toP, evR, evS, evD, evPs, evA, evI, evB, evG, frz, getP, isSet, slotD, itemD, atI, ixN, cmpD, truth, arith, biD, isiD, RD.d, slOf, mutAt, isMut, isL, setAt, appAt, outsOf, argV, sRefs, putBack, reslot, bindT, bindTs, partOf, MI.isNon, sliceD, itemsD, itemsT, isT, setIs, evRs, augD, popOf, wipeable, wipeE, restoreE, wiped, ctx_call, ctx_modes, ctx_glob, ctx_names, ctx_cls, ctx_kws, szOk, lk_eq, mtD, mtK, insC_ins, MI.isObj, isDic, dicAt, dputAt, storeD, lookD, keyD, keysD, insAt, fldAt, fldD, MI.putF, pickK, revD, hq]
      · simp [runFn, modesOf, argSl, exSs, exS, testOf, toP, evR, evS, evD, evPs, evA, evI, evB, evG, frz, getP, isSet, slotD, itemD, atI, ixN, cmpD, truth, arith, biD, isiD, RD.d, slOf, mutAt, isMut, isL, setAt, appAt, outsOf, argV, sRefs, putBack, reslot, bindT, bindTs, partOf, MI.isNon, sliceD, itemsD, itemsT, isT, setIs, evRs, augD, popOf, wipeable, wipeE, restoreE, wiped, ctx_call, ctx_modes, ctx_glob, ctx_names, ctx_cls, ctx_kws, szOk, lk_eq, mtD, mtK, insC_ins, MI.isObj, isDic, dicAt, dputAt, storeD, lookD, keyD, keysD, insAt, fldAt, fldD, MI.putF, pickK, revD, l0]
      · simp [runFn, modesOf, argSl, exSs, exS, testOf, toP, evR, evS, evD, evPs, evA, evI, evB, evG, frz, getP, isSet, slotD, itemD, atI, ixN, cmpD, truth, arith, biD, isiD, RD.d, slOf, mutAt, isMut, isL, setAt, appAt, outsOf, argV, sRefs, putBack, reslot, bindT, bindTs, partOf, MI.isNon, sliceD, itemsD, itemsT, isT, setIs, evRs, augD, popOf, wipeable, wipeE, restoreE, wiped, ctx_call, ctx_modes, ctx_glob, ctx_names, ctx_cls, ctx_kws, szOk, lk_eq, mtD, mtK, insC_ins, MI.isObj, isDic, dicAt, dputAt, storeD, lookD, keyD, keysD, insAt, fldAt, fldD, MI.putF, pickK, revD, md, F_law_draw, f1, f2, l1, z1, z2, z3, wk]
    · simp at hi
      rcases hi with rfl | hi | rfl
      · omega
      · exact hall i hi
      · omega
    · rw [aw_0]; simp; omega
    · rw [show ((r1 :: items ++ [r2]).length : Int) - 1 = ((items.length + 1 : Nat) : Int) by simp, aw_nat]
      simp
      omega
theorem list_of {α : Type} {f : α → D} {Q : α → Prop} : ∀ {ys : List D}, (∀ y ∈ ys, ∃ a, y = f a ∧ Q a) → ∃ as : List α, ys = as.map f ∧ ∀ a ∈ as, Q a
  | [], _ => ⟨[], rfl, fun a h => by cases h⟩
  | y :: ys, h => by
    obtain ⟨as, rfl, ha⟩ := list_of fun z hz => h z (List.mem_cons_of_mem _ hz)
    obtain ⟨a, rfl, q⟩ := h y List.mem_cons_self
    exact ⟨a :: as, rfl, fun b hb => (List.mem_cons.mp hb).elim (fun e => e ▸ q) (ha b)⟩
theorem set_runs (hd : Hs P "_law_draw" F_law_draw) (hp : Hs P "_law_pick" F_law_pick) (hw : Hs P "_law_work" F_law_work65) (h : Hs P "_law_set" F_law_set) {n : Nat} (hn : 4 ≤ n) {xs : D} (px : isPen xs) {up most : Int} (hu : 1 ≤ up) (hu2 : up ≤ 3) (hm : 1 ≤ most) (hm2 : most ≤ 60) :
    ∃ as xs', P.calls n "_law_set" [.b xs, .d (.int up), .d (.int most)] = some (.new (.lst (as.map wk)), [xs']) ∧ isPen xs' ∧ IsLine as ∧ (as.length : Int) ≤ up ∧ ∀ a ∈ as, (a.length : Int) ≤ most := by
  obtain ⟨q, x1, e1, p1, q0, q1⟩ := draw_runs hd (n := n - 1) (by omega) px (m := up) (by omega) (by omega)
  have md := hd.md
  have mw := hw.md
  have er := rng_n (n := 1 + q) (by omega) (by omega)
  obtain ⟨ys, e', hx, ⟨x2, rfl, p2⟩, hl, hall⟩ : ∃ ys e', evR (P.ctx (n - 1)) C_law_set_1 [.bor xs, .val (.int up), .val (.int most), .un, .un] = some (.new (.lst ys), restoreE [.bor x1, .val (.int up), .val (.int most), .un, .un] e' [4]) ∧ (∃ x, e' = [.bor x, .val (.int up), .val (.int most), .un, .un] ∧ isPen x) ∧ ys.length = (rgD 0 (1 + q)).length ∧ ∀ y ∈ ys, ∃ a : List Int, y = wk a ∧ (IsWork a ∧ (a.length : Int) ≤ most) := by
    unfold C_law_set_1
    refine lc_inv (e1 := [.bor x1, .val (.int up), .val (.int most), .un, .un]) (ds := rgD 0 (1 + q)) (J := fun _ e' => ∃ x, e' = [.bor x, .val (.int up), .val (.int most), .un, .un] ∧ isPen x) (Q := fun y => ∃ a : List Int, y = wk a ∧ (IsWork a ∧ (a.length : Int) ≤ most)) (by simp [runFn, modesOf, argSl, exSs, exS, testOf, toP, evR, evS, evD, evPs, evA, evI, evB, evG, frz, getP, isSet, slotD, itemD, atI, ixN, cmpD, truth, arith, biD, isiD, RD.d, slOf, mutAt, isMut, isL, setAt, appAt, outsOf, argV, sRefs, putBack, reslot, bindT, bindTs, partOf, MI.isNon, sliceD, itemsD, itemsT, isT, setIs, evRs, augD, popOf, wipeable, wipeE, restoreE, wiped, ctx_call, ctx_modes, ctx_glob, ctx_names, ctx_cls, ctx_kws, szOk, lk_eq, mtD, mtK, insC_ins, MI.isObj, isDic, dicAt, dputAt, storeD, lookD, keyD, keysD, insAt, fldAt, fldD, MI.putF, pickK, revD, md, F_law_draw, e1, er]) (by simp [runFn, modesOf, argSl, exSs, exS, testOf, toP, evR, evS, evD, evPs, evA, evI, evB, evG, frz, getP, isSet, slotD, itemD, atI, ixN, cmpD, truth, arith, biD, isiD, RD.d, slOf, mutAt, isMut, isL, setAt, appAt, outsOf, argV, sRefs, putBack, reslot, bindT, bindTs, partOf, MI.isNon, sliceD, itemsD, itemsT, isT, setIs, evRs, augD, popOf, wipeable, wipeE, restoreE, wiped, ctx_call, ctx_modes, ctx_glob, ctx_names, ctx_cls, ctx_kws, szOk, lk_eq, mtD, mtK, insC_ins, MI.isObj, isDic, dicAt, dputAt, storeD, lookD, keyD, keysD, insAt, fldAt, fldD, MI.putF, pickK, revD]) (by rw [rgD_length]; omega) ⟨x1, by simp [runFn, modesOf, argSl, exSs, exS, testOf, toP, evR, evS, evD, evPs, evA, evI, evB, evG, frz, getP, isSet, slotD, itemD, atI, ixN, cmpD, truth, arith, biD, isiD, RD.d, slOf, mutAt, isMut, isL, setAt, appAt, outsOf, argV, sRefs, putBack, reslot, bindT, bindTs, partOf, MI.isNon, sliceD, itemsD, itemsT, isT, setIs, evRs, augD, popOf, wipeable, wipeE, restoreE, wiped, ctx_call, ctx_modes, ctx_glob, ctx_names, ctx_cls, ctx_kws, szOk, lk_eq, mtD, mtK, insC_ins, MI.isObj, isDic, dicAt, dputAt, storeD, lookD, keyD, keysD, insAt, fldAt, fldD, MI.putF, pickK, revD], p1⟩ ?_
    intro i d e _ ⟨x, he, hx⟩
    subst he
    obtain ⟨a, y, f, q, wa, la⟩ := work65_runs hd hp hw (n := n - 1) (by omega) hx hm hm2
    exact ⟨[.bor x, .val (.int up), .val (.int most), .un, .val d], .old (wk a), [.bor y, .val (.int up), .val (.int most), .un, .val d], by simp [runFn, modesOf, argSl, exSs, exS, testOf, toP, evR, evS, evD, evPs, evA, evI, evB, evG, frz, getP, isSet, slotD, itemD, atI, ixN, cmpD, truth, arith, biD, isiD, RD.d, slOf, mutAt, isMut, isL, setAt, appAt, outsOf, argV, sRefs, putBack, reslot, bindT, bindTs, partOf, MI.isNon, sliceD, itemsD, itemsT, isT, setIs, evRs, augD, popOf, wipeable, wipeE, restoreE, wiped, ctx_call, ctx_modes, ctx_glob, ctx_names, ctx_cls, ctx_kws, szOk, lk_eq, mtD, mtK, insC_ins, MI.isObj, isDic, dicAt, dputAt, storeD, lookD, keyD, keysD, insAt, fldAt, fldD, MI.putF, pickK, revD], by simp [runFn, modesOf, argSl, exSs, exS, testOf, toP, evR, evS, evD, evPs, evA, evI, evB, evG, frz, getP, isSet, slotD, itemD, atI, ixN, cmpD, truth, arith, biD, isiD, RD.d, slOf, mutAt, isMut, isL, setAt, appAt, outsOf, argV, sRefs, putBack, reslot, bindT, bindTs, partOf, MI.isNon, sliceD, itemsD, itemsT, isT, setIs, evRs, augD, popOf, wipeable, wipeE, restoreE, wiped, ctx_call, ctx_modes, ctx_glob, ctx_names, ctx_cls, ctx_kws, szOk, lk_eq, mtD, mtK, insC_ins, MI.isObj, isDic, dicAt, dputAt, storeD, lookD, keyD, keysD, insAt, fldAt, fldD, MI.putF, pickK, revD, mw, F_law_work65, f], by simp [runFn, modesOf, argSl, exSs, exS, testOf, toP, evR, evS, evD, evPs, evA, evI, evB, evG, frz, getP, isSet, slotD, itemD, atI, ixN, cmpD, truth, arith, biD, isiD, RD.d, slOf, mutAt, isMut, isL, setAt, appAt, outsOf, argV, sRefs, putBack, reslot, bindT, bindTs, partOf, MI.isNon, sliceD, itemsD, itemsT, isT, setIs, evRs, augD, popOf, wipeable, wipeE, restoreE, wiped, ctx_call, ctx_modes, ctx_glob, ctx_names, ctx_cls, ctx_kws, szOk, lk_eq, mtD, mtK, insC_ins, MI.isObj, isDic, dicAt, dputAt, storeD, lookD, keyD, keysD, insAt, fldAt, fldD, MI.putF, pickK, revD], ⟨y, by simp [runFn, modesOf, argSl, exSs, exS, testOf, toP, evR, evS, evD, evPs, evA, evI, evB, evG, frz, getP, isSet, slotD, itemD, atI, ixN, cmpD, truth, arith, biD, isiD, RD.d, slOf, mutAt, isMut, isL, setAt, appAt, outsOf, argV, sRefs, putBack, reslot, bindT, bindTs, partOf, MI.isNon, sliceD, itemsD, itemsT, isT, setIs, evRs, augD, popOf, wipeable, wipeE, restoreE, wiped, ctx_call, ctx_modes, ctx_glob, ctx_names, ctx_cls, ctx_kws, szOk, lk_eq, mtD, mtK, insC_ins, MI.isObj, isDic, dicAt, dputAt, storeD, lookD, keyD, keysD, insAt, fldAt, fldD, MI.putF, pickK, revD], q⟩, ⟨a, rfl, wa, la⟩⟩
  obtain ⟨as, rfl, ha⟩ := list_of hall
  rw [List.length_map, rgD_length] at hl
  have pos : 0 < as.length := by omega
  have hx' : exS (P.ctx (n - 1)) P.w (.asg 3 C_law_set_1) [.bor xs, .val (.int up), .val (.int most), .un, .un] = some (.nx [.bor x2, .val (.int up), .val (.int most), .own (.lst (as.map wk)), .un]) := by
    rw [asg_of hx (by simp [runFn, modesOf, argSl, exSs, exS, testOf, toP, evR, evS, evD, evPs, evA, evI, evB, evG, frz, getP, isSet, slotD, itemD, atI, ixN, cmpD, truth, arith, biD, isiD, RD.d, slOf, mutAt, isMut, isL, setAt, appAt, outsOf, argV, sRefs, putBack, reslot, bindT, bindTs, partOf, MI.isNon, sliceD, itemsD, itemsT, isT, setIs, evRs, augD, popOf, wipeable, wipeE, restoreE, wiped, ctx_call, ctx_modes, ctx_glob, ctx_names, ctx_cls, ctx_kws, szOk, lk_eq, mtD, mtK, insC_ins, MI.isObj, isDic, dicAt, dputAt, storeD, lookD, keyD, keysD, insAt, fldAt, fldD, MI.putF, pickK, revD])]
    simp [runFn, modesOf, argSl, exSs, exS, testOf, toP, evR, evS, evD, evPs, evA, evI, evB, evG, frz, getP, isSet, slotD, itemD, atI, ixN, cmpD, truth, arith, biD, isiD, RD.d, slOf, mutAt, isMut, isL, setAt, appAt, outsOf, argV, sRefs, putBack, reslot, bindT, bindTs, partOf, MI.isNon, sliceD, itemsD, itemsT, isT, setIs, evRs, augD, popOf, wipeable, wipeE, restoreE, wiped, ctx_call, ctx_modes, ctx_glob, ctx_names, ctx_cls, ctx_kws, szOk, lk_eq, mtD, mtK, insC_ins, MI.isObj, isDic, dicAt, dputAt, storeD, lookD, keyD, keysD, insAt, fldAt, fldD, MI.putF, pickK, revD]
  have line : ∀ bs : List (List Int), bs.length = as.length → (∀ b ∈ bs, b ∈ as) → IsLine bs ∧ (bs.length : Int) ≤ up ∧ ∀ a ∈ bs, (a.length : Int) ≤ most := fun bs hb hin => ⟨⟨by omega, by omega, fun a h => (ha a (hin a h)).1⟩, by omega, fun a h => (ha a (hin a h)).2⟩
  by_cases h1 : 1 < as.length
  · have h1' : (1 : Int) < (as.length : Int) := by omega
    obtain ⟨r, x3, f1, p3, r0, r1⟩ := draw_runs hd (n := n - 1) (by omega) p2 (m := 6) (by omega) (by omega)
    by_cases hr : r = 0
    · subst hr
      have i1 := ixN_m1 (n := as.length) (by omega)
      have a0 : atI (as.map wk) 0 = some (wk (as.getD 0 [])) := by rw [atI_map, show (0 : Int) = ((0 : Nat) : Int) from rfl, atI_gd [] pos]; rfl
      refine ⟨as.set (as.length - 1) (as.getD 0 []), x3, ?_, p3, line _ (by simp) fun b hb => ?_⟩
      · rw [h.eq (by omega)]
        refine run_rt (env := [.bor xs, .val (.int up), .val (.int most), .un, .un]) (e := [.bor x3, .val (.int up), .val (.int most), .own (.lst ((as.set (as.length - 1) (as.getD 0 [])).map wk)), .un]) rfl rfl ?_ rfl
        refine sq hx' (sq (e := [.bor x3, .val (.int up), .val (.int most), .own (.lst ((as.set (as.length - 1) (as.getD 0 [])).map wk)), .un]) (if_yes (e := [.bor x3, .val (.int up), .val (.int most), .own (.lst (as.map wk)), .un]) ?_ (sq ?_ sn)) (sr ?_))
        · simp [runFn, modesOf, argSl, exSs, exS, testOf, toP, evR, evS, evD, evPs, evA, evI, evB, evG, frz, getP, isSet, slotD, itemD, atI, ixN, cmpD, truth, arith, biD, isiD, RD.d, slOf, mutAt, isMut, isL, setAt, appAt, outsOf, argV, sRefs, putBack, reslot, bindT, bindTs, partOf, MI.isNon, sliceD, itemsD, itemsT, isT, setIs, evRs, augD, popOf, wipeable, wipeE, restoreE, wiped, ctx_call, ctx_modes, ctx_glob, ctx_names, ctx_cls, ctx_kws, szOk, lk_eq, mtD, mtK, insC_ins, MI.isObj, isDic, dicAt, dputAt, storeD, lookD, keyD, keysD, insAt, fldAt, fldD, MI.putF, pickK, revD, md, F_law_draw, f1, h1']
        · generalize as.getD 0 [] = A at *
          simp [runFn, modesOf, argSl, exSs, exS, testOf, toP, evR, evS, evD, evPs, evA, evI, evB, evG, frz, getP, isSet, slotD, itemD, cmpD, truth, arith, biD, isiD, RD.d, slOf, mutAt, isMut, isL, setAt, appAt, outsOf, argV, sRefs, putBack, reslot, bindT, bindTs, partOf, MI.isNon, sliceD, itemsD, itemsT, isT, setIs, evRs, augD, popOf, wipeable, wipeE, restoreE, wiped, ctx_call, ctx_modes, ctx_glob, ctx_names, ctx_cls, ctx_kws, szOk, lk_eq, mtD, mtK, insC_ins, MI.isObj, isDic, dicAt, dputAt, storeD, lookD, keyD, keysD, insAt, fldAt, fldD, MI.putF, pickK, revD, a0, i1]
        · simp [runFn, modesOf, argSl, exSs, exS, testOf, toP, evR, evS, evD, evPs, evA, evI, evB, evG, frz, getP, isSet, slotD, itemD, atI, ixN, cmpD, truth, arith, biD, isiD, RD.d, slOf, mutAt, isMut, isL, setAt, appAt, outsOf, argV, sRefs, putBack, reslot, bindT, bindTs, partOf, MI.isNon, sliceD, itemsD, itemsT, isT, setIs, evRs, augD, popOf, wipeable, wipeE, restoreE, wiped, ctx_call, ctx_modes, ctx_glob, ctx_names, ctx_cls, ctx_kws, szOk, lk_eq, mtD, mtK, insC_ins, MI.isObj, isDic, dicAt, dputAt, storeD, lookD, keyD, keysD, insAt, fldAt, fldD, MI.putF, pickK, revD]
      · rcases List.mem_or_eq_of_mem_set hb with z | z
        · exact z
        · rw [z]; exact gd_mem pos
    · refine ⟨as, x3, ?_, p3, line as rfl fun b hb => hb⟩
      rw [h.eq (by omega)]
      refine run_rt (env := [.bor xs, .val (.int up), .val (.int most), .un, .un]) (e := [.bor x3, .val (.int up), .val (.int most), .own (.lst (as.map wk)), .un]) rfl rfl ?_ rfl
      refine sq hx' (sq (e := [.bor x3, .val (.int up), .val (.int most), .own (.lst (as.map wk)), .un]) (if_no (e := [.bor x3, .val (.int up), .val (.int most), .own (.lst (as.map wk)), .un]) ?_ sn) (sr ?_))
      · simp [runFn, modesOf, argSl, exSs, exS, testOf, toP, evR, evS, evD, evPs, evA, evI, evB, evG, frz, getP, isSet, slotD, itemD, atI, ixN, cmpD, truth, arith, biD, isiD, RD.d, slOf, mutAt, isMut, isL, setAt, appAt, outsOf, argV, sRefs, putBack, reslot, bindT, bindTs, partOf, MI.isNon, sliceD, itemsD, itemsT, isT, setIs, evRs, augD, popOf, wipeable, wipeE, restoreE, wiped, ctx_call, ctx_modes, ctx_glob, ctx_names, ctx_cls, ctx_kws, szOk, lk_eq, mtD, mtK, insC_ins, MI.isObj, isDic, dicAt, dputAt, storeD, lookD, keyD, keysD, insAt, fldAt, fldD, MI.putF, pickK, revD, md, F_law_draw, f1, h1', hr]
      · simp [runFn, modesOf, argSl, exSs, exS, testOf, toP, evR, evS, evD, evPs, evA, evI, evB, evG, frz, getP, isSet, slotD, itemD, atI, ixN, cmpD, truth, arith, biD, isiD, RD.d, slOf, mutAt, isMut, isL, setAt, appAt, outsOf, argV, sRefs, putBack, reslot, bindT, bindTs, partOf, MI.isNon, sliceD, itemsD, itemsT, isT, setIs, evRs, augD, popOf, wipeable, wipeE, restoreE, wiped, ctx_call, ctx_modes, ctx_glob, ctx_names, ctx_cls, ctx_kws, szOk, lk_eq, mtD, mtK, insC_ins, MI.isObj, isDic, dicAt, dputAt, storeD, lookD, keyD, keysD, insAt, fldAt, fldD, MI.putF, pickK, revD]
  · have h1' : ¬ (1 : Int) < (as.length : Int) := by omega
    refine ⟨as, x2, ?_, p2, line as rfl fun b hb => hb⟩
    rw [h.eq (by omega)]
    refine run_rt (env := [.bor xs, .val (.int up), .val (.int most), .un, .un]) (e := [.bor x2, .val (.int up), .val (.int most), .own (.lst (as.map wk)), .un]) rfl rfl ?_ rfl
    refine sq hx' (sq (e := [.bor x2, .val (.int up), .val (.int most), .own (.lst (as.map wk)), .un]) (if_no (e := [.bor x2, .val (.int up), .val (.int most), .own (.lst (as.map wk)), .un]) ?_ sn) (sr ?_))
    · simp [runFn, modesOf, argSl, exSs, exS, testOf, toP, evR, evS, evD, evPs, evA, evI, evB, evG, frz, getP, isSet, slotD, itemD, atI, ixN, cmpD, truth, arith, biD, isiD, RD.d, slOf, mutAt, isMut, isL, setAt, appAt, outsOf, argV, sRefs, putBack, reslot, bindT, bindTs, partOf, MI.isNon, sliceD, itemsD, itemsT, isT, setIs, evRs, augD, popOf, wipeable, wipeE, restoreE, wiped, ctx_call, ctx_modes, ctx_glob, ctx_names, ctx_cls, ctx_kws, szOk, lk_eq, mtD, mtK, insC_ins, MI.isObj, isDic, dicAt, dputAt, storeD, lookD, keyD, keysD, insAt, fldAt, fldD, MI.putF, pickK, revD, h1']
    · simp [runFn, modesOf, argSl, exSs, exS, testOf, toP, evR, evS, evD, evPs, evA, evI, evB, evG, frz, getP, isSet, slotD, itemD, atI, ixN, cmpD, truth, arith, biD, isiD, RD.d, slOf, mutAt, isMut, isL, setAt, appAt, outsOf, argV, sRefs, putBack, reslot, bindT, bindTs, partOf, MI.isNon, sliceD, itemsD, itemsT, isT, setIs, evRs, augD, popOf, wipeable, wipeE, restoreE, wiped, ctx_call, ctx_modes, ctx_glob, ctx_names, ctx_cls, ctx_kws, szOk, lk_eq, mtD, mtK, insC_ins, MI.isObj, isDic, dicAt, dputAt, storeD, lookD, keyD, keysD, insAt, fldAt, fldD, MI.putF, pickK, revD]
theorem meet65_runs (h : Hs P "_law_meet" F_law_meet) {n : Nat} (hn : 1 ≤ n) (a b : List Int) (d : Int) : P.calls n "_law_meet" [.d (wk a), .d (wk b), .d (.int d)] = some (.old (.bl (!(meetL a b d).isEmpty)), []) := by
  rw [h.eq hn]
  have loop : (∃ s3 s4, exS (P.ctx (n - 1)) P.w S_law_meet_1 [.val (wk a), .val (wk b), .val (.int d), .un, .un] = some (.nx [.val (wk a), .val (wk b), .val (.int d), s3, s4]) ∧ ∀ t : Nat, t < a.length → hit a b d t = false) ∨ ∃ s3 s4, exS (P.ctx (n - 1)) P.w S_law_meet_1 [.val (wk a), .val (wk b), .val (.int d), .un, .un] = some (.rt (.old (.bl true)) [.val (wk a), .val (wk b), .val (.int d), s3, s4]) ∧ ∃ t : Int, hit a b d t = true := by
    unfold S_law_meet_1
    rcases for_any (C := P.ctx (n - 1)) (w := P.w) (t := .tp [(.nm 3), (.nm 4)]) (it := .enum (.var 0)) (body := [.ifs (.boo true [(.cmp .NotEq (.var 4) (.neg (.cst (.int 1)))), (.chain .LtE .Lt (.cst (.int 0)) (.bin .Sub (.var 3) (.var 2)) (.bi .len [(.var 1)])), (.cmp .Eq (.sub (.var 1) (.bin .Sub (.var 3) (.var 2))) (.var 4))]) [.ret (.cst (.bl true))] []]) (env := [.val (wk a), .val (wk b), .val (.int d), .un, .un]) (e1 := [.val (wk a), .val (wk b), .val (.int d), .un, .un]) (ds := (List.range a.length).map fun (i : Nat) => D.tup [.int i, .int (aw a i)])
      (J := fun i e' => ∃ s3 s4, e' = [.val (wk a), .val (wk b), .val (.int d), s3, s4] ∧ ∀ t : Nat, t < i → hit a b d t = false) (Z := fun r e' => ∃ s3 s4, r = .old (.bl true) ∧ e' = [.val (wk a), .val (wk b), .val (.int d), s3, s4] ∧ ∃ t : Int, hit a b d t = true)
      (by
        have := enum_aw a
        simp [runFn, modesOf, argSl, exSs, exS, testOf, toP, evR, evS, evD, evPs, evA, evI, evB, evG, frz, getP, isSet, slotD, itemD, atI, ixN, cmpD, truth, arith, biD, isiD, RD.d, slOf, mutAt, isMut, isL, setAt, appAt, outsOf, argV, sRefs, putBack, reslot, bindT, bindTs, partOf, MI.isNon, sliceD, itemsD, itemsT, isT, setIs, evRs, augD, popOf, wipeable, wipeE, restoreE, wiped, ctx_call, ctx_modes, ctx_glob, ctx_names, ctx_cls, ctx_kws, szOk, lk_eq, mtD, mtK, insC_ins, MI.isObj, isDic, dicAt, dputAt, storeD, lookD, keyD, keysD, insAt, fldAt, fldD, MI.putF, pickK, revD, wk, this]) ⟨_, _, rfl, fun t ht => by omega⟩ (by
        intro t x e hx ⟨s3, s4, he, hJ⟩
        subst he
        obtain ⟨rfl, ht⟩ := range_get hx
        refine ⟨[.val (wk a), .val (wk b), .val (.int d), .val (.int t), .val (.int (aw a t))], by simp [runFn, modesOf, argSl, exSs, exS, testOf, toP, evR, evS, evD, evPs, evA, evI, evB, evG, frz, getP, isSet, slotD, itemD, atI, ixN, cmpD, truth, arith, biD, isiD, RD.d, slOf, mutAt, isMut, isL, setAt, appAt, outsOf, argV, sRefs, putBack, reslot, bindT, bindTs, partOf, MI.isNon, sliceD, itemsD, itemsT, isT, setIs, evRs, augD, popOf, wipeable, wipeE, restoreE, wiped, ctx_call, ctx_modes, ctx_glob, ctx_names, ctx_cls, ctx_kws, szOk, lk_eq, mtD, mtK, insC_ins, MI.isObj, isDic, dicAt, dputAt, storeD, lookD, keyD, keysD, insAt, fldAt, fldD, MI.putF, pickK, revD], ?_⟩
        have tst : testOf (.boo true [(.cmp .NotEq (.var 4) (.neg (.cst (.int 1)))), (.chain .LtE .Lt (.cst (.int 0)) (.bin .Sub (.var 3) (.var 2)) (.bi .len [(.var 1)])), (.cmp .Eq (.sub (.var 1) (.bin .Sub (.var 3) (.var 2))) (.var 4))]) (evR (P.ctx (n - 1)) (.boo true [(.cmp .NotEq (.var 4) (.neg (.cst (.int 1)))), (.chain .LtE .Lt (.cst (.int 0)) (.bin .Sub (.var 3) (.var 2)) (.bi .len [(.var 1)])), (.cmp .Eq (.sub (.var 1) (.bin .Sub (.var 3) (.var 2))) (.var 4))])) [.val (wk a), .val (wk b), .val (.int d), .val (.int t), .val (.int (aw a t))] = some (hit a b d t, [.val (wk a), .val (wk b), .val (.int d), .val (.int t), .val (.int (aw a t))]) := by
          unfold hit
          by_cases c1 : aw a t = -1
          · simp [runFn, modesOf, argSl, exSs, exS, testOf, toP, evR, evS, evD, evPs, evA, evI, evB, evG, frz, getP, isSet, slotD, itemD, cmpD, truth, arith, biD, isiD, RD.d, slOf, mutAt, isMut, isL, setAt, appAt, outsOf, argV, sRefs, putBack, reslot, bindT, bindTs, partOf, MI.isNon, sliceD, itemsD, itemsT, isT, setIs, evRs, augD, popOf, wipeable, wipeE, restoreE, wiped, ctx_call, ctx_modes, ctx_glob, ctx_names, ctx_cls, ctx_kws, szOk, lk_eq, mtD, mtK, insC_ins, MI.isObj, isDic, dicAt, dputAt, storeD, lookD, keyD, keysD, insAt, fldAt, fldD, MI.putF, pickK, revD, c1]
          · by_cases c2 : 0 ≤ (t : Int) - d
            · have c2' : d ≤ (t : Int) := by omega
              by_cases c3 : (t : Int) - d < b.length
              · have e := atI_aw (a := b) c2 c3
                by_cases c4 : aw b (t - d) = aw a t
                · simp [runFn, modesOf, argSl, exSs, exS, testOf, toP, evR, evS, evD, evPs, evA, evI, evB, evG, frz, getP, isSet, slotD, itemD, cmpD, truth, arith, biD, isiD, RD.d, slOf, mutAt, isMut, isL, setAt, appAt, outsOf, argV, sRefs, putBack, reslot, bindT, bindTs, partOf, MI.isNon, sliceD, itemsD, itemsT, isT, setIs, evRs, augD, popOf, wipeable, wipeE, restoreE, wiped, ctx_call, ctx_modes, ctx_glob, ctx_names, ctx_cls, ctx_kws, szOk, lk_eq, mtD, mtK, insC_ins, MI.isObj, isDic, dicAt, dputAt, storeD, lookD, keyD, keysD, insAt, fldAt, fldD, MI.putF, pickK, revD, wk, c1, c2', c3, e, c4]
                · simp [runFn, modesOf, argSl, exSs, exS, testOf, toP, evR, evS, evD, evPs, evA, evI, evB, evG, frz, getP, isSet, slotD, itemD, cmpD, truth, arith, biD, isiD, RD.d, slOf, mutAt, isMut, isL, setAt, appAt, outsOf, argV, sRefs, putBack, reslot, bindT, bindTs, partOf, MI.isNon, sliceD, itemsD, itemsT, isT, setIs, evRs, augD, popOf, wipeable, wipeE, restoreE, wiped, ctx_call, ctx_modes, ctx_glob, ctx_names, ctx_cls, ctx_kws, szOk, lk_eq, mtD, mtK, insC_ins, MI.isObj, isDic, dicAt, dputAt, storeD, lookD, keyD, keysD, insAt, fldAt, fldD, MI.putF, pickK, revD, wk, c1, c2', c3, e, c4, Ne.symm c4]
              · have e : aw b ((t : Int) - d) = -1 := aw_out (by omega)
                simp [runFn, modesOf, argSl, exSs, exS, testOf, toP, evR, evS, evD, evPs, evA, evI, evB, evG, frz, getP, isSet, slotD, itemD, cmpD, truth, arith, biD, isiD, RD.d, slOf, mutAt, isMut, isL, setAt, appAt, outsOf, argV, sRefs, putBack, reslot, bindT, bindTs, partOf, MI.isNon, sliceD, itemsD, itemsT, isT, setIs, evRs, augD, popOf, wipeable, wipeE, restoreE, wiped, ctx_call, ctx_modes, ctx_glob, ctx_names, ctx_cls, ctx_kws, szOk, lk_eq, mtD, mtK, insC_ins, MI.isObj, isDic, dicAt, dputAt, storeD, lookD, keyD, keysD, insAt, fldAt, fldD, MI.putF, pickK, revD, wk, c1, c2', c3, e]
            · have c2' : ¬ d ≤ (t : Int) := by omega
              have e : aw b ((t : Int) - d) = -1 := aw_out (by omega)
              simp [runFn, modesOf, argSl, exSs, exS, testOf, toP, evR, evS, evD, evPs, evA, evI, evB, evG, frz, getP, isSet, slotD, itemD, cmpD, truth, arith, biD, isiD, RD.d, slOf, mutAt, isMut, isL, setAt, appAt, outsOf, argV, sRefs, putBack, reslot, bindT, bindTs, partOf, MI.isNon, sliceD, itemsD, itemsT, isT, setIs, evRs, augD, popOf, wipeable, wipeE, restoreE, wiped, ctx_call, ctx_modes, ctx_glob, ctx_names, ctx_cls, ctx_kws, szOk, lk_eq, mtD, mtK, insC_ins, MI.isObj, isDic, dicAt, dputAt, storeD, lookD, keyD, keysD, insAt, fldAt, fldD, MI.putF, pickK, revD, wk, c1, c2', e]
        cases hh : hit a b d t with
        | false =>
          rw [hh] at tst
          refine .inl ⟨_, .inl (sq (if_no tst sn) sn), _, _, rfl, fun u hu => ?_⟩
          by_cases e : u = t
          · subst e; exact hh
          · exact hJ u (by omega)
        | true =>
          rw [hh] at tst
          exact .inr ⟨.old (.bl true), [.val (wk a), .val (wk b), .val (.int d), .val (.int t), .val (.int (aw a t))], sr (if_yes tst (sr (by simp [runFn, modesOf, argSl, exSs, exS, testOf, toP, evR, evS, evD, evPs, evA, evI, evB, evG, frz, getP, isSet, slotD, itemD, atI, ixN, cmpD, truth, arith, biD, isiD, RD.d, slOf, mutAt, isMut, isL, setAt, appAt, outsOf, argV, sRefs, putBack, reslot, bindT, bindTs, partOf, MI.isNon, sliceD, itemsD, itemsT, isT, setIs, evRs, augD, popOf, wipeable, wipeE, restoreE, wiped, ctx_call, ctx_modes, ctx_glob, ctx_names, ctx_cls, ctx_kws, szOk, lk_eq, mtD, mtK, insC_ins, MI.isObj, isDic, dicAt, dputAt, storeD, lookD, keyD, keysD, insAt, fldAt, fldD, MI.putF, pickK, revD]))), _, _, rfl, rfl, t, hh⟩) with ⟨e', hx, s3, s4, rfl, hJ⟩ | ⟨r, e', hx, s3, s4, rfl, rfl, hz⟩
    · rw [List.length_map, List.length_range] at hJ
      exact .inl ⟨s3, s4, hx, hJ⟩
    · exact .inr ⟨s3, s4, hx, hz⟩
  rcases loop with ⟨s3, s4, hx, hf⟩ | ⟨s3, s4, hx, t, ht⟩
  · have : meetL a b d = [] := List.eq_nil_iff_forall_not_mem.mpr fun u hu => by
      have h1 := mem_meetL.mp hu
      have h2 := hit_in h1
      have h3 := hf u.toNat (by omega)
      rw [Int.toNat_of_nonneg h2.1, h1] at h3
      cases h3
    rw [this]
    exact run_rt (env := [.val (wk a), .val (wk b), .val (.int d), .un, .un]) (e := [.val (wk a), .val (wk b), .val (.int d), s3, s4]) rfl rfl (sq hx (sr (by simp [runFn, modesOf, argSl, exSs, exS, testOf, toP, evR, evS, evD, evPs, evA, evI, evB, evG, frz, getP, isSet, slotD, itemD, atI, ixN, cmpD, truth, arith, biD, isiD, RD.d, slOf, mutAt, isMut, isL, setAt, appAt, outsOf, argV, sRefs, putBack, reslot, bindT, bindTs, partOf, MI.isNon, sliceD, itemsD, itemsT, isT, setIs, evRs, augD, popOf, wipeable, wipeE, restoreE, wiped, ctx_call, ctx_modes, ctx_glob, ctx_names, ctx_cls, ctx_kws, szOk, lk_eq, mtD, mtK, insC_ins, MI.isObj, isDic, dicAt, dputAt, storeD, lookD, keyD, keysD, insAt, fldAt, fldD, MI.putF, pickK, revD]))) rfl
  · have : (meetL a b d).isEmpty = false := by
      have := mem_meetL.mpr ht
      cases e : meetL a b d with
      | nil => rw [e] at this; cases this
      | cons _ _ => rfl
    rw [this]
    exact run_rt (env := [.val (wk a), .val (wk b), .val (.int d), .un, .un]) (e := [.val (wk a), .val (wk b), .val (.int d), s3, s4]) rfl rfl (sr hx) rfl
end SG

namespace K73
open MI L2 PySem SG
/-- what work_with takes -/
structure Dist (ds : List Int) : Prop where
  len : ds.length ≤ 8
  rg : ∀ d ∈ ds, 1 ≤ d ∧ d ≤ 20
  asc : ds.Pairwise (· < ·)
def layD (ds : List Int) : List (Int × Int) := layM ds [] 0
theorem laid_of {ds : List Int} (h : Dist ds) : Laid ds (layD ds) := by
  have := laid_all ds [] [] laid_nil h.rg
  rw [List.nil_append] at this
  exact this
theorem layM_snoc : ∀ (es : List Int) (d : Int) (M : List (Int × Int)) (i : Nat), layM (es ++ [d]) M i = putM (layM es M i) d ((i + es.length : Nat) : Int)
  | [], d, M, i => rfl
  | e :: es, d, M, i => by
    rw [List.cons_append, layM, layM, layM_snoc es d _ (i + 1), List.length_cons, show i + 1 + es.length = i + (es.length + 1) by omega]
/-- the greatest tick -/
def top (M : List (Int × Int)) : Int := (kys M).foldl max 0
theorem fmax : ∀ (l : List Int) (z : Int), z ≤ l.foldl max z ∧ (∀ k ∈ l, k ≤ l.foldl max z) ∧ (l.foldl max z = z ∨ l.foldl max z ∈ l)
  | [], z => ⟨Int.le_refl _, fun k h => (by cases h), .inl rfl⟩
  | x :: l, z => by
    obtain ⟨h1, h2, h3⟩ := fmax l (max z x)
    rw [List.foldl_cons]
    refine ⟨by omega, fun k hk => ?_, ?_⟩
    · rcases List.mem_cons.mp hk with rfl | hk
      · omega
      · exact h2 k hk
    · rcases h3 with z1 | z1
      · by_cases c : x ≤ z
        · left; omega
        · right; rw [z1, show max z x = x by omega]; exact List.mem_cons_self
      · exact .inr (List.mem_cons_of_mem _ z1)
theorem top_in {ds : List Int} {M : List (Int × Int)} (h : Laid ds M) (h0 : ds ≠ []) : top M ∈ kys M ∧ (∀ k ∈ kys M, 0 ≤ k ∧ k ≤ top M) ∧ 0 ≤ top M ∧ top M ≤ 4 * ds.length + 16 := by
  obtain ⟨h1, h2, h3⟩ := fmax (kys M) 0
  have hi : top M ∈ kys M := by
    rcases h3 with z | z
    · unfold top; rw [z]; exact h.zero h0
    · exact z
  have := h.rg _ hi
  exact ⟨hi, fun k hk => ⟨(h.rg k hk).1, h2 k hk⟩, this.1, this.2⟩
/-- the work -/
def wrk (M : List (Int × Int)) : List Int := (rgI 0 (top M + 1)).map (stA M)
theorem st_nn {ds : List Int} {M : List (Int × Int)} (h : Laid ds M) : ∀ k s, (k, s) ∈ M → 0 ≤ s ∧ s < ds.length := fun k s hm => by
  obtain ⟨i, d, t, h1, h2, _⟩ := h.of k s hm
  have := (List.getElem?_eq_some_iff.mp h1).1
  omega
theorem st_cases {ds : List Int} {M : List (Int × Int)} (h : Laid ds M) (t : Int) : (t ∉ kys M ∧ stA M t = -1) ∨ (t ∈ kys M ∧ (t, stA M t) ∈ M) := by
  by_cases c : t ∈ kys M
  · right
    refine ⟨c, ?_⟩
    obtain ⟨⟨k, s⟩, hm, rfl⟩ := List.mem_map.mp c
    have hs := (st_nn h k s hm).1
    have := (stA_mem h.nd (fun k s hm => (st_nn h k s hm).1) k s hs).mpr hm
    show (k, stA M k) ∈ M
    rw [this]
    exact hm
  · exact .inl ⟨c, stA_out c⟩
theorem aw_wrk {ds : List Int} {M : List (Int × Int)} (h : Laid ds M) (h0 : ds ≠ []) (t : Int) : aw (wrk M) t = stA M t := by
  obtain ⟨h1, h2, h3, h4⟩ := top_in h h0
  have hl : (wrk M).length = (top M + 1).toNat := by unfold wrk; rw [List.length_map, rgI_len]; congr 1; omega
  by_cases c : 0 ≤ t ∧ t ≤ top M
  · obtain ⟨k, rfl⟩ : ∃ k : Nat, t = k := ⟨t.toNat, by omega⟩
    rw [aw_nat, List.getD_eq_getElem?_getD]
    unfold wrk rgI
    rw [List.map_map, List.getElem?_map, List.getElem?_range (by omega)]
    simp
  · rw [aw_out (by omega), stA_out fun z => c (h2 t z)]
theorem wrk_work {ds : List Int} {M : List (Int × Int)} (hd : Dist ds) (h : Laid ds M) (h0 : ds ≠ []) : IsWork (wrk M) := by
  obtain ⟨h1, h2, h3, h4⟩ := top_in h h0
  have hl : (wrk M).length = (top M + 1).toNat := by unfold wrk; rw [List.length_map, rgI_len]; congr 1; omega
  have h8 := hd.len
  have in0 : ∀ t ∈ kys M, stA M t ≠ -1 := fun t ht => by
    rcases st_cases h t with ⟨z, _⟩ | ⟨_, z⟩
    · exact absurd ht z
    · have := (st_nn h _ _ z).1; omega
  refine ⟨by omega, by omega, fun i hi => ?_, ?_, ?_⟩
  · unfold wrk at hi
    obtain ⟨t, _, rfl⟩ := List.mem_map.mp hi
    rcases st_cases h t with ⟨_, z⟩ | ⟨_, z⟩
    · omega
    · have := st_nn h _ _ z; omega
  · rw [aw_wrk h h0]
    exact in0 0 (h.zero h0)
  · rw [aw_wrk h h0, hl, show (((top M + 1).toNat : Nat) : Int) - 1 = top M by omega]
    exact in0 _ h1
theorem hit_wrk {ds : List Int} {M : List (Int × Int)} (h : Laid ds M) (h0 : ds ≠ []) {d : Int} (d1 : 1 ≤ d) : (∃ t, hit (wrk M) (wrk M) d t = true) ↔ d ∈ ds := by
  have key : ∀ t, hit (wrk M) (wrk M) d t = true ↔ (stA M t ≠ -1 ∧ stA M t = stA M (t - d)) := fun t => by
    unfold hit
    rw [aw_wrk h h0, aw_wrk h h0]
    simp
  have sm := fun t s (hs : 0 ≤ s) => stA_mem h.nd (fun k s hm => (st_nn h k s hm).1) t s hs
  constructor
  · rintro ⟨t, ht⟩
    obtain ⟨k1, k2⟩ := (key t).mp ht
    have m1 : (t, stA M t) ∈ M := by
      rcases st_cases h t with ⟨_, z⟩ | ⟨_, z⟩
      · exact absurd z k1
      · exact z
    have m2 : (t - d, stA M t) ∈ M := by
      rcases st_cases h (t - d) with ⟨_, z⟩ | ⟨_, z⟩
      · exact absurd (k2.trans z) k1
      · rw [← k2] at z; exact z
    obtain ⟨i, d', u, g1, g2, g3⟩ := h.of _ _ m1
    have a1 := (g3 t).mp m1
    have a2 := (g3 (t - d)).mp m2
    have hm := List.mem_of_getElem? g1
    have : d = d' ∨ d = -d' := by omega
    rcases this with rfl | z
    · exact hm
    · -- the other way round: the distance would be below 1
      exfalso
      obtain ⟨u', b1, b2⟩ := h.has i d' g1
      have c1 := (g3 u').mp (g2 ▸ b1)
      have c2 := (g3 (u' + d')).mp (g2 ▸ b2)
      exact absurd (h.pos d' hm) (by omega)
  · intro hd
    obtain ⟨i, hi⟩ := List.getElem?_of_mem hd
    obtain ⟨t, b1, b2⟩ := h.has i d hi
    refine ⟨t + d, (key _).mpr ?_⟩
    have e1 := (sm t i (by omega)).mpr b1
    have e2 := (sm (t + d) i (by omega)).mpr b2
    rw [show t + d - d = t by omega, e1, e2]
    exact ⟨by omega, rfl⟩
/-- the bars of the work are the distances -/
theorem bars_wrk {ds : List Int} {M : List (Int × Int)} (hd : Dist ds) (h : Laid ds M) (h0 : ds ≠ []) : (rgI 1 (wrk M).length).filter (fun d => !(meetL (wrk M) (wrk M) d).isEmpty) = ds := by
  have asc1 : (rgI 1 (wrk M).length).Pairwise (· < ·) := by
    unfold rgI
    rw [List.pairwise_map]
    exact List.pairwise_lt_range.imp fun h => by omega
  refine asc_eq (asc1.filter _) hd.asc fun d => ?_
  rw [List.mem_filter, rgI_mem]
  have mt : (!(meetL (wrk M) (wrk M) d).isEmpty) = true ↔ ∃ t, hit (wrk M) (wrk M) d t = true := by
    constructor
    · intro z
      cases e : meetL (wrk M) (wrk M) d with
      | nil => rw [e] at z; cases z
      | cons t r => exact ⟨t, mem_meetL.mp (by rw [e]; exact List.mem_cons_self)⟩
    · rintro ⟨t, ht⟩
      have := mem_meetL.mpr ht
      cases e : meetL (wrk M) (wrk M) d with
      | nil => rw [e] at this; cases this
      | cons _ _ => rfl
  rw [mt]
  constructor
  · rintro ⟨⟨z1, _⟩, z2⟩
    exact (hit_wrk h h0 z1).mp z2
  · intro z
    have d1 := (hd.rg d z).1
    obtain ⟨t, ht⟩ := (hit_wrk h h0 d1).mpr z
    have := hit_in ht
    exact ⟨⟨d1, by omega⟩, t, ht⟩
end K73

namespace MI
open PySem L2
theorem lcGo_mapA {α : Type} {f : D → Env → Option (Option D × Env)} {inj g : α → D} {e : Env} : ∀ {xs : List α}, (∀ x ∈ xs, f (inj x) e = some (some (g x), e)) → lcGo f (xs.map inj) e = some (xs.map g, e)
  | [], _ => rfl
  | d :: r, h => by
    rw [List.map_cons]
    unfold lcGo
    rw [h d List.mem_cons_self, Option.bind_some, lcGo_mapA fun x hx => h x (List.mem_cons_of_mem _ hx)]
    rfl
theorem lcGo_fmA {α : Type} {f : D → Env → Option (Option D × Env)} {inj g : α → D} {p : α → Bool} {e : Env} : ∀ {xs : List α}, (∀ x ∈ xs, f (inj x) e = some (if p x then some (g x) else none, e)) → lcGo f (xs.map inj) e = some ((xs.filter p).map g, e)
  | [], _ => rfl
  | d :: r, h => by
    rw [List.map_cons]
    unfold lcGo
    rw [h d List.mem_cons_self, Option.bind_some, lcGo_fmA fun x hx => h x (List.mem_cons_of_mem _ hx)]
    cases hp : p d <;> simp [hp, List.filter_cons]
theorem lcA {α : Type} {xs : List α} {inj g : α → D} {C : Ctx} {own : List Nat} {elt : E} {t : T} {it : I} {env e1 : Env} (h : evI C it env = some (xs.map inj, e1)) (hw : wipeable e1 own = true) (hz : xs.length ≤ 2 ^ 24)
    (hs : ∀ x ∈ xs, ∃ e2 rd e3, bindT t (inj x) (wipeE e1 own) = some e2 ∧ evR C elt e2 = some (rd, e3) ∧ wipeable e3 own = true ∧ wipeE e3 own = wipeE e1 own ∧ rd.d = g x) :
    evR C (.lc own elt t it (.cst (.bl true))) env = some (.new (.lst (xs.map g)), restoreE e1 (wipeE e1 own) own) := by
  have hz : szOk (xs.map inj).length = true := by
    unfold szOk
    rw [lk_eq, decide_eq_true_eq, sizeLine_eq, List.length_map]
    exact Nat.le_trans hz (by decide)
  have h1 := lcGo_mapA (f := fun d e => (bindT t d e).bind fun e1 => (testOf (.cst (.bl true)) (evR C (.cst (.bl true))) e1).bind fun b =>
          if b.1 then (frz (evR C elt) b.2).bind fun y => wiped own (some y.1) y.2 else wiped own none b.2) (inj := inj) (g := g) (e := wipeE e1 own) (xs := xs) (fun d hd => by
    obtain ⟨e2, rd, e3, a, b, c, d', q⟩ := hs d hd
    simp only [a, Option.bind_some, testOf, toP, evR, Option.map_some, getP, RD.d, truth, frz, b, wiped, c, if_true, d', ← q])
  rw [evR, h, Option.bind_some]
  simp only [hw, hz, Bool.and_self, if_true, h1, Option.map_some]
theorem lcF {α : Type} {xs : List α} {inj g : α → D} {p : α → Bool} {C : Ctx} {own : List Nat} {elt : E} {t : T} {it : I} {cnd : E} {env e1 : Env} (h : evI C it env = some (xs.map inj, e1)) (hw : wipeable e1 own = true) (hz : xs.length ≤ 2 ^ 24)
    (hs : ∀ x ∈ xs, ∃ e2, bindT t (inj x) (wipeE e1 own) = some e2 ∧ testOf cnd (evR C cnd) e2 = some (p x, e2) ∧ (p x = true → ∃ rd, evR C elt e2 = some (rd, e2) ∧ rd.d = g x) ∧ wipeable e2 own = true ∧ wipeE e2 own = wipeE e1 own) :
    evR C (.lc own elt t it cnd) env = some (.new (.lst ((xs.filter p).map g)), restoreE e1 (wipeE e1 own) own) := by
  have hz : szOk (xs.map inj).length = true := by
    unfold szOk
    rw [lk_eq, decide_eq_true_eq, sizeLine_eq, List.length_map]
    exact Nat.le_trans hz (by decide)
  have h1 := lcGo_fmA (f := fun d e => (bindT t d e).bind fun e1 => (testOf cnd (evR C cnd) e1).bind fun b =>
          if b.1 then (frz (evR C elt) b.2).bind fun y => wiped own (some y.1) y.2 else wiped own none b.2) (inj := inj) (p := p) (g := g) (e := wipeE e1 own) (xs := xs) (fun d hd => by
    obtain ⟨e2, a, b, c, d', q⟩ := hs d hd
    cases hp : p d with
    | false => simp only [a, Option.bind_some, b, hp, wiped, d', q, if_true, Bool.false_eq_true, if_false]
    | true =>
      obtain ⟨rd, c1, c2⟩ := c hp
      simp only [a, Option.bind_some, b, hp, wiped, d', q, if_true, frz, c1, Option.map_some, c2])
  rw [evR, h, Option.bind_some]
  simp only [hw, hz, Bool.and_self, if_true, h1, Option.map_some]
/-- a for over the images of a list, step by step: J i before the item i -/
theorem forA {α : Type} {xs : List α} {inj : α → D} {C : Ctx} {w : Nat} {t : T} {it : I} {body : List S} {env e1 : Env} {J : Nat → Env → Prop} (h : evI C it env = some (xs.map inj, e1)) (h0 : J 0 e1)
    (hs : ∀ i x e, xs[i]? = some x → J i e → ∃ e2 e', bindT t (inj x) e = some e2 ∧ (exSs C w body e2 = some (.nx e') ∨ exSs C w body e2 = some (.ct e')) ∧ J (i + 1) e') : ∃ e', exS C w (.for_ t it body) env = some (.nx e') ∧ J xs.length e' := by
  have := for_inv (C := C) (w := w) (t := t) (it := it) (body := body) (env := env) (e1 := e1) (ds := xs.map inj) (J := J) h h0 (fun i d e hd hj => by
    rw [List.getElem?_map] at hd
    obtain ⟨x, hx, rfl⟩ := Option.map_eq_some_iff.mp hd
    exact hs i x e hx hj)
  rw [List.length_map] at this
  exact this
/-- the same where a turn may end the def -/
theorem forZ {α : Type} {xs : List α} {inj : α → D} {C : Ctx} {w : Nat} {t : T} {it : I} {body : List S} {env e1 : Env} {J : Nat → Env → Prop} {Z : RD → Env → Prop} (h : evI C it env = some (xs.map inj, e1)) (h0 : J 0 e1)
    (hs : ∀ i x e, xs[i]? = some x → J i e → ∃ e2, bindT t (inj x) e = some e2 ∧ ((∃ e', (exSs C w body e2 = some (.nx e') ∨ exSs C w body e2 = some (.ct e')) ∧ J (i + 1) e') ∨ ∃ r e', exSs C w body e2 = some (.rt r e') ∧ Z r e')) :
    (∃ e', exS C w (.for_ t it body) env = some (.nx e') ∧ J xs.length e') ∨ ∃ r e', exS C w (.for_ t it body) env = some (.rt r e') ∧ Z r e' := by
  have := for_any (C := C) (w := w) (t := t) (it := it) (body := body) (env := env) (e1 := e1) (ds := xs.map inj) (J := J) (Z := Z) h h0 (fun i d e hd hj => by
    rw [List.getElem?_map] at hd
    obtain ⟨x, hx, rfl⟩ := Option.map_eq_some_iff.mp hd
    exact hs i x e hx hj)
  rw [List.length_map] at this
  exact this
theorem listA {α : Type} {f : α → D} {Q : α → Prop} : ∀ {ys : List D}, (∀ y ∈ ys, ∃ a, y = f a ∧ Q a) → ∃ as : List α, ys = as.map f ∧ ∀ a ∈ as, Q a
  | [], _ => ⟨[], rfl, fun a h => by cases h⟩
  | y :: ys, h => by
    obtain ⟨as, rfl, ha⟩ := listA fun z hz => h z (List.mem_cons_of_mem _ hz)
    obtain ⟨a, rfl, q⟩ := h y List.mem_cons_self
    exact ⟨a :: as, rfl, fun b hb => (List.mem_cons.mp hb).elim (fun e => e ▸ q) (ha b)⟩
/-- a comprehension without a test whose turns change the state; each element the image of something of a kind -/
theorem lcP {α : Type} {inj : α → D} {Q : α → Prop} {C : Ctx} {own : List Nat} {elt : E} {t : T} {it : I} {env e1 : Env} {ds : List D} {J : Env → Prop} (h : evI C it env = some (ds, e1)) (hw : wipeable e1 own = true) (hz : ds.length ≤ 2 ^ 24) (h0 : J (wipeE e1 own))
    (hs : ∀ d ∈ ds, ∀ e, J e → ∃ e2 rd e3 a, bindT t d e = some e2 ∧ evR C elt e2 = some (rd, e3) ∧ wipeable e3 own = true ∧ J (wipeE e3 own) ∧ rd.d = inj a ∧ Q a) :
    ∃ (as : List α) (e' : Env), evR C (.lc own elt t it (.cst (.bl true))) env = some (.new (.lst (as.map inj)), restoreE e1 e' own) ∧ J e' ∧ as.length = ds.length ∧ ∀ a ∈ as, Q a := by
  obtain ⟨ys, e', h1, h2, h3, h4⟩ := lc_inv (C := C) (own := own) (elt := elt) (t := t) (it := it) (J := fun _ e => J e) (Q := fun y => ∃ a, y = inj a ∧ Q a) h hw hz h0 (fun i d e hd hj => by
    obtain ⟨e2, rd, e3, a, a1, a2, a3, a4, a5, a6⟩ := hs d (List.mem_of_getElem? hd) e hj
    exact ⟨e2, rd, e3, a1, a2, a3, a4, a, a5, a6⟩)
  obtain ⟨as, rfl, hq⟩ := listA h4
  rw [List.length_map] at h3
  exact ⟨as, e', h1, h2, h3, hq⟩
theorem lcGo_J {α : Type} {f : D → Env → Option (Option D × Env)} {inj g : α → D} {J : Env → Prop} : ∀ {xs : List α} {e : Env}, (∀ x ∈ xs, ∀ e, J e → ∃ e', f (inj x) e = some (some (g x), e') ∧ J e') → J e → ∃ e', lcGo f (xs.map inj) e = some (xs.map g, e') ∧ J e'
  | [], e, _, h => ⟨e, rfl, h⟩
  | x :: r, e, hs, h => by
    obtain ⟨e1, h1, h2⟩ := hs x List.mem_cons_self e h
    obtain ⟨e2, h3, h4⟩ := lcGo_J (xs := r) (fun y hy => hs y (List.mem_cons_of_mem _ hy)) h2
    refine ⟨e2, ?_, h4⟩
    rw [List.map_cons, List.map_cons]
    unfold lcGo
    rw [h1, Option.bind_some, h3]
    rfl
/-- a comprehension without a test, each element a function of the item, the state kept of a kind -/
theorem lcJ {α : Type} {xs : List α} {inj g : α → D} {J : Env → Prop} {C : Ctx} {own : List Nat} {elt : E} {t : T} {it : I} {env e1 : Env} (h : evI C it env = some (xs.map inj, e1)) (hw : wipeable e1 own = true) (hz : xs.length ≤ 2 ^ 24) (h0 : J (wipeE e1 own))
    (hs : ∀ x ∈ xs, ∀ e, J e → ∃ e2 rd e3, bindT t (inj x) e = some e2 ∧ evR C elt e2 = some (rd, e3) ∧ wipeable e3 own = true ∧ J (wipeE e3 own) ∧ rd.d = g x) :
    ∃ e', evR C (.lc own elt t it (.cst (.bl true))) env = some (.new (.lst (xs.map g)), restoreE e1 e' own) ∧ J e' := by
  have hz : szOk (xs.map inj).length = true := by
    unfold szOk
    rw [lk_eq, decide_eq_true_eq, sizeLine_eq, List.length_map]
    exact Nat.le_trans hz (by decide)
  obtain ⟨e', h1, h2⟩ := lcGo_J (f := fun d e => (bindT t d e).bind fun e1 => (testOf (.cst (.bl true)) (evR C (.cst (.bl true))) e1).bind fun b =>
          if b.1 then (frz (evR C elt) b.2).bind fun y => wiped own (some y.1) y.2 else wiped own none b.2) (inj := inj) (g := g) (J := J) (xs := xs) (e := wipeE e1 own) (fun x hx e hj => by
    obtain ⟨e2, rd, e3, a, b, c, d', q⟩ := hs x hx e hj
    refine ⟨wipeE e3 own, ?_, d'⟩
    simp only [a, Option.bind_some, testOf, toP, evR, Option.map_some, getP, RD.d, truth, frz, b, wiped, c, if_true, ← q]) h0
  refine ⟨e', ?_, h2⟩
  rw [evR, h, Option.bind_some]
  simp only [hw, hz, Bool.and_self, if_true, h1, Option.map_some]
theorem range_at {n i x : Nat} (h : (List.range n)[i]? = some x) : i < n ∧ i = x := by
  obtain ⟨a, b⟩ := List.getElem?_eq_some_iff.mp h
  rw [List.length_range] at a
  rw [List.getElem_range] at b
  exact ⟨a, b⟩
theorem rgD_natR (n : Nat) : rgD 0 (n : Int) = (List.range n).map fun k => D.int (k : Nat) := by
  unfold rgD
  simp
end MI
namespace SG
open MI L2 PySem
theorem len_wk (a : List Int) : biD .len [wk a] = some (.old (.int a.length)) := by simp [biD, wk]
theorem items_wk (a : List Int) : itemsD (wk a) = some (a.map .int) := rfl
theorem itemsT_wk (a : List Int) : itemsT (wk a) = some (a.map .int) := rfl
end SG

namespace MI
open PySem L2
theorem lc2Go_A {α : Type} {f : D → Env → Option (List D × Env)} {inj : α → D} {g : α → List D} {e : Env} : ∀ {xs : List α}, (∀ x ∈ xs, f (inj x) e = some (g x, e)) → lc2Go f (xs.map inj) e = some (xs.flatMap g, e)
  | [], _ => rfl
  | d :: r, h => by
    rw [List.map_cons]
    unfold lc2Go
    rw [h d List.mem_cons_self, Option.bind_some, lc2Go_A fun x hx => h x (List.mem_cons_of_mem _ hx)]
    rfl
/-- a comprehension of two clauses, the state kept -/
theorem lc2A {α β : Type} {xs : List α} {inj : α → D} {ys : α → List β} {injb : α → β → D} {p : α → β → Bool} {g : α → β → D} {C : Ctx} {own own2 : List Nat} {elt : E} {t t2 : T} {it it2 : I} {cnd : E} {env e1 : Env} (h : evI C it env = some (xs.map inj, e1)) (hw : wipeable e1 own = true) (hz : xs.length ≤ 2 ^ 24)
    (hl : (xs.flatMap fun x => ((ys x).filter (p x)).map (g x)).length < 1000000)
    (hs : ∀ x ∈ xs, ∃ e2, bindT t (inj x) (wipeE e1 own) = some e2 ∧ evI C it2 e2 = some ((ys x).map (injb x), e2) ∧ wipeable e2 own2 = true ∧ wipeable (wipeE e2 own2) own = true ∧ wipeE (wipeE e2 own2) own = wipeE e1 own ∧
      ∀ y ∈ ys x, ∃ e3, bindT t2 (injb x y) (wipeE e2 own2) = some e3 ∧ testOf cnd (evR C cnd) e3 = some (p x y, e3) ∧ (p x y = true → ∃ rd, evR C elt e3 = some (rd, e3) ∧ rd.d = g x y) ∧ wipeable e3 own2 = true ∧ wipeE e3 own2 = wipeE e2 own2) :
    evR C (.lc2 own own2 elt t it t2 it2 cnd) env = some (.new (.lst (xs.flatMap fun x => ((ys x).filter (p x)).map (g x))), restoreE e1 (wipeE e1 own) own) := by
  have hz : szOk (xs.map inj).length = true := by
    unfold szOk
    rw [lk_eq, decide_eq_true_eq, sizeLine_eq, List.length_map]
    exact Nat.le_trans hz (by decide)
  have hl2 : lk (decide ((xs.flatMap fun x => ((ys x).filter (p x)).map (g x)).length < sizeLine)) = true := by
    rw [lk_eq, decide_eq_true_eq, sizeLine_eq]
    exact Nat.lt_of_lt_of_le hl (by decide)
  have h1 := lc2Go_A (f := fun d e => (bindT t d e).bind fun e1 => (evI C it2 e1).bind fun z => if wipeable z.2 own2 then (lcGo (fun d e => (bindT t2 d e).bind fun e1 => (testOf cnd (evR C cnd) e1).bind fun b =>
          if b.1 then (frz (evR C elt) b.2).bind fun y => wiped own2 (some y.1) y.2 else wiped own2 none b.2) z.1 (wipeE z.2 own2)).bind fun y => if wipeable y.2 own then some (y.1, wipeE y.2 own) else none else none) (inj := inj) (g := fun x => ((ys x).filter (p x)).map (g x)) (e := wipeE e1 own) (xs := xs) (fun x hx => by
    obtain ⟨e2, a1, a2, a3, a4, a5, a6⟩ := hs x hx
    have h2 := lcGo_fmA (f := fun d e => (bindT t2 d e).bind fun e1 => (testOf cnd (evR C cnd) e1).bind fun b =>
          if b.1 then (frz (evR C elt) b.2).bind fun y => wiped own2 (some y.1) y.2 else wiped own2 none b.2) (inj := injb x) (p := p x) (g := g x) (e := wipeE e2 own2) (xs := ys x) (fun y hy => by
      obtain ⟨e3, b1, b2, b3, b4, b5⟩ := a6 y hy
      cases hp : p x y with
      | false => simp only [b1, Option.bind_some, b2, hp, wiped, b4, b5, if_true, Bool.false_eq_true, if_false]
      | true =>
        obtain ⟨rd, c1, c2⟩ := b3 hp
        simp only [b1, Option.bind_some, b2, hp, wiped, b4, b5, if_true, frz, c1, Option.map_some, c2])
    simp only [a1, Option.bind_some, a2, a3, if_true, h2, a4, a5])
  rw [evR, h, Option.bind_some]
  simp only [hw, hz, Bool.and_self, if_true, h1, Option.bind_some, hl2]
theorem exSs_app {C : Ctx} {w : Nat} {e' : Env} : ∀ {a b : List S} {e : Env}, exSs C w a e = some (.nx e') → exSs C w (a ++ b) e = exSs C w b e'
  | [], b, e, h => by
    rw [exSs] at h
    cases h
    rfl
  | s :: a, b, e, h => by
    rw [List.cons_append, exSs]
    rw [exSs] at h
    cases hs : exS C w s e with
    | none => rw [hs] at h; cases h
    | some v =>
      rw [hs, Option.bind_some] at h
      rw [Option.bind_some]
      cases v with
      | nx e2 => exact exSs_app h
      | rt _ _ => cases h
      | bk _ => cases h
      | ct _ => cases h
theorem toP_ofA {C : Ctx} {e : E} {env e' : Env} {r : RD} (h : evR C e env = some (r, e')) (hv : ∀ i, e ≠ .var i) : toP e (evR C e) env = some (.d r.d, e') := by
  cases e <;> first | exact absurd rfl (hv _) | (simp only [toP, h, Option.map_some])
/-- a built-in of one argument that is made on the spot -/
theorem bi_of {C : Ctx} {b : Bi} {e : E} {env e' : Env} {r z : RD} (h : evR C e env = some (r, e')) (hv : ∀ i, e ≠ .var i) (hb : biD b [r.d] = some z) : evR C (.bi b [e]) env = some (z, e') := by
  rw [evR, evPs, toP_ofA h hv, Option.bind_some]
  simp only [evPs, Option.map_some, Option.bind_some, evG, getP, hb]
theorem tuple_of {C : Ctx} {e : E} {env e' : Env} {ys : List D} (h : evR C e env = some (.new (.lst ys), e')) (hv : ∀ i, e ≠ .var i) : evR C (.bi .tuple [e]) env = some (.old (.tup ys), e') := bi_of h hv rfl
theorem evS_cons {C : Ctx} {a : E} {es : List E} {e0 e1 e2 : Env} {x : RD} {ys : List D} (h1 : evR C a e0 = some (x, e1)) (h2 : evS C es e1 = some (ys, e2)) (hs : ∀ z, a ≠ .star z) : evS C (a :: es) e0 = some (x.d :: ys, e2) := by
  rw [evS]
  · simp only [frz, h1, Option.map_some, Option.bind_some, h2]
  · exact hs
theorem evS_nil {C : Ctx} {e0 : Env} : evS C [] e0 = some ([], e0) := by rw [evS]
theorem lst_of {C : Ctx} {es : List E} {e0 e1 : Env} {ys : List D} (h : evS C es e0 = some (ys, e1)) (hz : ys.length < 1000000) : evR C (.lst es) e0 = some (.new (.lst ys), e1) := by
  have := leS hz
  rw [evR, h, Option.bind_some]
  simp [szOk, lk_eq, this]
theorem tup_of {C : Ctx} {es : List E} {e0 e1 : Env} {ys : List D} (h : evS C es e0 = some (ys, e1)) (hz : ys.length < 1000000) : evR C (.tup es) e0 = some (.old (.tup ys), e1) := by
  have := leS hz
  rw [evR, h, Option.bind_some]
  simp [szOk, lk_eq, this]
theorem bin_of {C : Ctx} {op : PySem.Operator} {a b : E} {env e1 e2 : Env} {ra rb z : RD} (ha : evR C a env = some (ra, e1)) (hb : evR C b e1 = some (rb, e2)) (hz : arith op ra.d rb.d = some z) (hav : ∀ i, a ≠ .var i) (hbv : ∀ i, b ≠ .var i) : evR C (.bin op a b) env = some (z, e2) := by
  rw [evR, toP_ofA ha hav, Option.bind_some]
  simp only
  rw [toP_ofA hb hbv]
  simp only [Option.bind_some, getP, hz, Option.map_some]
theorem ar_add (i j : Int) : arith .Add (.int i) (.int j) = some (.old (.int (i + j))) := rfl
theorem ar_sub (i j : Int) : arith .Sub (.int i) (.int j) = some (.old (.int (i - j))) := rfl
theorem eqDs_map {α : Type} [DecidableEq α] {f : α → D} (hf : ∀ a b, eqD (f a) (f b) = decide (a = b)) : ∀ xs ys : List α, eqDs (xs.map f) (ys.map f) = decide (xs = ys)
  | [], [] => by simp [eqDs]
  | [], _ :: _ => by simp [eqDs]
  | _ :: _, [] => by simp [eqDs]
  | x :: xs, y :: ys => by
    rw [List.map_cons, List.map_cons, eqDs, hf, eqDs_map hf xs ys]
    simp
theorem eqD_int (a b : Int) : eqD (.int a) (.int b) = decide (a = b) := by simp [eqD]
theorem flatDs_map {α : Type} {f : α → D} {n : Nat} (hf : ∀ a, flatD n (f a) = true) : ∀ xs : List α, flatDs n (xs.map f) = true
  | [] => by simp [flatDs]
  | x :: xs => by rw [List.map_cons, flatDs, hf, flatDs_map hf xs]; rfl
theorem shDs_map {α : Type} {f : α → D} {n : Nat} : ∀ {xs : List α}, (∀ a ∈ xs, shD n (f a) = true) → shDs n (xs.map f) = true
  | [], _ => by simp [shDs]
  | x :: xs, h => by rw [List.map_cons, shDs, h x List.mem_cons_self, shDs_map fun a ha => h a (List.mem_cons_of_mem _ ha)]; rfl
theorem lenBs_map {α : Type} {f : α → D} {c : Nat} : ∀ {xs : List α}, (∀ a ∈ xs, lenB (f a) ≤ c) → lenBs (xs.map f) ≤ (c + 2) * xs.length
  | [], _ => by simp [lenBs]
  | x :: xs, h => by
    have h1 := h x List.mem_cons_self
    have h2 := lenBs_map (f := f) (c := c) (xs := xs) fun a ha => h a (List.mem_cons_of_mem _ ha)
    rw [List.map_cons, lenBs, List.length_cons, Nat.mul_succ]
    omega
theorem cmp_eq {a b : D} {r : Bool} (ha : dataOk a = true) (hb : dataOk b = true) (hi : ∀ i, a ≠ .int i) (hs : ∀ i, a ≠ .str i) (h : eqD a b = r) : cmpD .Eq a b = some r := by
  cases a with
  | int i => exact absurd rfl (hi i)
  | str i => exact absurd rfl (hs i)
  | _ => simp [cmpD, ha, hb, h]
theorem cmp_ne {a b : D} {r : Bool} (ha : dataOk a = true) (hb : dataOk b = true) (hi : ∀ i, a ≠ .int i) (hs : ∀ i, a ≠ .str i) (h : eqD a b = r) : cmpD .NotEq a b = some (!r) := by
  cases a with
  | int i => exact absurd rfl (hi i)
  | str i => exact absurd rfl (hs i)
  | _ => simp [cmpD, ha, hb, h]
end MI
namespace SG
open MI L2 PySem
theorem eqD_wk (a b : List Int) : eqD (wk a) (wk b) = decide (a = b) := by
  unfold wk
  rw [eqD, eqDs_map eqD_int]
theorem flat_wk (n : Nat) (a : List Int) : flatD (n + 1) (wk a) = true := by
  unfold wk flatD
  exact flatDs_map (fun i => by simp [flatD]) a
theorem cmp_wk (a b : List Int) : cmpD .Eq (wk a) (wk b) = some (decide (a = b)) := cmp_eq (flat_wk 39 a) (flat_wk 39 b) (fun i z => by cases z) (fun i z => by cases z) (eqD_wk a b)
theorem cmpn_wk (a b : List Int) : cmpD .NotEq (wk a) (wk b) = some (!decide (a = b)) := cmp_ne (flat_wk 39 a) (flat_wk 39 b) (fun i z => by cases z) (fun i z => by cases z) (eqD_wk a b)
end SG

namespace MI
open PySem L2
/-! what repr gives, with texts of any length -/
mutual
def shC : Nat → D → Bool
  | _, .non => true
  | _, .bl _ => true
  | _, .int i => decide (i.natAbs < 10 ^ 12)
  | _, .str x => PyData.strOk x
  | n + 1, .tup xs => shCs n xs
  | n + 1, .lst xs => shCs n xs
  | _, _ => false
def shCs : Nat → List D → Bool
  | _, [] => true
  | n, x :: xs => shC n x && shCs n xs
end
mutual
def lenC : D → Nat
  | .non => 4
  | .bl _ => 5
  | .int _ => 13
  | .str x => 10 * x.length + 2
  | .tup xs => lenCs xs + 3
  | .lst xs => lenCs xs + 3
  | .scr _ => 0
  | .dk _ _ => 0
  | .dt _ _ => 0
  | .ins _ _ _ => 0
def lenCs : List D → Nat
  | [] => 0
  | x :: xs => lenC x + 2 + lenCs xs
end
mutual
theorem shC_ok : ∀ (n : Nat) (d : D), shC n d = true → flatD n d = true ∧ (pyOf d).showable = true ∧ (pyOf d).shown.length ≤ lenC d
  | _, .non, _ => ⟨by unfold flatD; rfl, by simp [pyOf, PyData.showable], by simp only [pyOf, PyData.shown, lenC]; decide⟩
  | _, .bl b, _ => ⟨by unfold flatD; rfl, by simp [pyOf, PyData.showable], by simp only [pyOf, PyData.shown, lenC]; cases b <;> decide⟩
  | _, .int i, h => by
    have h : i.natAbs < 10 ^ 12 := by
      unfold shC at h
      exact of_decide_eq_true h
    refine ⟨by unfold flatD; rfl, ?_, ?_⟩
    · simp only [pyOf, PyData.showable, decide_eq_true_eq]
      by_cases hz : i.natAbs = 0
      · rw [hz]
        decide
      · rw [Nat.log2_lt hz]
        exact Nat.lt_of_lt_of_le h (Nat.le_trans (show 10 ^ 12 ≤ 2 ^ 40 by decide) (Nat.pow_le_pow_right (by decide) (by decide)))
    · exact PyData.shown_int_le h
  | _, .str x, h => by
    unfold shC at h
    refine ⟨by unfold flatD; exact h, by simp [pyOf, PyData.showable], ?_⟩
    simp only [pyOf, lenC, PyData.shown]
    refine StrLaws.reprText_len x fun c hc => ?_
    unfold PyData.strOk at h
    rw [Array.all_eq_true_iff_forall_mem] at h
    have := of_decide_eq_true (h c (Array.mem_toList_iff.mp hc))
    exact Nat.lt_of_lt_of_le this (by decide)
  | n + 1, .tup xs, h => by
    unfold shC at h
    obtain ⟨a, b, c⟩ := shCs_ok n xs h
    refine ⟨by unfold flatD; exact a, by simpa only [pyOf, PyData.showable] using b, ?_⟩
    simp only [pyOf, PyData.shown, lenC]
    have := tupleText_len_le (PyData.shownAll (pyOfs xs))
    rw [PyData.shownAll_length] at this
    omega
  | n + 1, .lst xs, h => by
    unfold shC at h
    obtain ⟨a, b, c⟩ := shCs_ok n xs h
    refine ⟨by unfold flatD; exact a, by simpa only [pyOf, PyData.showable] using b, ?_⟩
    simp only [pyOf, PyData.shown, lenC]
    have := listText_len_le (PyData.shownAll (pyOfs xs))
    rw [PyData.shownAll_length] at this
    omega
  | 0, .tup xs, h => by unfold shC at h; cases h
  | 0, .lst xs, h => by unfold shC at h; cases h
  | n, .scr xs, h => by unfold shC at h; cases h
  | n, .dk _ _, h => by unfold shC at h; cases h
  | n, .dt _ _, h => by unfold shC at h; cases h
  | n, .ins _ _ _, h => by unfold shC at h; cases h
theorem shCs_ok : ∀ (n : Nat) (ds : List D), shCs n ds = true → flatDs n ds = true ∧ PyData.showableAll (pyOfs ds) = true ∧ ((PyData.shownAll (pyOfs ds)).map (·.length)).sum + 2 * (pyOfs ds).length ≤ lenCs ds
  | _, [], _ => ⟨by unfold flatDs; rfl, by simp [pyOfs, PyData.showableAll], by simp [pyOfs, PyData.shownAll, lenCs]⟩
  | n, x :: xs, h => by
    unfold shCs at h
    simp only [Bool.and_eq_true] at h
    obtain ⟨a, b, c⟩ := shC_ok n x h.1
    obtain ⟨a', b', c'⟩ := shCs_ok n xs h.2
    refine ⟨by unfold flatDs; rw [a, a']; rfl, by simp only [pyOfs, PyData.showableAll, b, b']; rfl, ?_⟩
    simp only [pyOfs, PyData.shownAll, lenCs, List.map_cons, List.sum_cons, List.length_cons]
    omega
end
theorem repr_big {d : D} (h : shC 40 d = true) (hl : lenC d ≤ 2 ^ 24) : reprD d = some (pyOf d).shown := by
  obtain ⟨a, b, c⟩ := shC_ok 40 d h
  have hz : szOk (pyOf d).shown.length = true := by
    unfold szOk
    rw [lk_eq, decide_eq_true_eq, sizeLine_eq]
    exact Nat.le_trans c (Nat.le_trans hl (by decide))
  unfold reprD
  rw [show dataOk d = true from a, b, hz]
  rfl
theorem shCs_map {α : Type} {f : α → D} {n : Nat} : ∀ {xs : List α}, (∀ a ∈ xs, shC n (f a) = true) → shCs n (xs.map f) = true
  | [], _ => by simp [shCs]
  | x :: xs, h => by rw [List.map_cons, shCs, h x List.mem_cons_self, shCs_map fun a ha => h a (List.mem_cons_of_mem _ ha)]; rfl
theorem lenCs_map {α : Type} {f : α → D} {c : Nat} : ∀ {xs : List α}, (∀ a ∈ xs, lenC (f a) ≤ c) → lenCs (xs.map f) ≤ (c + 2) * xs.length
  | [], _ => by simp [lenCs]
  | x :: xs, h => by
    have h1 := h x List.mem_cons_self
    have h2 := lenCs_map (f := f) (c := c) (xs := xs) fun a ha => h a (List.mem_cons_of_mem _ ha)
    rw [List.map_cons, lenCs, List.length_cons, Nat.mul_succ]
    omega
end MI
namespace SG
open MI L2 PySem
variable {P : Prg}
theorem same_big (h : Hs P "_law_same" F_law_same) {n : Nat} (hn : 1 ≤ n) {d : D} (h1 : shC 40 d = true) (h2 : lenC d ≤ 2 ^ 24) : P.calls n "_law_same" [.d d, .d d] = some (.old (.bl true), []) := by
  rw [h.eq hn]
  have := repr_big h1 h2
  simp [F_law_same, runFn, modesOf, argSl, exSs, exS, testOf, toP, evR, evS, evD, evPs, evA, evI, evB, evG, frz, getP, isSet, slotD, itemD, atI, ixN, cmpD, truth, arith, biD, isiD, RD.d, slOf, mutAt, isMut, isL, setAt, appAt, outsOf, argV, sRefs, putBack, reslot, bindT, bindTs, partOf, MI.isNon, sliceD, itemsD, itemsT, isT, setIs, evRs, augD, popOf, wipeable, wipeE, restoreE, wiped, ctx_call, ctx_modes, ctx_glob, ctx_names, ctx_cls, ctx_kws, szOk, lk_eq, mtD, mtK, insC_ins, MI.isObj, isDic, dicAt, dputAt, storeD, lookD, keyD, keysD, insAt, fldAt, fldD, MI.putF, pickK, revD, this]
theorem shC_wk {a : List Int} (n : Nat) (h : ∀ i ∈ a, i.natAbs < 10 ^ 12) : shC (n + 1) (wk a) = true := by
  unfold wk shC
  exact shCs_map fun i hi => by simp only [shC, decide_eq_true_eq]; exact h i hi
theorem lenC_wk (a : List Int) : lenC (wk a) ≤ 15 * a.length + 3 := by
  unfold wk lenC
  have := lenCs_map (f := D.int) (c := 13) (xs := a) fun i _ => by simp [lenC]
  omega
end SG

namespace K73
open MI L2 PySem SG
variable (C : Nat → Addr)
def kM (M : List (Int × Int)) : List Key := M.map fun p => Sum.inl p.1
def vM (M : List (Int × Int)) : List D := M.map fun p => D.int p.2
def dkM (M : List (Int × Int)) : D := .dk (kM M) (vM M)
theorem get_dk (t : Int) : ∀ M : List (Int × Int), getD? (kM M) (vM M) (Sum.inl t : Key) = if t ∈ kys M then some (.int (stA M t)) else none
  | [] => by simp [kM, vM, kys, getD?]
  | (k, s) :: M => by
    have ih := get_dk t M
    unfold kM vM kys at ih ⊢
    rw [List.map_cons, List.map_cons, List.map_cons, getD?]
    by_cases c : k = t
    · subst c
      simp [stA]
    · have c' : (Sum.inl k : Key) ≠ Sum.inl t := fun z => c (Sum.inl.inj z)
      rw [if_neg c', ih]
      have : (t ∈ k :: M.map (·.1)) = (t ∈ M.map (·.1)) := by rw [List.mem_cons]; simp [Ne.symm c]
      simp only [this, stA, if_neg c]
theorem in_dk (M : List (Int × Int)) (t : Int) : cmpD .In (.int t) (dkM M) = some (decide (t ∈ kys M)) := by
  show (lookD (dkM M) (.int t)).map (·.isSome) = _
  unfold dkM lookD
  simp only [keyD, Option.map_some, get_dk]
  by_cases c : t ∈ kys M
  · rw [if_pos c, decide_eq_true c]; rfl
  · rw [if_neg c, decide_eq_false c]; rfl
theorem mem_kM {M : List (Int × Int)} {t : Int} : (Sum.inl t : Key) ∈ kM M ↔ t ∈ kys M := by
  unfold kM kys
  simp
theorem dst_dk {M : List (Int × Int)} (hl : M.length ≤ 1000) {d : Int} (hd : 1 ≤ d) (st : Int) : dstD (dkM M) (.int (tk M d)) (.int st) (.int (tk M d + d)) (.int st) = some (dkM (putM M d st)) := by
  obtain ⟨f1, f2⟩ := tk_free M d
  generalize ht : tk M d = t at *
  have n1 : (Sum.inl t : Key) ∉ kM M := fun z => f1 (mem_kM.mp z)
  have n2 : (Sum.inl (t + d) : Key) ∉ kM M ++ [Sum.inl t] := fun z => by
    rcases List.mem_append.mp z with z | z
    · exact f2 (mem_kM.mp z)
    · have := Sum.inl.inj (List.mem_singleton.mp z)
      omega
  have ne : (Sum.inl t : Key) ≠ Sum.inl (t + d) := fun z => by
    have := Sum.inl.inj z
    omega
  have hz : (kM M).length + 15 ≤ sizeLine := by
    rw [sizeLine_eq]; unfold kM; rw [List.length_map]; omega
  unfold dkM dstD
  simp only [keyD, Option.bind_some, if_neg ne]
  rw [if_pos (by rw [lk_eq, decide_eq_true_eq]; exact hz)]
  unfold putD
  rw [if_neg n1]
  simp only
  rw [if_neg n2]
  unfold putM
  rw [ht]
  simp [kM, vM]
theorem put_runs {n : Nat} (hn : 1 ≤ n) {M : List (Int × Int)} (hl : M.length ≤ 1000) {d : Int} (hd : 1 ≤ d) (st : Int) : (PP C).calls n "put" [.d (dkM M), .d (.int d), .d (.int st)] = some (.new (dkM (putM M d st)), []) := by
  have h : Hs (PP C) "put" F_put := ⟨_, rfl⟩
  rw [h.eq hn]
  have hin := in_dk M
  have hds := dst_dk hl hd st
  obtain ⟨g1, g2⟩ := tk_ge M d
  have hnd : isObj (dkM M) = true := rfl
  obtain ⟨e', hx, rfl⟩ : ∃ e', exS ((PP C).ctx (n - 1)) (PP C).w S_put_1 [.val (dkM M), .val (.int d), .val (.int st), .val (.int 0)] = some (.nx e') ∧ e' = [.val (dkM M), .val (.int d), .val (.int st), .val (.int (tk M d))] := by
    unfold S_put_1
    refine while_runs (R := fun k e => ∃ t : Int, e = [.val (dkM M), .val (.int d), .val (.int st), .val (.int t)] ∧ 0 ≤ t ∧ t + k = tk M d) (Q := fun e => e = [.val (dkM M), .val (.int d), .val (.int st), .val (.int (tk M d))]) ?_ ?_ (k := (tk M d).toNat) (by show _ < 100000; omega) ⟨0, rfl, Int.le_refl _, by omega⟩
    · rintro k e ⟨t, rfl, t0, t1⟩
      have hb : blk M d t = true := ff_below (blk M d) (2 * M.length) 0 t t0 (by show t < tk M d; omega)
      refine ⟨[.val (dkM M), .val (.int d), .val (.int st), .val (.int t)], [.val (dkM M), .val (.int d), .val (.int st), .val (.int (t + 1))], ?_, .inl ?_, t + 1, rfl, by omega, by omega⟩
      · unfold blk at hb
        have h1 := hin t
        have h2 := hin (t + d)
        generalize dkM M = X at *
        by_cases c : t ∈ kys M
        · simp [testOf, evR, evB, toP, getP, slotD, isSet, frz, RD.d, truth, arith, h1, c]
        · have c2 : t + d ∈ kys M := by simpa [c] using hb
          simp [testOf, evR, evB, toP, getP, slotD, isSet, frz, RD.d, truth, arith, h1, h2, c, c2]
      · generalize dkM M = X at *
        simp [runFn, modesOf, argSl, exSs, exS, testOf, toP, evR, evS, evD, evPs, evA, evI, evB, evG, frz, getP, isSet, slotD, itemD, atI, ixN, cmpD, truth, arith, biD, isiD, RD.d, slOf, mutAt, isMut, isL, setAt, appAt, outsOf, argV, sRefs, putBack, reslot, bindT, bindTs, partOf, MI.isNon, sliceD, itemsD, itemsT, isT, setIs, evRs, augD, popOf, wipeable, wipeE, restoreE, wiped, ctx_call, ctx_modes, ctx_glob, ctx_names, ctx_cls, ctx_kws, szOk, lk_eq, mtD, mtK, insC_ins, MI.isObj, isDic, dicAt, dputAt, storeD, lookD, keyD, keysD, insAt, fldAt, fldD, MI.putF, pickK, revD]
    · rintro e ⟨t, rfl, t0, t1⟩
      have ht : t = tk M d := by omega
      subst ht
      obtain ⟨f1, f2⟩ := tk_free M d
      have h1 := hin (tk M d)
      have h2 := hin (tk M d + d)
      rw [decide_eq_false f1] at h1
      rw [decide_eq_false f2] at h2
      refine ⟨_, ?_, rfl⟩
      generalize dkM M = X at *
      generalize tk M d = u at *
      simp [testOf, evR, evB, toP, getP, slotD, isSet, frz, RD.d, truth, arith, h1, h2]
  refine run_rt (env := [.val (dkM M), .val (.int d), .val (.int st), .un]) (e := [.val (dkM M), .val (.int d), .val (.int st), .val (.int (tk M d))]) rfl rfl (sq (e := [.val (dkM M), .val (.int d), .val (.int st), .val (.int 0)]) ?_ (sq hx (sr ?_))) rfl
  · generalize dkM M = X at *
    simp [runFn, modesOf, argSl, exSs, exS, testOf, toP, evR, evS, evD, evPs, evA, evI, evB, evG, frz, getP, isSet, slotD, itemD, atI, ixN, cmpD, truth, arith, biD, isiD, RD.d, slOf, mutAt, isMut, isL, setAt, appAt, outsOf, argV, sRefs, putBack, reslot, bindT, bindTs, partOf, MI.isNon, sliceD, itemsD, itemsT, isT, setIs, evRs, augD, popOf, wipeable, wipeE, restoreE, wiped, ctx_call, ctx_modes, ctx_glob, ctx_names, ctx_cls, ctx_kws, szOk, lk_eq, mtD, mtK, insC_ins, MI.isObj, isDic, dicAt, dputAt, storeD, lookD, keyD, keysD, insAt, fldAt, fldD, MI.putF, pickK, revD]
  · generalize dkM (putM M d st) = Y at *
    generalize tk M d = u at *
    generalize dkM M = X at *
    simp [exS, evR, toP, getP, slotD, isSet, frz, RD.d, arith, hds]
theorem are_runs {n : Nat} (hn : 2 ≤ n) {ds : List Int} (hd : Dist ds) : (PP C).calls n "are_distances" [.d (wk ds)] = some (.old (.bl true), []) := by
  have h : Hs (PP C) "are_distances" F_are_distances := ⟨_, rfl⟩
  have hb : Hs (PP C) "is_between" SG.F_is_between := ⟨_, rfl⟩
  have mb : (PP C).modes "is_between" = some [false, false, false] := rfl
  have g1 : (PP C).glob "GREATEST_BAR" = some (.int 20) := rfl
  have g2 : (PP C).glob "MOST_BARS" = some (.int 8) := rfl
  have hl := hd.len
  rw [h.eq (by omega)]
  have c1 : evR ((PP C).ctx (n - 1)) C_are_distances_1 [.val (wk ds), .un, .un] = some (.new (.lst (List.replicate ds.length (.bl true))), [.val (wk ds), .un, .un]) := by
    unfold C_are_distances_1
    rw [lc_map (e1 := [.val (wk ds), .un, .un]) (ds := ds.map .int) (f := fun _ => .bl true) (by simp [runFn, modesOf, argSl, exSs, exS, testOf, toP, evR, evS, evD, evPs, evA, evI, evB, evG, frz, getP, isSet, slotD, itemD, atI, ixN, cmpD, truth, arith, biD, isiD, RD.d, slOf, mutAt, isMut, isL, setAt, appAt, outsOf, argV, sRefs, putBack, reslot, bindT, bindTs, partOf, MI.isNon, sliceD, itemsD, itemsT, isT, setIs, evRs, augD, popOf, wipeable, wipeE, restoreE, wiped, ctx_call, ctx_modes, ctx_glob, ctx_names, ctx_cls, ctx_kws, szOk, lk_eq, mtD, mtK, insC_ins, MI.isObj, isDic, dicAt, dputAt, storeD, lookD, keyD, keysD, insAt, fldAt, fldD, MI.putF, pickK, revD, wk]) (by simp [runFn, modesOf, argSl, exSs, exS, testOf, toP, evR, evS, evD, evPs, evA, evI, evB, evG, frz, getP, isSet, slotD, itemD, atI, ixN, cmpD, truth, arith, biD, isiD, RD.d, slOf, mutAt, isMut, isL, setAt, appAt, outsOf, argV, sRefs, putBack, reslot, bindT, bindTs, partOf, MI.isNon, sliceD, itemsD, itemsT, isT, setIs, evRs, augD, popOf, wipeable, wipeE, restoreE, wiped, ctx_call, ctx_modes, ctx_glob, ctx_names, ctx_cls, ctx_kws, szOk, lk_eq, mtD, mtK, insC_ins, MI.isObj, isDic, dicAt, dputAt, storeD, lookD, keyD, keysD, insAt, fldAt, fldD, MI.putF, pickK, revD]) (by rw [List.length_map]; omega) (fun x hx => by
      obtain ⟨p, hp', rfl⟩ := List.mem_map.mp hx
      have e := between_runs hb (n := n - 1) (by omega) (i := p) (a := 1) (b := 20)
      rw [decide_eq_true (hd.rg p hp')] at e
      exact ⟨[.val (wk ds), .val (.int p), .un], .old (.bl true), [.val (wk ds), .val (.int p), .un], by simp [runFn, modesOf, argSl, exSs, exS, testOf, toP, evR, evS, evD, evPs, evA, evI, evB, evG, frz, getP, isSet, slotD, itemD, atI, ixN, cmpD, truth, arith, biD, isiD, RD.d, slOf, mutAt, isMut, isL, setAt, appAt, outsOf, argV, sRefs, putBack, reslot, bindT, bindTs, partOf, MI.isNon, sliceD, itemsD, itemsT, isT, setIs, evRs, augD, popOf, wipeable, wipeE, restoreE, wiped, ctx_call, ctx_modes, ctx_glob, ctx_names, ctx_cls, ctx_kws, szOk, lk_eq, mtD, mtK, insC_ins, MI.isObj, isDic, dicAt, dputAt, storeD, lookD, keyD, keysD, insAt, fldAt, fldD, MI.putF, pickK, revD], by simp [runFn, modesOf, argSl, exSs, exS, testOf, toP, evR, evS, evD, evPs, evA, evI, evB, evG, frz, getP, isSet, slotD, itemD, atI, ixN, cmpD, truth, arith, biD, isiD, RD.d, slOf, mutAt, isMut, isL, setAt, appAt, outsOf, argV, sRefs, putBack, reslot, bindT, bindTs, partOf, MI.isNon, sliceD, itemsD, itemsT, isT, setIs, evRs, augD, popOf, wipeable, wipeE, restoreE, wiped, ctx_call, ctx_modes, ctx_glob, ctx_names, ctx_cls, ctx_kws, szOk, lk_eq, mtD, mtK, insC_ins, MI.isObj, isDic, dicAt, dputAt, storeD, lookD, keyD, keysD, insAt, fldAt, fldD, MI.putF, pickK, revD, mb, g1, e], by simp [runFn, modesOf, argSl, exSs, exS, testOf, toP, evR, evS, evD, evPs, evA, evI, evB, evG, frz, getP, isSet, slotD, itemD, atI, ixN, cmpD, truth, arith, biD, isiD, RD.d, slOf, mutAt, isMut, isL, setAt, appAt, outsOf, argV, sRefs, putBack, reslot, bindT, bindTs, partOf, MI.isNon, sliceD, itemsD, itemsT, isT, setIs, evRs, augD, popOf, wipeable, wipeE, restoreE, wiped, ctx_call, ctx_modes, ctx_glob, ctx_names, ctx_cls, ctx_kws, szOk, lk_eq, mtD, mtK, insC_ins, MI.isObj, isDic, dicAt, dputAt, storeD, lookD, keyD, keysD, insAt, fldAt, fldD, MI.putF, pickK, revD], by simp [runFn, modesOf, argSl, exSs, exS, testOf, toP, evR, evS, evD, evPs, evA, evI, evB, evG, frz, getP, isSet, slotD, itemD, atI, ixN, cmpD, truth, arith, biD, isiD, RD.d, slOf, mutAt, isMut, isL, setAt, appAt, outsOf, argV, sRefs, putBack, reslot, bindT, bindTs, partOf, MI.isNon, sliceD, itemsD, itemsT, isT, setIs, evRs, augD, popOf, wipeable, wipeE, restoreE, wiped, ctx_call, ctx_modes, ctx_glob, ctx_names, ctx_cls, ctx_kws, szOk, lk_eq, mtD, mtK, insC_ins, MI.isObj, isDic, dicAt, dputAt, storeD, lookD, keyD, keysD, insAt, fldAt, fldD, MI.putF, pickK, revD], rfl⟩), map_yes, List.length_map]
    simp [runFn, modesOf, argSl, exSs, exS, testOf, toP, evR, evS, evD, evPs, evA, evI, evB, evG, frz, getP, isSet, slotD, itemD, atI, ixN, cmpD, truth, arith, biD, isiD, RD.d, slOf, mutAt, isMut, isL, setAt, appAt, outsOf, argV, sRefs, putBack, reslot, bindT, bindTs, partOf, MI.isNon, sliceD, itemsD, itemsT, isT, setIs, evRs, augD, popOf, wipeable, wipeE, restoreE, wiped, ctx_call, ctx_modes, ctx_glob, ctx_names, ctx_cls, ctx_kws, szOk, lk_eq, mtD, mtK, insC_ins, MI.isObj, isDic, dicAt, dputAt, storeD, lookD, keyD, keysD, insAt, fldAt, fldD, MI.putF, pickK, revD]
  have c2 : evR ((PP C).ctx (n - 1)) C_are_distances_2 [.val (wk ds), .un, .un] = some (.new (.lst (List.replicate (ds.zip (ds.drop 1)).length (.bl true))), [.val (wk ds), .un, .un]) := by
    unfold C_are_distances_2
    rw [lc_map (e1 := [.val (wk ds), .un, .un]) (ds := (ds.zip (ds.drop 1)).map fun p => .tup [.int p.1, .int p.2]) (f := fun _ => .bl true) (by
      have ct : cut (ds.map D.int) (some 1) none = (ds.drop 1).map D.int := by rw [cut_drop (by decide), List.map_drop]; rfl
      have zt : zipD (ds.map D.int) (ds.map D.int).tail = (ds.zip ds.tail).map fun p => .tup [.int p.1, .int p.2] := by rw [← List.map_tail, zipD_map]
      simp [runFn, modesOf, argSl, exSs, exS, testOf, toP, evR, evS, evD, evPs, evA, evI, evB, evG, frz, getP, isSet, slotD, itemD, atI, ixN, cmpD, truth, arith, biD, isiD, RD.d, slOf, mutAt, isMut, isL, setAt, appAt, outsOf, argV, sRefs, putBack, reslot, bindT, bindTs, partOf, MI.isNon, sliceD, itemsD, itemsT, isT, setIs, evRs, augD, popOf, wipeable, wipeE, restoreE, wiped, ctx_call, ctx_modes, ctx_glob, ctx_names, ctx_cls, ctx_kws, szOk, lk_eq, mtD, mtK, insC_ins, MI.isObj, isDic, dicAt, dputAt, storeD, lookD, keyD, keysD, insAt, fldAt, fldD, MI.putF, pickK, revD, wk, ct, zt]) (by simp [runFn, modesOf, argSl, exSs, exS, testOf, toP, evR, evS, evD, evPs, evA, evI, evB, evG, frz, getP, isSet, slotD, itemD, atI, ixN, cmpD, truth, arith, biD, isiD, RD.d, slOf, mutAt, isMut, isL, setAt, appAt, outsOf, argV, sRefs, putBack, reslot, bindT, bindTs, partOf, MI.isNon, sliceD, itemsD, itemsT, isT, setIs, evRs, augD, popOf, wipeable, wipeE, restoreE, wiped, ctx_call, ctx_modes, ctx_glob, ctx_names, ctx_cls, ctx_kws, szOk, lk_eq, mtD, mtK, insC_ins, MI.isObj, isDic, dicAt, dputAt, storeD, lookD, keyD, keysD, insAt, fldAt, fldD, MI.putF, pickK, revD]) (by rw [List.length_map, List.length_zip]; omega) (fun x hx => by
      obtain ⟨p, hp', rfl⟩ := List.mem_map.mp hx
      have e : p.1 < p.2 := by
        obtain ⟨i, hi⟩ := List.getElem?_of_mem hp'
        rw [List.getElem?_zip_eq_some, List.getElem?_drop] at hi
        obtain ⟨i1, q1⟩ := List.getElem?_eq_some_iff.mp hi.1
        obtain ⟨i2, q2⟩ := List.getElem?_eq_some_iff.mp hi.2
        have := List.pairwise_iff_getElem.mp hd.asc i (1 + i) i1 i2 (by omega)
        rw [q1, q2] at this
        exact this
      exact ⟨[.val (wk ds), .val (.int p.1), .val (.int p.2)], .old (.bl true), [.val (wk ds), .val (.int p.1), .val (.int p.2)], by simp [runFn, modesOf, argSl, exSs, exS, testOf, toP, evR, evS, evD, evPs, evA, evI, evB, evG, frz, getP, isSet, slotD, itemD, atI, ixN, cmpD, truth, arith, biD, isiD, RD.d, slOf, mutAt, isMut, isL, setAt, appAt, outsOf, argV, sRefs, putBack, reslot, bindT, bindTs, partOf, MI.isNon, sliceD, itemsD, itemsT, isT, setIs, evRs, augD, popOf, wipeable, wipeE, restoreE, wiped, ctx_call, ctx_modes, ctx_glob, ctx_names, ctx_cls, ctx_kws, szOk, lk_eq, mtD, mtK, insC_ins, MI.isObj, isDic, dicAt, dputAt, storeD, lookD, keyD, keysD, insAt, fldAt, fldD, MI.putF, pickK, revD], by simp [runFn, modesOf, argSl, exSs, exS, testOf, toP, evR, evS, evD, evPs, evA, evI, evB, evG, frz, getP, isSet, slotD, itemD, atI, ixN, cmpD, truth, arith, biD, isiD, RD.d, slOf, mutAt, isMut, isL, setAt, appAt, outsOf, argV, sRefs, putBack, reslot, bindT, bindTs, partOf, MI.isNon, sliceD, itemsD, itemsT, isT, setIs, evRs, augD, popOf, wipeable, wipeE, restoreE, wiped, ctx_call, ctx_modes, ctx_glob, ctx_names, ctx_cls, ctx_kws, szOk, lk_eq, mtD, mtK, insC_ins, MI.isObj, isDic, dicAt, dputAt, storeD, lookD, keyD, keysD, insAt, fldAt, fldD, MI.putF, pickK, revD, e], by simp [runFn, modesOf, argSl, exSs, exS, testOf, toP, evR, evS, evD, evPs, evA, evI, evB, evG, frz, getP, isSet, slotD, itemD, atI, ixN, cmpD, truth, arith, biD, isiD, RD.d, slOf, mutAt, isMut, isL, setAt, appAt, outsOf, argV, sRefs, putBack, reslot, bindT, bindTs, partOf, MI.isNon, sliceD, itemsD, itemsT, isT, setIs, evRs, augD, popOf, wipeable, wipeE, restoreE, wiped, ctx_call, ctx_modes, ctx_glob, ctx_names, ctx_cls, ctx_kws, szOk, lk_eq, mtD, mtK, insC_ins, MI.isObj, isDic, dicAt, dputAt, storeD, lookD, keyD, keysD, insAt, fldAt, fldD, MI.putF, pickK, revD], by simp [runFn, modesOf, argSl, exSs, exS, testOf, toP, evR, evS, evD, evPs, evA, evI, evB, evG, frz, getP, isSet, slotD, itemD, atI, ixN, cmpD, truth, arith, biD, isiD, RD.d, slOf, mutAt, isMut, isL, setAt, appAt, outsOf, argV, sRefs, putBack, reslot, bindT, bindTs, partOf, MI.isNon, sliceD, itemsD, itemsT, isT, setIs, evRs, augD, popOf, wipeable, wipeE, restoreE, wiped, ctx_call, ctx_modes, ctx_glob, ctx_names, ctx_cls, ctx_kws, szOk, lk_eq, mtD, mtK, insC_ins, MI.isObj, isDic, dicAt, dputAt, storeD, lookD, keyD, keysD, insAt, fldAt, fldD, MI.putF, pickK, revD], rfl⟩), map_yes, List.length_map]
    simp [runFn, modesOf, argSl, exSs, exS, testOf, toP, evR, evS, evD, evPs, evA, evI, evB, evG, frz, getP, isSet, slotD, itemD, atI, ixN, cmpD, truth, arith, biD, isiD, RD.d, slOf, mutAt, isMut, isL, setAt, appAt, outsOf, argV, sRefs, putBack, reslot, bindT, bindTs, partOf, MI.isNon, sliceD, itemsD, itemsT, isT, setIs, evRs, augD, popOf, wipeable, wipeE, restoreE, wiped, ctx_call, ctx_modes, ctx_glob, ctx_names, ctx_cls, ctx_kws, szOk, lk_eq, mtD, mtK, insC_ins, MI.isObj, isDic, dicAt, dputAt, storeD, lookD, keyD, keysD, insAt, fldAt, fldD, MI.putF, pickK, revD]
  have few : ¬ (8 : Int) < ((ds.length : Nat) : Int) := by omega
  refine run_rt (env := [.val (wk ds), .un, .un]) (e := [.val (wk ds), .un, .un]) rfl rfl ?_ rfl
  refine sq (e := [.val (wk ds), .un, .un]) (if_no (e := [.val (wk ds), .un, .un]) ?_ sn) (sq (e := [.val (wk ds), .un, .un]) (if_no (e := [.val (wk ds), .un, .un]) ?_ sn) (sr ?_))
  · simp [runFn, modesOf, argSl, exSs, exS, testOf, toP, evR, evS, evD, evPs, evA, evI, evB, evG, frz, getP, isSet, slotD, itemD, atI, ixN, cmpD, truth, arith, biD, isiD, RD.d, slOf, mutAt, isMut, isL, setAt, appAt, outsOf, argV, sRefs, putBack, reslot, bindT, bindTs, partOf, MI.isNon, sliceD, itemsD, itemsT, isT, setIs, evRs, augD, popOf, wipeable, wipeE, restoreE, wiped, ctx_call, ctx_modes, ctx_glob, ctx_names, ctx_cls, ctx_kws, szOk, lk_eq, mtD, mtK, insC_ins, MI.isObj, isDic, dicAt, dputAt, storeD, lookD, keyD, keysD, insAt, fldAt, fldD, MI.putF, pickK, revD, wk, g2, few]
  · simp [runFn, modesOf, argSl, exSs, exS, testOf, toP, evR, evS, evD, evPs, evA, evI, evB, evG, frz, getP, isSet, slotD, itemD, atI, ixN, cmpD, truth, arith, biD, isiD, RD.d, slOf, mutAt, isMut, isL, setAt, appAt, outsOf, argV, sRefs, putBack, reslot, bindT, bindTs, partOf, MI.isNon, sliceD, itemsD, itemsT, isT, setIs, evRs, augD, popOf, wipeable, wipeE, restoreE, wiped, ctx_call, ctx_modes, ctx_glob, ctx_names, ctx_cls, ctx_kws, szOk, lk_eq, mtD, mtK, insC_ins, MI.isObj, isDic, dicAt, dputAt, storeD, lookD, keyD, keysD, insAt, fldAt, fldD, MI.putF, pickK, revD, ↓tp_C_are_distances_1, c1, bools_yes]
  · simp [runFn, modesOf, argSl, exSs, exS, testOf, toP, evR, evS, evD, evPs, evA, evI, evB, evG, frz, getP, isSet, slotD, itemD, atI, ixN, cmpD, truth, arith, biD, isiD, RD.d, slOf, mutAt, isMut, isL, setAt, appAt, outsOf, argV, sRefs, putBack, reslot, bindT, bindTs, partOf, MI.isNon, sliceD, itemsD, itemsT, isT, setIs, evRs, augD, popOf, wipeable, wipeE, restoreE, wiped, ctx_call, ctx_modes, ctx_glob, ctx_names, ctx_cls, ctx_kws, szOk, lk_eq, mtD, mtK, insC_ins, MI.isObj, isDic, dicAt, dputAt, storeD, lookD, keyD, keysD, insAt, fldAt, fldD, MI.putF, pickK, revD, ↓tp_C_are_distances_2, c2, bools_yes]
end K73

namespace K73
open MI L2 PySem SG
variable (C : Nat → Addr)
/-- what work_with gives -/
def res (ds : List Int) : List Int := if ds = [] then [0] else wrk (layD ds)
theorem keys_dk : ∀ M : List (Int × Int), keysI (kM M) = some (kys M)
  | [] => rfl
  | (k, s) :: M => by
    have ih := keys_dk M
    unfold kM kys at ih ⊢
    rw [List.map_cons, keysI, ih]
    rfl
theorem srt_ends {l : List Int} (h0 : l ≠ []) : ∃ S, srtB (fun (a b : Int) => decide (a ≤ b)) l = S ∧ S.length = l.length ∧ S.Perm l ∧ S.Pairwise (· ≤ ·) := by
  refine ⟨_, rfl, (srtB_perm l).length_eq, srtB_perm l, ?_⟩
  have := srtB_sorted (le := fun (a b : Int) => decide (a ≤ b)) (fun a b => by rw [decide_eq_true_eq, decide_eq_true_eq]; omega) (fun a b c h1 h2 => by rw [decide_eq_true_eq] at *; omega) l
  exact this.imp fun h => of_decide_eq_true h
theorem get_nw {M : List (Int × Int)} (t : Int) : (lookD (dkM M) (.int t)).map (fun o => o.getD (.int (-1))) = some (.int (stA M t)) := by
  unfold dkM lookD
  simp only [keyD, Option.map_some, get_dk]
  by_cases c : t ∈ kys M
  · rw [if_pos c]; rfl
  · rw [if_neg c, stA_out c]; rfl
theorem workWith_runs {n : Nat} (hn : 3 ≤ n) {ds : List Int} (hd : Dist ds) : (PP C).calls n "work_with" [.d (wk ds)] = some (.old (wk (res ds)), []) := by
  have h : Hs (PP C) "work_with" F_work_with := ⟨_, rfl⟩
  have m1 : (PP C).modes "are_distances" = some [false] := rfl
  have m2 : (PP C).modes "put" = some [false, false, false] := rfl
  have g1 : (PP C).glob "NOWHERE" = some (.int (-1)) := rfl
  have hl := hd.len
  have e1 := are_runs C (n := n - 1) (by omega) hd
  have L := laid_of hd
  rw [h.eq (by omega)]
  obtain ⟨e', hx, s3, s4, M, rfl, hM⟩ : ∃ e', exS ((PP C).ctx (n - 1)) (PP C).w S_work_with_1 [.val (wk ds), .own (dkM []), .un, .un, .un, .un] = some (.nx e') ∧ ∃ s3 s4 M, e' = [.val (wk ds), .own (dkM M), .un, s3, s4, .un] ∧ M = layD ds := by
    unfold S_work_with_1
    have en := enum_aw ds
    have key := forA (C := (PP C).ctx (n - 1)) (w := (PP C).w) (t := .tp [(.nm 3), (.nm 4)]) (it := .enum (.var 0)) (body := [.asg 1 (.call "put" [(.var 1), (.var 4), (.var 3)])]) (env := [.val (wk ds), .own (dkM []), .un, .un, .un, .un]) (e1 := [.val (wk ds), .own (dkM []), .un, .un, .un, .un]) (xs := List.range ds.length) (inj := fun i : Nat => D.tup [.int i, .int (aw ds i)]) (J := fun i e' => ∃ s3 s4 M, e' = [.val (wk ds), .own (dkM M), .un, s3, s4, .un] ∧ M = layM (ds.take i) [] 0) (by
        generalize dkM [] = X
        simp [runFn, modesOf, argSl, exSs, exS, testOf, toP, evR, evS, evD, evPs, evA, evI, evB, evG, frz, getP, isSet, slotD, itemD, atI, ixN, cmpD, truth, arith, biD, isiD, RD.d, slOf, mutAt, isMut, isL, setAt, appAt, outsOf, argV, sRefs, putBack, reslot, bindT, bindTs, partOf, MI.isNon, sliceD, itemsD, itemsT, isT, setIs, evRs, augD, popOf, wipeable, wipeE, restoreE, wiped, ctx_call, ctx_modes, ctx_glob, ctx_names, ctx_cls, ctx_kws, szOk, lk_eq, mtD, mtK, insC_ins, MI.isObj, isDic, dicAt, dputAt, storeD, lookD, keyD, keysD, insAt, fldAt, fldD, MI.putF, pickK, revD, wk, en]) ⟨_, _, [], rfl, by rw [List.take_zero]; rfl⟩ ?_
    · obtain ⟨e', hx, s3, s4, M, rfl, hM⟩ := key
      rw [List.length_range, List.take_length] at hM
      exact ⟨_, hx, s3, s4, M, rfl, hM⟩
    · rintro x z e hi0 ⟨s3, s4, M, rfl, hM⟩
      obtain ⟨hi, rfl⟩ := range_at hi0
      have hx : ds[x]? = some (aw ds x) := by
        rw [aw_nat, List.getD_eq_getElem?_getD, List.getElem?_eq_getElem hi]
        rfl
      have hxm := hd.rg _ (List.mem_of_getElem? hx)
      have hT : ds.take (x + 1) = ds.take x ++ [aw ds x] := by
        rw [List.take_add_one, hx]
        rfl
      have hML : M.length ≤ 1000 := by
        have := (laid_all (ds.take x) [] [] laid_nil fun d hd' => hd.rg d (List.mem_of_mem_take hd')).len
        rw [List.nil_append, List.length_nil] at this
        rw [hM, this, List.length_take]
        omega
      have ep := put_runs C (n := n - 1) (by omega) hML hxm.1 (x : Int)
      have hN : layM (ds.take (x + 1)) [] 0 = putM M (aw ds x) x := by
        rw [hT, layM_snoc, ← hM, List.length_take, Nat.zero_add, Nat.min_eq_left (by omega)]
      refine ⟨[.val (wk ds), .own (dkM M), .un, .val (.int x), .val (.int (aw ds x)), .un], [.val (wk ds), .own (dkM (putM M (aw ds x) x)), .un, .val (.int x), .val (.int (aw ds x)), .un], ?_, .inl ?_, _, _, _, rfl, hN.symm⟩
      · generalize dkM M = X at *
        simp [runFn, modesOf, argSl, exSs, exS, testOf, toP, evR, evS, evD, evPs, evA, evI, evB, evG, frz, getP, isSet, slotD, itemD, atI, ixN, cmpD, truth, arith, biD, isiD, RD.d, slOf, mutAt, isMut, isL, setAt, appAt, outsOf, argV, sRefs, putBack, reslot, bindT, bindTs, partOf, MI.isNon, sliceD, itemsD, itemsT, isT, setIs, evRs, augD, popOf, wipeable, wipeE, restoreE, wiped, ctx_call, ctx_modes, ctx_glob, ctx_names, ctx_cls, ctx_kws, szOk, lk_eq, mtD, mtK, insC_ins, MI.isObj, isDic, dicAt, dputAt, storeD, lookD, keyD, keysD, insAt, fldAt, fldD, MI.putF, pickK, revD]
      · have ob1 : MI.isObj (dkM M) = true := rfl
        generalize dkM (putM M (aw ds x) x) = Y at *
        generalize dkM M = X at *
        generalize aw ds x = q at *
        simp [exSs, exS, evR, evA, isSet, slotD, frz, RD.d, argV, sRefs, putBack, reslot, slOf, ctx_call, ctx_modes, m2, ep, ob1]
  subst hM
  have s0 : exSs ((PP C).ctx (n - 1)) (PP C).w [.ifs (.nt (.call "are_distances" [(.var 0)])) [.stop] [], .asg 1 (.dnew false), S_work_with_1] [.val (wk ds), .un, .un, .un, .un, .un] = some (.nx [.val (wk ds), .own (dkM (layD ds)), .un, s3, s4, .un]) := by
    refine sq (e := [.val (wk ds), .un, .un, .un, .un, .un]) (if_no (e := [.val (wk ds), .un, .un, .un, .un, .un]) ?_ sn) (sq (e := [.val (wk ds), .own (dkM []), .un, .un, .un, .un]) ?_ (sq hx sn))
    · simp [runFn, modesOf, argSl, exSs, exS, testOf, toP, evR, evS, evD, evPs, evA, evI, evB, evG, frz, getP, isSet, slotD, itemD, atI, ixN, cmpD, truth, arith, biD, isiD, RD.d, slOf, mutAt, isMut, isL, setAt, appAt, outsOf, argV, sRefs, putBack, reslot, bindT, bindTs, partOf, MI.isNon, sliceD, itemsD, itemsT, isT, setIs, evRs, augD, popOf, wipeable, wipeE, restoreE, wiped, ctx_call, ctx_modes, ctx_glob, ctx_names, ctx_cls, ctx_kws, szOk, lk_eq, mtD, mtK, insC_ins, MI.isObj, isDic, dicAt, dputAt, storeD, lookD, keyD, keysD, insAt, fldAt, fldD, MI.putF, pickK, revD, m1, e1]
    · simp [exS, evR, slOf, dkM, kM, vM]
  have app : F_work_with.body = [.ifs (.nt (.call "are_distances" [(.var 0)])) [.stop] [], .asg 1 (.dnew false), S_work_with_1] ++ [.ifs (.eqE (.var 1)) [.ret (.tup [(.cst (.int 0))])] [], .asg 2 (.bi .sorted [(.var 1)]), .ret (.bi .tuple [C_work_with_1])] := rfl
  have l1 := leS (n := 1) (by decide)
  by_cases c : ds = []
  · subst c
    refine run_rt (env := [.val (wk []), .un, .un, .un, .un, .un]) (e := [.val (wk []), .own (dkM (layD [])), .un, s3, s4, .un]) rfl rfl ?_ rfl
    rw [app, exSs_app s0]
    refine sr (if_yes (e := [.val (wk []), .own (dkM (layD [])), .un, s3, s4, .un]) ?_ (sr ?_))
    · simp [testOf, evR, toP, isSet, getP, slotD, emptyD, dkM, kM, layD, layM, RD.d, truth]
    · generalize dkM (layD []) = X at *
      simp [runFn, modesOf, argSl, exSs, exS, testOf, toP, evR, evS, evD, evPs, evA, evI, evB, evG, frz, getP, isSet, slotD, itemD, atI, ixN, cmpD, truth, arith, biD, isiD, RD.d, slOf, mutAt, isMut, isL, setAt, appAt, outsOf, argV, sRefs, putBack, reslot, bindT, bindTs, partOf, MI.isNon, sliceD, itemsD, itemsT, isT, setIs, evRs, augD, popOf, wipeable, wipeE, restoreE, wiped, ctx_call, ctx_modes, ctx_glob, ctx_names, ctx_cls, ctx_kws, szOk, lk_eq, mtD, mtK, insC_ins, MI.isObj, isDic, dicAt, dputAt, storeD, lookD, keyD, keysD, insAt, fldAt, fldD, MI.putF, pickK, revD, res, wk, l1]
  · obtain ⟨t1, t2, t3, t4⟩ := top_in L c
    generalize hM : layD ds = M at *
    have hk0 : kys M ≠ [] := fun z => by rw [z] at t1; cases t1
    have hkl : (kys M).length ≤ 16 := by
      unfold kys
      rw [List.length_map, L.len]
      omega
    obtain ⟨S, hS, hSl, hSp, hSa⟩ := srt_ends hk0
    have hsl : 0 < S.length := by rw [hSl]; exact List.length_pos_iff.mpr hk0
    have sme : ∀ t : Nat, t < S.length → aw S t ∈ kys M := fun t ht => by
      rw [aw_nat, List.getD_eq_getElem?_getD, List.getElem?_eq_getElem ht]
      exact hSp.mem_iff.mp (List.getElem_mem ht)
    have f0 : aw S 0 = 0 := by
      have h0 := (t2 _ (sme 0 hsl)).1
      obtain ⟨i, hi⟩ := List.getElem?_of_mem (hSp.mem_iff.mpr (L.zero c))
      obtain ⟨i1, q1⟩ := List.getElem?_eq_some_iff.mp hi
      have hz : S[0]'hsl ≤ 0 := by
        by_cases e : i = 0
        · subst e; omega
        · have := List.pairwise_iff_getElem.mp hSa 0 i hsl i1 (by omega)
          omega
      have : aw S 0 = S[0]'hsl := by rw [aw_0, List.getD_eq_getElem?_getD, List.getElem?_eq_getElem hsl]; rfl
      have h0' : 0 ≤ aw S 0 := h0
      omega
    have f1 : aw S (S.length - 1) = top M := by
      have hlast : S.length - 1 < S.length := by omega
      have e0 : ((S.length : Int) - 1) = ((S.length - 1 : Nat) : Int) := by omega
      have h0 := (t2 _ (sme (S.length - 1) hlast)).2
      obtain ⟨i, hi⟩ := List.getElem?_of_mem (hSp.mem_iff.mpr t1)
      obtain ⟨i1, q1⟩ := List.getElem?_eq_some_iff.mp hi
      have hz : top M ≤ S[S.length - 1]'hlast := by
        by_cases e : i = S.length - 1
        · subst e; omega
        · have := List.pairwise_iff_getElem.mp hSa i (S.length - 1) i1 hlast (by omega)
          omega
      have : aw S ((S.length - 1 : Nat) : Int) = S[S.length - 1]'hlast := by rw [aw_nat, List.getD_eq_getElem?_getD, List.getElem?_eq_getElem hlast]; rfl
      rw [e0]
      omega
    have a0 := atI_aw (a := S) (t := 0) (by omega) (by omega)
    have a1 := atI_awl (a := S) hsl
    rw [f0] at a0
    rw [f1] at a1
    have hsort : biD .sorted [dkM M] = some (.new (.lst (S.map .int))) := by
      show (keysI (kM M)).bind _ = _
      rw [keys_dk, Option.bind_some, if_pos (by omega), hS]
    have er := rng_ab (a := 0) (b := top M + 1) (by omega) (by omega) (by omega) (by omega)
    rw [rgD_eq] at er
    have hemp : emptyD (dkM M) = some false := by
      unfold dkM emptyD kM
      cases M with
      | nil => exact absurd rfl hk0
      | cons _ _ => rfl
    have lc : evR ((PP C).ctx (n - 1)) C_work_with_1 [.val (wk ds), .own (dkM M), .own (.lst (S.map .int)), s3, s4, .un] = some (.new (.lst ((rgI 0 (top M + 1)).map fun t => D.int (stA M t))), [.val (wk ds), .own (dkM M), .own (.lst (S.map .int)), s3, s4, .un]) := by
      unfold C_work_with_1
      have gn := fun t => get_nw (M := M) t
      have isd : isDic (dkM M) = true := rfl
      rw [lcA (xs := rgI 0 (top M + 1)) (inj := D.int) (g := fun t => D.int (stA M t)) (e1 := [.val (wk ds), .own (dkM M), .own (.lst (S.map .int)), s3, s4, .un]) (by
        generalize dkM M = X at *
        simp [runFn, modesOf, argSl, exSs, exS, testOf, toP, evR, evS, evD, evPs, evA, evI, evB, evG, frz, getP, isSet, slotD, itemD, cmpD, truth, arith, biD, isiD, RD.d, slOf, mutAt, isMut, isL, setAt, appAt, outsOf, argV, sRefs, putBack, reslot, bindT, bindTs, partOf, MI.isNon, sliceD, itemsD, itemsT, isT, setIs, evRs, augD, popOf, wipeable, wipeE, restoreE, wiped, ctx_call, ctx_modes, ctx_glob, ctx_names, ctx_cls, ctx_kws, szOk, lk_eq, mtD, mtK, insC_ins, MI.isObj, isDic, dicAt, dputAt, storeD, lookD, keyD, keysD, insAt, fldAt, fldD, MI.putF, pickK, revD, a0, a1, er]) (by
        generalize dkM M = X at *
        simp [runFn, modesOf, argSl, exSs, exS, testOf, toP, evR, evS, evD, evPs, evA, evI, evB, evG, frz, getP, isSet, slotD, itemD, atI, ixN, cmpD, truth, arith, biD, isiD, RD.d, slOf, mutAt, isMut, isL, setAt, appAt, outsOf, argV, sRefs, putBack, reslot, bindT, bindTs, partOf, MI.isNon, sliceD, itemsD, itemsT, isT, setIs, evRs, augD, popOf, wipeable, wipeE, restoreE, wiped, ctx_call, ctx_modes, ctx_glob, ctx_names, ctx_cls, ctx_kws, szOk, lk_eq, mtD, mtK, insC_ins, MI.isObj, isDic, dicAt, dputAt, storeD, lookD, keyD, keysD, insAt, fldAt, fldD, MI.putF, pickK, revD]) (by rw [rgI_len]; omega) (fun t ht => ⟨[.val (wk ds), .own (dkM M), .own (.lst (S.map .int)), s3, s4, .val (.int t)], .old (.int (stA M t)), [.val (wk ds), .own (dkM M), .own (.lst (S.map .int)), s3, s4, .val (.int t)], by
          generalize dkM M = X at *
          simp [runFn, modesOf, argSl, exSs, exS, testOf, toP, evR, evS, evD, evPs, evA, evI, evB, evG, frz, getP, isSet, slotD, itemD, atI, ixN, cmpD, truth, arith, biD, isiD, RD.d, slOf, mutAt, isMut, isL, setAt, appAt, outsOf, argV, sRefs, putBack, reslot, bindT, bindTs, partOf, MI.isNon, sliceD, itemsD, itemsT, isT, setIs, evRs, augD, popOf, wipeable, wipeE, restoreE, wiped, ctx_call, ctx_modes, ctx_glob, ctx_names, ctx_cls, ctx_kws, szOk, lk_eq, mtD, mtK, insC_ins, MI.isObj, isDic, dicAt, dputAt, storeD, lookD, keyD, keysD, insAt, fldAt, fldD, MI.putF, pickK, revD], by
          have g := gn t
          obtain ⟨o, o1, o2⟩ := Option.map_eq_some_iff.mp g
          generalize dkM M = X at *
          simp [evR, toP, isSet, getP, slotD, frz, RD.d, isd, ctx_glob, g1, o1, o2], by
          generalize dkM M = X at *
          simp [runFn, modesOf, argSl, exSs, exS, testOf, toP, evR, evS, evD, evPs, evA, evI, evB, evG, frz, getP, isSet, slotD, itemD, atI, ixN, cmpD, truth, arith, biD, isiD, RD.d, slOf, mutAt, isMut, isL, setAt, appAt, outsOf, argV, sRefs, putBack, reslot, bindT, bindTs, partOf, MI.isNon, sliceD, itemsD, itemsT, isT, setIs, evRs, augD, popOf, wipeable, wipeE, restoreE, wiped, ctx_call, ctx_modes, ctx_glob, ctx_names, ctx_cls, ctx_kws, szOk, lk_eq, mtD, mtK, insC_ins, MI.isObj, isDic, dicAt, dputAt, storeD, lookD, keyD, keysD, insAt, fldAt, fldD, MI.putF, pickK, revD], by
          generalize dkM M = X at *
          simp [runFn, modesOf, argSl, exSs, exS, testOf, toP, evR, evS, evD, evPs, evA, evI, evB, evG, frz, getP, isSet, slotD, itemD, atI, ixN, cmpD, truth, arith, biD, isiD, RD.d, slOf, mutAt, isMut, isL, setAt, appAt, outsOf, argV, sRefs, putBack, reslot, bindT, bindTs, partOf, MI.isNon, sliceD, itemsD, itemsT, isT, setIs, evRs, augD, popOf, wipeable, wipeE, restoreE, wiped, ctx_call, ctx_modes, ctx_glob, ctx_names, ctx_cls, ctx_kws, szOk, lk_eq, mtD, mtK, insC_ins, MI.isObj, isDic, dicAt, dputAt, storeD, lookD, keyD, keysD, insAt, fldAt, fldD, MI.putF, pickK, revD], rfl⟩)]
      generalize dkM M = X at *
      simp [runFn, modesOf, argSl, exSs, exS, testOf, toP, evR, evS, evD, evPs, evA, evI, evB, evG, frz, getP, isSet, slotD, itemD, atI, ixN, cmpD, truth, arith, biD, isiD, RD.d, slOf, mutAt, isMut, isL, setAt, appAt, outsOf, argV, sRefs, putBack, reslot, bindT, bindTs, partOf, MI.isNon, sliceD, itemsD, itemsT, isT, setIs, evRs, augD, popOf, wipeable, wipeE, restoreE, wiped, ctx_call, ctx_modes, ctx_glob, ctx_names, ctx_cls, ctx_kws, szOk, lk_eq, mtD, mtK, insC_ins, MI.isObj, isDic, dicAt, dputAt, storeD, lookD, keyD, keysD, insAt, fldAt, fldD, MI.putF, pickK, revD]
    have hW : (rgI 0 (top M + 1)).map (fun t => D.int (stA M t)) = (wrk M).map D.int := by
      unfold wrk
      rw [List.map_map]
      rfl
    rw [hW] at lc
    have hres : res ds = wrk M := by unfold res; rw [if_neg c, hM]
    rw [hres]
    refine run_rt (env := [.val (wk ds), .un, .un, .un, .un, .un]) (e := [.val (wk ds), .own (dkM M), .own (.lst (S.map .int)), s3, s4, .un]) rfl rfl ?_ rfl
    rw [app, exSs_app s0]
    refine sq (e := [.val (wk ds), .own (dkM M), .un, s3, s4, .un]) (if_no (e := [.val (wk ds), .own (dkM M), .un, s3, s4, .un]) ?_ sn) (sq (e := [.val (wk ds), .own (dkM M), .own (.lst (S.map .int)), s3, s4, .un]) ?_ (sr ?_))
    · generalize dkM M = X at *
      simp [testOf, evR, toP, isSet, getP, slotD, hemp, RD.d, truth]
    · generalize dkM M = X at *
      simp [exS, evR, evPs, evG, toP, isSet, getP, slotD, hsort, RD.d, slOf]
    · have hwk : wk (wrk M) = .tup ((wrk M).map D.int) := rfl
      rw [hwk]
      generalize dkM M = X at *
      generalize (wrk M).map D.int = Y at *
      simp [exS, evR, evPs, evG, ↓tp_C_work_with_1, lc, getP, biD, RD.d]
theorem res_work {ds : List Int} (hd : Dist ds) : IsWork (res ds) := by
  unfold res
  split
  · exact ⟨by decide, by decide, fun i hi => by rw [List.mem_singleton.mp hi]; decide, by decide, by decide⟩
  · rename_i c
    exact wrk_work hd (laid_of hd) c
theorem res_bars {ds : List Int} (hd : Dist ds) : (rgI 1 (res ds).length).filter (fun d => !(meetL (res ds) (res ds) d).isEmpty) = ds := by
  unfold res
  split
  · rename_i c
    subst c
    rfl
  · rename_i c
    exact bars_wrk hd (laid_of hd) c
theorem job_runs {n : Nat} (hn : 1 ≤ n) {a : List Int} (ha : IsWork a) : (PP C).calls n "_law_is_job" [.d (wk a)] = some (.old (.bl true), []) := by
  have h : Hs (PP C) "_law_is_job" F_law_is_job := ⟨_, rfl⟩
  rw [h.eq hn]
  have l0 := ha.len0
  have l1 := ha.len1
  have l0' : (1 : Int) ≤ ((a.length : Nat) : Int) := by omega
  have l1' : ((a.length : Nat) : Int) ≤ 60 := by omega
  obtain ⟨e', hx, s1, rfl⟩ : ∃ e', exS ((PP C).ctx (n - 1)) (PP C).w S_law_is_job_1 [.val (wk a), .un] = some (.nx e') ∧ ∃ s1, e' = [.val (wk a), s1] := by
    unfold S_law_is_job_1
    refine for_inv (e1 := [.val (wk a), .un]) (ds := a.map .int) (J := fun _ e' => ∃ s1, e' = [.val (wk a), s1]) (by simp [runFn, modesOf, argSl, exSs, exS, testOf, toP, evR, evS, evD, evPs, evA, evI, evB, evG, frz, getP, isSet, slotD, itemD, atI, ixN, cmpD, truth, arith, biD, isiD, RD.d, slOf, mutAt, isMut, isL, setAt, appAt, outsOf, argV, sRefs, putBack, reslot, bindT, bindTs, partOf, MI.isNon, sliceD, itemsD, itemsT, isT, setIs, evRs, augD, popOf, wipeable, wipeE, restoreE, wiped, ctx_call, ctx_modes, ctx_glob, ctx_names, ctx_cls, ctx_kws, szOk, lk_eq, mtD, mtK, insC_ins, MI.isObj, isDic, dicAt, dputAt, storeD, lookD, keyD, keysD, insAt, fldAt, fldD, MI.putF, pickK, revD, wk]) ⟨_, rfl⟩ ?_
    rintro i d e hdd ⟨s1, rfl⟩
    rw [List.getElem?_map] at hdd
    obtain ⟨x, hx, rfl⟩ := Option.map_eq_some_iff.mp hdd
    have := ha.all x (List.mem_of_getElem? hx)
    have a1 := this.1
    have a2 := this.2
    exact ⟨[.val (wk a), .val (.int x)], [.val (wk a), .val (.int x)], by simp [runFn, modesOf, argSl, exSs, exS, testOf, toP, evR, evS, evD, evPs, evA, evI, evB, evG, frz, getP, isSet, slotD, itemD, atI, ixN, cmpD, truth, arith, biD, isiD, RD.d, slOf, mutAt, isMut, isL, setAt, appAt, outsOf, argV, sRefs, putBack, reslot, bindT, bindTs, partOf, MI.isNon, sliceD, itemsD, itemsT, isT, setIs, evRs, augD, popOf, wipeable, wipeE, restoreE, wiped, ctx_call, ctx_modes, ctx_glob, ctx_names, ctx_cls, ctx_kws, szOk, lk_eq, mtD, mtK, insC_ins, MI.isObj, isDic, dicAt, dputAt, storeD, lookD, keyD, keysD, insAt, fldAt, fldD, MI.putF, pickK, revD], .inl (sq (e := [.val (wk a), .val (.int x)]) (if_no (e := [.val (wk a), .val (.int x)]) (by simp [runFn, modesOf, argSl, exSs, exS, testOf, toP, evR, evS, evD, evPs, evA, evI, evB, evG, frz, getP, isSet, slotD, itemD, atI, ixN, cmpD, truth, arith, biD, isiD, RD.d, slOf, mutAt, isMut, isL, setAt, appAt, outsOf, argV, sRefs, putBack, reslot, bindT, bindTs, partOf, MI.isNon, sliceD, itemsD, itemsT, isT, setIs, evRs, augD, popOf, wipeable, wipeE, restoreE, wiped, ctx_call, ctx_modes, ctx_glob, ctx_names, ctx_cls, ctx_kws, szOk, lk_eq, mtD, mtK, insC_ins, MI.isObj, isDic, dicAt, dputAt, storeD, lookD, keyD, keysD, insAt, fldAt, fldD, MI.putF, pickK, revD, a1, a2]) sn) sn), _, rfl⟩
  have i0 := atI_aw (a := a) (t := 0) (by omega) (by omega)
  have i1 := atI_awl (a := a) (by omega)
  have f0 := ha.first
  have f1 := ha.last
  refine run_rt (env := [.val (wk a), .un]) (e := [.val (wk a), s1]) rfl rfl (sq (e := [.val (wk a), .un]) (if_no (e := [.val (wk a), .un]) ?_ sn) (sq hx (sr ?_))) rfl
  · simp [runFn, modesOf, argSl, exSs, exS, testOf, toP, evR, evS, evD, evPs, evA, evI, evB, evG, frz, getP, isSet, slotD, itemD, atI, ixN, cmpD, truth, arith, biD, isiD, RD.d, slOf, mutAt, isMut, isL, setAt, appAt, outsOf, argV, sRefs, putBack, reslot, bindT, bindTs, partOf, MI.isNon, sliceD, itemsD, itemsT, isT, setIs, evRs, augD, popOf, wipeable, wipeE, restoreE, wiped, ctx_call, ctx_modes, ctx_glob, ctx_names, ctx_cls, ctx_kws, szOk, lk_eq, mtD, mtK, insC_ins, MI.isObj, isDic, dicAt, dputAt, storeD, lookD, keyD, keysD, insAt, fldAt, fldD, MI.putF, pickK, revD, wk, l0', l1']
  · simp [runFn, modesOf, argSl, exSs, exS, testOf, toP, evR, evS, evD, evPs, evA, evI, evB, evG, frz, getP, isSet, slotD, itemD, cmpD, truth, arith, biD, isiD, RD.d, slOf, mutAt, isMut, isL, setAt, appAt, outsOf, argV, sRefs, putBack, reslot, bindT, bindTs, partOf, MI.isNon, sliceD, itemsD, itemsT, isT, setIs, evRs, augD, popOf, wipeable, wipeE, restoreE, wiped, ctx_call, ctx_modes, ctx_glob, ctx_names, ctx_cls, ctx_kws, szOk, lk_eq, mtD, mtK, insC_ins, MI.isObj, isDic, dicAt, dputAt, storeD, lookD, keyD, keysD, insAt, fldAt, fldD, MI.putF, pickK, revD, wk, i0, i1, f0, f1]
theorem lbars_runs {n : Nat} (hn : 2 ≤ n) (a : List Int) (hl : a.length ≤ 60) : (PP C).calls n "_law_bars" [.d (wk a), .d (wk a)] = some (.new (.lst (((rgI 1 a.length).filter fun d => !(meetL a a d).isEmpty).map .int)), []) := by
  have h : Hs (PP C) "_law_bars" F_law_bars := ⟨_, rfl⟩
  have hm : Hs (PP C) "_law_meet" SG.F_law_meet := ⟨_, rfl⟩
  have m1 : (PP C).modes "_law_meet" = some [false, false, false] := rfl
  rw [h.eq (by omega)]
  have er := rng_ab (a := 1) (b := (a.length : Int)) (by omega) (by omega) (by omega) (by omega)
  rw [rgD_eq] at er
  have lc : evR ((PP C).ctx (n - 1)) C_law_bars_1 [.val (wk a), .val (wk a), .un] = some (.new (.lst (((rgI 1 a.length).filter fun d => !(meetL a a d).isEmpty).map .int)), [.val (wk a), .val (wk a), .un]) := by
    unfold C_law_bars_1
    have i1 : biD .len [wk a] = some (.old (.int a.length)) := by simp [biD, wk]
    rw [lcF (xs := rgI 1 a.length) (inj := D.int) (g := D.int) (p := fun d => !(meetL a a d).isEmpty) (e1 := [.val (wk a), .val (wk a), .un]) (by
      generalize wk a = W at *
      simp [evI, evD, evR, evPs, evG, toP, isSet, getP, slotD, frz, RD.d, i1, er]) (by simp [runFn, modesOf, argSl, exSs, exS, testOf, toP, evR, evS, evD, evPs, evA, evI, evB, evG, frz, getP, isSet, slotD, itemD, atI, ixN, cmpD, truth, arith, biD, isiD, RD.d, slOf, mutAt, isMut, isL, setAt, appAt, outsOf, argV, sRefs, putBack, reslot, bindT, bindTs, partOf, MI.isNon, sliceD, itemsD, itemsT, isT, setIs, evRs, augD, popOf, wipeable, wipeE, restoreE, wiped, ctx_call, ctx_modes, ctx_glob, ctx_names, ctx_cls, ctx_kws, szOk, lk_eq, mtD, mtK, insC_ins, MI.isObj, isDic, dicAt, dputAt, storeD, lookD, keyD, keysD, insAt, fldAt, fldD, MI.putF, pickK, revD]) (by rw [rgI_len]; omega) (fun d hd => ⟨[.val (wk a), .val (wk a), .val (.int d)], by simp [runFn, modesOf, argSl, exSs, exS, testOf, toP, evR, evS, evD, evPs, evA, evI, evB, evG, frz, getP, isSet, slotD, itemD, atI, ixN, cmpD, truth, arith, biD, isiD, RD.d, slOf, mutAt, isMut, isL, setAt, appAt, outsOf, argV, sRefs, putBack, reslot, bindT, bindTs, partOf, MI.isNon, sliceD, itemsD, itemsT, isT, setIs, evRs, augD, popOf, wipeable, wipeE, restoreE, wiped, ctx_call, ctx_modes, ctx_glob, ctx_names, ctx_cls, ctx_kws, szOk, lk_eq, mtD, mtK, insC_ins, MI.isObj, isDic, dicAt, dputAt, storeD, lookD, keyD, keysD, insAt, fldAt, fldD, MI.putF, pickK, revD], by
        have e := meet65_runs hm (n := n - 1) (by omega) a a d
        generalize (!(meetL a a d).isEmpty) = b at *
        generalize wk a = W at *
        simp [testOf, evR, evA, toP, isSet, getP, slotD, frz, RD.d, truth, argV, sRefs, putBack, ctx_call, ctx_modes, m1, e], fun _ => ⟨.old (.int d), by simp [runFn, modesOf, argSl, exSs, exS, testOf, toP, evR, evS, evD, evPs, evA, evI, evB, evG, frz, getP, isSet, slotD, itemD, atI, ixN, cmpD, truth, arith, biD, isiD, RD.d, slOf, mutAt, isMut, isL, setAt, appAt, outsOf, argV, sRefs, putBack, reslot, bindT, bindTs, partOf, MI.isNon, sliceD, itemsD, itemsT, isT, setIs, evRs, augD, popOf, wipeable, wipeE, restoreE, wiped, ctx_call, ctx_modes, ctx_glob, ctx_names, ctx_cls, ctx_kws, szOk, lk_eq, mtD, mtK, insC_ins, MI.isObj, isDic, dicAt, dputAt, storeD, lookD, keyD, keysD, insAt, fldAt, fldD, MI.putF, pickK, revD], rfl⟩, by simp [runFn, modesOf, argSl, exSs, exS, testOf, toP, evR, evS, evD, evPs, evA, evI, evB, evG, frz, getP, isSet, slotD, itemD, atI, ixN, cmpD, truth, arith, biD, isiD, RD.d, slOf, mutAt, isMut, isL, setAt, appAt, outsOf, argV, sRefs, putBack, reslot, bindT, bindTs, partOf, MI.isNon, sliceD, itemsD, itemsT, isT, setIs, evRs, augD, popOf, wipeable, wipeE, restoreE, wiped, ctx_call, ctx_modes, ctx_glob, ctx_names, ctx_cls, ctx_kws, szOk, lk_eq, mtD, mtK, insC_ins, MI.isObj, isDic, dicAt, dputAt, storeD, lookD, keyD, keysD, insAt, fldAt, fldD, MI.putF, pickK, revD], by simp [runFn, modesOf, argSl, exSs, exS, testOf, toP, evR, evS, evD, evPs, evA, evI, evB, evG, frz, getP, isSet, slotD, itemD, atI, ixN, cmpD, truth, arith, biD, isiD, RD.d, slOf, mutAt, isMut, isL, setAt, appAt, outsOf, argV, sRefs, putBack, reslot, bindT, bindTs, partOf, MI.isNon, sliceD, itemsD, itemsT, isT, setIs, evRs, augD, popOf, wipeable, wipeE, restoreE, wiped, ctx_call, ctx_modes, ctx_glob, ctx_names, ctx_cls, ctx_kws, szOk, lk_eq, mtD, mtK, insC_ins, MI.isObj, isDic, dicAt, dputAt, storeD, lookD, keyD, keysD, insAt, fldAt, fldD, MI.putF, pickK, revD]⟩)]
    simp [runFn, modesOf, argSl, exSs, exS, testOf, toP, evR, evS, evD, evPs, evA, evI, evB, evG, frz, getP, isSet, slotD, itemD, atI, ixN, cmpD, truth, arith, biD, isiD, RD.d, slOf, mutAt, isMut, isL, setAt, appAt, outsOf, argV, sRefs, putBack, reslot, bindT, bindTs, partOf, MI.isNon, sliceD, itemsD, itemsT, isT, setIs, evRs, augD, popOf, wipeable, wipeE, restoreE, wiped, ctx_call, ctx_modes, ctx_glob, ctx_names, ctx_cls, ctx_kws, szOk, lk_eq, mtD, mtK, insC_ins, MI.isObj, isDic, dicAt, dputAt, storeD, lookD, keyD, keysD, insAt, fldAt, fldD, MI.putF, pickK, revD]
  refine run_rt (env := [.val (wk a), .val (wk a), .un]) (e := [.val (wk a), .val (wk a), .un]) rfl rfl (sr (ret_of lc fun i z => by cases z)) rfl
theorem repr_ds {a : List Int} (h : ∀ i ∈ a, i.natAbs < 10 ^ 12) (hl : a.length ≤ 1000) : ∃ s, reprD (wk a) = some s := by
  refine ⟨_, repr_big (shC_wk 39 h) ?_⟩
  have := lenC_wk a
  omega
theorem right_runs {n : Nat} (hn : 4 ≤ n) {ds : List Int} (hd : Dist ds) : (PP C).calls n "_law_right" [.d (wk ds)] = some (.old (.bl true), []) := by
  have h : Hs (PP C) "_law_right" F_law_right := ⟨_, rfl⟩
  have m1 : (PP C).modes "work_with" = some [false] := rfl
  have m2 : (PP C).modes "_law_is_job" = some [false] := rfl
  have m3 : (PP C).modes "_law_same" = some [false, false] := rfl
  have m4 : (PP C).modes "_law_bars" = some [false, false] := rfl
  have hl := hd.len
  have small : ∀ i ∈ ds, i.natAbs < 10 ^ 12 := fun i hi => by have := hd.rg i hi; omega
  obtain ⟨s, hs⟩ := repr_ds small (by omega)
  have wr := res_work hd
  have wl := wr.len1
  have e1 := workWith_runs C (n := n - 1) (by omega) hd
  have e2 := job_runs C (n := n - 1) (by omega) wr
  have e3 := same_big (P := PP C) ⟨_, rfl⟩ (n := n - 1) (by omega) (d := wk (res ds)) (shC_wk 39 fun i hi => by have := wr.all i hi; omega) (by have := lenC_wk (res ds); omega)
  have e4 := same_big (P := PP C) ⟨_, rfl⟩ (n := n - 1) (by omega) (d := wk ds) (shC_wk 39 small) (by have := lenC_wk ds; omega)
  have e5 := lbars_runs C (n := n - 1) (by omega) (res ds) wl
  rw [res_bars hd] at e5
  have q1 : cmpD .NotEq (.str s) (.str s) = some false := by simp [cmpD]
  have tp : biD .tuple [.lst (ds.map .int)] = some (.old (wk ds)) := rfl
  rw [h.eq (by omega)]
  generalize wk (res ds) = W at *
  generalize wk ds = D0 at *
  generalize ds.map D.int = L0 at *
  refine run_rt (env := [.val D0, .un, .un]) (e := [.val D0, .val (.str s), .val W]) rfl rfl (sq (e := [.val D0, .val (.str s), .val W]) ?_ (sq (e := [.val D0, .val (.str s), .val W]) (if_no (e := [.val D0, .val (.str s), .val W]) ?_ sn) (sr ?_))) rfl
  · simp [runFn, modesOf, argSl, exSs, exS, testOf, toP, evR, evS, evD, evPs, evA, evI, evB, evG, frz, getP, isSet, slotD, itemD, atI, ixN, cmpD, truth, arith, biD, isiD, RD.d, slOf, mutAt, isMut, isL, setAt, appAt, outsOf, argV, sRefs, putBack, reslot, bindT, bindTs, partOf, MI.isNon, sliceD, itemsD, itemsT, isT, setIs, evRs, augD, popOf, wipeable, wipeE, restoreE, wiped, ctx_call, ctx_modes, ctx_glob, ctx_names, ctx_cls, ctx_kws, szOk, lk_eq, mtD, mtK, insC_ins, MI.isObj, isDic, dicAt, dputAt, storeD, lookD, keyD, keysD, insAt, fldAt, fldD, MI.putF, pickK, revD, m1, e1, hs]
  · simp [runFn, modesOf, argSl, exSs, exS, testOf, toP, evR, evS, evD, evPs, evA, evI, evB, evG, frz, getP, isSet, slotD, itemD, atI, ixN, cmpD, truth, arith, biD, isiD, RD.d, slOf, mutAt, isMut, isL, setAt, appAt, outsOf, argV, sRefs, putBack, reslot, bindT, bindTs, partOf, MI.isNon, sliceD, itemsD, itemsT, isT, setIs, evRs, augD, popOf, wipeable, wipeE, restoreE, wiped, ctx_call, ctx_modes, ctx_glob, ctx_names, ctx_cls, ctx_kws, szOk, lk_eq, mtD, mtK, insC_ins, MI.isObj, isDic, dicAt, dputAt, storeD, lookD, keyD, keysD, insAt, fldAt, fldD, MI.putF, pickK, revD, m1, m2, m3, e1, e2, e3, hs, q1]
  · simp [exS, evR, evA, evPs, evG, toP, isSet, getP, slotD, frz, RD.d, argV, sRefs, putBack, ctx_call, ctx_modes, m3, m4, e5, e4, tp]
end K73

namespace K73
open MI L2 PySem SG
variable (C : Nat → Addr)
theorem hdraw : Hs (PP C) "_law_draw" SG.F_law_draw := ⟨_, rfl⟩
theorem dist_snoc {ds : List Int} (h : Dist ds) {d : Int} (h8 : ds.length < 8) (d1 : 1 ≤ d) (d2 : d ≤ 20) (hl : ∀ x ∈ ds, x < d) : Dist (ds ++ [d]) := by
  refine ⟨by rw [List.length_append, List.length_singleton]; omega, fun x hx => ?_, ?_⟩
  · rcases List.mem_append.mp hx with z | z
    · exact h.rg x z
    · rw [List.mem_singleton.mp z]; omega
  · rw [List.pairwise_append]
    refine ⟨h.asc, List.pairwise_singleton _ _, fun a ha b hb => ?_⟩
    rw [List.mem_singleton.mp hb]
    exact hl a ha
theorem dist_nil : Dist [] := ⟨by decide, fun d h => (by cases h), .nil⟩
theorem dist_one {d : Int} (d1 : 1 ≤ d) (d2 : d ≤ 20) : Dist [d] := dist_snoc dist_nil (by decide) d1 d2 fun x h => (by cases h)
theorem dist_rg {a b : Int} (ha : 1 ≤ a) (hb : b ≤ 21) (hl : b - a ≤ 8) : Dist (rgI a b) := by
  refine ⟨by rw [rgI_len]; omega, fun d hd => ?_, ?_⟩
  · have := rgI_mem.mp hd
    omega
  · unfold rgI
    rw [List.pairwise_map]
    exact List.pairwise_lt_range.imp fun h => by omega
def mir (ds : List Int) : List Int := ds.reverse.map fun d => 21 - d
theorem dist_mir {ds : List Int} (h : Dist ds) : Dist (mir ds) := by
  unfold mir
  refine ⟨by simp; exact h.len, fun d hd => ?_, ?_⟩
  · obtain ⟨x, hx, rfl⟩ := List.mem_map.mp hd
    have := h.rg x (List.mem_reverse.mp hx)
    omega
  · rw [List.pairwise_map, List.pairwise_reverse]
    exact h.asc.imp fun h => by omega
theorem some_runs {n : Nat} (hn : 2 ≤ n) {xs : D} (px : SG.isPen xs) {m : Int} (m0 : 4 ≤ m) (m1 : m ≤ 20) : ∃ ds xs', (PP C).calls n "_law_some" [.b xs, .d (.int m)] = some (.old (wk ds), [xs']) ∧ SG.isPen xs' ∧ Dist ds := by
  have h : Hs (PP C) "_law_some" F_law_some := ⟨_, rfl⟩
  have md : (PP C).modes "_law_draw" = some [true, false] := rfl
  rw [h.eq (by omega)]
  have l0 := leS (n := 0) (by decide)
  have er := rng_ab (a := 1) (b := 1 + m) (by omega) (by omega) (by omega) (by omega)
  rw [rgD_eq] at er
  obtain ⟨e', hx, y, s3, ds, rfl, py, hd, _⟩ : ∃ e', exS ((PP C).ctx (n - 1)) (PP C).w S_law_some_1 [.bor xs, .val (.int m), .own (.lst (([] : List Int).map .int)), .un] = some (.nx e') ∧ ∃ y s3 ds, e' = [.bor y, .val (.int m), .own (.lst (ds.map .int)), s3] ∧ SG.isPen y ∧ Dist ds ∧ ∀ d ∈ ds, d ≤ (rgI 1 (1 + m)).length := by
    unfold S_law_some_1
    have hev : evI ((PP C).ctx (n - 1)) (.rng [(.cst (.int 1)), (.bin .Add (.cst (.int 1)) (.var 1))]) [.bor xs, .val (.int m), .own (.lst (([] : List Int).map .int)), .un] = some ((rgI 1 (1 + m)).map D.int, [.bor xs, .val (.int m), .own (.lst (([] : List Int).map .int)), .un]) := by
      generalize rgI 1 (1 + m) = R at *
      simp [runFn, modesOf, argSl, exSs, exS, testOf, toP, evR, evS, evD, evPs, evA, evI, evB, evG, frz, getP, isSet, slotD, itemD, atI, ixN, cmpD, truth, arith, biD, isiD, RD.d, slOf, mutAt, isMut, isL, setAt, appAt, outsOf, argV, sRefs, putBack, reslot, bindT, bindTs, partOf, MI.isNon, sliceD, itemsD, itemsT, isT, setIs, evRs, augD, popOf, wipeable, wipeE, restoreE, wiped, ctx_call, ctx_modes, ctx_glob, ctx_names, ctx_cls, ctx_kws, szOk, lk_eq, mtD, mtK, insC_ins, MI.isObj, isDic, dicAt, dputAt, storeD, lookD, keyD, keysD, insAt, fldAt, fldD, MI.putF, pickK, revD, er]
    refine forA (xs := rgI 1 (1 + m)) (inj := D.int) (e1 := [.bor xs, .val (.int m), .own (.lst (([] : List Int).map .int)), .un]) (J := fun i e' => ∃ y s3 ds, e' = [.bor y, .val (.int m), .own (.lst (ds.map .int)), s3] ∧ SG.isPen y ∧ Dist ds ∧ ∀ d ∈ ds, d ≤ (i : Nat)) hev ⟨_, _, [], rfl, px, dist_nil, fun d h => (by cases h)⟩ ?_
    rintro i b e hi ⟨y, s3, ds, rfl, py, hd, hle⟩
    obtain ⟨rfl, hi'⟩ : b = 1 + i ∧ (i : Int) < m := by
      unfold rgI at hi
      rw [List.getElem?_map] at hi
      obtain ⟨j, hj, rfl⟩ := Option.map_eq_some_iff.mp hi
      obtain ⟨hj1, rfl⟩ := range_at hj
      exact ⟨rfl, by omega⟩
    have zl := hd.len
    have z2 : ds.length + 1 < sizeLine := ltS (by omega)
    by_cases c8 : ds.length < 8
    · have c8' : ((ds.length : Nat) : Int) < 8 := by omega
      obtain ⟨r, y1, f1, p1, _, _⟩ := draw_runs (hdraw C) (n := n - 1) (by omega) py (m := 1 + m / 4) (by omega) (by omega)
      by_cases hz : r = 0
      · refine ⟨[.bor y, .val (.int m), .own (.lst (ds.map .int)), .val (.int (1 + i))], [.bor y1, .val (.int m), .own (.lst ((ds ++ [1 + (i : Int)]).map .int)), .val (.int (1 + i))], (by simp [runFn, modesOf, argSl, exSs, exS, testOf, toP, evR, evS, evD, evPs, evA, evI, evB, evG, frz, getP, isSet, slotD, itemD, atI, ixN, cmpD, truth, arith, biD, isiD, RD.d, slOf, mutAt, isMut, isL, setAt, appAt, outsOf, argV, sRefs, putBack, reslot, bindT, bindTs, partOf, MI.isNon, sliceD, itemsD, itemsT, isT, setIs, evRs, augD, popOf, wipeable, wipeE, restoreE, wiped, ctx_call, ctx_modes, ctx_glob, ctx_names, ctx_cls, ctx_kws, szOk, lk_eq, mtD, mtK, insC_ins, MI.isObj, isDic, dicAt, dputAt, storeD, lookD, keyD, keysD, insAt, fldAt, fldD, MI.putF, pickK, revD]), .inl (by simp [runFn, modesOf, argSl, exSs, exS, testOf, toP, evR, evS, evD, evPs, evA, evI, evB, evG, frz, getP, isSet, slotD, itemD, atI, ixN, cmpD, truth, arith, biD, isiD, RD.d, slOf, mutAt, isMut, isL, setAt, appAt, outsOf, argV, sRefs, putBack, reslot, bindT, bindTs, partOf, MI.isNon, sliceD, itemsD, itemsT, isT, setIs, evRs, augD, popOf, wipeable, wipeE, restoreE, wiped, ctx_call, ctx_modes, ctx_glob, ctx_names, ctx_cls, ctx_kws, szOk, lk_eq, mtD, mtK, insC_ins, MI.isObj, isDic, dicAt, dputAt, storeD, lookD, keyD, keysD, insAt, fldAt, fldD, MI.putF, pickK, revD, md, f1, hz, c8', z2]), y1, _, _, rfl, p1, dist_snoc hd c8 (by omega) (by omega) fun x hx => by have := hle x hx; omega, fun d hm => ?_⟩
        rcases List.mem_append.mp hm with z | z
        · have := hle d z; omega
        · rw [List.mem_singleton.mp z]; omega
      · exact ⟨[.bor y, .val (.int m), .own (.lst (ds.map .int)), .val (.int (1 + i))], [.bor y1, .val (.int m), .own (.lst (ds.map .int)), .val (.int (1 + i))], (by simp [runFn, modesOf, argSl, exSs, exS, testOf, toP, evR, evS, evD, evPs, evA, evI, evB, evG, frz, getP, isSet, slotD, itemD, atI, ixN, cmpD, truth, arith, biD, isiD, RD.d, slOf, mutAt, isMut, isL, setAt, appAt, outsOf, argV, sRefs, putBack, reslot, bindT, bindTs, partOf, MI.isNon, sliceD, itemsD, itemsT, isT, setIs, evRs, augD, popOf, wipeable, wipeE, restoreE, wiped, ctx_call, ctx_modes, ctx_glob, ctx_names, ctx_cls, ctx_kws, szOk, lk_eq, mtD, mtK, insC_ins, MI.isObj, isDic, dicAt, dputAt, storeD, lookD, keyD, keysD, insAt, fldAt, fldD, MI.putF, pickK, revD]), .inl (by simp [runFn, modesOf, argSl, exSs, exS, testOf, toP, evR, evS, evD, evPs, evA, evI, evB, evG, frz, getP, isSet, slotD, itemD, atI, ixN, cmpD, truth, arith, biD, isiD, RD.d, slOf, mutAt, isMut, isL, setAt, appAt, outsOf, argV, sRefs, putBack, reslot, bindT, bindTs, partOf, MI.isNon, sliceD, itemsD, itemsT, isT, setIs, evRs, augD, popOf, wipeable, wipeE, restoreE, wiped, ctx_call, ctx_modes, ctx_glob, ctx_names, ctx_cls, ctx_kws, szOk, lk_eq, mtD, mtK, insC_ins, MI.isObj, isDic, dicAt, dputAt, storeD, lookD, keyD, keysD, insAt, fldAt, fldD, MI.putF, pickK, revD, md, f1, hz, c8']), y1, _, _, rfl, p1, hd, fun d hm => by have := hle d hm; omega⟩
    · have c8' : ¬ ((ds.length : Nat) : Int) < 8 := by omega
      exact ⟨[.bor y, .val (.int m), .own (.lst (ds.map .int)), .val (.int (1 + i))], [.bor y, .val (.int m), .own (.lst (ds.map .int)), .val (.int (1 + i))], (by simp [runFn, modesOf, argSl, exSs, exS, testOf, toP, evR, evS, evD, evPs, evA, evI, evB, evG, frz, getP, isSet, slotD, itemD, atI, ixN, cmpD, truth, arith, biD, isiD, RD.d, slOf, mutAt, isMut, isL, setAt, appAt, outsOf, argV, sRefs, putBack, reslot, bindT, bindTs, partOf, MI.isNon, sliceD, itemsD, itemsT, isT, setIs, evRs, augD, popOf, wipeable, wipeE, restoreE, wiped, ctx_call, ctx_modes, ctx_glob, ctx_names, ctx_cls, ctx_kws, szOk, lk_eq, mtD, mtK, insC_ins, MI.isObj, isDic, dicAt, dputAt, storeD, lookD, keyD, keysD, insAt, fldAt, fldD, MI.putF, pickK, revD]), .inl (by simp [runFn, modesOf, argSl, exSs, exS, testOf, toP, evR, evS, evD, evPs, evA, evI, evB, evG, frz, getP, isSet, slotD, itemD, atI, ixN, cmpD, truth, arith, biD, isiD, RD.d, slOf, mutAt, isMut, isL, setAt, appAt, outsOf, argV, sRefs, putBack, reslot, bindT, bindTs, partOf, MI.isNon, sliceD, itemsD, itemsT, isT, setIs, evRs, augD, popOf, wipeable, wipeE, restoreE, wiped, ctx_call, ctx_modes, ctx_glob, ctx_names, ctx_cls, ctx_kws, szOk, lk_eq, mtD, mtK, insC_ins, MI.isObj, isDic, dicAt, dputAt, storeD, lookD, keyD, keysD, insAt, fldAt, fldD, MI.putF, pickK, revD, c8']), y, _, _, rfl, py, hd, fun d hm => by have := hle d hm; omega⟩
  exact ⟨ds, y, run_rt (env := [.bor xs, .val (.int m), .un, .un]) (e := [.bor y, .val (.int m), .own (.lst (ds.map .int)), s3]) rfl rfl (sq (e := [.bor xs, .val (.int m), .own (.lst (([] : List Int).map .int)), .un]) (by simp [runFn, modesOf, argSl, exSs, exS, testOf, toP, evR, evS, evD, evPs, evA, evI, evB, evG, frz, getP, isSet, slotD, itemD, atI, ixN, cmpD, truth, arith, biD, isiD, RD.d, slOf, mutAt, isMut, isL, setAt, appAt, outsOf, argV, sRefs, putBack, reslot, bindT, bindTs, partOf, MI.isNon, sliceD, itemsD, itemsT, isT, setIs, evRs, augD, popOf, wipeable, wipeE, restoreE, wiped, ctx_call, ctx_modes, ctx_glob, ctx_names, ctx_cls, ctx_kws, szOk, lk_eq, mtD, mtK, insC_ins, MI.isObj, isDic, dicAt, dputAt, storeD, lookD, keyD, keysD, insAt, fldAt, fldD, MI.putF, pickK, revD, l0]) (sq hx (sr (by simp [runFn, modesOf, argSl, exSs, exS, testOf, toP, evR, evS, evD, evPs, evA, evI, evB, evG, frz, getP, isSet, slotD, itemD, atI, ixN, cmpD, truth, arith, biD, isiD, RD.d, slOf, mutAt, isMut, isL, setAt, appAt, outsOf, argV, sRefs, putBack, reslot, bindT, bindTs, partOf, MI.isNon, sliceD, itemsD, itemsT, isT, setIs, evRs, augD, popOf, wipeable, wipeE, restoreE, wiped, ctx_call, ctx_modes, ctx_glob, ctx_names, ctx_cls, ctx_kws, szOk, lk_eq, mtD, mtK, insC_ins, MI.isObj, isDic, dicAt, dputAt, storeD, lookD, keyD, keysD, insAt, fldAt, fldD, MI.putF, pickK, revD, wk])))) rfl, py, hd⟩
def depth : Nat := 6
theorem law_runs : ∀ (C : Nat → PySem.Addr) (ns : List Int), ns.length ≤ 63 → (PP C).calls depth "law" [.d (.scr ns)] = some (.old (.bl true), []) := by
  intro C ns hns
  have h : Hs (PP C) "law" F_law := ⟨_, rfl⟩
  rw [h.eq (by decide)]
  have m1 : (PP C).modes "_law_pen" = some [false] := rfl
  have m2 : (PP C).modes "_law_cell" = some [false, false] := rfl
  have m3 : (PP C).modes "_law_right" = some [false] := rfl
  have m4 : (PP C).modes "_law_some" = some [true, false] := rfl
  have l1 := leS (n := 1) (by decide)
  have l4 := leS (n := 4) (by decide)
  have l0 := leS (n := 0) (by decide)
  have rt : ∀ {ds : List Int}, Dist ds → (PP C).calls (depth - 1) "_law_right" [.d (wk ds)] = some (.old (.bl true), []) := fun hd => right_runs C (by decide) hd
  have er21 := rng_ab (a := 1) (b := 21) (by omega) (by omega) (by omega) (by omega)
  rw [rgD_eq] at er21
  obtain ⟨e', hx1, s1, rfl, hs1⟩ : ∃ e', exS ((PP C).ctx (depth - 1)) (PP C).w S_law_1 [.val (.scr ns), .un, .un, .un, .un, .un] = some (.nx e') ∧ ∃ s1, e' = [.val (.scr ns), s1, .un, .un, .un, .un] ∧ (s1 = .un ∨ ∃ b, s1 = .val (.int b)) := by
    unfold S_law_1
    refine forA (xs := rgI 1 21) (inj := D.int) (e1 := [.val (.scr ns), .un, .un, .un, .un, .un]) (J := fun _ e' => ∃ s1, e' = [.val (.scr ns), s1, .un, .un, .un, .un] ∧ (s1 = .un ∨ ∃ b, s1 = .val (.int b))) (by
      generalize rgI 1 21 = R at *
      simp [runFn, modesOf, argSl, exSs, exS, testOf, toP, evR, evS, evD, evPs, evA, evI, evB, evG, frz, getP, isSet, slotD, itemD, atI, ixN, cmpD, truth, arith, biD, isiD, RD.d, slOf, mutAt, isMut, isL, setAt, appAt, outsOf, argV, sRefs, putBack, reslot, bindT, bindTs, partOf, MI.isNon, sliceD, itemsD, itemsT, isT, setIs, evRs, augD, popOf, wipeable, wipeE, restoreE, wiped, ctx_call, ctx_modes, ctx_glob, ctx_names, ctx_cls, ctx_kws, szOk, lk_eq, mtD, mtK, insC_ins, MI.isObj, isDic, dicAt, dputAt, storeD, lookD, keyD, keysD, insAt, fldAt, fldD, MI.putF, pickK, revD, er21]) ⟨_, rfl, .inl rfl⟩ ?_
    rintro i b e hi ⟨s1, rfl, _⟩
    have hb := rgI_mem.mp (List.mem_of_getElem? hi)
    have e1 := rt (dist_one (d := b) (by omega) (by omega))
    have e1 : (PP C).calls (depth - 1) "_law_right" [.d (.tup [.int b])] = some (.old (.bl true), []) := e1
    exact ⟨[.val (.scr ns), .val (.int b), .un, .un, .un, .un], [.val (.scr ns), .val (.int b), .un, .un, .un, .un], (by simp [runFn, modesOf, argSl, exSs, exS, testOf, toP, evR, evS, evD, evPs, evA, evI, evB, evG, frz, getP, isSet, slotD, itemD, atI, ixN, cmpD, truth, arith, biD, isiD, RD.d, slOf, mutAt, isMut, isL, setAt, appAt, outsOf, argV, sRefs, putBack, reslot, bindT, bindTs, partOf, MI.isNon, sliceD, itemsD, itemsT, isT, setIs, evRs, augD, popOf, wipeable, wipeE, restoreE, wiped, ctx_call, ctx_modes, ctx_glob, ctx_names, ctx_cls, ctx_kws, szOk, lk_eq, mtD, mtK, insC_ins, MI.isObj, isDic, dicAt, dputAt, storeD, lookD, keyD, keysD, insAt, fldAt, fldD, MI.putF, pickK, revD]), .inl (by simp [runFn, modesOf, argSl, exSs, exS, testOf, toP, evR, evS, evD, evPs, evA, evI, evB, evG, frz, getP, isSet, slotD, itemD, atI, ixN, cmpD, truth, arith, biD, isiD, RD.d, slOf, mutAt, isMut, isL, setAt, appAt, outsOf, argV, sRefs, putBack, reslot, bindT, bindTs, partOf, MI.isNon, sliceD, itemsD, itemsT, isT, setIs, evRs, augD, popOf, wipeable, wipeE, restoreE, wiped, ctx_call, ctx_modes, ctx_glob, ctx_names, ctx_cls, ctx_kws, szOk, lk_eq, mtD, mtK, insC_ins, MI.isObj, isDic, dicAt, dputAt, storeD, lookD, keyD, keysD, insAt, fldAt, fldD, MI.putF, pickK, revD, m3, e1, l1]), _, rfl, .inr ⟨_, rfl⟩⟩
  have e2 : (PP C).calls (depth - 1) "_law_right" [.d (.tup [])] = some (.old (.bl true), []) := rt dist_nil
  have e3 : (PP C).calls (depth - 1) "_law_right" [.d (.tup (rgD 1 9))] = some (.old (.bl true), []) := by
    have := rt (dist_rg (a := 1) (b := 9) (by omega) (by omega) (by omega))
    unfold wk at this
    rw [← rgD_eq] at this
    exact this
  have e4 : (PP C).calls (depth - 1) "_law_right" [.d (.tup (rgD 13 21))] = some (.old (.bl true), []) := by
    have := rt (dist_rg (a := 13) (b := 21) (by omega) (by omega) (by omega))
    unfold wk at this
    rw [← rgD_eq] at this
    exact this
  have er9 := rng_ab (a := 1) (b := 9) (by omega) (by omega) (by omega) (by omega)
  have er13 := rng_ab (a := 13) (b := 21) (by omega) (by omega) (by omega) (by omega)
  obtain ⟨q, hq0, hq1, hq⟩ : ∃ q : Int, 1 ≤ q ∧ q ≤ 3 ∧ (if (if (3 : Int) < (ns.length : Int) then 3 else (ns.length : Int)) > 1 then (if (3 : Int) < (ns.length : Int) then 3 else (ns.length : Int)) else 1) = q := ⟨_, by split <;> omega, by split <;> split <;> omega, rfl⟩
  have er := rng_n (n := q) (by omega) (by omega)
  have er12 := rng_n (n := 12) (by omega) (by omega)
  obtain ⟨e', hx3, s2, s3, s4, s5, rfl⟩ : ∃ e', exS ((PP C).ctx (depth - 1)) (PP C).w S_law_3 [.val (.scr ns), s1, .un, .un, .un, .un] = some (.nx e') ∧ ∃ s2 s3 s4 s5, e' = [.val (.scr ns), s1, s2, s3, s4, s5] := by
    unfold S_law_3
    refine for_inv (e1 := [.val (.scr ns), s1, .un, .un, .un, .un]) (ds := rgD 0 q) (J := fun _ e' => ∃ s2 s3 s4 s5, e' = [.val (.scr ns), s1, s2, s3, s4, s5]) (by simp [runFn, modesOf, argSl, exSs, exS, testOf, toP, evR, evS, evD, evPs, evA, evI, evB, evG, frz, getP, isSet, slotD, itemD, atI, ixN, cmpD, truth, arith, biD, isiD, RD.d, slOf, mutAt, isMut, isL, setAt, appAt, outsOf, argV, sRefs, putBack, reslot, bindT, bindTs, partOf, MI.isNon, sliceD, itemsD, itemsT, isT, setIs, evRs, augD, popOf, wipeable, wipeE, restoreE, wiped, ctx_call, ctx_modes, ctx_glob, ctx_names, ctx_cls, ctx_kws, szOk, lk_eq, mtD, mtK, insC_ins, MI.isObj, isDic, dicAt, dputAt, storeD, lookD, keyD, keysD, insAt, fldAt, fldD, MI.putF, pickK, revD]; simpa [hq] using er) ⟨_, _, _, _, rfl⟩ ?_
    intro i d e hdd ⟨s2, s3, s4, s5, he⟩
    subst he
    obtain ⟨rfl, hi⟩ := rgD_get hdd
    obtain ⟨c, ec⟩ := cellB_runs (P := PP C) (f := "_law_cell") ⟨_, rfl⟩ (n := depth - 1) (by decide) ns i
    obtain ⟨x0, e0, p0⟩ := pen_runs (P := PP C) ⟨_, rfl⟩ (n := depth - 1) (by decide) c
    obtain ⟨e', hx, x, t4, t5, rfl, hpx⟩ : ∃ e', exS ((PP C).ctx (depth - 1)) (PP C).w S_law_2 [.val (.scr ns), s1, .val (.int i), .own x0, s4, s5] = some (.nx e') ∧ ∃ x t4 t5, e' = [.val (.scr ns), s1, .val (.int i), .own x, t4, t5] ∧ SG.isPen x := by
      unfold S_law_2
      refine for_inv (e1 := [.val (.scr ns), s1, .val (.int i), .own x0, s4, s5]) (ds := rgD 0 12) (J := fun _ e' => ∃ x t4 t5, e' = [.val (.scr ns), s1, .val (.int i), .own x, t4, t5] ∧ SG.isPen x) (by simp [runFn, modesOf, argSl, exSs, exS, testOf, toP, evR, evS, evD, evPs, evA, evI, evB, evG, frz, getP, isSet, slotD, itemD, atI, ixN, cmpD, truth, arith, biD, isiD, RD.d, slOf, mutAt, isMut, isL, setAt, appAt, outsOf, argV, sRefs, putBack, reslot, bindT, bindTs, partOf, MI.isNon, sliceD, itemsD, itemsT, isT, setIs, evRs, augD, popOf, wipeable, wipeE, restoreE, wiped, ctx_call, ctx_modes, ctx_glob, ctx_names, ctx_cls, ctx_kws, szOk, lk_eq, mtD, mtK, insC_ins, MI.isObj, isDic, dicAt, dputAt, storeD, lookD, keyD, keysD, insAt, fldAt, fldD, MI.putF, pickK, revD, er12]) ⟨_, _, _, rfl, p0⟩ ?_
      intro j d e hj ⟨x, t4, t5, he, hpx⟩
      subst he
      obtain ⟨rfl, hj12⟩ := rgD_get hj
      obtain ⟨m, w0, w1, hmod⟩ : ∃ m : Int, 4 ≤ m ∧ m ≤ 20 ∧ (((j : Int) % 4 = 0 ∧ m = 20) ∨ ((j : Int) % 4 = 1 ∧ m = 8) ∨ ((j : Int) % 4 = 2 ∧ m = 12) ∨ ((j : Int) % 4 = 3 ∧ m = 16)) := by
        rcases (by omega : (j : Int) % 4 = 0 ∨ (j : Int) % 4 = 1 ∨ (j : Int) % 4 = 2 ∨ (j : Int) % 4 = 3) with h | h | h | h <;> rw [h]
        · exact ⟨20, by decide, by decide, .inl ⟨rfl, rfl⟩⟩
        · exact ⟨8, by decide, by decide, .inr (.inl ⟨rfl, rfl⟩)⟩
        · exact ⟨12, by decide, by decide, .inr (.inr (.inl ⟨rfl, rfl⟩))⟩
        · exact ⟨16, by decide, by decide, .inr (.inr (.inr ⟨rfl, rfl⟩))⟩
      obtain ⟨ds, x1, f1, p1, hd⟩ := some_runs C (n := depth - 1) (by decide) hpx (m := m) w0 w1
      have g1 := rt hd
      have g2 := rt (dist_mir hd)
      have lc : evR ((PP C).ctx (depth - 1)) C_law_1 [.val (.scr ns), s1, .val (.int i), .own x1, .val (.int j), .val (wk ds)] = some (.new (.lst ((mir ds).map .int)), [.val (.scr ns), s1, .val (.int i), .own x1, .val (.int j), .val (wk ds)]) := by
        unfold C_law_1
        have hl := hd.len
        have hev : evI ((PP C).ctx (depth - 1)) (.seq (.rev (.var 5))) [.val (.scr ns), s1, .val (.int i), .own x1, .val (.int j), .val (wk ds)] = some (ds.reverse.map D.int, [.val (.scr ns), s1, .val (.int i), .own x1, .val (.int j), .val (wk ds)]) := by
          simp [runFn, modesOf, argSl, exSs, exS, testOf, toP, evR, evS, evD, evPs, evA, evI, evB, evG, frz, getP, isSet, slotD, itemD, atI, ixN, cmpD, truth, arith, biD, isiD, RD.d, slOf, mutAt, isMut, isL, setAt, appAt, outsOf, argV, sRefs, putBack, reslot, bindT, bindTs, partOf, MI.isNon, sliceD, itemsD, itemsT, isT, setIs, evRs, augD, popOf, wipeable, wipeE, restoreE, wiped, ctx_call, ctx_modes, ctx_glob, ctx_names, ctx_cls, ctx_kws, szOk, lk_eq, mtD, mtK, insC_ins, MI.isObj, isDic, dicAt, dputAt, storeD, lookD, keyD, keysD, insAt, fldAt, fldD, MI.putF, pickK, revD, wk]
        have hm : (mir ds).map D.int = ds.reverse.map fun d => D.int (21 - d) := by
          unfold mir
          rw [List.map_map]
          rfl
        rw [hm]
        rcases hs1 with rfl | ⟨b, rfl⟩
        · rw [lcA (xs := ds.reverse) (inj := D.int) (g := fun d => D.int (21 - d)) hev (by simp [runFn, modesOf, argSl, exSs, exS, testOf, toP, evR, evS, evD, evPs, evA, evI, evB, evG, frz, getP, isSet, slotD, itemD, atI, ixN, cmpD, truth, arith, biD, isiD, RD.d, slOf, mutAt, isMut, isL, setAt, appAt, outsOf, argV, sRefs, putBack, reslot, bindT, bindTs, partOf, MI.isNon, sliceD, itemsD, itemsT, isT, setIs, evRs, augD, popOf, wipeable, wipeE, restoreE, wiped, ctx_call, ctx_modes, ctx_glob, ctx_names, ctx_cls, ctx_kws, szOk, lk_eq, mtD, mtK, insC_ins, MI.isObj, isDic, dicAt, dputAt, storeD, lookD, keyD, keysD, insAt, fldAt, fldD, MI.putF, pickK, revD]) (by rw [List.length_reverse]; omega) (fun t ht => ⟨[.val (.scr ns), .val (.int t), .val (.int i), .own x1, .val (.int j), .val (wk ds)], .old (.int (21 - t)), [.val (.scr ns), .val (.int t), .val (.int i), .own x1, .val (.int j), .val (wk ds)], by simp [runFn, modesOf, argSl, exSs, exS, testOf, toP, evR, evS, evD, evPs, evA, evI, evB, evG, frz, getP, isSet, slotD, itemD, atI, ixN, cmpD, truth, arith, biD, isiD, RD.d, slOf, mutAt, isMut, isL, setAt, appAt, outsOf, argV, sRefs, putBack, reslot, bindT, bindTs, partOf, MI.isNon, sliceD, itemsD, itemsT, isT, setIs, evRs, augD, popOf, wipeable, wipeE, restoreE, wiped, ctx_call, ctx_modes, ctx_glob, ctx_names, ctx_cls, ctx_kws, szOk, lk_eq, mtD, mtK, insC_ins, MI.isObj, isDic, dicAt, dputAt, storeD, lookD, keyD, keysD, insAt, fldAt, fldD, MI.putF, pickK, revD], by simp [runFn, modesOf, argSl, exSs, exS, testOf, toP, evR, evS, evD, evPs, evA, evI, evB, evG, frz, getP, isSet, slotD, itemD, atI, ixN, cmpD, truth, arith, biD, isiD, RD.d, slOf, mutAt, isMut, isL, setAt, appAt, outsOf, argV, sRefs, putBack, reslot, bindT, bindTs, partOf, MI.isNon, sliceD, itemsD, itemsT, isT, setIs, evRs, augD, popOf, wipeable, wipeE, restoreE, wiped, ctx_call, ctx_modes, ctx_glob, ctx_names, ctx_cls, ctx_kws, szOk, lk_eq, mtD, mtK, insC_ins, MI.isObj, isDic, dicAt, dputAt, storeD, lookD, keyD, keysD, insAt, fldAt, fldD, MI.putF, pickK, revD], by simp [runFn, modesOf, argSl, exSs, exS, testOf, toP, evR, evS, evD, evPs, evA, evI, evB, evG, frz, getP, isSet, slotD, itemD, atI, ixN, cmpD, truth, arith, biD, isiD, RD.d, slOf, mutAt, isMut, isL, setAt, appAt, outsOf, argV, sRefs, putBack, reslot, bindT, bindTs, partOf, MI.isNon, sliceD, itemsD, itemsT, isT, setIs, evRs, augD, popOf, wipeable, wipeE, restoreE, wiped, ctx_call, ctx_modes, ctx_glob, ctx_names, ctx_cls, ctx_kws, szOk, lk_eq, mtD, mtK, insC_ins, MI.isObj, isDic, dicAt, dputAt, storeD, lookD, keyD, keysD, insAt, fldAt, fldD, MI.putF, pickK, revD], by simp [runFn, modesOf, argSl, exSs, exS, testOf, toP, evR, evS, evD, evPs, evA, evI, evB, evG, frz, getP, isSet, slotD, itemD, atI, ixN, cmpD, truth, arith, biD, isiD, RD.d, slOf, mutAt, isMut, isL, setAt, appAt, outsOf, argV, sRefs, putBack, reslot, bindT, bindTs, partOf, MI.isNon, sliceD, itemsD, itemsT, isT, setIs, evRs, augD, popOf, wipeable, wipeE, restoreE, wiped, ctx_call, ctx_modes, ctx_glob, ctx_names, ctx_cls, ctx_kws, szOk, lk_eq, mtD, mtK, insC_ins, MI.isObj, isDic, dicAt, dputAt, storeD, lookD, keyD, keysD, insAt, fldAt, fldD, MI.putF, pickK, revD], rfl⟩)]
          simp [runFn, modesOf, argSl, exSs, exS, testOf, toP, evR, evS, evD, evPs, evA, evI, evB, evG, frz, getP, isSet, slotD, itemD, atI, ixN, cmpD, truth, arith, biD, isiD, RD.d, slOf, mutAt, isMut, isL, setAt, appAt, outsOf, argV, sRefs, putBack, reslot, bindT, bindTs, partOf, MI.isNon, sliceD, itemsD, itemsT, isT, setIs, evRs, augD, popOf, wipeable, wipeE, restoreE, wiped, ctx_call, ctx_modes, ctx_glob, ctx_names, ctx_cls, ctx_kws, szOk, lk_eq, mtD, mtK, insC_ins, MI.isObj, isDic, dicAt, dputAt, storeD, lookD, keyD, keysD, insAt, fldAt, fldD, MI.putF, pickK, revD]
        · rw [lcA (xs := ds.reverse) (inj := D.int) (g := fun d => D.int (21 - d)) hev (by simp [runFn, modesOf, argSl, exSs, exS, testOf, toP, evR, evS, evD, evPs, evA, evI, evB, evG, frz, getP, isSet, slotD, itemD, atI, ixN, cmpD, truth, arith, biD, isiD, RD.d, slOf, mutAt, isMut, isL, setAt, appAt, outsOf, argV, sRefs, putBack, reslot, bindT, bindTs, partOf, MI.isNon, sliceD, itemsD, itemsT, isT, setIs, evRs, augD, popOf, wipeable, wipeE, restoreE, wiped, ctx_call, ctx_modes, ctx_glob, ctx_names, ctx_cls, ctx_kws, szOk, lk_eq, mtD, mtK, insC_ins, MI.isObj, isDic, dicAt, dputAt, storeD, lookD, keyD, keysD, insAt, fldAt, fldD, MI.putF, pickK, revD]) (by rw [List.length_reverse]; omega) (fun t ht => ⟨[.val (.scr ns), .val (.int t), .val (.int i), .own x1, .val (.int j), .val (wk ds)], .old (.int (21 - t)), [.val (.scr ns), .val (.int t), .val (.int i), .own x1, .val (.int j), .val (wk ds)], by simp [runFn, modesOf, argSl, exSs, exS, testOf, toP, evR, evS, evD, evPs, evA, evI, evB, evG, frz, getP, isSet, slotD, itemD, atI, ixN, cmpD, truth, arith, biD, isiD, RD.d, slOf, mutAt, isMut, isL, setAt, appAt, outsOf, argV, sRefs, putBack, reslot, bindT, bindTs, partOf, MI.isNon, sliceD, itemsD, itemsT, isT, setIs, evRs, augD, popOf, wipeable, wipeE, restoreE, wiped, ctx_call, ctx_modes, ctx_glob, ctx_names, ctx_cls, ctx_kws, szOk, lk_eq, mtD, mtK, insC_ins, MI.isObj, isDic, dicAt, dputAt, storeD, lookD, keyD, keysD, insAt, fldAt, fldD, MI.putF, pickK, revD], by simp [runFn, modesOf, argSl, exSs, exS, testOf, toP, evR, evS, evD, evPs, evA, evI, evB, evG, frz, getP, isSet, slotD, itemD, atI, ixN, cmpD, truth, arith, biD, isiD, RD.d, slOf, mutAt, isMut, isL, setAt, appAt, outsOf, argV, sRefs, putBack, reslot, bindT, bindTs, partOf, MI.isNon, sliceD, itemsD, itemsT, isT, setIs, evRs, augD, popOf, wipeable, wipeE, restoreE, wiped, ctx_call, ctx_modes, ctx_glob, ctx_names, ctx_cls, ctx_kws, szOk, lk_eq, mtD, mtK, insC_ins, MI.isObj, isDic, dicAt, dputAt, storeD, lookD, keyD, keysD, insAt, fldAt, fldD, MI.putF, pickK, revD], by simp [runFn, modesOf, argSl, exSs, exS, testOf, toP, evR, evS, evD, evPs, evA, evI, evB, evG, frz, getP, isSet, slotD, itemD, atI, ixN, cmpD, truth, arith, biD, isiD, RD.d, slOf, mutAt, isMut, isL, setAt, appAt, outsOf, argV, sRefs, putBack, reslot, bindT, bindTs, partOf, MI.isNon, sliceD, itemsD, itemsT, isT, setIs, evRs, augD, popOf, wipeable, wipeE, restoreE, wiped, ctx_call, ctx_modes, ctx_glob, ctx_names, ctx_cls, ctx_kws, szOk, lk_eq, mtD, mtK, insC_ins, MI.isObj, isDic, dicAt, dputAt, storeD, lookD, keyD, keysD, insAt, fldAt, fldD, MI.putF, pickK, revD], by simp [runFn, modesOf, argSl, exSs, exS, testOf, toP, evR, evS, evD, evPs, evA, evI, evB, evG, frz, getP, isSet, slotD, itemD, atI, ixN, cmpD, truth, arith, biD, isiD, RD.d, slOf, mutAt, isMut, isL, setAt, appAt, outsOf, argV, sRefs, putBack, reslot, bindT, bindTs, partOf, MI.isNon, sliceD, itemsD, itemsT, isT, setIs, evRs, augD, popOf, wipeable, wipeE, restoreE, wiped, ctx_call, ctx_modes, ctx_glob, ctx_names, ctx_cls, ctx_kws, szOk, lk_eq, mtD, mtK, insC_ins, MI.isObj, isDic, dicAt, dputAt, storeD, lookD, keyD, keysD, insAt, fldAt, fldD, MI.putF, pickK, revD], rfl⟩)]
          simp [runFn, modesOf, argSl, exSs, exS, testOf, toP, evR, evS, evD, evPs, evA, evI, evB, evG, frz, getP, isSet, slotD, itemD, atI, ixN, cmpD, truth, arith, biD, isiD, RD.d, slOf, mutAt, isMut, isL, setAt, appAt, outsOf, argV, sRefs, putBack, reslot, bindT, bindTs, partOf, MI.isNon, sliceD, itemsD, itemsT, isT, setIs, evRs, augD, popOf, wipeable, wipeE, restoreE, wiped, ctx_call, ctx_modes, ctx_glob, ctx_names, ctx_cls, ctx_kws, szOk, lk_eq, mtD, mtK, insC_ins, MI.isObj, isDic, dicAt, dputAt, storeD, lookD, keyD, keysD, insAt, fldAt, fldD, MI.putF, pickK, revD]
      refine ⟨[.val (.scr ns), s1, .val (.int i), .own x, .val (.int j), t5], [.val (.scr ns), s1, .val (.int i), .own x1, .val (.int j), .val (wk ds)], (by simp [runFn, modesOf, argSl, exSs, exS, testOf, toP, evR, evS, evD, evPs, evA, evI, evB, evG, frz, getP, isSet, slotD, itemD, atI, ixN, cmpD, truth, arith, biD, isiD, RD.d, slOf, mutAt, isMut, isL, setAt, appAt, outsOf, argV, sRefs, putBack, reslot, bindT, bindTs, partOf, MI.isNon, sliceD, itemsD, itemsT, isT, setIs, evRs, augD, popOf, wipeable, wipeE, restoreE, wiped, ctx_call, ctx_modes, ctx_glob, ctx_names, ctx_cls, ctx_kws, szOk, lk_eq, mtD, mtK, insC_ins, MI.isObj, isDic, dicAt, dputAt, storeD, lookD, keyD, keysD, insAt, fldAt, fldD, MI.putF, pickK, revD]), .inl (sq (e := [.val (.scr ns), s1, .val (.int i), .own x1, .val (.int j), .val (wk ds)]) ?_ (sq (if_no (e := [.val (.scr ns), s1, .val (.int i), .own x1, .val (.int j), .val (wk ds)]) ?_ sn) sn)), ⟨_, _, _, rfl, p1⟩⟩
      · generalize wk ds = W at *
        rcases hmod with ⟨z, rfl⟩ | ⟨z, rfl⟩ | ⟨z, rfl⟩ | ⟨z, rfl⟩ <;> simp [runFn, modesOf, argSl, exSs, exS, testOf, toP, evR, evS, evD, evPs, evA, evI, evB, evG, frz, getP, isSet, slotD, itemD, atI, ixN, cmpD, truth, arith, biD, isiD, RD.d, slOf, mutAt, isMut, isL, setAt, appAt, outsOf, argV, sRefs, putBack, reslot, bindT, bindTs, partOf, MI.isNon, sliceD, itemsD, itemsT, isT, setIs, evRs, augD, popOf, wipeable, wipeE, restoreE, wiped, ctx_call, ctx_modes, ctx_glob, ctx_names, ctx_cls, ctx_kws, szOk, lk_eq, mtD, mtK, insC_ins, MI.isObj, isDic, dicAt, dputAt, storeD, lookD, keyD, keysD, insAt, fldAt, fldD, MI.putF, pickK, revD, m4, z, f1, l4]
      · have tp : biD .tuple [.lst ((mir ds).map .int)] = some (.old (wk (mir ds))) := rfl
        generalize wk (mir ds) = V at *
        generalize (mir ds).map D.int = L0 at *
        generalize wk ds = W at *
        simp [testOf, evR, evB, evA, evPs, evG, ↓tp_C_law_1, lc, toP, isSet, getP, slotD, frz, RD.d, truth, argV, sRefs, putBack, ctx_call, ctx_modes, m3, g1, g2, tp]
    refine ⟨[.val (.scr ns), s1, .val (.int i), s3, s4, s5], _, (by simp [runFn, modesOf, argSl, exSs, exS, testOf, toP, evR, evS, evD, evPs, evA, evI, evB, evG, frz, getP, isSet, slotD, itemD, atI, ixN, cmpD, truth, arith, biD, isiD, RD.d, slOf, mutAt, isMut, isL, setAt, appAt, outsOf, argV, sRefs, putBack, reslot, bindT, bindTs, partOf, MI.isNon, sliceD, itemsD, itemsT, isT, setIs, evRs, augD, popOf, wipeable, wipeE, restoreE, wiped, ctx_call, ctx_modes, ctx_glob, ctx_names, ctx_cls, ctx_kws, szOk, lk_eq, mtD, mtK, insC_ins, MI.isObj, isDic, dicAt, dputAt, storeD, lookD, keyD, keysD, insAt, fldAt, fldD, MI.putF, pickK, revD]), .inl (sq (e := [.val (.scr ns), s1, .val (.int i), .own x0, s4, s5]) ?_ (sq hx sn)), ⟨_, _, _, _, rfl⟩⟩
    simp [runFn, modesOf, argSl, exSs, exS, testOf, toP, evR, evS, evD, evPs, evA, evI, evB, evG, frz, getP, isSet, slotD, itemD, atI, ixN, cmpD, truth, arith, biD, isiD, RD.d, slOf, mutAt, isMut, isL, setAt, appAt, outsOf, argV, sRefs, putBack, reslot, bindT, bindTs, partOf, MI.isNon, sliceD, itemsD, itemsT, isT, setIs, evRs, augD, popOf, wipeable, wipeE, restoreE, wiped, ctx_call, ctx_modes, ctx_glob, ctx_names, ctx_cls, ctx_kws, szOk, lk_eq, mtD, mtK, insC_ins, MI.isObj, isDic, dicAt, dputAt, storeD, lookD, keyD, keysD, insAt, fldAt, fldD, MI.putF, pickK, revD, m1, m2, ec, e0]
  refine run_rt (env := [.val (.scr ns), .un, .un, .un, .un, .un]) (e := [.val (.scr ns), s1, s2, s3, s4, s5]) rfl rfl (sq hx1 (sq (e := [.val (.scr ns), s1, .un, .un, .un, .un]) (if_no (e := [.val (.scr ns), s1, .un, .un, .un, .un]) ?_ sn) (sq hx3 (sr (by simp [runFn, modesOf, argSl, exSs, exS, testOf, toP, evR, evS, evD, evPs, evA, evI, evB, evG, frz, getP, isSet, slotD, itemD, atI, ixN, cmpD, truth, arith, biD, isiD, RD.d, slOf, mutAt, isMut, isL, setAt, appAt, outsOf, argV, sRefs, putBack, reslot, bindT, bindTs, partOf, MI.isNon, sliceD, itemsD, itemsT, isT, setIs, evRs, augD, popOf, wipeable, wipeE, restoreE, wiped, ctx_call, ctx_modes, ctx_glob, ctx_names, ctx_cls, ctx_kws, szOk, lk_eq, mtD, mtK, insC_ins, MI.isObj, isDic, dicAt, dputAt, storeD, lookD, keyD, keysD, insAt, fldAt, fldD, MI.putF, pickK, revD]))))) rfl
  simp [runFn, modesOf, argSl, exSs, exS, testOf, toP, evR, evS, evD, evPs, evA, evI, evB, evG, frz, getP, isSet, slotD, itemD, atI, ixN, cmpD, truth, arith, biD, isiD, RD.d, slOf, mutAt, isMut, isL, setAt, appAt, outsOf, argV, sRefs, putBack, reslot, bindT, bindTs, partOf, MI.isNon, sliceD, itemsD, itemsT, isT, setIs, evRs, augD, popOf, wipeable, wipeE, restoreE, wiped, ctx_call, ctx_modes, ctx_glob, ctx_names, ctx_cls, ctx_kws, szOk, lk_eq, mtD, mtK, insC_ins, MI.isObj, isDic, dicAt, dputAt, storeD, lookD, keyD, keysD, insAt, fldAt, fldD, MI.putF, pickK, revD, m3, e2, e3, e4, er9, er13, l0]
end K73

open PySem PySem.W PyProof.Rows
set_option maxHeartbeats 0 in
theorem PySem.Challenge.cw_startgaps_k73_works_with_given_bars_holds : PySem.Challenge.rw_startgaps_k73_works_with_given_bars.Holds := by
  w_on; o_law; k_head; (case hw => w_witness2)
  k_fill
  refine MI.walk_law (l := PySem.Challenge.rw_startgaps_k73_works_with_given_bars) (n := 63) (k := K73.depth) (x := "_law_script") (PP := K73.PP) (Fl := K73.F_law) rfl (by decide) rfl ⟨rfl, by decide, by decide⟩ (fun w h Y => PySem.W.kIn_of Y) (fun _ => rfl) rfl ?F K73.law_runs
  case F =>
    intro w mg fa h KX G hmg
    refine' K73.facts KX G ?mia0 ?mil0 ?mic0 ?mik0 ?mia1 ?mil1 ?mic1 ?mik1 ?mia2 ?mil2 ?mic2 ?mik2 ?mia3 ?mil3 ?mic3 ?mik3 ?mia4 ?mil4 ?mic4 ?mik4 ?mia5 ?mil5 ?mic5 ?mik5 ?mia6 ?mil6 ?mic6 ?mik6 ?mia7 ?mil7 ?mic7 ?mik7 ?mia8 ?mil8 ?mic8 ?mik8 ?mia9 ?mil9 ?mic9 ?mik9 ?mia10 ?mil10 ?mic10 ?mik10 ?mia11 ?mil11 ?mic11 ?mik11 ?mia12 ?mil12 ?mic12 ?mik12 ?mia13 ?mil13 ?mic13 ?mik13 ?miz0 ?miz1 ?miz2 ?miz3 ?miz4 ?miz5 ?miz6 ?miz7 ?miz8 ?miz9 ?miz10 ?miz11 ?miz12 ?miz13 ?miz14 ?miz15 ?miz16 ?miz17 ?miz18 ?mig0 ?mig1 ?mig2
    (case mia0 => k_is); (case mil0 => k_is); (case mic0 => k_is); (case mik0 => k_is); (case mia1 => k_is); (case mil1 => k_is); (case mic1 => k_is); (case mik1 => k_is); (case mia2 => k_is); (case mil2 => k_is); (case mic2 => k_is); (case mik2 => k_is); (case mia3 => k_is); (case mil3 => k_is); (case mic3 => k_is); (case mik3 => k_is); (case mia4 => k_is); (case mil4 => k_is); (case mic4 => k_is); (case mik4 => k_is); (case mia5 => k_is); (case mil5 => k_is); (case mic5 => k_is); (case mik5 => k_is); (case mia6 => k_is); (case mil6 => k_is); (case mic6 => k_is); (case mik6 => k_is); (case mia7 => k_is); (case mil7 => k_is); (case mic7 => k_is); (case mik7 => k_is); (case mia8 => k_is); (case mil8 => k_is); (case mic8 => k_is); (case mik8 => k_is); (case mia9 => k_is); (case mil9 => k_is); (case mic9 => k_is); (case mik9 => k_is); (case mia10 => k_is); (case mil10 => k_is); (case mic10 => k_is); (case mik10 => k_is); (case mia11 => k_is); (case mil11 => k_is); (case mic11 => k_is); (case mik11 => k_is); (case mia12 => k_is); (case mil12 => k_is); (case mic12 => k_is); (case mik12 => k_is); (case mia13 => k_is); (case mil13 => k_is); (case mic13 => k_is); (case mik13 => k_is); (case miz0 => k_is); (case miz1 => k_is); (case miz2 => k_is); (case miz3 => k_is); (case miz4 => k_is); (case miz5 => k_is); (case miz6 => k_is); (case miz7 => k_is); (case miz8 => k_is); (case miz9 => k_is); (case miz10 => k_is); (case miz11 => k_is); (case miz12 => k_is); (case miz13 => k_is); (case miz14 => k_is); (case miz15 => k_is); (case miz16 => k_is); (case miz17 => k_is); (case miz18 => k_is); (case mig0 => k_is); (case mig1 => k_is); (case mig2 => k_is)
