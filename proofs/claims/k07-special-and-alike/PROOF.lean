import PyProof.Rows.All
import PyProof.ReprReads
import HandS.ForMost
import HandS.WordsExc
import HandS.Wide
import HandS.IsInst
import HandS.TupAny
import HandS.Zip
import HandS.Steps
import HandS.Style
import KE.KEqNest
import KE.GoesEnumKw
import KE.KDictZip
import KE.KDictItemsList
import HandS.ListItems
import HandS.Ends
import PySem.Challenge.RW_wirebox_k07_special_and_alike
set_option Elab.async false
set_option linter.all false
set_option maxRecDepth 100000
set_option maxHeartbeats 4000000
/-! PfCore: the interpreter: values, heap, operations, expressions, statements, calls. -/
namespace Pf
open PySem (Operator CmpOp)

abbrev Txt := List Nat
/-- values: trees; what can change stands in the heap, by its number -/
inductive PV where
  | non | bl (b : Bool) | int (i : Int) | str (s : Txt) | tup (xs : List PV) | ref (n : Nat)
  /-- a list that nobody changes: the script -/
  | scr (xs : List PV)
instance : Inhabited PV := ⟨.non⟩
mutual
def PV.beq : PV → PV → Bool
  | .non, .non => true
  | .bl a, .bl b => a == b
  | .int a, .int b => a == b
  | .str a, .str b => a == b
  | .tup a, .tup b => PV.beqL a b
  | .ref a, .ref b => a == b
  | .scr a, .scr b => PV.beqL a b
  | _, _ => false
def PV.beqL : List PV → List PV → Bool
  | [], [] => true
  | x :: xs, y :: ys => x.beq y && PV.beqL xs ys
  | _, _ => false
end
mutual
theorem PV.beq_eq : ∀ (a b : PV), PV.beq a b = true ↔ a = b
  | .non, b => by cases b <;> simp [PV.beq]
  | .bl x, b => by cases b <;> simp [PV.beq]
  | .int x, b => by cases b <;> simp [PV.beq]
  | .str x, b => by cases b <;> simp [PV.beq]
  | .tup x, b => by cases b <;> simp [PV.beq, PV.beqL_eq x]
  | .ref x, b => by cases b <;> simp [PV.beq]
  | .scr x, b => by cases b <;> simp [PV.beq, PV.beqL_eq x]
theorem PV.beqL_eq : ∀ (a b : List PV), PV.beqL a b = true ↔ a = b
  | [], b => by cases b <;> simp [PV.beqL]
  | x :: xs, b => by cases b <;> simp [PV.beqL, PV.beq_eq x, PV.beqL_eq xs]
end
instance : DecidableEq PV := fun a b => if h : PV.beq a b = true then isTrue ((PV.beq_eq a b).mp h) else isFalse fun e => h ((PV.beq_eq a b).mpr e)

mutual
/-- all numbers of objects are below n -/
def PV.lt (n : Nat) : PV → Bool
  | .tup xs => PV.ltL n xs
  | .scr xs => PV.ltL n xs
  | .ref m => Nat.blt m n
  | _ => true
def PV.ltL (n : Nat) : List PV → Bool
  | [] => true
  | x :: xs => x.lt n && PV.ltL n xs
end
def ltK (n : Nat) : List (PV × PV) → Bool
  | [] => true
  | (k, v) :: r => k.lt n && v.lt n && ltK n r

/-- an object -/
inductive MO where
  | lst (xs : List PV) | dct (kvs : List (PV × PV))
  deriving DecidableEq
abbrev MH := List MO
def MO.lt (n : Nat) : MO → Bool
  | .lst xs => PV.ltL n xs
  | .dct kvs => ltK n kvs
def allLt (n : Nat) : MH → Bool
  | [] => true
  | o :: r => o.lt n && allLt n r

/-- a result: a value, or a list or dict that nothing else holds -/
inductive RV where
  | pv (v : PV) | lst (xs : List PV) | dct (kvs : List (PV × PV))
inductive Res (α : Type) where
  | ok (a : α) (h : MH) | exc (c : Nat) (fs : List (Txt × PV)) (h : MH) | bad
@[inline] def Res.bind {α β : Type} (r : Res α) (f : α → MH → Res β) : Res β := match r with
  | .ok a h => f a h
  | .exc c fs h => .exc c fs h
  | .bad => .bad
/-- where no exception may come -/
@[inline] def Res.bindC {α β : Type} (r : Res α) (f : α → MH → Res β) : Res β := match r with
  | .ok a h => f a h
  | .exc _ _ _ => .bad
  | .bad => .bad
@[inline] def opt {α β : Type} (o : Option α) (f : α → Res β) : Res β := match o with
  | some a => f a
  | none => .bad
def ofOpt {α : Type} (o : Option α) (h : MH) : Res α := match o with
  | some a => .ok a h
  | none => .bad
abbrev Env := List (Option PV)

def fix : RV → MH → PV × MH
  | .pv v, h => (v, h)
  | .lst xs, h => (.ref h.length, h ++ [.lst xs])
  | .dct kvs, h => (.ref h.length, h ++ [.dct kvs])
def fixL : List RV → MH → List PV × MH
  | [], h => ([], h)
  | r :: rs, h => ((fix r h).1 :: (fixL rs (fix r h).2).1, (fixL rs (fix r h).2).2)

def LINE : Nat := 16777216

/-! ### operations -/
def lstOf (h : MH) : RV → Option (List PV)
  | .lst xs => some xs
  | .pv (.scr xs) => some xs
  | .pv (.ref n) => match h[n]? with
    | some (.lst xs) => some xs
    | _ => none
  | _ => none
/-- a list that may be changed -/
def lstW (h : MH) : RV → Option (List PV)
  | .lst xs => some xs
  | .pv (.ref n) => match h[n]? with
    | some (.lst xs) => some xs
    | _ => none
  | _ => none
def dctOf (h : MH) : RV → Option (List (PV × PV))
  | .dct kvs => some kvs
  | .pv (.ref n) => match h[n]? with
    | some (.dct kvs) => some kvs
    | _ => none
  | _ => none
def tupOf : RV → Option (List PV)
  | .pv (.tup xs) => some xs
  | _ => none
/-- a list or tuple -/
def seqOf (h : MH) (r : RV) : Option (List PV) := match tupOf r with
  | some xs => some xs
  | none => lstOf h r

def sIx (n d : Nat) : Option Int → Nat
  | none => d
  | some v => if v < 0 then (v + (n : Int)).toNat else min v.toNat n
def cut {α : Type} (xs : List α) (lo hi : Option Int) : List α := (xs.drop (sIx xs.length 0 lo)).take (sIx xs.length xs.length hi - sIx xs.length 0 lo)
def ixN (n : Nat) (i : Int) : Option Nat := if 0 ≤ i then (if i < n then some i.toNat else none) else if -(n : Int) ≤ i then some (i + n).toNat else none
def atI {α : Type} (xs : List α) (i : Int) : Option α := (ixN xs.length i).bind fun j => xs[j]?

/-- elementwise -/
def eqvL (f : PV → PV → Option Bool) : List PV → List PV → Option Bool
  | [], [] => some true
  | x :: xs, y :: ys => match f x y, eqvL f xs ys with
    | some a, some b => some (a && b)
    | _, _ => none
  | [], _ :: _ => some false
  | _ :: _, [] => some false
/-- a dict's value at a key -/
def dget (kvs : List (PV × PV)) (k : PV) : Option PV := match kvs with
  | [] => none
  | (j, v) :: r => if j = k then some v else dget r k
def dput (kvs : List (PV × PV)) (k v : PV) : List (PV × PV) := match kvs with
  | [] => [(k, v)]
  | (j, u) :: r => if j = k then (j, v) :: r else (j, u) :: dput r k v
def isKey : PV → Bool
  | .int _ => true
  | .str _ => true
  | _ => false
def eqvD (f : PV → PV → Option Bool) (kb : List (PV × PV)) : List (PV × PV) → Option Bool
  | [] => some true
  | (k, v) :: r => match dget kb k, eqvD f kb r with
    | none, some _ => some false
    | some y, some b => match f v y with
      | some a => some (a && b)
      | none => none
    | _, none => none
/-- a list is no other thing -/
def lstF (h : MH) (i : Nat) : Option Bool := match h[i]? with
  | some (.lst _) => some false
  | _ => none
/-- == -/
def eqv (h : MH) : Nat → PV → PV → Option Bool
  | 0, _, _ => none
  | _ + 1, .scr _, _ => none
  | _ + 1, _, .scr _ => none
  | _ + 1, .non, .non => some true
  | _ + 1, .bl a, .bl b => some (a == b)
  | _ + 1, .bl a, .int j => some ((if a then 1 else 0) == j)
  | _ + 1, .int i, .bl b => some (i == (if b then 1 else 0))
  | _ + 1, .int i, .int j => some (i == j)
  | _ + 1, .str a, .str b => some (a == b)
  | n + 1, .tup xs, .tup ys => eqvL (eqv h n) xs ys
  | n + 1, .ref i, .ref j => if i = j then some true else match h[i]?, h[j]? with
    | some (.lst xs), some (.lst ys) => if xs.length = ys.length then eqvL (eqv h n) xs ys else some false
    | _, _ => none
  | _ + 1, .ref i, .non => lstF h i
  | _ + 1, .ref i, .bl _ => lstF h i
  | _ + 1, .ref i, .int _ => lstF h i
  | _ + 1, .ref i, .str _ => lstF h i
  | _ + 1, .ref i, .tup _ => lstF h i
  | _ + 1, .non, .ref i => lstF h i
  | _ + 1, .bl _, .ref i => lstF h i
  | _ + 1, .int _, .ref i => lstF h i
  | _ + 1, .str _, .ref i => lstF h i
  | _ + 1, .tup _, .ref i => lstF h i
  | _ + 1, _, _ => some false
def EQN : Nat := 40
def eqvR (h : MH) (a b : RV) : Option Bool :=
  match (fix a h).1, (fix b (fix a h).2).1 with
  | .ref i, .ref j => match (fix b (fix a h).2).2[i]?, (fix b (fix a h).2).2[j]? with
    | some (.dct ka), some (.dct kb) => if ka.length = kb.length then eqvD (eqv (fix b (fix a h).2).2 EQN) kb ka else some false
    | some (.lst xs), some (.lst ys) => if xs.length = ys.length then eqvL (eqv (fix b (fix a h).2).2 EQN) xs ys else some false
    | _, _ => none
  | x, y => eqv (fix b (fix a h).2).2 (EQN + 1) x y
def anyEq (f : PV → PV → Option Bool) (x : PV) : List PV → Option Bool
  | [] => some false
  | y :: ys => match f y x, anyEq f x ys with
    | some a, some b => some (a || b)
    | _, _ => none
/-- x in y -/
def isIn (h : MH) (x y : RV) : Option Bool := match x with
  | .pv x => match y with
    | .pv (.str s) => match x with
      | .str [c] => some (s.contains c)
      | _ => none
    | y => match seqOf h y with
      | some ys => anyEq (eqv h EQN) x ys
      | none => match dctOf h y with
        | some kvs => if isKey x then some (dget kvs x).isSome else none
        | none => none
  | _ => none
/-- the list of texts' order -/
def txtLt : Txt → Txt → Bool
  | [], [] => false
  | [], _ :: _ => true
  | _ :: _, [] => false
  | a :: x, b :: y => if a < b then true else if b < a then false else txtLt x y

def mulOk (i j : Int) : Bool := decide (i.natAbs.log2 + j.natAbs.log2 < 1000000)
def binOp (op : Operator) (h : MH) (a b : RV) : Option RV := match op with
  | .Add => match a, b with
    | .pv (.int i), .pv (.int j) => some (.pv (.int (i + j)))
    | .pv (.str s), .pv (.str t) => if s.length + t.length ≤ LINE then some (.pv (.str (s ++ t))) else none
    | .pv (.tup s), .pv (.tup t) => if s.length + t.length ≤ LINE then some (.pv (.tup (s ++ t))) else none
    | a, b => match lstW h a, lstW h b with
      | some s, some t => if s.length + t.length ≤ LINE then some (.lst (s ++ t)) else none
      | _, _ => none
  | .Sub => match a, b with
    | .pv (.int i), .pv (.int j) => some (.pv (.int (i - j)))
    | _, _ => none
  | .Mult => match a, b with
    | .pv (.int i), .pv (.int j) => if mulOk i j then some (.pv (.int (i * j))) else none
    | _, _ => none
  | .FloorDiv => match a, b with
    | .pv (.int i), .pv (.int j) => if 0 < j ∧ j < 1073741824 then some (.pv (.int (i / j))) else none
    | _, _ => none
  | .Mod => match a, b with
    | .pv (.int i), .pv (.int j) => if 0 < j then some (.pv (.int (i % j))) else none
    | _, _ => none
  | .Pow => match a, b with
    | .pv (.int i), .pv (.int j) => if 0 ≤ j ∧ j ≤ 1000 ∧ i.natAbs < 18446744073709551616 then some (.pv (.int (i ^ j.toNat))) else none
    | _, _ => none
  | _ => none
def augOp (op : Operator) (a b : RV) : Option PV := match op, a, b with
  | .Add, .pv (.int i), .pv (.int j) => some (.int (i + j))
  | .Sub, .pv (.int i), .pv (.int j) => some (.int (i - j))
  | .Add, .pv (.str s), .pv (.str t) => if s.length + t.length ≤ LINE then some (.str (s ++ t)) else none
  | _, _, _ => none
def isNonR : RV → Bool
  | .pv .non => true
  | _ => false
def cmpOp (op : CmpOp) (h : MH) (a b : RV) : Option Bool := match op with
  | .Eq => eqvR h a b
  | .NotEq => (eqvR h a b).map (!·)
  | .Lt => match a, b with
    | .pv (.int i), .pv (.int j) => some (decide (i < j))
    | .pv (.str s), .pv (.str t) => some (txtLt s t)
    | _, _ => none
  | .LtE => match a, b with
    | .pv (.int i), .pv (.int j) => some (decide (i ≤ j))
    | _, _ => none
  | .Gt => match a, b with
    | .pv (.int i), .pv (.int j) => some (decide (j < i))
    | _, _ => none
  | .GtE => match a, b with
    | .pv (.int i), .pv (.int j) => some (decide (j ≤ i))
    | _, _ => none
  | .In => isIn h a b
  | .NotIn => (isIn h a b).map (!·)
  | .Is => match b with
    | .pv .non => some (isNonR a)
    | .pv (.bl y) => match a with
      | .pv (.bl x) => some (x == y)
      | _ => none
    | _ => none
  | .IsNot => match b with
    | .pv .non => some (!isNonR a)
    | .pv (.bl y) => match a with
      | .pv (.bl x) => some (!(x == y))
      | _ => none
    | _ => none
/-- o[i] -/
def getIx (h : MH) (o i : RV) : Option PV := match o with
  | .pv (.str s) => match i with
    | .pv (.int k) => if s.length ≤ LINE then (atI s k).map fun c => .str [c] else none
    | _ => none
  | .pv (.tup xs) => match i with
    | .pv (.int k) => atI xs k
    | _ => none
  | o => match lstOf h o with
    | some xs => match i with
      | .pv (.int k) => atI xs k
      | _ => none
    | none => match dctOf h o with
      | some kvs => match i with
        | .pv k => if isKey k then dget kvs k else none
        | _ => none
      | none => none
def partOf : RV → Option Int
  | .pv (.int i) => some i
  | _ => none
def getCut (h : MH) (o : RV) (lo hi : Option Int) : Option RV := match o with
  | .pv (.str s) => if s.length ≤ LINE then some (.pv (.str (cut s lo hi))) else none
  | .pv (.tup xs) => some (.pv (.tup (cut xs lo hi)))
  | o => match lstOf h o with
    | some xs => some (.lst (cut xs lo hi))
    | none => none
def truth (h : MH) : RV → Option Bool
  | .pv .non => some false
  | .pv (.bl b) => some b
  | .pv (.int i) => some (i != 0)
  | .pv (.str s) => if s.length ≤ LINE then some (s.length != 0) else none
  | .pv (.tup xs) => some (!xs.isEmpty)
  | r => match lstOf h r with
    | some xs => some (!xs.isEmpty)
    | none => match dctOf h r with
      | some kvs => some (!kvs.isEmpty)
      | none => none
/-- built-in classes for isinstance -/
inductive Ty where
  | tInt | tBool | tStr | tTuple | tList | tDict
  deriving DecidableEq
def isTy (h : MH) (t : Ty) : RV → Option Bool
  | .pv .non => some false
  | .pv (.bl _) => some (t == .tInt || t == .tBool)
  | .pv (.int _) => some (t == .tInt)
  | .pv (.str _) => some (t == .tStr)
  | .pv (.tup _) => some (t == .tTuple)
  | .pv (.scr _) => none
  | .pv (.ref n) => match h[n]? with
    | some (.lst _) => some (t == .tList)
    | some (.dct _) => some (t == .tDict)
    | _ => none
  | .lst _ => some (t == .tList)
  | .dct _ => some (t == .tDict)
def intsOf : List PV → Option (List Int)
  | [] => some []
  | .int i :: r => (intsOf r).map (i :: ·)
  | _ :: _ => none
def boolsOf : List PV → Option (List Bool)
  | [] => some []
  | .bl b :: r => (boolsOf r).map (b :: ·)
  | _ :: _ => none
def maxL : Int → List Int → Int
  | m, [] => m
  | m, x :: r => maxL (if x > m then x else m) r
/-- what repr reads -/
def dataL (f : PV → Option PySem.PyData) : List PV → Option (List PySem.PyData)
  | [] => some []
  | x :: xs => match f x, dataL f xs with
    | some d, some ds => some (d :: ds)
    | _, _ => none
def dataOf (h : MH) : Nat → PV → Option PySem.PyData
  | 0, _ => none
  | n + 1, v => match v with
    | .non => some .none
    | .bl b => some (.bool b)
    | .int i => some (.int i)
    | .str s => some (.str ⟨s.toArray⟩)
    | .tup xs => (dataL (dataOf h n) xs).map .tuple
    | .ref k => match h[k]? with
      | some (.lst xs) => (dataL (dataOf h n) xs).map .list
      | _ => none
    | .scr _ => none
def shows (d : PySem.PyData) : Option Txt := if d.showable && decide (d.depth ≤ 40) && !d.hasDict && decide (d.shown.length ≤ LINE) then some d.shown.cps.toList else none
def reprOf (h : MH) : RV → Option Txt
  | .pv v => (dataOf h 30 v).bind shows
  | .lst xs => ((dataL (dataOf h 30) xs).map .list).bind shows
  | .dct _ => none
/-- built-in functions -/
inductive BI where
  | len | min | max | sum | all | any | int | tuple | list | abs | repr
  deriving DecidableEq
def callB (b : BI) (h : MH) (args : List RV) : Option RV := match b, args with
  | .len, [.pv (.str s)] => if s.length ≤ LINE then some (.pv (.int s.length)) else none
  | .len, [r] => match seqOf h r with
    | some xs => some (.pv (.int xs.length))
    | none => match dctOf h r with
      | some kvs => some (.pv (.int kvs.length))
      | none => none
  | .min, [.pv (.int i), .pv (.int j)] => some (.pv (.int (if j < i then j else i)))
  | .max, [.pv (.int i), .pv (.int j)] => some (.pv (.int (if j > i then j else i)))
  | .max, [r] => match (lstOf h r).bind intsOf with
    | some (i :: is) => some (.pv (.int (maxL i is)))
    | _ => none
  | .sum, [r] => match (lstOf h r).bind intsOf with
    | some is => some (.pv (.int is.sum))
    | _ => none
  | .all, [r] => match (lstOf h r).bind boolsOf with
    | some bs => some (.pv (.bl (bs.all id)))
    | _ => none
  | .any, [r] => match (lstOf h r).bind boolsOf with
    | some bs => some (.pv (.bl (bs.any id)))
    | _ => none
  | .int, [.pv (.int i)] => some (.pv (.int i))
  | .int, [.pv (.bl b)] => some (.pv (.int (if b then 1 else 0)))
  | .abs, [.pv (.int i)] => some (.pv (.int (if i < 0 then -i else i)))
  | .repr, [r] => match reprOf h r with
    | some z => some (.pv (.str z))
    | none => none
  | .tuple, [r] => match seqOf h r with
    | some xs => some (.pv (.tup xs))
    | none => none
  | .list, [r] => match seqOf h r with
    | some xs => some (.lst xs)
    | none => none
  | _, _ => none
/-- methods of lists and dicts -/
inductive MT where
  | append | pop | get | extend
  deriving DecidableEq
def mAppend (h : MH) (o x : RV) : Option (RV × MH) := match o with
  | .pv (.ref n) => match h[n]? with
    | some (.lst xs) => if xs.length < LINE then some (.pv .non, (fix x h).2.set n (.lst (xs ++ [(fix x h).1]))) else none
    | _ => none
  | _ => none
def mExtend (h : MH) (o x : RV) : Option (RV × MH) := match o with
  | .pv (.ref n) => match h[n]? with
    | some (.lst xs) => match lstW h x with
      | some ys => if xs.length + ys.length ≤ LINE then some (.pv .non, h.set n (.lst (xs ++ ys))) else none
      | none => none
    | _ => none
  | _ => none
def mPop (h : MH) (o : RV) : Option (RV × MH) := match o with
  | .pv (.ref n) => match h[n]? with
    | some (.lst xs) => match xs[xs.length - 1]? with
      | some y => some (.pv y, h.set n (.lst xs.dropLast))
      | none => none
    | _ => none
  | _ => none
def mGet (h : MH) (o k d : RV) : Option (RV × MH) := match k with
  | .pv k => match dctOf h o with
    | some kvs => if isKey k then some (match dget kvs k with | some v => .pv v | none => d, h) else none
    | none => none
  | _ => none
def callM (m : MT) (h : MH) (o : RV) (args : List RV) : Option (RV × MH) := match args with
  | [] => match m with
    | .pop => mPop h o
    | _ => none
  | [x] => match m with
    | .append => mAppend h o x
    | .extend => mExtend h o x
    | .get => mGet h o x (.pv .non)
    | _ => none
  | [x, d] => match m with
    | .get => mGet h o x d
    | _ => none
  | _ => none
/-- a method's receiver -/
def recvOk (m : MT) (h : MH) (x : RV) : Bool := match m with
  | .get => (dctOf h x).isSome
  | _ => (lstOf h x).isSome
/-! ### expressions -/
/-- a target of a loop -/
inductive Tgt where
  | nm (i : Nat) | tp (is : List Nat)
def setAll : List Nat → List PV → Env → Option Env
  | [], [], e => some e
  | i :: is, x :: xs, e => setAll is xs (e.set i (some x))
  | _, _, _ => none
def Tgt.set : Tgt → PV → Env → Option Env
  | .nm i, x, e => some (e.set i (some x))
  | .tp is, .tup xs, e => setAll is xs e
  | .tp _, _, _ => none
mutual
inductive CE where
  | non | bl (b : Bool) | int (i : Int) | str (s : Txt)
  /-- a constant of the module -/
  | gl (j : Nat)
  | var (i : Nat)
  | bop (op : Operator) (a b : CE)
  | neg (a : CE)
  | cmp (op : CmpOp) (a b : CE)
  | cmp2 (op op' : CmpOp) (a b c : CE)
  | band (a b : CE) | bor (a b : CE) | bnot (a : CE)
  | ife (c a b : CE)
  | tup (es : CL) | lst (es : CL) | dct (ps : CP)
  | idx (a b : CE)
  | slc (a : CE) (lo hi : CO)
  | call (f : Nat) (es : CL)
  | bi (b : BI) (es : CL)
  | isi (a : CE) (t : Ty)
  | mth (m : MT) (o : CE) (es : CL)
  | lc (elt : CE) (t : Tgt) (s : CSrc) (cs : CL) (own : List Nat)
  /-- list(zip(a, b)) -/
  | lzip (a b : CE)
inductive CL where
  | nil | cons (e : CE) (r : CL)
inductive CP where
  | nil | cons (k v : CE) (r : CP)
inductive CO where
  | none | some (e : CE)
/-- what is walked -/
inductive CSrc where
  | seq (e : CE) | rng (e : CE) | rng2 (a b : CE) | enum (e : CE) | zip (a b : CE) | zipS (a b : CE)
end
/-- a list that is walked must stand as it stood -/
def lockOk : Option (Nat × List PV) → MH → Bool
  | none, _ => true
  | some (n, xs), h => match h[n]? with
    | some (.lst ys) => decide (ys = xs)
    | _ => false
def lockOf : RV → List PV → Option (Nat × List PV)
  | .pv (.ref n), xs => some (n, xs)
  | _, _ => none
def wipeE (e : Env) : List Nat → Env
  | [] => e
  | v :: vs => (wipeE e vs).set v none
def rngL (lo : Int) : Nat → List PV
  | 0 => []
  | n + 1 => .int lo :: rngL (lo + 1) n
def enumL (i : Int) : List PV → List PV
  | [] => []
  | x :: r => .tup [.int i, x] :: enumL (i + 1) r
def zipL : List PV → List PV → List PV
  | x :: xs, y :: ys => .tup [x, y] :: zipL xs ys
  | _, _ => []
def compL (cond : Env → MH → Res Bool) (elt : Env → MH → Res RV) (t : Tgt) (lock : Option (Nat × List PV)) (e : Env) : List PV → List PV → MH → Res (List PV)
  | [], acc, h => if lockOk lock h then .ok acc h else .bad
  | x :: xs, acc, h => if lockOk lock h then opt (t.set x e) fun e' => (cond e' h).bindC fun c h1 =>
      if c then (elt e' h1).bindC fun r h2 => if acc.length < LINE then compL cond elt t lock e xs (acc ++ [(fix r h2).1]) (fix r h2).2 else .bad
      else compL cond elt t lock e xs acc h1
    else .bad
def smallR (i : Int) : Bool := decide (-(2 ^ 62) ≤ i ∧ i < 2 ^ 62)
section
variable (F : Nat → List PV → MH → Res RV) (G : List PV)
mutual
def ev : CE → Env → MH → Res RV
  | .non, _, h => .ok (.pv .non) h
  | .bl b, _, h => .ok (.pv (.bl b)) h
  | .int i, _, h => .ok (.pv (.int i)) h
  | .str s, _, h => .ok (.pv (.str s)) h
  | .gl j, _, h => opt G[j]? fun v => .ok (.pv v) h
  | .var i, e, h => match e[i]? with
    | some (some v) => .ok (.pv v) h
    | _ => .bad
  | .bop op a b, e, h => (ev a e h).bind fun x h1 => (ev b e h1).bind fun y h2 => ofOpt (binOp op h2 x y) h2
  | .neg a, e, h => (ev a e h).bind fun x h1 => match x with
    | .pv (.int i) => .ok (.pv (.int (-i))) h1
    | _ => .bad
  | .cmp op a b, e, h => (ev a e h).bind fun x h1 => (ev b e h1).bind fun y h2 => opt (cmpOp op h2 x y) fun c => .ok (.pv (.bl c)) h2
  | .cmp2 op op' a b c, e, h => (ev a e h).bind fun x h1 => (ev b e h1).bind fun y h2 => opt (cmpOp op h2 x y) fun k =>
      if k then (ev c e h2).bind fun z h3 => opt (cmpOp op' h3 y z) fun m => .ok (.pv (.bl m)) h3 else .ok (.pv (.bl false)) h2
  | .band a b, e, h => (ev a e h).bind fun x h1 => match x with
    | .pv (.bl c) => if c then ev b e h1 else .ok (.pv (.bl false)) h1
    | _ => .bad
  | .bor a b, e, h => (ev a e h).bind fun x h1 => match x with
    | .pv (.bl c) => if c then .ok (.pv (.bl true)) h1 else ev b e h1
    | _ => .bad
  | .bnot a, e, h => (ev a e h).bind fun x h1 => match x with
    | .pv (.bl c) => .ok (.pv (.bl (!c))) h1
    | _ => .bad
  | .ife c a b, e, h => (tst c e h).bind fun k h1 => if k then ev a e h1 else ev b e h1
  | .tup es, e, h => (evL es e h).bind fun rs h1 => if rs.length ≤ LINE then .ok (.pv (.tup (fixL rs h1).1)) (fixL rs h1).2 else .bad
  | .lst es, e, h => (evL es e h).bind fun rs h1 => if rs.length ≤ LINE then .ok (.lst (fixL rs h1).1) (fixL rs h1).2 else .bad
  | .dct ps, e, h => (evD ps e h).bind fun kvs h1 => if kvs.length ≤ 15 then .ok (.dct (kvs.foldl (fun d p => dput d p.1 p.2) [])) h1 else .bad
  | .idx a b, e, h => (ev a e h).bind fun x h1 => (ev b e h1).bind fun y h2 => opt (getIx h2 x y) fun v => .ok (.pv v) h2
  | .slc a lo hi, e, h => (ev a e h).bind fun x h1 => (evO lo e h1).bind fun l h2 => (evO hi e h2).bind fun u h3 => ofOpt (getCut h3 x l u) h3
  | .call f es, e, h => (evL es e h).bind fun rs h1 => F f (fixL rs h1).1 (fixL rs h1).2
  | .bi b es, e, h => (evL es e h).bind fun rs h1 => ofOpt (callB b h1 rs) h1
  | .isi a t, e, h => (ev a e h).bind fun x h1 => opt (isTy h1 t x) fun c => .ok (.pv (.bl c)) h1
  | .mth m o es, e, h => (ev o e h).bind fun x h1 => if recvOk m h1 x then (evL es e h1).bind fun rs h2 => opt (callM m h2 x rs) fun p => .ok p.1 p.2 else .bad
  | .lc elt t s cs own, e, h => (evS s e h).bind fun p h1 => (compL (tsts cs) (ev elt) t p.1 (wipeE e own) p.2 [] h1).bind fun xs h2 => .ok (.lst xs) h2
  | .lzip a b, e, h => (ev a e h).bind fun x h1 => (ev b e h1).bind fun y h2 => match tupOf x, tupOf y with
    | some xs, some ys => .ok (.lst (zipL xs ys)) h2
    | _, _ => .bad
def evL : CL → Env → MH → Res (List RV)
  | .nil, _, h => .ok [] h
  | .cons a r, e, h => (ev a e h).bind fun x h1 => (evL r e h1).bind fun xs h2 => .ok (x :: xs) h2
/-- a display's pairs: the keys must be texts or ints; what is made for a value is held at once -/
def evD : CP → Env → MH → Res (List (PV × PV))
  | .cons k a r, e, h => (ev k e h).bind fun x h1 => (ev a e h1).bind fun y h2 => match x with
    | .pv k => if isKey k then (evD r e (fix y h2).2).bind fun r h3 => .ok ((k, (fix y h2).1) :: r) h3 else .bad
    | _ => .bad
  | .nil, _, h => .ok [] h
def evO : CO → Env → MH → Res (Option Int)
  | .none, _, h => .ok none h
  | .some a, e, h => (ev a e h).bind fun x h1 => opt (partOf x) fun i => .ok (some i) h1
/-- what is walked: a lock, the items -/
def evS : CSrc → Env → MH → Res (Option (Nat × List PV) × List PV)
  | .seq a, e, h => (ev a e h).bind fun x h1 => match x with
    | .pv (.str s) => .ok (none, s.map fun c => .str [c]) h1
    | x => opt (seqOf h1 x) fun xs => .ok (lockOf x xs, xs) h1
  | .rng a, e, h => (ev a e h).bind fun x h1 => opt (partOf x) fun j => if smallR j then .ok (none, rngL 0 j.toNat) h1 else .bad
  | .rng2 a b, e, h => (ev a e h).bind fun x h1 => (ev b e h1).bind fun y h2 => opt (partOf x) fun i => opt (partOf y) fun j =>
      if smallR i && smallR j then .ok (none, rngL i (j - i).toNat) h2 else .bad
  | .enum a, e, h => (ev a e h).bind fun x h1 => opt (lstOf h1 x) fun xs => .ok (lockOf x xs, enumL 0 xs) h1
  | .zip a b, e, h => (ev a e h).bind fun x h1 => (ev b e h1).bind fun y h2 => match tupOf x, tupOf y with
    | some xs, some ys => .ok (none, zipL xs ys) h2
    | _, _ => .bad
  | .zipS a b, e, h => (ev a e h).bind fun x h1 => (ev b e h1).bind fun y h2 => match tupOf x, tupOf y with
    | some xs, some ys => if xs.length = ys.length then .ok (none, zipL xs ys) h2 else .bad
    | _, _ => .bad
/-- as a test -/
def tst : CE → Env → MH → Res Bool
  | .band a b, e, h => (tst a e h).bind fun k h1 => if k then tst b e h1 else .ok false h1
  | .bor a b, e, h => (tst a e h).bind fun k h1 => if k then .ok true h1 else tst b e h1
  | .bnot a, e, h => (tst a e h).bind fun k h1 => .ok (!k) h1
  | .non, _, h => .ok false h
  | .bl b, _, h => .ok b h
  | .int i, _, h => .ok (i != 0) h
  | .str s, _, h => ofOpt (truth h (.pv (.str s))) h
  | .gl j, _, h => opt G[j]? fun v => ofOpt (truth h (.pv v)) h
  | .var i, e, h => match e[i]? with
    | some (some v) => ofOpt (truth h (.pv v)) h
    | _ => .bad
  | .cmp op a b, e, h => (ev a e h).bind fun x h1 => (ev b e h1).bind fun y h2 => opt (cmpOp op h2 x y) fun c => .ok c h2
  | .cmp2 op op' a b c, e, h => (ev a e h).bind fun x h1 => (ev b e h1).bind fun y h2 => opt (cmpOp op h2 x y) fun k =>
      if k then (ev c e h2).bind fun z h3 => opt (cmpOp op' h3 y z) fun m => .ok m h3 else .ok false h2
  | .idx a b, e, h => (ev a e h).bind fun x h1 => (ev b e h1).bind fun y h2 => opt (getIx h2 x y) fun v => ofOpt (truth h2 (.pv v)) h2
  | .call f es, e, h => (evL es e h).bind fun rs h1 => (F f (fixL rs h1).1 (fixL rs h1).2).bind fun r h2 => ofOpt (truth h2 r) h2
  | .bi b es, e, h => (evL es e h).bind fun rs h1 => opt (callB b h1 rs) fun r => ofOpt (truth h1 r) h1
  | .isi a t, e, h => (ev a e h).bind fun x h1 => ofOpt (isTy h1 t x) h1
  | _, _, _ => .bad
/-- a clause's tests: none or one -/
def tsts : CL → Env → MH → Res Bool
  | .nil, _, h => .ok true h
  | .cons a _, e, h => tst a e h
end
end

/-! ### statements -/
mutual
inductive CS where
  | asg (i : Nat) (e : CE)
  /-- i, j, .. = e -/
  | tasg (is : List Nat) (e : CE)
  /-- i, j = a, b: both names are the def's own, no cells -/
  | par (i j : Nat) (a b : CE)
  /-- o[k] = e -/
  | sidx (o k e : CE)
  /-- i op= e -/
  | aug (i : Nat) (op : Operator) (e : CE)
  | drop (e : CE)
  | ret (e : CE) | retN
  | ifs (c : CE) (a b : CSL)
  | fors (t : Tgt) (s : CSrc) (b : CSL)
  | whl (c : CE) (b : CSL)
  | brk | cont | pass
  /-- never reached -/
  | never
inductive CSL where
  | nil | cons (s : CS) (r : CSL)
end
inductive Fl where
  | nx (e : Env) | brk (e : Env) | cont (e : Env) | ret (r : RV)
def setIx (h : MH) (o k : RV) (v : PV) : Option MH := match o, k with
  | .pv (.ref n), .pv k => match h[n]? with
    | some (.lst xs) => match k with
      | .int i => (ixN xs.length i).map fun j => h.set n (.lst (xs.set j v))
      | _ => none
    | some (.dct kvs) => if isKey k && Nat.blt kvs.length LINE then some (h.set n (.dct (dput kvs k v))) else none
    | _ => none
  | _, _ => none
def forL (body : Env → MH → Res Fl) (t : Tgt) (lock : Option (Nat × List PV)) : List PV → Env → MH → Res Fl
  | [], e, h => if lockOk lock h then .ok (.nx e) h else .bad
  | x :: xs, e, h => if lockOk lock h then opt (t.set x e) fun e' => (body e' h).bind fun f h1 => match f with
      | .nx e2 => forL body t lock xs e2 h1
      | .cont e2 => forL body t lock xs e2 h1
      | .brk e2 => .ok (.nx e2) h1
      | .ret r => .ok (.ret r) h1
    else .bad
def whlL (c : Env → MH → Res Bool) (body : Env → MH → Res Fl) : Nat → Env → MH → Res Fl
  | 0, _, _ => .bad
  | n + 1, e, h => (c e h).bind fun k h1 => if k then (body e h1).bind fun f h2 => match f with
      | .nx e2 => whlL c body n e2 h2
      | .cont e2 => whlL c body n e2 h2
      | .brk e2 => .ok (.nx e2) h2
      | .ret r => .ok (.ret r) h2
    else .ok (.nx e) h1
def TURNS : Nat := 1000000
section
variable (F : Nat → List PV → MH → Res RV) (G : List PV)
mutual
def ex : CS → Env → MH → Res Fl
  | .asg i a, e, h => (ev F G a e h).bind fun r h1 => .ok (.nx (e.set i (some (fix r h1).1))) (fix r h1).2
  | .tasg is a, e, h => (ev F G a e h).bind fun r h1 => match r with
    | .pv (.tup xs) => opt (setAll is xs e) fun e' => .ok (.nx e') h1
    | _ => .bad
  | .par i j a b, e, h => (ev F G a e h).bind fun x h1 => (ev F G b e h1).bind fun y h2 =>
      .ok (.nx ((e.set i (some (fix x h2).1)).set j (some (fix y (fix x h2).2).1))) (fix y (fix x h2).2).2
  | .sidx o k a, e, h => (ev F G a e h).bind fun r h1 => (ev F G o e h1).bind fun x h2 => (ev F G k e h2).bind fun y h3 =>
      opt (setIx (fix r h3).2 x y (fix r h3).1) fun h4 => .ok (.nx e) h4
  | .aug i op a, e, h => match e[i]? with
    | some (some v) => (ev F G a e h).bind fun y h1 => opt (augOp op (.pv v) y) fun w => .ok (.nx (e.set i (some w))) h1
    | _ => .bad
  | .drop a, e, h => (ev F G a e h).bind fun _ h1 => .ok (.nx e) h1
  | .ret a, e, h => (ev F G a e h).bind fun r h1 => .ok (.ret r) h1
  | .retN, _, h => .ok (.ret (.pv .non)) h
  | .ifs c a b, e, h => (tst F G c e h).bind fun k h1 => if k then exs a e h1 else exs b e h1
  | .fors t s b, e, h => (evS F G s e h).bind fun p h1 => forL (exs b) t p.1 p.2 e h1
  | .whl c b, e, h => whlL (tst F G c) (exs b) TURNS e h
  | .brk, e, h => .ok (.brk e) h
  | .cont, e, h => .ok (.cont e) h
  | .pass, e, h => .ok (.nx e) h
  | .never, _, _ => .bad
def exs : CSL → Env → MH → Res Fl
  | .nil, e, h => .ok (.nx e) h
  | .cons s r, e, h => (ex s e h).bind fun f h1 => match f with
    | .nx e1 => exs r e1 h1
    | f => .ok f h1
end
end

/-! ### calls -/
/-- what a call leaves: its own objects are let go where nothing else holds them -/
def norm (h0 : MH) (r : RV) (h : MH) : Res RV :=
  if h.length = h0.length then .ok r h
  else if h.take h0.length = h0 || allLt h0.length (h.take h0.length) then match r with
    | .pv (.ref n) => if Nat.blt n h0.length then .ok (.pv (.ref n)) (h.take h0.length) else match h[n]? with
      | some (.lst xs) => if PV.ltL h0.length xs then .ok (.lst xs) (h.take h0.length) else .ok r h
      | some (.dct kvs) => if ltK h0.length kvs then .ok (.dct kvs) (h.take h0.length) else .ok r h
      | _ => .ok r h
    | .pv v => if v.lt h0.length then .ok (.pv v) (h.take h0.length) else .ok r h
    | .lst xs => if PV.ltL h0.length xs then .ok (.lst xs) (h.take h0.length) else .ok r h
    | .dct kvs => if ltK h0.length kvs then .ok (.dct kvs) (h.take h0.length) else .ok r h
  else .ok r h
structure FDef where
  np : Nat
  nv : Nat
  body : CSL
def call1 (F : Nat → List PV → MH → Res RV) (G : List PV) (d : FDef) (args : List PV) (h : MH) : Res RV :=
  if args.length = d.np then
    (exs F G d.body (args.map some ++ List.replicate (d.nv - d.np) none) h).bind fun f h1 => match f with
      | .nx _ => norm h (.pv .non) h1
      | .ret r => norm h r h1
      | _ => .bad
  else .bad
def run (P : List FDef) (G : List PV) : Nat → Nat → List PV → MH → Res RV
  | 0, _, _, _ => .bad
  | k + 1, f, args, h => match P[f]? with
    | some d => call1 (run P G k) G d args h
    | none => .bad
end Pf
/-! PfRel: what the interpreter's values and heap stand for in HandS's. -/
namespace Pf
open PySem PySem.Spec PyProof.Rows L2

abbrev toS (s : Txt) : Str := ⟨s.toArray⟩
/-- what nobody changes -/
inductive FK where
  | t (vs : List V) | l (vs : List V)
def FA (H : Hp) (a : Addr) : FK → Prop
  | .t vs => Rd H a (.tup vs)
  | .l vs => ∃ ob, H a = some (.frz ob (.lst vs))
theorem FA.obj {H : Hp} {a : Addr} {k : FK} (h : FA H a k) : ∃ o, H a = some o := by
  cases k with
  | t vs => rcases h with h | ⟨ob, h⟩ <;> exact ⟨_, h⟩
  | l vs => obtain ⟨ob, h⟩ := h; exact ⟨_, h⟩
theorem FA.eq {H H' : Hp} {a : Addr} {k : FK} (h : FA H a k) (e : H' a = H a) : FA H' a k := by
  cases k with
  | t vs =>
    rcases h with h | ⟨ob, h⟩
    · exact .inl (e.trans h)
    · exact .inr ⟨ob, e.trans h⟩
  | l vs => obtain ⟨ob, h⟩ := h; exact ⟨ob, e.trans h⟩
theorem FA.upd {H : Hp} {a p : Addr} {o : HO} {k : FK} (h : FA H a k) (ne : a ≠ p) : FA (upd H p o) a k := h.eq (upd_ne ne)
theorem FA.some {H H' : Hp} {a : Addr} {k : FK} (h : FA H a k) (e : ∀ o, H a = some o → H' a = some o) : FA H' a k := by
  obtain ⟨o, ho⟩ := h.obj
  exact h.eq ((e o ho).trans ho.symm)
/-- the script: frozen, or one of the written part's own -/
def ScrA (K : PySem.W.Frag) (H : Hp) (a : Addr) (vs : List V) : Prop := (∃ ob, H a = Option.some (.frz ob (.lst vs))) ∨ ∀ H', SqL K H' a vs
theorem ScrA.sq {K : PySem.W.Frag} {H : Hp} {a : Addr} {vs : List V} (h : ScrA K H a vs) : SqL K H a vs := by
  rcases h with ⟨ob, h⟩ | h
  · exact .inl (.inr ⟨ob, h⟩)
  · exact h H
section
variable (K : PySem.W.Frag) (β : List Addr) (H : Hp)
mutual
def VR : PV → V → Prop
  | .non, v => v = .non
  | .bl b, v => v = .bl b
  | .int i, v => v = .int i
  | .str s, v => v = .str (toS s)
  | .tup xs, v => ∃ a vs, v = .ref a ∧ SqT K H a vs ∧ VRs xs vs
  | .ref n, v => ∃ a, v = .ref a ∧ β[n]? = some a
  | .scr xs, v => ∃ a vs, v = .ref a ∧ ScrA K H a vs ∧ VRs xs vs
def VRs : List PV → List V → Prop
  | [], vs => vs = []
  | x :: xs, vs => ∃ v r, vs = v :: r ∧ VR x v ∧ VRs xs r
end
def keyP : Key → PV
  | .inl i => .int i
  | .inr s => .str s.cps.toList
def DR : List (PV × PV) → List (Key × V) → Prop
  | [], ks => ks = []
  | (k, v) :: r, ks => ∃ j w t, ks = (j, w) :: t ∧ keyP j = k ∧ VR K β H v w ∧ DR r t
def OR (a : Addr) : MO → Prop
  | .lst xs => ∃ vs, H a = some (.lst vs) ∧ VRs K β H xs vs
  | .dct kvs => ∃ ks, H a = some (.dK ks) ∧ DR K β H kvs ks
structure Sim (mh : MH) : Prop where
  len : β.length = mh.length
  nd : β.Nodup
  obj : ∀ (n : Nat) (a : Addr) (o : MO), β[n]? = some a → mh[n]? = some o → OR K β H a o
def RR : RV → V → Prop
  | .pv v, w => VR K β H v w
  | .lst xs, w => ∃ a vs, w = .ref a ∧ a ∉ β ∧ H a = some (.lst vs) ∧ VRs K β H xs vs
  | .dct kvs, w => ∃ a ks, w = .ref a ∧ a ∉ β ∧ H a = some (.dK ks) ∧ DR K β H kvs ks
end
/-- the address of what nothing holds -/
def tmp : RV → V → Option Addr
  | .pv _, _ => none
  | _, .ref a => some a
  | _, _ => none
/-- it was made since H -/
def Fr (H : Hp) (r : RV) (w : V) : Prop := ∀ a, tmp r w = some a → H a = none
def RRs (K : PySem.W.Frag) (β : List Addr) (H : Hp) : List RV → List V → Prop
  | [], ws => ws = []
  | r :: rs, ws => ∃ w t, ws = w :: t ∧ RR K β H r w ∧ RRs K β H rs t
def tmps : List RV → List V → List Addr
  | r :: rs, w :: ws => match tmp r w with
    | some a => a :: tmps rs ws
    | none => tmps rs ws
  | _, _ => []
structure Ext (β : List Addr) (H : Hp) (β' : List Addr) (H' : Hp) : Prop where
  pre : β <+: β'
  tup : ∀ a k, FA H a k → FA H' a k
  keep : ∀ a o, a ∉ β → H a = some o → H' a = some o
  new : ∀ a, a ∈ β' → a ∉ β → H a = none
  back : ∀ a, H' a = none → H a = none

section
variable {K : PySem.W.Frag} {β β1 β2 β' : List Addr} {H H1 H2 H' : Hp} {mh : MH} {a p : Addr} {o : HO}
theorem Ext.refl : Ext β H β H := ⟨List.prefix_refl _, fun _ _ h => h, fun _ _ _ h => h, fun _ h n => absurd h n, fun _ h => h⟩
theorem Ext.trans (x : Ext β H β1 H1) (y : Ext β1 H1 β2 H2) : Ext β H β2 H2 where
  pre := x.pre.trans y.pre
  tup := fun a vs h => y.tup a vs (x.tup a vs h)
  keep := fun a o n h => by
    refine y.keep a o (fun m => ?_) (x.keep a o n h)
    have := x.new a m n
    rw [h] at this; cases this
  new := fun a m n => by
    by_cases m1 : a ∈ β1
    · exact x.new a m1 n
    · exact x.back a (y.new a m m1)
  back := fun a h => x.back a (y.back a h)
/-- more is held -/
theorem Ext.track (x : Ext β H β1 H1) (p : β1 <+: β2) (n : ∀ a, a ∈ β2 → a ∉ β1 → H a = none) : Ext β H β2 H1 :=
  ⟨x.pre.trans p, x.tup, x.keep, fun a m hn => by
    by_cases m1 : a ∈ β1
    · exact x.new a m1 hn
    · exact n a m m1, x.back⟩
theorem Ext.laid (hp : H p = none) : Ext β H β (upd H p o) where
  pre := List.prefix_refl _
  tup := fun a k h => h.upd (let ⟨_, e⟩ := h.obj; ne_of_none e hp)
  keep := fun a ob _ h => by rw [upd_ne (ne_of_none h hp)]; exact h
  new := fun _ h n => absurd h n
  back := fun a h => by
    by_cases e : a = p
    · subst e; rw [upd_same] at h; cases h
    · rwa [upd_ne e] at h
/-- as much as values lean on -/
structure Wk (β : List Addr) (H : Hp) (β' : List Addr) (H' : Hp) : Prop where
  pre : β <+: β'
  tup : ∀ a k, FA H a k → FA H' a k
theorem Ext.wk (x : Ext β H β' H') : Wk β H β' H' := ⟨x.pre, x.tup⟩
theorem Wk.track (p : β <+: β') : Wk β H β' H := ⟨p, fun _ _ h => h⟩
theorem sqt_wk (x : Wk β H β' H') {vs : List V} (h : SqT K H a vs) : SqT K H' a vs := by
  rcases h with h | h
  · exact .inl (x.tup _ (.t vs) h)
  · exact .inr h
theorem scr_wk (x : Wk β H β' H') {vs : List V} (h : ScrA K H a vs) : ScrA K H' a vs := by
  rcases h with h | h
  · exact .inl (x.tup _ (.l vs) h)
  · exact .inr h
mutual
theorem VR.wk (x : Wk β H β' H') : ∀ {v : PV} {w : V}, VR K β H v w → VR K β' H' v w
  | .non, _, h => h
  | .bl _, _, h => h
  | .int _, _, h => h
  | .str _, _, h => h
  | .tup xs, _, h => by
    obtain ⟨a, vs, e, h1, h2⟩ := h
    exact ⟨a, vs, e, sqt_wk x h1, VRs.wk x h2⟩
  | .ref n, _, h => by
    obtain ⟨a, e, h1⟩ := h
    obtain ⟨t, rfl⟩ := x.pre
    exact ⟨a, e, by rw [List.getElem?_append_left]; exact h1; exact (List.getElem?_eq_some_iff.mp h1).1⟩
  | .scr xs, _, h => by
    obtain ⟨a, vs, e, h1, h2⟩ := h
    exact ⟨a, vs, e, scr_wk x h1, VRs.wk x h2⟩
theorem VRs.wk (x : Wk β H β' H') : ∀ {vs : List PV} {ws : List V}, VRs K β H vs ws → VRs K β' H' vs ws
  | [], _, h => h
  | v :: vs, _, h => by
    obtain ⟨w, t, e, h1, h2⟩ := h
    exact ⟨w, t, e, VR.wk x h1, VRs.wk x h2⟩
end
theorem DR.wk (x : Wk β H β' H') : ∀ {vs : List (PV × PV)} {ws : List (Key × V)}, DR K β H vs ws → DR K β' H' vs ws
  | [], _, h => h
  | (k, v) :: vs, _, h => by
    obtain ⟨j, w, t, e, h0, h1, h2⟩ := h
    exact ⟨j, w, t, e, h0, h1.wk x, DR.wk x h2⟩
theorem VR.ext (x : Ext β H β' H') {v : PV} {w : V} (h : VR K β H v w) : VR K β' H' v w := h.wk x.wk
theorem VRs.ext (x : Ext β H β' H') {v : List PV} {w : List V} (h : VRs K β H v w) : VRs K β' H' v w := h.wk x.wk
theorem DR.ext (x : Ext β H β' H') {v : List (PV × PV)} {w : List (Key × V)} (h : DR K β H v w) : DR K β' H' v w := h.wk x.wk
theorem RR.ext (x : Ext β H β' H') : ∀ {r : RV} {w : V}, RR K β H r w → RR K β' H' r w
  | .pv v, _, h => VR.ext x h
  | .lst xs, _, h => by
    obtain ⟨a, vs, e, n, h1, h2⟩ := h
    refine ⟨a, vs, e, fun m => ?_, x.keep _ _ n h1, h2.ext x⟩
    have := x.new a m n
    rw [h1] at this; cases this
  | .dct kvs, _, h => by
    obtain ⟨a, vs, e, n, h1, h2⟩ := h
    refine ⟨a, vs, e, fun m => ?_, x.keep _ _ n h1, h2.ext x⟩
    have := x.new a m n
    rw [h1] at this; cases this
theorem RRs.ext (x : Ext β H β' H') : ∀ {r : List RV} {w : List V}, RRs K β H r w → RRs K β' H' r w
  | [], _, h => h
  | r :: rs, _, h => by
    obtain ⟨w, t, e, h1, h2⟩ := h
    exact ⟨w, t, e, h1.ext x, RRs.ext x h2⟩
theorem VRs.length : ∀ {vs : List PV} {ws : List V}, VRs K β H vs ws → ws.length = vs.length
  | [], _, h => by cases h; rfl
  | v :: vs, _, h => by
    obtain ⟨w, t, rfl, h1, h2⟩ := h
    simp [VRs.length h2]
theorem RRs.length : ∀ {vs : List RV} {ws : List V}, RRs K β H vs ws → ws.length = vs.length
  | [], _, h => by cases h; rfl
  | v :: vs, _, h => by
    obtain ⟨w, t, rfl, h1, h2⟩ := h
    simp [RRs.length h2]
theorem DR.length : ∀ {vs : List (PV × PV)} {ws : List (Key × V)}, DR K β H vs ws → ws.length = vs.length
  | [], _, h => by cases h; rfl
  | v :: vs, _, h => by
    obtain ⟨j, w, t, rfl, _, h1, h2⟩ := h
    simp [DR.length h2]
theorem VRs.get : ∀ {vs : List PV} {ws : List V} {i : Nat} {v : PV}, VRs K β H vs ws → vs[i]? = some v → ∃ w, ws[i]? = some w ∧ VR K β H v w
  | [], _, i, _, h, e => by simp at e
  | x :: vs, _, 0, v, h, e => by
    obtain ⟨w, t, rfl, h1, h2⟩ := h
    simp at e; subst e
    exact ⟨w, rfl, h1⟩
  | x :: vs, _, i + 1, v, h, e => by
    obtain ⟨w, t, rfl, h1, h2⟩ := h
    simpa using VRs.get (i := i) h2 (by simpa using e)
theorem VRs.get' : ∀ {vs : List PV} {ws : List V} {i : Nat} {w : V}, VRs K β H vs ws → ws[i]? = some w → ∃ v, vs[i]? = some v ∧ VR K β H v w
  | [], _, i, _, h, e => by cases h; simp at e
  | x :: vs, _, 0, v, h, e => by
    obtain ⟨w, t, rfl, h1, h2⟩ := h
    simp at e; subst e
    exact ⟨x, rfl, h1⟩
  | x :: vs, _, i + 1, v, h, e => by
    obtain ⟨w, t, rfl, h1, h2⟩ := h
    simpa using VRs.get' (i := i) h2 (by simpa using e)
theorem VRs.append : ∀ {vs us : List PV} {ws xs : List V}, VRs K β H vs ws → VRs K β H us xs → VRs K β H (vs ++ us) (ws ++ xs)
  | [], _, _, _, h, g => by cases h; exact g
  | v :: vs, _, _, _, h, g => by
    obtain ⟨w, t, rfl, h1, h2⟩ := h
    exact ⟨w, _, rfl, h1, VRs.append h2 g⟩
theorem VRs.drop : ∀ {vs : List PV} {ws : List V} (n : Nat), VRs K β H vs ws → VRs K β H (vs.drop n) (ws.drop n)
  | _, _, 0, h => h
  | [], _, n + 1, h => by cases h; rfl
  | v :: vs, _, n + 1, h => by
    obtain ⟨w, t, rfl, h1, h2⟩ := h
    exact VRs.drop n h2
theorem VRs.take : ∀ {vs : List PV} {ws : List V} (n : Nat), VRs K β H vs ws → VRs K β H (vs.take n) (ws.take n)
  | _, _, 0, h => rfl
  | [], _, n + 1, h => by cases h; rfl
  | v :: vs, _, n + 1, h => by
    obtain ⟨w, t, rfl, h1, h2⟩ := h
    exact ⟨w, _, rfl, h1, VRs.take n h2⟩
theorem VRs.set : ∀ {vs : List PV} {ws : List V} (n : Nat) {v : PV} {w : V}, VRs K β H vs ws → VR K β H v w → VRs K β H (vs.set n v) (ws.set n w)
  | [], _, _, _, _, h, g => by cases h; rfl
  | v :: vs, _, 0, _, _, h, g => by
    obtain ⟨w, t, rfl, h1, h2⟩ := h
    exact ⟨_, _, rfl, g, h2⟩
  | v :: vs, _, n + 1, _, _, h, g => by
    obtain ⟨w, t, rfl, h1, h2⟩ := h
    exact ⟨_, _, rfl, h1, VRs.set n h2 g⟩
theorem VRs.dropLast {vs : List PV} {ws : List V} (h : VRs K β H vs ws) : VRs K β H vs.dropLast ws.dropLast := by
  rw [List.dropLast_eq_take, List.dropLast_eq_take, h.length]
  exact h.take _
/-- what is tracked is kept where the heap stands -/
theorem OR.wk (x : Wk β H β' H') {o : MO} (h : OR K β H a o) (e : H' a = H a) : OR K β' H' a o := by
  cases o with
  | lst xs =>
    obtain ⟨vs, h1, h2⟩ := h
    exact ⟨vs, e.trans h1, h2.wk x⟩
  | dct kvs =>
    obtain ⟨vs, h1, h2⟩ := h
    exact ⟨vs, e.trans h1, h2.wk x⟩
theorem OR.obj {a : Addr} {o : MO} (h : OR K β H a o) : ∃ u, H a = some u := by
  cases o with
  | lst xs => obtain ⟨vs, h1, _⟩ := h; exact ⟨_, h1⟩
  | dct xs => obtain ⟨vs, h1, _⟩ := h; exact ⟨_, h1⟩
theorem Sim.there (s : Sim K β H mh) {n : Nat} (h : β[n]? = some a) : ∃ o, mh[n]? = some o ∧ OR K β H a o := by
  have l : n < mh.length := by rw [← s.len]; exact (List.getElem?_eq_some_iff.mp h).1
  exact ⟨mh[n], by simp [l], s.obj n a _ h (by simp [l])⟩
theorem Sim.held (s : Sim K β H mh) (h : a ∈ β) : ∃ u, H a = some u := by
  obtain ⟨n, hn⟩ := List.mem_iff_getElem?.mp h
  obtain ⟨o, _, x⟩ := s.there hn
  exact x.obj
theorem Sim.ext (x : Ext β H β H') (s : Sim K β H mh) (e : ∀ a ∈ β, H' a = H a) : Sim K β H' mh :=
  ⟨s.len, s.nd, fun n a o h1 h2 => (s.obj n a o h1 h2).wk x.wk (e a (List.mem_of_getElem? h1))⟩
theorem Sim.laid (s : Sim K β H mh) (hp : H p = none) : Sim K β (upd H p o) mh := s.ext (Ext.laid hp) fun a m => by
  obtain ⟨u, hu⟩ := s.held m
  exact upd_ne (ne_of_none hu hp)
theorem Sim.notin (s : Sim K β H mh) (hp : H p = none) : p ∉ β := fun m => by
  obtain ⟨u, hu⟩ := s.held m
  rw [hp] at hu; cases hu
/-- a new object is tracked -/
theorem Sim.track {ob : MO} (s : Sim K β H mh) (hn : a ∉ β) (h : OR K β H a ob) : Sim K (β ++ [a]) H (mh ++ [ob]) := by
  have w : Wk β H (β ++ [a]) H := Wk.track (List.prefix_append _ _)
  refine ⟨by simp [s.len], ?_, fun n b o h1 h2 => ?_⟩
  · rw [List.nodup_append]
    refine ⟨s.nd, by simp, fun x hx y hy => ?_⟩
    have e : y = a := by simpa using hy
    subst e
    intro e; subst e; exact hn hx
  · by_cases hl : n < mh.length
    · rw [List.getElem?_append_left (by rw [s.len]; exact hl)] at h1
      rw [List.getElem?_append_left hl] at h2
      exact (s.obj n b o h1 h2).wk w rfl
    · have e : n = mh.length := by
        have := (List.getElem?_eq_some_iff.mp h2).1
        simp at this; omega
      subst e
      rw [List.getElem?_append_right (by rw [s.len]; exact Nat.le_refl _)] at h1
      rw [List.getElem?_append_right (Nat.le_refl _)] at h2
      simp [s.len] at h1 h2
      subst h1; subst h2
      exact h.wk w rfl
/-- an object is changed -/
theorem Sim.put {n : Nat} {ob : MO} {u : HO} (s : Sim K β H mh) (hn : β[n]? = some a) (hu : ∀ k, ¬ FA H a k) (h : OR K β (upd H a u) a ob) : Sim K β (upd H a u) (mh.set n ob) := by
  have w : Wk β H β (upd H a u) := ⟨List.prefix_refl _, fun b k hb => hb.upd fun e => by subst e; exact hu k hb⟩
  refine ⟨by simp [s.len], s.nd, fun m b o h1 h2 => ?_⟩
  by_cases e : m = n
  · subst e
    rw [hn] at h1; cases h1
    have hl : m < mh.length := by rw [← s.len]; exact (List.getElem?_eq_some_iff.mp hn).1
    rw [List.getElem?_set_self hl] at h2; cases h2
    exact h
  · rw [List.getElem?_set_ne (Ne.symm e)] at h2
    have ne : b ≠ a := fun z => by
      subst z
      obtain ⟨l1, e1⟩ := List.getElem?_eq_some_iff.mp h1
      obtain ⟨l2, e2⟩ := List.getElem?_eq_some_iff.mp hn
      exact e ((List.getElem_inj s.nd).mp (e1.trans e2.symm))
    exact (s.obj m b o h1 h2).wk w (upd_ne ne)
theorem Ext.put {u v : HO} {ob : MO} (ha : a ∈ β) (h : H a = some v) (hu : ∀ k, ¬ FA H a k) : Ext β H β (upd H a u) where
  pre := List.prefix_refl _
  tup := fun b k hb => hb.upd fun e => by subst e; exact hu k hb
  keep := fun b o n h => by rw [upd_ne (fun e => n (by subst e; exact ha))]; exact h
  new := fun _ h n => absurd h n
  back := fun b h' => by
    by_cases e : b = a
    · subst e; rw [upd_same] at h'; cases h'
    · rwa [upd_ne e] at h'
theorem rd_lst {xs : List V} {k : FK} (h : H a = some (.lst xs)) : ¬ FA H a k := fun r => by
  cases k with
  | t vs => rcases r with r | ⟨o, r⟩ <;> (rw [h] at r; cases r)
  | l vs => obtain ⟨o, r⟩ := r; rw [h] at r; cases r
theorem rd_dK {k : FK} {xs : List (Key × V)} (h : H a = some (.dK xs)) : ¬ FA H a k := fun r => by
  cases k with
  | t vs => rcases r with r | ⟨o, r⟩ <;> (rw [h] at r; cases r)
  | l vs => obtain ⟨o, r⟩ := r; rw [h] at r; cases r
/-- a result is held -/
theorem fix_ok {r : RV} {w : V} (s : Sim K β H mh) (h : RR K β H r w) : ∃ β', β <+: β' ∧ (∀ a, a ∈ β' → a ∉ β → tmp r w = some a) ∧ Sim K β' H (fix r mh).2 ∧ VR K β' H (fix r mh).1 w := by
  cases r with
  | pv v => exact ⟨β, List.prefix_refl _, fun _ m n => absurd m n, s, h⟩
  | lst xs =>
    obtain ⟨a, vs, rfl, n, h1, h2⟩ := h
    refine ⟨β ++ [a], List.prefix_append _ _, fun b m n => ?_, s.track n ⟨vs, h1, h2⟩, a, rfl, ?_⟩
    · rcases List.mem_append.mp m with m | m
      · exact absurd m n
      · have e : b = a := by simpa using m
        subst e; rfl
    · rw [List.getElem?_append_right (by rw [s.len]; exact Nat.le_refl _)]; simp [s.len]
  | dct xs =>
    obtain ⟨a, vs, rfl, n, h1, h2⟩ := h
    refine ⟨β ++ [a], List.prefix_append _ _, fun b m n => ?_, s.track n ⟨vs, h1, h2⟩, a, rfl, ?_⟩
    · rcases List.mem_append.mp m with m | m
      · exact absurd m n
      · have e : b = a := by simpa using m
        subst e; rfl
    · rw [List.getElem?_append_right (by rw [s.len]; exact Nat.le_refl _)]; simp [s.len]
theorem tmp_some {r : RV} {w : V} (h : RR K β H r w) (e : tmp r w = some a) : (∃ o, H a = some o) ∧ a ∉ β ∧ w = .ref a := by
  cases r with
  | pv v => cases e
  | lst xs =>
    obtain ⟨b, vs, rfl, n, h1, h2⟩ := h
    cases e; exact ⟨⟨_, h1⟩, n, rfl⟩
  | dct xs =>
    obtain ⟨b, vs, rfl, n, h1, h2⟩ := h
    cases e; exact ⟨⟨_, h1⟩, n, rfl⟩
/-- another's result is untouched by that -/
theorem RR.track {r : RV} {w : V} (h : RR K β H r w) (p : β <+: β') (n : ∀ a, tmp r w = some a → a ∉ β') : RR K β' H r w := by
  cases r with
  | pv v => exact VR.wk (Wk.track p) h
  | lst xs =>
    obtain ⟨b, vs, rfl, _, h1, h2⟩ := h
    exact ⟨b, vs, rfl, n b rfl, h1, h2.wk (Wk.track p)⟩
  | dct xs =>
    obtain ⟨b, vs, rfl, _, h1, h2⟩ := h
    exact ⟨b, vs, rfl, n b rfl, h1, h2.wk (Wk.track p)⟩
theorem tmps_cons {r : RV} {rs : List RV} {w : V} {ws : List V} : tmps (r :: rs) (w :: ws) = (tmp r w).toList ++ tmps rs ws := by
  simp only [tmps]
  cases tmp r w <;> rfl
theorem RRs.track : ∀ {rs : List RV} {ws : List V}, RRs K β H rs ws → β <+: β' → (∀ a, a ∈ tmps rs ws → a ∉ β') → RRs K β' H rs ws
  | [], _, h, _, _ => h
  | r :: rs, _, h, p, n => by
    obtain ⟨w, t, rfl, h1, h2⟩ := h
    rw [tmps_cons] at n
    exact ⟨w, t, rfl, h1.track p fun a e => n a (List.mem_append_left _ (by rw [e]; simp)), RRs.track h2 p fun a m => n a (List.mem_append_right _ m)⟩
theorem fixL_ok : ∀ {rs : List RV} {ws : List V} {β : List Addr} {mh : MH}, Sim K β H mh → RRs K β H rs ws → (tmps rs ws).Nodup →
    ∃ β', β <+: β' ∧ (∀ a, a ∈ β' → a ∉ β → a ∈ tmps rs ws) ∧ Sim K β' H (fixL rs mh).2 ∧ VRs K β' H (fixL rs mh).1 ws
  | [], _, β, mh, s, h, _ => ⟨β, List.prefix_refl _, fun _ m n => absurd m n, s, h⟩
  | r :: rs, _, β, mh, s, h, nd => by
    obtain ⟨w, t, rfl, h1, h2⟩ := h
    rw [tmps_cons, List.nodup_append] at nd
    obtain ⟨_, nd2, nd3⟩ := nd
    obtain ⟨β1, p1, n1, s1, v1⟩ := fix_ok s h1
    have hb : ∀ a, a ∈ tmps rs t → a ∉ β := by
      clear nd2 nd3 n1 s1 v1
      induction rs generalizing t with
      | nil => intro a m; cases t <;> simp [tmps] at m
      | cons r' rs ih =>
        intro a m
        obtain ⟨w', t', rfl, g1, g2⟩ := h2
        rw [tmps_cons] at m
        rcases List.mem_append.mp m with m | m
        · have e : tmp r' w' = some a := by simpa [Option.mem_toList] using m
          exact (tmp_some g1 e).2.1
        · exact ih t' g2 a m
    obtain ⟨β2, p2, n2, s2, v2⟩ := fixL_ok (rs := rs) (ws := t) s1 (h2.track p1 fun a m z => by
      have e := n1 a z (hb a m)
      exact nd3 a (by rw [e]; simp) a m rfl) nd2
    refine ⟨β2, p1.trans p2, fun a m n => ?_, s2, w, t, rfl, v1.wk (Wk.track p2), v2⟩
    rw [tmps_cons]
    by_cases m1 : a ∈ β1
    · exact List.mem_append_left _ (by rw [n1 a m1 n]; simp)
    · exact List.mem_append_right _ (n2 a m m1)
end
end Pf
/-! PfEq: == of the interpreter is == of the machine. -/
namespace Pf
open PySem PySem.Spec PyProof.Rows L2
section
variable {K : PySem.W.Frag} {β : List Addr} {H : Hp} {mh : MH}
theorem toS_inj {a b : Txt} (h : toS a = toS b) : a = b := by
  have h1 := congrArg (fun z : Str => z.cps.toList) h
  simpa using h1
theorem toS_beq (a b : Txt) : (toS a == toS b) = (a == b) := by
  by_cases e : a = b
  · subst e; simp
  · have n : ¬ toS a = toS b := fun z => e (toS_inj z)
    have h1 : (toS a == toS b) = false := by simpa using n
    have h2 : (a == b) = false := by simpa using e
    rw [h1, h2]
theorem eqvL_spec {f : PV → PV → Option Bool} : ∀ {xs ys : List PV} {b : Bool}, eqvL f xs ys = some b →
    ∃ e : Nat → Bool, (∀ j x y, xs[j]? = some x → ys[j]? = some y → f x y = some (e j)) ∧ b = ((List.range (min xs.length ys.length)).all e && xs.length == ys.length)
  | [], [], b, h => ⟨fun _ => true, fun j x y h1 => by simp at h1, by simp [eqvL] at h; simp [h]⟩
  | [], y :: ys, b, h => ⟨fun _ => true, fun j x y h1 => by simp at h1, by simp [eqvL] at h; simp [h]⟩
  | x :: xs, [], b, h => ⟨fun _ => true, fun j x y _ h1 => by simp at h1, by simp [eqvL] at h; simp [h]⟩
  | x :: xs, y :: ys, b, h => by
    simp only [eqvL] at h
    split at h
    · rename_i a c h1 h2
      cases h
      obtain ⟨e, he, hb⟩ := eqvL_spec h2
      refine ⟨fun j => match j with | 0 => a | j + 1 => e j, fun j u v g1 g2 => ?_, ?_⟩
      · cases j with
        | zero => simp at g1 g2; subst g1; subst g2; exact h1
        | succ j => exact he j u v (by simpa using g1) (by simpa using g2)
      · subst hb
        have e1 : min (x :: xs).length (y :: ys).length = min xs.length ys.length + 1 := by simp only [List.length_cons]; omega
        rw [e1, List.range_succ_eq_map]
        simp only [List.all_cons, List.all_map, List.length_cons]
        have e2 : (xs.length + 1 == ys.length + 1) = (xs.length == ys.length) := by simp
        rw [e2, Bool.and_assoc]
        rfl
    · cases h
mutual
theorem VR.inj (nd : β.Nodup) (tl : ∀ (a : Addr) (vs ws : List V), SqT K H a vs → SqT K H a ws → vs = ws) (nt : ∀ (a : Addr) (vs : List V) (n : Nat), SqT K H a vs → β[n]? = some a → False) (sn : ∀ (a : Addr) (vs ws : List V), ScrA K H a vs → SqT K H a ws → False) (sr : ∀ (a : Addr) (vs : List V) (n : Nat), ScrA K H a vs → β[n]? = some a → False) (sl : ∀ (a : Addr) (vs ws : List V), ScrA K H a vs → ScrA K H a ws → vs = ws) : ∀ {x y : PV} {w : V}, VR K β H x w → VR K β H y w → x = y
  | .non, y, w, h, g => by cases h; cases y <;> simp [VR] at g <;> rfl
  | .bl b, y, w, h, g => by cases h; cases y <;> simp [VR] at g <;> simp [g]
  | .int b, y, w, h, g => by cases h; cases y <;> simp [VR] at g <;> simp [g]
  | .str b, y, w, h, g => by cases h; cases y <;> simp [VR] at g <;> simp [g]
  | .tup xs, y, w, h, g => by
    obtain ⟨a, vs, rfl, h1, h2⟩ := h
    cases y with
    | tup ys =>
      obtain ⟨b, ws, e, g1, g2⟩ := g
      cases e
      obtain rfl := tl a vs ws h1 g1
      rw [VRs.inj nd tl nt sn sr sl h2 g2]
    | ref n =>
      obtain ⟨b, e, g1⟩ := g
      cases e
      exact (nt a vs n h1 g1).elim
    | scr ys =>
      obtain ⟨b, ws, e, g1, g2⟩ := g
      cases e
      exact (sn a _ _ g1 h1).elim
    | non => cases g
    | bl _ => cases g
    | int _ => cases g
    | str _ => cases g
  | .ref n, y, w, h, g => by
    obtain ⟨a, rfl, h1⟩ := h
    cases y with
    | tup ys =>
      obtain ⟨b, ws, e, g1, g2⟩ := g
      cases e
      exact (nt a ws n g1 h1).elim
    | ref m =>
      obtain ⟨b, e, g1⟩ := g
      cases e
      obtain ⟨l1, e1⟩ := List.getElem?_eq_some_iff.mp h1
      obtain ⟨l2, e2⟩ := List.getElem?_eq_some_iff.mp g1
      rw [(List.getElem_inj nd).mp (e1.trans e2.symm)]
    | scr ys =>
      obtain ⟨b, ws, e, g1, g2⟩ := g
      cases e
      exact (sr a _ n g1 h1).elim
    | non => cases g
    | bl _ => cases g
    | int _ => cases g
    | str _ => cases g
  | .scr xs, y, w, h, g => by
    obtain ⟨a, vs, rfl, h1, h2⟩ := h
    cases y with
    | tup ys =>
      obtain ⟨b, ws, e, g1, g2⟩ := g
      cases e
      exact (sn a _ _ h1 g1).elim
    | scr ys =>
      obtain ⟨b, ws, e, g1, g2⟩ := g
      cases e
      obtain rfl := sl a vs ws h1 g1
      rw [VRs.inj nd tl nt sn sr sl h2 g2]
    | ref n =>
      obtain ⟨b, e, g1⟩ := g
      cases e
      exact (sr a vs n h1 g1).elim
    | non => cases g
    | bl _ => cases g
    | int _ => cases g
    | str _ => cases g
theorem VRs.inj (nd : β.Nodup) (tl : ∀ (a : Addr) (vs ws : List V), SqT K H a vs → SqT K H a ws → vs = ws) (nt : ∀ (a : Addr) (vs : List V) (n : Nat), SqT K H a vs → β[n]? = some a → False) (sn : ∀ (a : Addr) (vs ws : List V), ScrA K H a vs → SqT K H a ws → False) (sr : ∀ (a : Addr) (vs : List V) (n : Nat), ScrA K H a vs → β[n]? = some a → False) (sl : ∀ (a : Addr) (vs ws : List V), ScrA K H a vs → ScrA K H a ws → vs = ws) : ∀ {x y : List PV} {w : List V}, VRs K β H x w → VRs K β H y w → x = y
  | [], y, w, h, g => by
    cases h
    cases y with
    | nil => rfl
    | cons => obtain ⟨_, _, e, _⟩ := g; cases e
  | x :: xs, y, w, h, g => by
    obtain ⟨v, t, rfl, h1, h2⟩ := h
    cases y with
    | nil => cases g
    | cons =>
      obtain ⟨_, _, e, g1, g2⟩ := g
      cases e
      rw [VR.inj nd tl nt sn sr sl h1 g1, VRs.inj nd tl nt sn sr sl h2 g2]
end
end
section
variable {X : Cx} {pins : List (Addr × Obj)} {σ : L2.St} {H : Hp} {s : Shared} {β : List Addr} {mh : MH}
theorem tup_notlist {a : Addr} {vs ws : List V} (I : Inv X pins σ H s) (h : SqT X.K H a vs) (g : SqL X.K H a ws) : False := by
  obtain ⟨its, r, ht, _⟩ := I.tuple h
  obtain ⟨js, q, hl, _⟩ := I.list g
  obtain ⟨o, e1, c1, _⟩ := ht
  obtain ⟨o', n, e2, c2, _⟩ := hl
  rw [e1] at e2; cases e2
  rw [c1] at c2
  injection c2 with z
  exact absurd z (by decide)
theorem Sim.ntup (sm : Sim X.K β H mh) (I : Inv X pins σ H s) (a : Addr) (vs : List V) (n : Nat) (h : SqT X.K H a vs) (e : β[n]? = some a) : False := by
  obtain ⟨o, _, q⟩ := sm.there e
  cases o with
  | lst xs =>
    obtain ⟨ws, h1, _⟩ := q
    exact tup_notlist I h (SqL.of h1)
  | dct ks =>
    obtain ⟨ws, h1, _⟩ := q
    obtain ⟨its, r, ⟨ob, e1, c1, _⟩, _⟩ := I.tuple h
    obtain ⟨_, _, vs', _, ob2, es, ep, e2, c2, _⟩ := (show ObjOk X.prog X.w H s.heap a (.dK ws) from I.hok a _ h1)
    rw [e1] at e2; cases e2
    have := c2.1
    rw [c1] at this
    injection this with z
    exact absurd z (by decide)
theorem Sim.nscr (sm : Sim X.K β H mh) (I : Inv X pins σ H s) (a : Addr) (vs : List V) (n : Nat) (h : ScrA X.K H a vs) (e : β[n]? = some a) : False := by
  obtain ⟨o, _, q⟩ := sm.there e
  have key : (∃ ob, H a = some (.frz ob (.lst vs))) ∨ H a = none := by
    rcases h with h | h
    · exact .inl h
    · rcases h (fun _ => none) with (z | ⟨ob, z⟩) | ⟨o', its, n', hk, _⟩
      · cases z
      · cases z
      · exact .inr (I.bs a o' (I.mod.kin _ _ hk)).2
  cases o with
  | lst xs =>
    obtain ⟨ws, h1, _⟩ := q
    rcases key with ⟨ob, z⟩ | z <;> (rw [h1] at z; cases z)
  | dct ks =>
    obtain ⟨ws, h1, _⟩ := q
    rcases key with ⟨ob, z⟩ | z <;> (rw [h1] at z; cases z)
theorem VR.uniq (sm : Sim X.K β H mh) (I : Inv X pins σ H s) {x y : PV} {w : V} (h : VR X.K β H x w) (g : VR X.K β H y w) : x = y :=
  h.inj sm.nd (fun _ _ _ p q => I.tuple_inj p q) (sm.ntup I) (fun _ _ _ p q => tup_notlist I q p.sq) (sm.nscr I) (fun _ _ _ p q => I.list_inj p.sq q.sq) g
/-- == of equal things -/
theorem eqvL_refl {f : PV → PV → Option Bool} (hf : ∀ x b, f x x = some b → b = true) : ∀ {xs : List PV} {b : Bool}, eqvL f xs xs = some b → b = true
  | [], b, h => by simp [eqvL] at h; exact h
  | x :: xs, b, h => by
    simp only [eqvL] at h
    split at h
    · rename_i a c h1 h2
      cases h
      rw [hf _ _ h1, eqvL_refl hf h2]; rfl
    · cases h
theorem eqv_refl : ∀ {n : Nat} {x : PV} {b : Bool}, eqv mh n x x = some b → b = true
  | 0, x, b, h => by simp [eqv] at h
  | n + 1, x, b, h => by
    cases x with
    | non => simp [eqv] at h; exact h
    | bl c => simp [eqv] at h; exact h
    | int c => simp [eqv] at h; exact h
    | str c => simp [eqv] at h; exact h
    | tup xs => simp only [eqv] at h; exact eqvL_refl (fun x b => eqv_refl) h
    | ref i => simp [eqv] at h; exact h
    | scr xs => simp [eqv] at h
theorem PlainLL {h : Heap} {a : Addr} {its : Array Value} (x : PlainL h a its) : h.IsList a its := x.isList
theorem vals_getE {ws : List V} {us : List Value} (r : Vals ws us) {j : Nat} (h : j < us.toArray.size) : ∃ w, ws[j]? = some w ∧ RelV w us.toArray[j] := by
  have hl := r.length
  have hj : j < us.length := by simpa using h
  have hw : j < ws.length := by omega
  obtain ⟨u, hu, rv⟩ := r.get (List.getElem?_eq_getElem hw)
  refine ⟨ws[j], List.getElem?_eq_getElem hw, ?_⟩
  have e : us.toArray[j] = u := by
    rw [List.getElem?_eq_getElem hj] at hu
    simpa using Option.some.inj hu
  rw [e]; exact rv
/-- elementwise -/
theorem kids {n : Nat} (hrec : ∀ {x y : PV} {b : Bool} {w u : V} {v v' : Value}, VR X.K β H x w → VR X.K β H y u → RelV w v → RelV u v' → eqv mh n x y = some b → ∀ A : Around, A.units + n < cLine → SeqAt.EqAt A s v v' b)
    {xs ys : List PV} {b : Bool} {ws us : List V} {its its2 : List Value} (hx : VRs X.K β H xs ws) (hy : VRs X.K β H ys us) (rx : Vals ws its) (ry : Vals us its2) (h : eqvL (eqv mh n) xs ys = some b) :
    ∃ e : Nat → Bool, b = ((List.range (min its.toArray.size its2.toArray.size)).all e && its.toArray.size == its2.toArray.size) ∧ ∀ A : Around, A.units + n < cLine → ∀ j (h1 : j < its.toArray.size) (h2 : j < its2.toArray.size), SeqAt.EqAt A s its.toArray[j] its2.toArray[j] (e j) := by
  obtain ⟨e, he, hb⟩ := eqvL_spec h
  have l1 : its.toArray.size = xs.length := by rw [List.size_toArray, ← rx.length, hx.length]
  have l2 : its2.toArray.size = ys.length := by rw [List.size_toArray, ← ry.length, hy.length]
  refine ⟨e, by rw [l1, l2]; exact hb, fun A hu j h1 h2 => ?_⟩
  obtain ⟨w, hw, r1⟩ := vals_getE rx h1
  obtain ⟨u, hu', r2⟩ := vals_getE ry h2
  obtain ⟨x, ex, vx⟩ := hx.get' hw
  obtain ⟨y, ey, vy⟩ := hy.get' hu'
  exact hrec vx vy r1 r2 (he j x y ex ey) A hu
theorem eqv_at (sm : Sim X.K β H mh) (I : Inv X pins σ H s) : ∀ (n : Nat) {x y : PV} {b : Bool} {w u : V} {v v' : Value}, VR X.K β H x w → VR X.K β H y u → RelV w v → RelV u v' → eqv mh n x y = some b →
    ∀ A : Around, A.units + n < cLine → SeqAt.EqAt A s v v' b
  | 0, _, _, _, _, _, _, _, _, _, _, _, h, _, _ => by simp [eqv] at h
  | n + 1, x, y, b, w, u, v, v', hx, hy, rx, ry, h, A, hu => by
    have hu0 : A.units < cLine := by omega
    -- a list
    have isl : ∀ {i : Nat} {a : Addr} {xs : List PV}, β[i]? = some a → mh[i]? = some (.lst xs) → ∃ ws its, VRs X.K β H xs ws ∧ Vals ws its ∧ s.heap.IsList a its.toArray := fun {i a xs} e1 e2 => by
      obtain ⟨ws, h1, h2⟩ := sm.obj i a _ e1 e2
      obtain ⟨its, r, p, _⟩ := I.list (SqL.of h1)
      exact ⟨ws, its, h2, r, p.isList⟩
    have hasl : ∀ {i : Nat} {c : Bool}, lstF mh i = some c → c = false ∧ ∃ xs, mh[i]? = some (.lst xs) := fun {i c} q => by
      unfold lstF at q
      split at q
      · rename_i xs e
        cases q
        exact ⟨rfl, xs, e⟩
      · cases q
    cases x with
    | scr zs => simp [eqv] at h
    | non =>
      cases hx; cases rx
      cases y with
      | scr zs => simp [eqv] at h
      | non => cases hy; cases ry; simp [eqv] at h; subst h; exact SeqAt.EqAt.same _
      | bl c => cases hy; cases ry; simp [eqv] at h; subst h; exact SeqAt.EqAt.none_bool _
      | int c => cases hy; obtain ⟨t, rfl⟩ := ry; simp [eqv] at h; subst h; exact SeqAt.EqAt.none_int _ _
      | str c => cases hy; obtain ⟨t, rfl⟩ := ry; simp [eqv] at h; subst h; exact SeqAt.EqAt.none_str _ _
      | tup ys =>
        obtain ⟨a, vs, rfl, h1, h2⟩ := hy; cases ry
        simp [eqv] at h; subst h
        obtain ⟨its, _, ht, _⟩ := I.tuple h1
        exact SeqAt.EqAt.none_tuple ht hu0
      | ref j =>
        obtain ⟨a, rfl, h1⟩ := hy; cases ry
        obtain ⟨rfl, xs, e⟩ := hasl (by simpa only [eqv] using h)
        obtain ⟨_, its, _, _, hl⟩ := isl h1 e
        exact SeqAt.EqAt.none_list hl hu0
    | bl d =>
      cases hx; cases rx
      cases y with
      | scr zs => simp [eqv] at h
      | non => cases hy; cases ry; simp [eqv] at h; subst h; exact SeqAt.EqAt.bool_none _
      | bl c => cases hy; cases ry; simp only [eqv, Option.some.injEq] at h; subst h; exact SeqAt.EqAt.bool_bool _ _
      | int c => cases hy; obtain ⟨t, rfl⟩ := ry; simp only [eqv, Option.some.injEq] at h; subst h; exact SeqAt.EqAt.bool_int _ _ _
      | str c => cases hy; obtain ⟨t, rfl⟩ := ry; simp [eqv] at h; subst h; exact SeqAt.EqAt.bool_str _ _ _
      | tup ys =>
        obtain ⟨a, vs, rfl, h1, h2⟩ := hy; cases ry
        simp [eqv] at h; subst h
        obtain ⟨its, _, ht, _⟩ := I.tuple h1
        exact SeqAt.EqAt.bool_tuple _ ht hu0
      | ref j =>
        obtain ⟨a, rfl, h1⟩ := hy; cases ry
        obtain ⟨rfl, xs, e⟩ := hasl (by simpa only [eqv] using h)
        obtain ⟨_, its, _, _, hl⟩ := isl h1 e
        exact SeqAt.EqAt.bool_list _ hl hu0
    | int d =>
      cases hx; obtain ⟨t0, rfl⟩ := rx
      cases y with
      | scr zs => simp [eqv] at h
      | non => cases hy; cases ry; simp [eqv] at h; subst h; exact SeqAt.EqAt.int_none _ _
      | bl c => cases hy; cases ry; simp only [eqv, Option.some.injEq] at h; subst h; exact SeqAt.EqAt.int_bool _ _ _
      | int c => cases hy; obtain ⟨t, rfl⟩ := ry; simp only [eqv, Option.some.injEq] at h; subst h; exact SeqAt.EqAt.int_int _ _ _ _
      | str c => cases hy; obtain ⟨t, rfl⟩ := ry; simp [eqv] at h; subst h; exact SeqAt.EqAt.int_str _ _ _ _
      | tup ys =>
        obtain ⟨a, vs, rfl, h1, h2⟩ := hy; cases ry
        simp [eqv] at h; subst h
        obtain ⟨its, _, ht, _⟩ := I.tuple h1
        exact SeqAt.EqAt.int_tuple _ _ ht hu0
      | ref j =>
        obtain ⟨a, rfl, h1⟩ := hy; cases ry
        obtain ⟨rfl, xs, e⟩ := hasl (by simpa only [eqv] using h)
        obtain ⟨_, its, _, _, hl⟩ := isl h1 e
        exact SeqAt.EqAt.int_list _ _ hl hu0
    | str d =>
      cases hx; obtain ⟨t0, rfl⟩ := rx
      cases y with
      | scr zs => simp [eqv] at h
      | non => cases hy; cases ry; simp [eqv] at h; subst h; exact SeqAt.EqAt.str_none _ _
      | bl c => cases hy; cases ry; simp [eqv] at h; subst h; exact SeqAt.EqAt.str_bool _ _ _
      | int c => cases hy; obtain ⟨t, rfl⟩ := ry; simp [eqv] at h; subst h; exact SeqAt.EqAt.str_int _ _ _ _
      | str c => cases hy; obtain ⟨t, rfl⟩ := ry; simp only [eqv, Option.some.injEq] at h; subst h; rw [← toS_beq]; exact SeqAt.EqAt.str_str _ _ _ _
      | tup ys =>
        obtain ⟨a, vs, rfl, h1, h2⟩ := hy; cases ry
        simp [eqv] at h; subst h
        obtain ⟨its, _, ht, _⟩ := I.tuple h1
        exact SeqAt.EqAt.str_tuple _ _ ht hu0
      | ref j =>
        obtain ⟨a, rfl, h1⟩ := hy; cases ry
        obtain ⟨rfl, xs, e⟩ := hasl (by simpa only [eqv] using h)
        obtain ⟨_, its, _, _, hl⟩ := isl h1 e
        exact SeqAt.EqAt.str_list _ _ hl hu0
    | tup xs =>
      have hxo := hx
      obtain ⟨a, ws, rfl, g1, g2⟩ := hx; cases rx
      obtain ⟨its, r1, ht, _⟩ := I.tuple g1
      cases y with
      | scr zs => simp [eqv] at h
      | non => cases hy; cases ry; simp [eqv] at h; subst h; exact SeqAt.EqAt.tuple_none ht hu0
      | bl c => cases hy; cases ry; simp [eqv] at h; subst h; exact SeqAt.EqAt.tuple_bool _ ht hu0
      | int c => cases hy; obtain ⟨t, rfl⟩ := ry; simp [eqv] at h; subst h; exact SeqAt.EqAt.tuple_int _ _ ht hu0
      | str c => cases hy; obtain ⟨t, rfl⟩ := ry; simp [eqv] at h; subst h; exact SeqAt.EqAt.tuple_str _ _ ht hu0
      | tup ys =>
        have hyo := hy
        obtain ⟨c, us, rfl, q1, q2⟩ := hy; cases ry
        obtain ⟨its2, r2, ht2, _⟩ := I.tuple q1
        simp only [eqv] at h
        by_cases eac : a = c
        · subst eac
          have e := VR.uniq sm I hxo hyo
          cases e
          rw [eqvL_refl (fun x b => eqv_refl) h]
          exact SeqAt.EqAt.same _
        · obtain ⟨e, rfl, he⟩ := kids (fun a1 a2 a3 a4 a5 => eqv_at sm I n a1 a2 a3 a4 a5) g2 q2 r1 r2 h
          exact SeqAt.EqAt.of_refs eac (SeqAt.RcAt.tuples ht ht2 hu0 (he A.in1 (by show A.units + 1 + n < cLine; omega)))
      | ref j =>
        obtain ⟨c, rfl, h1⟩ := hy; cases ry
        obtain ⟨rfl, xs', e⟩ := hasl (by simpa only [eqv] using h)
        obtain ⟨_, its, _, _, hl⟩ := isl h1 e
        exact SeqAt.EqAt.tuple_list ht hl hu0
    | ref i =>
      obtain ⟨a, rfl, g1⟩ := hx; cases rx
      cases y with
      | scr zs => simp [eqv] at h
      | non =>
        cases hy; cases ry
        obtain ⟨rfl, xs', e⟩ := hasl (by simpa only [eqv] using h)
        obtain ⟨_, its, _, _, hl⟩ := isl g1 e
        exact SeqAt.EqAt.list_none hl hu0
      | bl c =>
        cases hy; cases ry
        obtain ⟨rfl, xs', e⟩ := hasl (by simpa only [eqv] using h)
        obtain ⟨_, its, _, _, hl⟩ := isl g1 e
        exact SeqAt.EqAt.list_bool _ hl hu0
      | int c =>
        cases hy; obtain ⟨t, rfl⟩ := ry
        obtain ⟨rfl, xs', e⟩ := hasl (by simpa only [eqv] using h)
        obtain ⟨_, its, _, _, hl⟩ := isl g1 e
        exact SeqAt.EqAt.list_int _ _ hl hu0
      | str c =>
        cases hy; obtain ⟨t, rfl⟩ := ry
        obtain ⟨rfl, xs', e⟩ := hasl (by simpa only [eqv] using h)
        obtain ⟨_, its, _, _, hl⟩ := isl g1 e
        exact SeqAt.EqAt.list_str _ _ hl hu0
      | tup ys =>
        obtain ⟨c, us, rfl, q1, q2⟩ := hy; cases ry
        obtain ⟨its2, r2, ht2, _⟩ := I.tuple q1
        obtain ⟨rfl, xs', e⟩ := hasl (by simpa only [eqv] using h)
        obtain ⟨_, its, _, _, hl⟩ := isl g1 e
        exact SeqAt.EqAt.list_tuple hl ht2 hu0
      | ref j =>
        obtain ⟨c, rfl, h1⟩ := hy; cases ry
        simp only [eqv] at h
        split at h
        · rename_i eij
          subst eij
          rw [g1] at h1; cases h1
          cases h
          exact SeqAt.EqAt.same _
        · rename_i nij
          have nac : a ≠ c := fun e => by
            subst e
            obtain ⟨l1, e1⟩ := List.getElem?_eq_some_iff.mp g1
            obtain ⟨l2, e2⟩ := List.getElem?_eq_some_iff.mp h1
            exact nij ((List.getElem_inj sm.nd).mp (e1.trans e2.symm))
          split at h
          · rename_i xs ys e1 e2
            obtain ⟨ws, its, v1, r1, hl1⟩ := isl g1 e1
            obtain ⟨us, its2, v2, r2, hl2⟩ := isl h1 e2
            have l1 : its.toArray.size = xs.length := by rw [List.size_toArray, ← r1.length, v1.length]
            have l2 : its2.toArray.size = ys.length := by rw [List.size_toArray, ← r2.length, v2.length]
            split at h
            · rename_i el
              obtain ⟨e, rfl, he⟩ := kids (fun a1 a2 a3 a4 a5 => eqv_at sm I n a1 a2 a3 a4 a5) v1 v2 r1 r2 h
              have sz : its.toArray.size = its2.toArray.size := by rw [l1, l2, el]
              rw [← sz, Nat.min_self]
              simp only [beq_self_eq_true, Bool.and_true]
              exact SeqAt.EqAt.of_refs nac (SeqAt.RcAt.lists hl1 hl2 sz hu0 (he A.in1 (by show A.units + 1 + n < cLine; omega)))
            · rename_i el
              cases h
              exact SeqAt.EqAt.of_refs nac (SeqAt.RcAt.lists_lengths hl1 hl2 (by rw [l1, l2]; simpa using el) hu0)
          · cases h
theorem eqv_rc (sm : Sim X.K β H mh) (I : Inv X pins σ H s) (n : Nat) {x y : PV} {b : Bool} {w u : V} {v v' : Value} (hx : VR X.K β H x w) (hy : VR X.K β H y u) (rx : RelV w v) (ry : RelV u v') (h : eqv mh (n + 1) x y = some b)
    (hnr : ∀ i j, x = .ref i → y = .ref j → False) (A : Around) (hu : A.units + (n + 1) < cLine) : SeqAt.RcAt A s v v' b ∧ SeqAt.RcNeAt A s v v' (!b) := by
  have hu0 : A.units < cLine := by omega
  -- a list
  have isl : ∀ {i : Nat} {a : Addr} {xs : List PV}, β[i]? = some a → mh[i]? = some (.lst xs) → ∃ ws its, VRs X.K β H xs ws ∧ Vals ws its ∧ s.heap.IsList a its.toArray := fun {i a xs} e1 e2 => by
    obtain ⟨ws, h1, h2⟩ := sm.obj i a _ e1 e2
    obtain ⟨its, r, p, _⟩ := I.list (SqL.of h1)
    exact ⟨ws, its, h2, r, p.isList⟩
  have hasl : ∀ {i : Nat} {c : Bool}, lstF mh i = some c → c = false ∧ ∃ xs, mh[i]? = some (.lst xs) := fun {i c} q => by
    unfold lstF at q
    split at q
    · rename_i xs e
      cases q
      exact ⟨rfl, xs, e⟩
    · cases q
  cases x with
  | scr zs => simp [eqv] at h
  | non =>
    cases hx; cases rx
    cases y with
    | scr zs => simp [eqv] at h
    | non => cases hy; cases ry; simp [eqv] at h; subst h; exact ⟨SeqAt.RcAt.none_none, SeqAt.RcNeAt.none_none⟩
    | bl c => cases hy; cases ry; simp [eqv] at h; subst h; exact ⟨SeqAt.RcAt.none_bool _, SeqAt.RcNeAt.none_bool _⟩
    | int c => cases hy; obtain ⟨t, rfl⟩ := ry; simp [eqv] at h; subst h; exact ⟨SeqAt.RcAt.none_int _ _, SeqAt.RcNeAt.none_int _ _⟩
    | str c => cases hy; obtain ⟨t, rfl⟩ := ry; simp [eqv] at h; subst h; exact ⟨SeqAt.RcAt.none_str _ _, SeqAt.RcNeAt.none_str _ _⟩
    | tup ys =>
      obtain ⟨a, vs, rfl, h1, h2⟩ := hy; cases ry
      simp [eqv] at h; subst h
      obtain ⟨its, _, ht, _⟩ := I.tuple h1
      exact ⟨SeqAt.RcAt.none_tuple ht hu0, SeqAt.RcNeAt.none_tuple ht hu0⟩
    | ref j =>
      obtain ⟨a, rfl, h1⟩ := hy; cases ry
      obtain ⟨rfl, xs, e⟩ := hasl (by simpa only [eqv] using h)
      obtain ⟨_, its, _, _, hl⟩ := isl h1 e
      exact ⟨SeqAt.RcAt.none_list hl hu0, SeqAt.RcNeAt.none_list hl hu0⟩
  | bl d =>
    cases hx; cases rx
    cases y with
    | scr zs => simp [eqv] at h
    | non => cases hy; cases ry; simp [eqv] at h; subst h; exact ⟨SeqAt.RcAt.bool_none _, SeqAt.RcNeAt.bool_none _⟩
    | bl c => cases hy; cases ry; simp only [eqv, Option.some.injEq] at h; subst h; exact ⟨SeqAt.RcAt.bool_bool _ _, SeqAt.RcNeAt.bool_bool _ _⟩
    | int c => cases hy; obtain ⟨t, rfl⟩ := ry; simp only [eqv, Option.some.injEq] at h; subst h; exact ⟨SeqAt.RcAt.bool_int _ _ _, SeqAt.RcNeAt.bool_int _ _ _⟩
    | str c => cases hy; obtain ⟨t, rfl⟩ := ry; simp [eqv] at h; subst h; exact ⟨SeqAt.RcAt.bool_str _ _ _, SeqAt.RcNeAt.bool_str _ _ _⟩
    | tup ys =>
      obtain ⟨a, vs, rfl, h1, h2⟩ := hy; cases ry
      simp [eqv] at h; subst h
      obtain ⟨its, _, ht, _⟩ := I.tuple h1
      exact ⟨SeqAt.RcAt.bool_tuple _ ht hu0, SeqAt.RcNeAt.bool_tuple _ ht hu0⟩
    | ref j =>
      obtain ⟨a, rfl, h1⟩ := hy; cases ry
      obtain ⟨rfl, xs, e⟩ := hasl (by simpa only [eqv] using h)
      obtain ⟨_, its, _, _, hl⟩ := isl h1 e
      exact ⟨SeqAt.RcAt.bool_list _ hl hu0, SeqAt.RcNeAt.bool_list _ hl hu0⟩
  | int d =>
    cases hx; obtain ⟨t0, rfl⟩ := rx
    cases y with
    | scr zs => simp [eqv] at h
    | non => cases hy; cases ry; simp [eqv] at h; subst h; exact ⟨SeqAt.RcAt.int_none _ _, SeqAt.RcNeAt.int_none _ _⟩
    | bl c => cases hy; cases ry; simp only [eqv, Option.some.injEq] at h; subst h; exact ⟨SeqAt.RcAt.int_bool _ _ _, SeqAt.RcNeAt.int_bool _ _ _⟩
    | int c => cases hy; obtain ⟨t, rfl⟩ := ry; simp only [eqv, Option.some.injEq] at h; subst h; exact ⟨SeqAt.RcAt.int_int _ _ _ _, SeqAt.RcNeAt.int_int _ _ _ _⟩
    | str c => cases hy; obtain ⟨t, rfl⟩ := ry; simp [eqv] at h; subst h; exact ⟨SeqAt.RcAt.int_str _ _ _ _, SeqAt.RcNeAt.int_str _ _ _ _⟩
    | tup ys =>
      obtain ⟨a, vs, rfl, h1, h2⟩ := hy; cases ry
      simp [eqv] at h; subst h
      obtain ⟨its, _, ht, _⟩ := I.tuple h1
      exact ⟨SeqAt.RcAt.int_tuple _ _ ht hu0, SeqAt.RcNeAt.int_tuple _ _ ht hu0⟩
    | ref j =>
      obtain ⟨a, rfl, h1⟩ := hy; cases ry
      obtain ⟨rfl, xs, e⟩ := hasl (by simpa only [eqv] using h)
      obtain ⟨_, its, _, _, hl⟩ := isl h1 e
      exact ⟨SeqAt.RcAt.int_list _ _ hl hu0, SeqAt.RcNeAt.int_list _ _ hl hu0⟩
  | str d =>
    cases hx; obtain ⟨t0, rfl⟩ := rx
    cases y with
    | scr zs => simp [eqv] at h
    | non => cases hy; cases ry; simp [eqv] at h; subst h; exact ⟨SeqAt.RcAt.str_none _ _, SeqAt.RcNeAt.str_none _ _⟩
    | bl c => cases hy; cases ry; simp [eqv] at h; subst h; exact ⟨SeqAt.RcAt.str_bool _ _ _, SeqAt.RcNeAt.str_bool _ _ _⟩
    | int c => cases hy; obtain ⟨t, rfl⟩ := ry; simp [eqv] at h; subst h; exact ⟨SeqAt.RcAt.str_int _ _ _ _, SeqAt.RcNeAt.str_int _ _ _ _⟩
    | str c => cases hy; obtain ⟨t, rfl⟩ := ry; simp only [eqv, Option.some.injEq] at h; subst h; rw [← toS_beq]; exact ⟨SeqAt.RcAt.str_str _ _ _ _, SeqAt.RcNeAt.str_str _ _ _ _⟩
    | tup ys =>
      obtain ⟨a, vs, rfl, h1, h2⟩ := hy; cases ry
      simp [eqv] at h; subst h
      obtain ⟨its, _, ht, _⟩ := I.tuple h1
      exact ⟨SeqAt.RcAt.str_tuple _ _ ht hu0, SeqAt.RcNeAt.str_tuple _ _ ht hu0⟩
    | ref j =>
      obtain ⟨a, rfl, h1⟩ := hy; cases ry
      obtain ⟨rfl, xs, e⟩ := hasl (by simpa only [eqv] using h)
      obtain ⟨_, its, _, _, hl⟩ := isl h1 e
      exact ⟨SeqAt.RcAt.str_list _ _ hl hu0, SeqAt.RcNeAt.str_list _ _ hl hu0⟩
  | tup xs =>
    have hxo := hx
    obtain ⟨a, ws, rfl, g1, g2⟩ := hx; cases rx
    obtain ⟨its, r1, ht, _⟩ := I.tuple g1
    cases y with
    | scr zs => simp [eqv] at h
    | non => cases hy; cases ry; simp [eqv] at h; subst h; exact ⟨SeqAt.RcAt.tuple_none ht hu0, SeqAt.RcNeAt.tuple_none ht hu0⟩
    | bl c => cases hy; cases ry; simp [eqv] at h; subst h; exact ⟨SeqAt.RcAt.tuple_bool _ ht hu0, SeqAt.RcNeAt.tuple_bool _ ht hu0⟩
    | int c => cases hy; obtain ⟨t, rfl⟩ := ry; simp [eqv] at h; subst h; exact ⟨SeqAt.RcAt.tuple_int _ _ ht hu0, SeqAt.RcNeAt.tuple_int _ _ ht hu0⟩
    | str c => cases hy; obtain ⟨t, rfl⟩ := ry; simp [eqv] at h; subst h; exact ⟨SeqAt.RcAt.tuple_str _ _ ht hu0, SeqAt.RcNeAt.tuple_str _ _ ht hu0⟩
    | tup ys =>
      have hyo := hy
      obtain ⟨c, us, rfl, q1, q2⟩ := hy; cases ry
      obtain ⟨its2, r2, ht2, _⟩ := I.tuple q1
      simp only [eqv] at h
      obtain ⟨e, rfl, he⟩ := kids (fun a1 a2 a3 a4 a5 => eqv_at sm I n a1 a2 a3 a4 a5) g2 q2 r1 r2 h
      exact ⟨SeqAt.RcAt.tuples ht ht2 hu0 (he A.in1 (by show A.units + 1 + n < cLine; omega)), SeqAt.RcNeAt.tuples ht ht2 hu0 (he A.in1 (by show A.units + 1 + n < cLine; omega))⟩
    | ref j =>
      obtain ⟨c, rfl, h1⟩ := hy; cases ry
      obtain ⟨rfl, xs', e⟩ := hasl (by simpa only [eqv] using h)
      obtain ⟨_, its, _, _, hl⟩ := isl h1 e
      exact ⟨SeqAt.RcAt.tuple_list ht hl hu0, SeqAt.RcNeAt.tuple_list ht hl hu0⟩
  | ref i =>
    obtain ⟨a, rfl, g1⟩ := hx; cases rx
    cases y with
    | scr zs => simp [eqv] at h
    | non =>
      cases hy; cases ry
      obtain ⟨rfl, xs', e⟩ := hasl (by simpa only [eqv] using h)
      obtain ⟨_, its, _, _, hl⟩ := isl g1 e
      exact ⟨SeqAt.RcAt.list_none hl hu0, SeqAt.RcNeAt.list_none hl hu0⟩
    | bl c =>
      cases hy; cases ry
      obtain ⟨rfl, xs', e⟩ := hasl (by simpa only [eqv] using h)
      obtain ⟨_, its, _, _, hl⟩ := isl g1 e
      exact ⟨SeqAt.RcAt.list_bool _ hl hu0, SeqAt.RcNeAt.list_bool _ hl hu0⟩
    | int c =>
      cases hy; obtain ⟨t, rfl⟩ := ry
      obtain ⟨rfl, xs', e⟩ := hasl (by simpa only [eqv] using h)
      obtain ⟨_, its, _, _, hl⟩ := isl g1 e
      exact ⟨SeqAt.RcAt.list_int _ _ hl hu0, SeqAt.RcNeAt.list_int _ _ hl hu0⟩
    | str c =>
      cases hy; obtain ⟨t, rfl⟩ := ry
      obtain ⟨rfl, xs', e⟩ := hasl (by simpa only [eqv] using h)
      obtain ⟨_, its, _, _, hl⟩ := isl g1 e
      exact ⟨SeqAt.RcAt.list_str _ _ hl hu0, SeqAt.RcNeAt.list_str _ _ hl hu0⟩
    | tup ys =>
      obtain ⟨c, us, rfl, q1, q2⟩ := hy; cases ry
      obtain ⟨its2, r2, ht2, _⟩ := I.tuple q1
      obtain ⟨rfl, xs', e⟩ := hasl (by simpa only [eqv] using h)
      obtain ⟨_, its, _, _, hl⟩ := isl g1 e
      exact ⟨SeqAt.RcAt.list_tuple hl ht2 hu0, SeqAt.RcNeAt.list_tuple hl ht2 hu0⟩
    | ref j => exact (hnr i j rfl rfl).elim
/-- two lists -/
theorem eqvL_rc (sm : Sim X.K β H mh) (I : Inv X pins σ H s) (n : Nat) {xs ys : List PV} {b : Bool} {a c : Addr} {ws us : List V} (hx : VRs X.K β H xs ws) (hy : VRs X.K β H ys us) (ha : H a = some (.lst ws)) (hc : H c = some (.lst us))
    (h : (if xs.length = ys.length then eqvL (eqv mh n) xs ys else some false) = some b) (A : Around) (hu : A.units + (n + 1) < cLine) : SeqAt.RcAt A s (.ref a) (.ref c) b ∧ SeqAt.RcNeAt A s (.ref a) (.ref c) (!b) := by
  have hu0 : A.units < cLine := by omega
  obtain ⟨its, r1, p1, _⟩ := I.list (SqL.of ha)
  obtain ⟨its2, r2, p2, _⟩ := I.list (SqL.of hc)
  have l1 : its.toArray.size = xs.length := by rw [List.size_toArray, ← r1.length, hx.length]
  have l2 : its2.toArray.size = ys.length := by rw [List.size_toArray, ← r2.length, hy.length]
  split at h
  · rename_i el
    obtain ⟨e, rfl, he⟩ := kids (fun a1 a2 a3 a4 a5 => eqv_at sm I n a1 a2 a3 a4 a5) hx hy r1 r2 h
    have sz : its.toArray.size = its2.toArray.size := by rw [l1, l2, el]
    rw [← sz, Nat.min_self]
    simp only [beq_self_eq_true, Bool.and_true]
    exact ⟨SeqAt.RcAt.lists p1.isList p2.isList sz hu0 (he A.in1 (by show A.units + 1 + n < cLine; omega)), SeqAt.RcNeAt.lists p1.isList p2.isList sz hu0 (he A.in1 (by show A.units + 1 + n < cLine; omega))⟩
  · rename_i el
    cases h
    exact ⟨SeqAt.RcAt.lists_lengths p1.isList p2.isList (by rw [l1, l2]; simpa using el) hu0, SeqAt.RcNeAt.lists_lengths p1.isList p2.isList (by rw [l1, l2]; simpa using el) hu0⟩
/-! ### dicts -/
theorem keyP_inj {j k : Key} (h : keyP j = keyP k) : j = k := by
  cases j with
  | inl i => cases k with
    | inl i' => simp [keyP] at h; rw [h]
    | inr z => simp [keyP] at h
  | inr z => cases k with
    | inl i' => simp [keyP] at h
    | inr z' =>
      simp only [keyP, PV.str.injEq] at h
      obtain ⟨c⟩ := z; obtain ⟨d⟩ := z'
      have : c = d := by simpa using h
      rw [this]
theorem dget_ok {K : PySem.W.Frag} : ∀ {kvs : List (PV × PV)} {ks : List (Key × V)} (k : Key), DR K β H kvs ks → match dget kvs (keyP k), valV ks k with
    | some v, some w => VR K β H v w
    | none, none => True
    | _, _ => False
  | [], ks, k, h => by cases h; simp [dget, valV]
  | (j, v) :: r, ks, k, h => by
    obtain ⟨j', w, t, rfl, rfl, h1, h2⟩ := h
    by_cases e : j' = k
    · subst e
      rw [valV_pos rfl]
      simp [dget, h1]
    · rw [valV_neg e]
      have ne : ¬ keyP j' = keyP k := fun z => e (keyP_inj z)
      simp only [dget, if_neg ne]
      exact dget_ok k h2
theorem isKey_iff {k : PV} (h : isKey k = true) : ∃ j, keyP j = k := by
  cases k with
  | int i => exact ⟨.inl i, rfl⟩
  | str s => exact ⟨.inr (toS s), by simp [keyP]⟩
  | _ => cases h
theorem keyP_V {K : PySem.W.Frag} {j : Key} {w : V} (h : VR K β H (keyP j) w) : w = kV j := by
  cases j with
  | inl i => exact h
  | inr z => have e : w = .str (toS z.cps.toList) := h; rw [e]; simp [toS, kV]
/-- the hits of two dicts -/
theorem hits_of (sm : Sim X.K β H mh) (I : Inv X pins σ H s) (n : Nat) {ls : List (Key × V)} {kb : List (PV × PV)} {vb : List (Key × Value)} (hb : DR X.K β H kb ls) (rb : KV ls vb) (A : Around) (hu : A.units + n < cLine) :
    ∀ {ka : List (PV × PV)} {ks : List (Key × V)} {va : List (Key × Value)} {b : Bool}, DR X.K β H ka ks → KV ks va → eqvD (eqv mh n) kb ka = some b → PySem.W.KeqHits A s vb va b
  | [], ks, va, b, ha, ra, h => by
    cases ha; cases ra
    simp only [eqvD, Option.some.injEq] at h
    subst h; exact .nil
  | (k, v) :: r, ks, va, b, ha, ra, h => by
    obtain ⟨j, w, t, rfl, rfl, h1, h2⟩ := ha
    cases ra with
    | @cons _ q _ rs rq rr =>
      obtain ⟨q1, q2⟩ := q
      obtain ⟨e1, e2⟩ := rq
      have e1 : j = q1 := e1
      have e2 : RelV w q2 := e2
      subst e1
      have g := dget_ok j hb
      have rv := rb.val j
      simp only [eqvD] at h
      split at h
      · rename_i d1 d2
        cases h
        rw [d1] at g
        cases ev : valV ls j with
        | some z => rw [ev] at g; exact g.elim
        | none =>
          rw [ev] at rv
          cases ew : valueAt vb j with
          | some z => rw [ew] at rv; exact rv.elim
          | none => exact .miss ew
      · rename_i y b' d1 d2
        split at h
        · rename_i c d3
          cases h
          rw [d1] at g
          cases ev : valV ls j with
          | none => rw [ev] at g; exact g.elim
          | some z =>
            rw [ev] at g rv
            cases ew : valueAt vb j with
            | none => rw [ew] at rv; exact rv.elim
            | some z' =>
              rw [ew] at rv
              exact .hit ew (eqv_at sm I n h1 g e2 rv d3 A hu) (hits_of sm I n hb rb A hu h2 rr d2)
        · cases h
      · cases h
/-- == and != as the interpreter tells them -/
theorem eqvR_ok (hu : X.A.units + 64 < cLine) (I : Inv X pins σ H s) {a b : RV} {c : Bool} {x y : V} {v u : Value} {E : Value → Shared → Prop} {Q : Value → Shared → Prop} (sm : Sim X.K β H mh) (ra : RR X.K β H a x) (rb : RR X.K β H b y) (nd : (tmps [a, b] [x, y]).Nodup) (rx : RelV x v) (ry : RelV y u)
    (h : eqvR mh a b = some c) : (Q (.bool c) s → wpAny (model X.prog X.w) X.A (compareOp .Eq v u) Q E s) ∧ (Q (.bool (!c)) s → wpAny (model X.prog X.w) X.A (compareOp .NotEq v u) Q E s) := by
  have sz : X.A.units + (EQN + 1) < cLine := by have : EQN = 40 := rfl; omega
  obtain ⟨β', p, _, s2, w1⟩ := fixL_ok (rs := [a, b]) sm ⟨x, _, rfl, ra, y, _, rfl, rb, rfl⟩ nd
  obtain ⟨_, _, e0, v1, w2⟩ := w1
  cases e0
  obtain ⟨_, _, e0, v2, w3⟩ := w2
  cases e0
  have s2 : Sim X.K β' H (fix b (fix a mh).2).2 := s2
  have v1 : VR X.K β' H (fix a mh).1 x := v1
  have v2 : VR X.K β' H (fix b (fix a mh).2).1 y := v2
  have fin : ∀ {k : Bool}, SeqAt.RcAt X.A s v u k ∧ SeqAt.RcNeAt X.A s v u (!k) → k = c → _ := fun {k} r e => by
    subst e
    exact (⟨fun q => r.1 X.prog X.w E Q q, fun q => r.2 X.prog X.w E Q q⟩ : (Q (.bool k) s → wpAny (model X.prog X.w) X.A (compareOp .Eq v u) Q E s) ∧ (Q (.bool (!k)) s → wpAny (model X.prog X.w) X.A (compareOp .NotEq v u) Q E s))
  unfold eqvR at h
  split at h
  · rename_i i j e1 e2
    rw [e1] at v1; rw [e2] at v2
    obtain ⟨a1, rfl, g1⟩ := v1
    obtain ⟨a2, rfl, g2⟩ := v2
    cases rx; cases ry
    split at h
    · rename_i ka kb o1 o2
      obtain ⟨ks, k1, k2⟩ := s2.obj i a1 _ g1 o1
      obtain ⟨ls, l1, l2⟩ := s2.obj j a2 _ g2 o2
      obtain ⟨_, ya, va, raa, da⟩ := (show ObjOk X.prog X.w H s.heap a1 (.dK ks) from I.hok a1 _ k1)
      obtain ⟨_, yb, vb, rbb, db⟩ := (show ObjOk X.prog X.w H s.heap a2 (.dK ls) from I.hok a2 _ l1)
      have el1 : va.length = ka.length := by rw [← raa.length, k2.length]
      have el2 : vb.length = kb.length := by rw [← rbb.length, l2.length]
      split at h
      · rename_i el
        have hh := hits_of s2 I EQN l2 rbb X.A.in1 (by show X.A.units + 1 + EQN < cLine; omega) k2 raa h
        have eb : (va.length == vb.length) = true := by rw [el1, el2, el]; simp
        exact ⟨fun q => PySem.W.keq_eq ya yb da db (by omega) (fun _ => hh) (by rw [eb, Bool.true_and]; exact q), fun q => PySem.W.keq_ne ya yb da db (by omega) (fun _ => hh) (by rw [eb, Bool.true_and]; exact q)⟩
      · rename_i el
        cases h
        have ne : va.length ≠ vb.length := by rw [el1, el2]; exact el
        have eb : (va.length == vb.length) = false := by simpa using ne
        exact ⟨fun q => PySem.W.keq_eq (r := false) ya yb da db (by omega) (fun e => absurd e ne) (by rw [eb, Bool.false_and]; exact q), fun q => PySem.W.keq_ne (r := false) ya yb da db (by omega) (fun e => absurd e ne) (by rw [eb, Bool.false_and]; exact q)⟩
    · rename_i xs ys o1 o2
      obtain ⟨ks, k1, k2⟩ := s2.obj i a1 _ g1 o1
      obtain ⟨ls, l1, l2⟩ := s2.obj j a2 _ g2 o2
      exact fin (eqvL_rc s2 I EQN k2 l2 k1 l1 h X.A sz) rfl
    · cases h
  · rename_i hn
    exact fin (eqv_rc s2 I EQN v1 v2 rx ry h hn X.A sz) rfl
end
end Pf
/-! PfOps: the interpreter's operations on values are the machine's. -/
namespace Pf
open PySem PySem.Spec PyProof.Rows L2
theorem line_eq : LINE = sizeLine := by rw [sizeLine_eq] <;> rfl
/-- what goes on from H, behind an operation -/
def After (K : PySem.W.Frag) (β : List Addr) (H : Hp) (mh : MH) (r : RV) (Q : VK) : Prop :=
  ∀ β' H' w, Ext β H β' H' → Sim K β' H' mh → RR K β' H' r w → Fr H r w → Q w H'
section
variable {K : PySem.W.Frag} {β : List Addr} {H : Hp} {mh : MH} {Q : VK} {xs : List PV} {vs : List V} {p : Addr}
theorem After.pv {v : PV} {w : V} (q : After K β H mh (.pv v) Q) (s : Sim K β H mh) (h : VR K β H v w) : Q w H := q β H w Ext.refl s h fun _ e => by cases e
theorem After.same {r : RV} {w : V} (q : After K β H mh r Q) (s : Sim K β H mh) (h : RR K β H r w) (f : Fr H r w) : Q w H := q β H w Ext.refl s h f
theorem After.lst (q : After K β H mh (.lst xs) Q) (s : Sim K β H mh) (h : VRs K β H xs vs) : ∀ p, H p = none → Q (.ref p) (upd H p (.lst vs)) := fun p hp =>
  q β _ _ (Ext.laid hp) (s.laid hp) ⟨p, vs, rfl, s.notin hp, upd_same, h.ext (Ext.laid hp)⟩ fun a e => by cases e; exact hp
theorem After.tup (q : After K β H mh (.pv (.tup xs)) Q) (s : Sim K β H mh) (h : VRs K β H xs vs) : ∀ p, H p = none → Q (.ref p) (upd H p (.tup vs)) := fun p hp =>
  q β _ _ (Ext.laid hp) (s.laid hp) ⟨p, vs, rfl, SqT.of upd_same, h.ext (Ext.laid hp)⟩ fun a e => by cases e
theorem lstOf_ok {r : RV} {w : V} (s : Sim K β H mh) (h : RR K β H r w) (e : lstOf mh r = some xs) : ∃ a vs, w = .ref a ∧ SqL K H a vs ∧ VRs K β H xs vs := by
  cases r with
  | lst ys =>
    obtain ⟨a, vs, rfl, _, h1, h2⟩ := h
    cases e
    exact ⟨a, vs, rfl, SqL.of h1, h2⟩
  | dct => cases e
  | pv v =>
    cases v with
    | ref n =>
      obtain ⟨a, rfl, h1⟩ := h
      simp only [lstOf] at e
      split at e
      · rename_i ys ee
        cases e
        obtain ⟨vs, g1, g2⟩ := s.obj n a _ h1 ee
        exact ⟨a, vs, rfl, SqL.of g1, g2⟩
      · cases e
    | scr ys =>
      obtain ⟨a, vs, rfl, h1, h2⟩ := h
      cases e
      exact ⟨a, vs, rfl, h1.sq, h2⟩
    | non => cases e
    | bl _ => cases e
    | int _ => cases e
    | str _ => cases e
    | tup _ => cases e
theorem lstW_ok {r : RV} {w : V} (s : Sim K β H mh) (h : RR K β H r w) (e : lstW mh r = some xs) : ∃ a vs, w = .ref a ∧ H a = some (.lst vs) ∧ VRs K β H xs vs := by
  cases r with
  | lst ys =>
    obtain ⟨a, vs, rfl, _, h1, h2⟩ := h
    cases e
    exact ⟨a, vs, rfl, h1, h2⟩
  | dct => cases e
  | pv v =>
    cases v with
    | scr _ => cases e
    | ref n =>
      obtain ⟨a, rfl, h1⟩ := h
      simp only [lstW] at e
      split at e
      · rename_i ys ee
        cases e
        obtain ⟨vs, g1, g2⟩ := s.obj n a _ h1 ee
        exact ⟨a, vs, rfl, g1, g2⟩
      · cases e
    | non => cases e
    | bl _ => cases e
    | int _ => cases e
    | str _ => cases e
    | tup _ => cases e
theorem dctOf_ok {r : RV} {w : V} {kvs : List (PV × PV)} (s : Sim K β H mh) (h : RR K β H r w) (e : dctOf mh r = some kvs) : ∃ a ks, w = .ref a ∧ H a = some (.dK ks) ∧ DR K β H kvs ks := by
  cases r with
  | dct ys =>
    obtain ⟨a, vs, rfl, _, h1, h2⟩ := h
    cases e
    exact ⟨a, vs, rfl, h1, h2⟩
  | lst => cases e
  | pv v =>
    cases v with
    | scr _ => cases e
    | ref n =>
      obtain ⟨a, rfl, h1⟩ := h
      simp only [dctOf] at e
      split at e
      · rename_i ys ee
        cases e
        obtain ⟨vs, g1, g2⟩ := s.obj n a _ h1 ee
        exact ⟨a, vs, rfl, g1, g2⟩
      · cases e
    | non => cases e
    | bl _ => cases e
    | int _ => cases e
    | str _ => cases e
    | tup _ => cases e
theorem tupOf_ok {r : RV} {w : V} (h : RR K β H r w) (e : tupOf r = some xs) : ∃ a vs, w = .ref a ∧ SqT K H a vs ∧ VRs K β H xs vs := by
  cases r with
  | lst => cases e
  | dct => cases e
  | pv v =>
    cases v with
    | scr _ => cases e
    | tup ys => cases e; exact h
    | non => cases e
    | bl _ => cases e
    | int _ => cases e
    | str _ => cases e
    | ref _ => cases e
theorem seqOf_ok {r : RV} {w : V} (s : Sim K β H mh) (h : RR K β H r w) (e : seqOf mh r = some xs) : ∃ a vs, w = .ref a ∧ (SqL K H a vs ∨ SqT K H a vs) ∧ VRs K β H xs vs := by
  unfold seqOf at e
  split at e
  · rename_i ys ee
    cases e
    obtain ⟨a, vs, e1, e2, e3⟩ := tupOf_ok h ee
    exact ⟨a, vs, e1, .inr e2, e3⟩
  · obtain ⟨a, vs, e1, e2, e3⟩ := lstOf_ok s h e
    exact ⟨a, vs, e1, .inl e2, e3⟩
end
/-! ### binary operators -/
def rBin (K : PySem.W.Frag) (op : Operator) : R2 := fun x y H Q => ∃ β mh a b r, Sim K β H mh ∧ RR K β H a x ∧ RR K β H b y ∧ binOp op mh a b = some r ∧ After K β H mh r Q
section
variable {X : Cx}
theorem or_bin (op : Operator) : OpR X (binaryOp op) (rBin X.K op) := by
  intro pins s σ H x y v u Q I rx ry ⟨β, mh, a, b, r, sm, ra, rb, e, q⟩
  cases op with
  | Add =>
    simp only [binOp] at e
    split at e
    · cases e; exact op_add pins s σ H x y v u Q I rx ry ⟨_, _, ra, rb, q.pv sm rfl⟩
    · split at e
      · rename_i hl
        cases e
        refine op_add_str pins s σ H x y v u Q I rx ry ⟨_, _, ra, rb, ?_, q.pv sm ?_⟩
        · rw [← line_eq]; simpa [PySem.Str.length] using hl
        · show V.str _ = V.str _
          congr 1
          show PySem.Str.mk _ = PySem.Str.mk _
          simp
      · cases e
    · split at e
      · rename_i s1 t1 hl
        cases e
        obtain ⟨c, vs, rfl, g1, g2⟩ := ra
        obtain ⟨d, ws, rfl, k1, k2⟩ := rb
        refine op_catA pins s σ H _ _ v u Q I rx ry ⟨c, d, vs, ws, rfl, rfl, g1, k1, by rw [g2.length, k2.length, ← line_eq]; exact hl, fun en => ?_, fun en en2 => ?_, fun _ _ => q.tup sm (g2.append k2)⟩
        · subst en
          refine q.pv sm ⟨d, ws, rfl, k1, ?_⟩
          have := g2.append k2
          exact this
        · subst en2
          refine q.pv sm ⟨c, vs, rfl, g1, ?_⟩
          have := g2.append k2
          rw [List.append_nil] at this
          exact this
      · cases e
    · split at e
      · rename_i e1 e2
        split at e
        · rename_i hl
          cases e
          obtain ⟨c, vs, rfl, g1, g2⟩ := lstW_ok sm ra e1
          obtain ⟨d, ws, rfl, k1, k2⟩ := lstW_ok sm rb e2
          exact op_cat pins s σ H _ _ v u Q I rx ry ⟨c, d, vs, ws, rfl, rfl, g1, k1, by rw [g2.length, k2.length, ← line_eq]; exact hl, q.lst sm (g2.append k2)⟩
        · cases e
      · cases e
  | Sub =>
    simp only [binOp] at e
    split at e
    · cases e; exact op_sub pins s σ H x y v u Q I rx ry ⟨_, _, ra, rb, q.pv sm rfl⟩
    · cases e
  | Mult =>
    simp only [binOp] at e
    split at e
    · split at e
      · rename_i h
        cases e; exact op_mulW pins s σ H x y v u Q I rx ry ⟨_, _, ra, rb, (by simp only [mulOk, decide_eq_true_eq] at h; exact h), q.pv sm rfl⟩
      · cases e
    · cases e
  | FloorDiv =>
    simp only [binOp] at e
    split at e
    · split at e
      · rename_i h
        cases e; exact op_fdiv pins s σ H x y v u Q I rx ry ⟨_, _, ra, rb, h, q.pv sm rfl⟩
      · cases e
    · cases e
  | Mod =>
    simp only [binOp] at e
    split at e
    · split at e
      · rename_i h
        cases e; exact op_mod pins s σ H x y v u Q I rx ry ⟨_, _, ra, rb, h, q.pv sm rfl⟩
      · cases e
    · cases e
  | Pow =>
    simp only [binOp] at e
    split at e
    · split at e
      · rename_i h
        cases e; exact op_pow pins s σ H x y v u Q I rx ry ⟨_, _, ra, rb, ⟨h.1, by omega, by simpa using h.2.2⟩, q.pv sm rfl⟩
      · cases e
    · cases e
  | _ => simp [binOp] at e
def rAug (K : PySem.W.Frag) (op : Operator) : R2 := fun x y H Q => ∃ β a b v, RR K β H a x ∧ RR K β H b y ∧ augOp op a b = some v ∧ (∀ w, VR K β H v w → Q w H)
theorem or_aug (op : Operator) : OpR X (inplaceOp op) (rAug X.K op) := by
  intro pins s σ H x y v u Q I rx ry ⟨β, a, b, r, ra, rb, e, q⟩
  unfold augOp at e
  split at e
  · cases e; exact iop_add pins s σ H x y v u Q I rx ry ⟨_, _, ra, rb, q _ rfl⟩
  · cases e; exact iop_sub pins s σ H x y v u Q I rx ry ⟨_, _, ra, rb, q _ rfl⟩
  · split at e
    · rename_i hl
      cases e
      refine iop_add_str pins s σ H x y v u Q I rx ry ⟨_, _, ra, rb, ?_, q _ ?_⟩
      · rw [← line_eq]; simpa [PySem.Str.length] using hl
      · show V.str _ = V.str _
        congr 1
        show PySem.Str.mk _ = PySem.Str.mk _
        simp
    · cases e
  · cases e
end
/-! ### comparisons -/
def rCmp (K : PySem.W.Frag) (op : CmpOp) : R2 := fun x y H Q => ∃ β mh a b c, Sim K β H mh ∧ RR K β H a x ∧ RR K β H b y ∧ (tmps [a, b] [x, y]).Nodup ∧ cmpOp op mh a b = some c ∧ Q (.bl c) H
theorem anyEq_spec {f : PV → PV → Option Bool} {x : PV} : ∀ {ys : List PV} {b : Bool}, anyEq f x ys = some b → (∀ y ∈ ys, ∃ c, f y x = some c) ∧ b = ys.any fun y => (f y x).getD false
  | [], b, h => by simp [anyEq] at h; simp [h]
  | y :: ys, b, h => by
    simp only [anyEq] at h
    split at h
    · rename_i a c h1 h2
      cases h
      obtain ⟨g1, g2⟩ := anyEq_spec h2
      refine ⟨fun z hz => ?_, by simp [h1, g2]⟩
      rcases List.mem_cons.mp hz with rfl | hz
      · exact ⟨_, h1⟩
      · exact g1 z hz
    · cases h
section
variable {X : Cx} {pins : List (Addr × Obj)} {σ : L2.St} {H : Hp} {s : Shared} {β : List Addr} {mh : MH}
theorem RelV.val {w w' : V} {v : Value} (h : RelV w v) (g : RelV w' v) : w = w' := L2.RelV.inj h g
open Classical in
/-- the items' answers, by their values -/
noncomputable def eOf (X : Cx) (β : List Addr) (H : Hp) (mh : MH) (x : PV) (v : Value) : Bool := if ∃ y w, RelV w v ∧ VR X.K β H y w ∧ eqv mh EQN y x = some true then true else false
theorem eOf_eq (sm : Sim X.K β H mh) (I : Inv X pins σ H s) {x y : PV} {w : V} {v : Value} {c : Bool} (r : RelV w v) (hy : VR X.K β H y w) (h : eqv mh EQN y x = some c) : eOf X β H mh x v = c := by
  unfold eOf
  cases c with
  | true => rw [if_pos ⟨y, w, r, hy, h⟩]
  | false =>
    rw [if_neg]
    rintro ⟨y', w', r', hy', h'⟩
    have e := L2.RelV.inj r r'
    subst e
    have e := VR.uniq sm I hy hy'
    subst e
    rw [h] at h'; cases h'
/-- in over a list or tuple: what is asked of the items -/
theorem items_eq (sm : Sim X.K β H mh) (I : Inv X pins σ H s) {x : PV} {ys : List PV} {xw : V} {xv : Value} {ws : List V} {its : List Value} {b : Bool} (hx : VR X.K β H x xw) (rx : RelV xw xv) (hy : VRs X.K β H ys ws) (ry : Vals ws its)
    (h : anyEq (eqv mh EQN) x ys = some b) (A : Around) (hu : A.units + EQN < cLine) : (∀ y, y ∈ its.toArray → SeqAt.EqAt A s y xv (eOf X β H mh x y)) ∧ its.toArray.any (eOf X β H mh x) = b := by
  obtain ⟨h1, h2⟩ := anyEq_spec h
  constructor
  · intro y my
    have my : y ∈ its := by simpa using my
    obtain ⟨i, hi⟩ := List.mem_iff_getElem?.mp my
    have hl := ry.length
    have hw : i < ws.length := by have := (List.getElem?_eq_some_iff.mp hi).1; omega
    obtain ⟨u, hu', rv⟩ := ry.get (List.getElem?_eq_getElem hw)
    rw [hi] at hu'; cases hu'
    obtain ⟨z, ez, vz⟩ := hy.get' (List.getElem?_eq_getElem hw)
    obtain ⟨c, hc⟩ := h1 z (List.mem_of_getElem? ez)
    rw [eOf_eq sm I rv vz hc]
    exact eqv_at sm I EQN vz hx rv rx hc A hu
  · subst h2
    rw [List.any_toArray]
    clear h
    induction ys generalizing ws its with
    | nil => cases hy; cases ry; rfl
    | cons y ys ih =>
      obtain ⟨w, t, rfl, g1, g2⟩ := hy
      cases ry with
      | cons r rr =>
        simp only [List.any_cons]
        obtain ⟨c, hc⟩ := h1 y List.mem_cons_self
        rw [eOf_eq sm I r g1 hc, hc, ih g2 rr fun z hz => h1 z (List.mem_cons_of_mem _ hz)]
        rfl
theorem dget_of (h : H a = some (.dK ks)) (hd : DR X.K β H kvs ks) {k : PV} {w : V} (hk : isKey k = true) (hw : VR X.K β H k w) : ∃ o, DGet H a w o ∧ (match dget kvs k, o with | some v, some z => VR X.K β H v z | none, none => True | _, _ => False) := by
  obtain ⟨j, rfl⟩ := isKey_iff hk
  have e := keyP_V hw
  subst e
  exact ⟨_, DGet.k h, dget_ok j hd⟩
theorem fin_bool {Q : VK} {c : Bool} (I : Inv X pins σ H s) (q : Q (.bl c) H) : EP X pins σ Q (.bool c) s := ⟨.bl c, H, I, rfl, q⟩
/-- x in y -/
theorem isIn_ok (hu : X.A.units + 64 < cLine) (I : Inv X pins σ H s) {a b : RV} {c : Bool} {x y : V} {v u : Value} {Q : VK} (sm : Sim X.K β H mh) (ra : RR X.K β H a x) (rb : RR X.K β H b y) (rx : RelV x v) (ry : RelV y u) (h : isIn mh a b = some c) :
    (Q (.bl c) H → wpAny (model X.prog X.w) X.A (compareOp .In v u) (EP X pins σ Q) X.xe s) ∧ (Q (.bl (!c)) H → wpAny (model X.prog X.w) X.A (compareOp .NotIn v u) (EP X pins σ Q) X.xe s) := by
  unfold isIn at h
  split at h
  · rename_i px
    split at h
    · rename_i z
      split at h
      · rename_i c1
        cases h
        have e1 : decide (c1 ∈ (toS z).cps.toList) = z.contains c1 := by simp
        exact ⟨fun q => op_in_sign pins s σ H x y v u Q I rx ry ⟨c1, toS z, ra, rb, by rw [e1]; exact q⟩, fun q => op_notIn_sign pins s σ H x y v u Q I rx ry ⟨c1, toS z, ra, rb, by rw [e1]; exact q⟩⟩
      · cases h
    · rename_i hns
      split at h
      · rename_i ys es
        obtain ⟨d, ws, rfl, e1, e2⟩ := seqOf_ok sm rb es
        cases ry
        rcases e1 with e1 | e1
        · obtain ⟨its, r, p, _⟩ := I.list e1
          obtain ⟨g1, g2⟩ := items_eq sm I ra rx e2 r h X.A.in1 (by show X.A.units + 1 + EQN < cLine; have : EQN = 40 := rfl; omega)
          exact ⟨fun q => SeqAt.in_listAt _ p.isList g1 (by rw [g2]; exact fin_bool I q), fun q => SeqAt.notIn_listAt _ p.isList g1 (by rw [g2]; exact fin_bool I q)⟩
        · obtain ⟨its, r, p, _⟩ := I.tuple e1
          obtain ⟨g1, g2⟩ := items_eq sm I ra rx e2 r h X.A.in1 (by show X.A.units + 1 + EQN < cLine; have : EQN = 40 := rfl; omega)
          exact ⟨fun q => SeqAt.in_tupleAt _ p g1 (by rw [g2]; exact fin_bool I q), fun q => SeqAt.notIn_tupleAt _ p g1 (by rw [g2]; exact fin_bool I q)⟩
      · split at h
        · rename_i kvs ed
          split at h
          · rename_i hk
            cases h
            obtain ⟨d, ks, rfl, e1, e2⟩ := dctOf_ok sm rb ed
            cases ry
            obtain ⟨o, g1, g2⟩ := dget_of e1 e2 hk ra
            have eo : o.isSome = (dget kvs px).isSome := by
              cases h1 : dget kvs px <;> cases o <;> rw [h1] at g2 <;> first | rfl | exact g2.elim
            exact ⟨fun q => d_in (by omega) I g1 rx fun s1 I1 => by rw [eo]; exact fin_bool I1 q, fun q => d_notIn (by omega) I g1 rx fun s1 I1 => by rw [eo]; exact fin_bool I1 q⟩
          · cases h
        · cases h
  · cases h
theorem rr_non {a : RV} {x : V} (ra : RR X.K β H a x) : decide (x = .non) = isNonR a := by
  cases a with
  | pv v =>
    cases v with
    | scr _ => obtain ⟨_, _, rfl, _⟩ := ra; rfl
    | non => cases ra; rfl
    | bl _ => cases ra; rfl
    | int _ => cases ra; rfl
    | str _ => cases ra; rfl
    | tup _ => obtain ⟨_, _, rfl, _⟩ := ra; rfl
    | ref _ => obtain ⟨_, rfl, _⟩ := ra; rfl
  | lst _ => obtain ⟨_, _, rfl, _⟩ := ra; rfl
  | dct _ => obtain ⟨_, _, rfl, _⟩ := ra; rfl
theorem txtLt_lt : ∀ (a b : Txt), txtLt a b = decide (a < b)
  | [], [] => by simp [txtLt]
  | [], _ :: _ => by simp [txtLt]
  | _ :: _, [] => by simp [txtLt]
  | a :: x, b :: y => by
    simp only [txtLt, List.cons_lt_cons_iff]
    by_cases h : a < b
    · simp [h]
    · by_cases h2 : b < a
      · have : ¬ a = b := by omega
        simp [h, h2, this]
      · have : a = b := by omega
        subst this
        simp [txtLt_lt x y]
theorem or_cmp (hu : X.A.units + 64 < cLine) (op : CmpOp) : OpR X (compareOp op) (rCmp X.K op) := by
  intro pins s σ H x y v u Q I rx ry ⟨β, mh, a, b, c, sm, ra, rb, nd, h, q⟩
  cases op with
  | Eq => exact (eqvR_ok hu I sm ra rb nd rx ry h).1 (fin_bool I q)
  | NotEq =>
    simp only [cmpOp, Option.map_eq_some_iff] at h
    obtain ⟨c', h, rfl⟩ := h
    exact (eqvR_ok hu I sm ra rb nd rx ry h).2 (fin_bool I q)
  | Lt =>
    simp only [cmpOp] at h
    split at h
    · cases h; exact op_lt pins s σ H x y v u Q I rx ry ⟨_, _, ra, rb, q⟩
    · cases h
      refine op_lt_str pins s σ H x y v u Q I rx ry ⟨_, _, ra, rb, ?_⟩
      rw [txtLt_lt] at q
      simpa using q
    · cases h
  | LtE =>
    simp only [cmpOp] at h
    split at h
    · cases h; exact op_le pins s σ H x y v u Q I rx ry ⟨_, _, ra, rb, q⟩
    · cases h
  | Gt =>
    simp only [cmpOp] at h
    split at h
    · cases h; exact op_gt pins s σ H x y v u Q I rx ry ⟨_, _, ra, rb, q⟩
    · cases h
  | GtE =>
    simp only [cmpOp] at h
    split at h
    · cases h; exact op_ge pins s σ H x y v u Q I rx ry ⟨_, _, ra, rb, q⟩
    · cases h
  | In => exact (isIn_ok hu I sm ra rb rx ry h).1 q
  | NotIn =>
    simp only [cmpOp, Option.map_eq_some_iff] at h
    obtain ⟨c', h, rfl⟩ := h
    exact (isIn_ok hu I sm ra rb rx ry h).2 q
  | Is =>
    simp only [cmpOp] at h
    split at h
    · refine op_isN pins s σ H x y v u Q I rx ry ⟨rb, ?_⟩
      rw [rr_non ra]
      cases h; exact q
    · split at h
      · cases h
        refine op_isBl pins s σ H x y v u Q I rx ry ⟨_, _, ra, rb, ?_⟩
        rw [Bool.beq_eq_decide_eq] at q
        exact q
      · cases h
    · cases h
  | IsNot =>
    simp only [cmpOp] at h
    split at h
    · refine op_notN pins s σ H x y v u Q I rx ry ⟨rb, ?_⟩
      rw [rr_non ra]
      cases h; exact q
    · split at h
      · cases h
        refine op_notBl pins s σ H x y v u Q I rx ry ⟨_, _, ra, rb, ?_⟩
        rw [Bool.beq_eq_decide_eq] at q
        exact q
      · cases h
    · cases h
end
end Pf
/-! PfSem: what a run of the interpreter promises of what goes on. -/
namespace Pf
open PySem PySem.Spec PyProof.Rows L2

/-- the fields of an exception at d -/
def XD (K : PySem.W.Frag) (β : List Addr) (H : Hp) (fs : List (Txt × PV)) (d : Addr) : Prop :=
  ∃ ws, H d = some (.xd ws) ∧ Paired (fun (p : Txt × PV) (q : Str × V) => q.1 = toS p.1 ∧ VR K β H p.2 q.2) fs ws
/-- r is what the interpreter tells from β, H: Q holds of what stands for it -/
def WG {α γ : Type} (K : PySem.W.Frag) (cv : Nat → Value) (E : XK) (rel : List Addr → Hp → α → γ → Prop) (ad : α → γ → List Addr) (β : List Addr) (H : Hp) (r : Res α) (Q : γ → Hp → Prop) : Prop :=
  match r with
  | .ok v mh => ∀ β' H' w, Ext β H β' H' → Sim K β' H' mh → rel β' H' v w → (∀ a, a ∈ ad v w → H a = none) → Q w H'
  | .exc c fs mh => ∀ β' H' d, Ext β H β' H' → Sim K β' H' mh → XD K β' H' fs d → E (cv c) (some d) H'
  | .bad => False
section
variable {α γ α2 γ2 : Type} {K : PySem.W.Frag} {cv : Nat → Value} {E : XK} {rel : List Addr → Hp → α → γ → Prop} {ad : α → γ → List Addr} {rel2 : List Addr → Hp → α2 → γ2 → Prop} {ad2 : α2 → γ2 → List Addr}
variable {β β1 : List Addr} {H H1 : Hp} {r : Res α} {Q : γ → Hp → Prop} {Q2 : γ2 → Hp → Prop} {f : α → MH → Res α2}
theorem WG.from (h : WG K cv E rel ad β H r Q) (x : Ext β H β1 H1) : WG K cv E rel ad β1 H1 r Q := by
  cases r with
  | ok v mh => exact fun β' H' w y s q n => h β' H' w (x.trans y) s q fun a m => x.back a (n a m)
  | exc c fs mh => exact fun β' H' d y s q => h β' H' d (x.trans y) s q
  | bad => exact h
theorem WG.bind (h : WG K cv E rel2 ad2 β H (r.bind f) Q2)
    (k : ∀ v mh1 β1 H1 w1, Ext β H β1 H1 → Sim K β1 H1 mh1 → rel β1 H1 v w1 → (∀ a, a ∈ ad v w1 → H a = none) → WG K cv E rel2 ad2 β H (f v mh1) Q2 → Q w1 H1) : WG K cv E rel ad β H r Q := by
  cases r with
  | ok v mh => exact fun β' H' w y s q n => k v mh β' H' w y s q n h
  | exc c fs mh => exact h
  | bad => exact h
theorem WG.mono (h : WG K cv E rel ad β H r Q) {Q' : γ → Hp → Prop} (k : ∀ w H', Q w H' → Q' w H') : WG K cv E rel ad β H r Q' := by
  cases r with
  | ok v mh => exact fun β' H' w y s q n => k w H' (h β' H' w y s q n)
  | exc c fs mh => exact h
  | bad => exact h
theorem WG.opt {α0 : Type} {o : Option α0} {g : α0 → Res α} (h : WG K cv E rel ad β H (opt o g) Q) : ∃ a, o = some a ∧ WG K cv E rel ad β H (g a) Q := by
  cases o with
  | some a => exact ⟨a, rfl, h⟩
  | none => exact False.elim h
theorem WG.ofOpt {o : Option α} {mh : MH} (h : WG K cv E rel ad β H (ofOpt o mh) Q) : ∃ a, o = some a ∧ WG K cv E rel ad β H (.ok a mh) Q := by
  cases o with
  | some a => exact ⟨a, rfl, h⟩
  | none => exact False.elim h
theorem WG.ite {c : Prop} [Decidable c] {a : Res α} (h : WG K cv E rel ad β H (if c then a else .bad) Q) : c ∧ WG K cv E rel ad β H a Q := by
  by_cases hc : c
  · rw [if_pos hc] at h; exact ⟨hc, h⟩
  · rw [if_neg hc] at h; exact False.elim h
end
/-! ### the kinds of results -/
def adR (r : RV) (w : V) : List Addr := (tmp r w).toList
def rlL (K : PySem.W.Frag) (β : List Addr) (H : Hp) (rs : List RV) (ws : List V) : Prop := RRs K β H rs ws ∧ (tmps rs ws).Nodup
def rlE {α : Type} (_ : List Addr) (_ : Hp) (a b : α) : Prop := a = b
def adN {α γ : Type} (_ : α) (_ : γ) : List Addr := []
def EnvR (K : PySem.W.Frag) (β : List Addr) (H : Hp) (e : Env) (σ : L2.St) : Prop := e.length = σ.length ∧ ∀ (i : Nat) (v : PV), e[i]? = some (some v) → ∃ w, σ[i]? = some (some w) ∧ VR K β H v w
section
variable {K : PySem.W.Frag} {cv : Nat → Value} {E : XK} {β β1 β' : List Addr} {H H1 H' : Hp} {mh : MH} {e : Env} {σ : L2.St}
theorem Fr.of {r : RV} {w : V} (h : ∀ a, a ∈ adR r w → H a = none) : Fr H r w := fun a e => h a (by unfold adR; rw [e]; simp)
theorem Fr.to {r : RV} {w : V} (h : Fr H r w) : ∀ a, a ∈ adR r w → H a = none := fun a m => h a (by unfold adR at m; simpa using m)
theorem EnvR.ext (h : EnvR K β H e σ) (x : Ext β H β' H') : EnvR K β' H' e σ := ⟨h.1, fun i v q => let ⟨w, a, b⟩ := h.2 i v q; ⟨w, a, b.ext x⟩⟩
theorem EnvR.set (h : EnvR K β H e σ) (i : Nat) {v : PV} {w : V} (q : VR K β H v w) : EnvR K β H (e.set i (some v)) (σ.set i (some w)) := by
  refine ⟨by simp [h.1], fun j u hu => ?_⟩
  by_cases hj : i = j
  · subst hj
    by_cases hl : i < e.length
    · rw [List.getElem?_set_self hl] at hu
      cases hu
      exact ⟨w, by rw [List.getElem?_set_self (by rw [← h.1]; exact hl)], q⟩
    · rw [List.getElem?_eq_none (by simpa using hl)] at hu; cases hu
  · rw [List.getElem?_set_ne hj] at hu
    rw [List.getElem?_set_ne hj]
    exact h.2 j u hu
theorem EnvR.wipe (h : EnvR K β H e σ) : ∀ vs : List Nat, EnvR K β H (wipeE e vs) (wipe σ vs)
  | [] => h
  | v :: vs => by
    have ih := EnvR.wipe h vs
    refine ⟨by rw [L2.wipe_length, ← h.1]; unfold wipeE; rw [List.length_set, ih.1, L2.wipe_length, h.1], fun j u hu => ?_⟩
    unfold wipeE at hu
    unfold L2.wipe
    by_cases hj : v = j
    · subst hj
      by_cases hl : v < (wipeE e vs).length
      · rw [List.getElem?_set_self hl] at hu; cases hu
      · rw [List.getElem?_eq_none (by simpa using hl)] at hu; cases hu
    · rw [List.getElem?_set_ne hj] at hu
      rw [List.getElem?_set_ne hj]
      exact ih.2 j u hu
/-- results go on -/
abbrev WV (K : PySem.W.Frag) (cv : Nat → Value) (E : XK) := WG K cv E (RR K) adR
abbrev WL (K : PySem.W.Frag) (cv : Nat → Value) (E : XK) := WG K cv E (rlL K) tmps
abbrev WB (K : PySem.W.Frag) (cv : Nat → Value) (E : XK) := WG (α := Bool) (γ := Bool) K cv E rlE adN
theorem WV.after {r : RV} {Q : VK} (h : WV K cv E β H (.ok r mh) Q) : After K β H mh r Q := fun β' H' w x s q f => h β' H' w x s q f.to
theorem WV.pv {v : PV} {w : V} {Q : VK} (h : WV K cv E β H (.ok (.pv v) mh) Q) (s : Sim K β H mh) (q : VR K β H v w) : Q w H := h.after.pv s q
theorem WB.is {b : Bool} {Q : Bool → Hp → Prop} (h : WB K cv E β H (.ok b mh) Q) (s : Sim K β H mh) : Q b H := h β H b Ext.refl s rfl fun a m => by cases m
theorem rlL.ext {rs : List RV} {ws : List V} (h : rlL K β H rs ws) (x : Ext β H β' H') : rlL K β' H' rs ws := ⟨h.1.ext x, h.2⟩
/-- two results, one behind the other: nothing is both -/
theorem nodup2 {a b : RV} {x y : V} (ra : RR K β H a x) (fb : ∀ c, c ∈ adR b y → H c = none) : (tmps [a, b] [x, y]).Nodup := by
  rw [tmps_cons, tmps_cons]
  simp only [tmps, List.append_nil]
  cases e : tmp a x with
  | none => cases tmp b y <;> simp
  | some p =>
    cases e2 : tmp b y with
    | none => simp
    | some q =>
      have h1 := fb q (by unfold adR; rw [e2]; simp)
      obtain ⟨⟨o, h2⟩, _⟩ := tmp_some ra e
      have : p ≠ q := fun z => by subst z; rw [h1] at h2; cases h2
      simp [this]
/-- arguments are held -/
theorem WL.fix {rs : List RV} {ws : List V} (h : rlL K β1 H1 rs ws) (x : Ext β H β1 H1) (s : Sim K β1 H1 mh) (f : ∀ a, a ∈ tmps rs ws → H a = none) :
    ∃ β2, Ext β H β2 H1 ∧ Sim K β2 H1 (fixL rs mh).2 ∧ VRs K β2 H1 (fixL rs mh).1 ws := by
  obtain ⟨β2, p, n, s2, v⟩ := fixL_ok s h.1 h.2
  exact ⟨β2, x.track p fun a m hn => f a (n a m hn), s2, v⟩
theorem WV.fix {r : RV} {w : V} (h : RR K β1 H1 r w) (x : Ext β H β1 H1) (s : Sim K β1 H1 mh) (f : ∀ a, a ∈ adR r w → H a = none) :
    ∃ β2, Ext β H β2 H1 ∧ Sim K β2 H1 (fix r mh).2 ∧ VR K β2 H1 (fix r mh).1 w ∧ β1 <+: β2 ∧ ∀ a, a ∈ β2 → a ∉ β1 → tmp r w = some a := by
  obtain ⟨β2, p, n, s2, v⟩ := fix_ok s h
  exact ⟨β2, x.track p fun a m hn => f a (by unfold adR; rw [n a m hn]; simp), s2, v, p, n⟩
end
theorem PE.imp {X : Cx} {e : PySem.Expr} {t t' : TE} (h : PE X e t) (k : ∀ σ H Q, t' σ H Q → t σ H Q) : PE X e t' := ⟨fun pins s σ H Q I q => h.run pins s σ H Q I (k σ H Q q)⟩
theorem PT.imp {X : Cx} {e : PySem.Expr} {t t' : TT} (h : PT X e t) (k : ∀ σ H Q, t' σ H Q → t σ H Q) : PT X e t' := ⟨fun pins s σ H Q I q => h.run pins s σ H Q I (k σ H Q q)⟩
theorem PW.imp {X : Cx} {e : PySem.Expr} {t t' : TT} (h : PW X e t) (k : ∀ σ H Q, t' σ H Q → t σ H Q) : PW X e t' := ⟨fun wh pins s σ H Q I q => h.run wh pins s σ H Q I (k σ H Q q)⟩
theorem PA.imp {X : Cx} {es : List PySem.Expr} {t t' : TA} (h : PA X es t) (k : ∀ σ H Q, t' σ H Q → t σ H Q) : PA X es t' := ⟨fun pos pins s σ H Q I q => h.run pos pins s σ H Q I (k σ H Q q)⟩
theorem PS.imp {X : Cx} {e : PySem.Stmt} {t t' : TS} (h : PS X e t) (k : ∀ D σ H, t' D σ H → t D σ H) : PS X e t' := ⟨fun pins s σ H D I q => h.run pins s σ H D I (k D σ H q)⟩
theorem PSs.imp {X : Cx} {e : List PySem.Stmt} {t t' : TS} (h : PSs X e t) (k : ∀ D σ H, t' D σ H → t D σ H) : PSs X e t' := ⟨fun pins s σ H D I q => h.run pins s σ H D I (k D σ H q)⟩
theorem PI.imp {X : Cx} {tg e : PySem.Expr} {t t' : TI} (h : PI X tg e t) (k : ∀ σ H Q, t' σ H Q → t σ H Q) : PI X tg e t' := ⟨fun pins s σ H Q I q => h.run pins s σ H Q I (k σ H Q q)⟩
/-! ### readings -/
section
variable (K : PySem.W.Frag) (cv : Nat → Value) (E : XK) (F : Nat → List PV → MH → Res RV) (G : List PV)
def rdE (c : CE) : TE := fun σ H Q => ∃ β e mh, EnvR K β H e σ ∧ Sim K β H mh ∧ WV K cv E β H (ev F G c e mh) Q
def rdL (c : CL) : TA := fun σ H Q => ∃ β e mh, EnvR K β H e σ ∧ Sim K β H mh ∧ WL K cv E β H (evL F G c e mh) Q
def rdT (c : CE) : TT := fun σ H Q => ∃ β e mh, EnvR K β H e σ ∧ Sim K β H mh ∧ WB K cv E β H (tst F G c e mh) Q
def rdTs (c : CL) : TT := fun σ H Q => ∃ β e mh, EnvR K β H e σ ∧ Sim K β H mh ∧ WB K cv E β H (tsts F G c e mh) Q
def rdO (c : CO) : TO := fun σ H Q => ∃ β e mh, EnvR K β H e σ ∧ Sim K β H mh ∧ WG K cv E rlE adN β H (evO F G c e mh) Q
end
end Pf
/-! PfRules: subscripts, slices, built-ins, methods, truth. -/
namespace Pf
open PySem PySem.Spec PyProof.Rows L2
section
variable {K : PySem.W.Frag} {β : List Addr} {H : Hp} {mh : MH}
theorem sIx_eq (n d : Nat) (o : Option Int) : sIx n d o = HT.sIx n d o := by cases o <;> rfl
theorem ixN_eq (n : Nat) (i : Int) : ixN n i = L2.ixN n i := rfl
theorem atI_ok {xs : List PV} {vs : List V} {i : Int} {v : PV} (h : VRs K β H xs vs) (e : atI xs i = some v) : ∃ w, L2.atI vs i = some w ∧ VR K β H v w := by
  unfold atI at e
  rw [Option.bind_eq_some_iff] at e
  obtain ⟨j, e1, e2⟩ := e
  obtain ⟨w, h1, h2⟩ := h.get e2
  refine ⟨w, ?_, h2⟩
  unfold L2.atI
  rw [h.length, ← ixN_eq, e1]
  exact h1
theorem cut_ok {xs : List PV} {vs : List V} (lo hi : Option Int) (h : VRs K β H xs vs) : VRs K β H (cut xs lo hi) (cutV vs lo hi) := by
  unfold cut cutV
  rw [sIx_eq, sIx_eq, h.length]
  exact (h.drop _).take _
theorem truth_ok {r : RV} {w : V} {k : Bool} (s : Sim K β H mh) (h : RR K β H r w) (e : truth mh r = some k) : TruV K w H k := by
  unfold truth at e
  split at e
  · cases h; cases e; rfl
  · cases h; cases e; rfl
  · cases h; cases e; rfl
  · cases h
    split at e
    · rename_i z hl
      cases e
      refine ⟨by rw [← line_eq]; simpa [PySem.Str.length] using hl, ?_⟩
      simp only [PySem.Str.length, List.size_toArray]
      cases hz : z.length with
      | zero => rfl
      | succ n => simp [bne]; omega
    · cases e
  · rename_i xs
    obtain ⟨a, vs, rfl, h1, h2⟩ := h
    cases e
    refine .inr (.inl ⟨vs, h1, ?_⟩)
    have := h2.length
    cases xs <;> cases vs <;> simp at this <;> rfl
  · split at e
    · rename_i xs el
      cases e
      obtain ⟨a, vs, rfl, h1, h2⟩ := lstOf_ok s h el
      refine .inl ⟨vs, h1, ?_⟩
      have := h2.length
      cases xs <;> cases vs <;> simp at this <;> rfl
    · split at e
      · rename_i kvs ed
        cases e
        obtain ⟨a, ks, rfl, h1, h2⟩ := dctOf_ok s h ed
        refine .inr (.inr ⟨ks, h1, ?_⟩)
        have := h2.length
        cases kvs <;> cases ks <;> simp at this <;> rfl
      · cases e
theorem intsOf_ok : ∀ {xs : List PV} {vs : List V} {is : List Int}, VRs K β H xs vs → intsOf xs = some is → vs = is.map V.int
  | [], _, _, h, e => by cases h; cases e; rfl
  | x :: xs, _, _, h, e => by
    obtain ⟨v, r, rfl, h1, h2⟩ := h
    cases x with
    | int i =>
      simp only [intsOf, Option.map_eq_some_iff] at e
      obtain ⟨js, e1, rfl⟩ := e
      cases h1
      rw [intsOf_ok h2 e1]; rfl
    | _ => cases e
theorem boolsOf_ok : ∀ {xs : List PV} {vs : List V} {is : List Bool}, VRs K β H xs vs → boolsOf xs = some is → vs = is.map V.bl
  | [], _, _, h, e => by cases h; cases e; rfl
  | x :: xs, _, _, h, e => by
    obtain ⟨v, r, rfl, h1, h2⟩ := h
    cases x with
    | bl i =>
      simp only [boolsOf, Option.map_eq_some_iff] at e
      obtain ⟨js, e1, rfl⟩ := e
      cases h1
      rw [boolsOf_ok h2 e1]; rfl
    | _ => cases e
theorem maxL_spec : ∀ (m : Int) (l : List Int) (k : Int), k ∈ m :: l → (∀ y, y ∈ m :: l → y ≤ k) → maxL m l = k
  | m, [], k, h, _ => by simp at h; simp [maxL, h]
  | m, x :: l, k, h, g => by
    simp only [maxL]
    apply maxL_spec
    · rcases List.mem_cons.mp h with e | h
      · subst e
        have := g x (by simp)
        split
        · have e : x = k := by omega
          simp [e]
        · simp
      · rcases List.mem_cons.mp h with e | h
        · subst e
          have := g m (by simp)
          split
          · simp
          · have e : m = k := by omega
            simp [e]
        · exact List.mem_cons_of_mem _ h
    · intro y hy
      rcases List.mem_cons.mp hy with e | hy
      · subst e
        split
        · exact g x (by simp)
        · exact g m (by simp)
      · exact g y (by simp [hy])
end
section
variable {X : Cx} {pins : List (Addr × Obj)} {σ : L2.St} {H : Hp} {s : Shared} {β : List Addr} {mh : MH}
/-- o[i] -/
theorem getIx_ok {value slice : PySem.Expr} (hu : X.A.units + 64 < cLine) (I : Inv X pins σ H s) {a b : RV} {r : PV} {x y : V} {v u : Value} {Q : VK} (sm : Sim X.K β H mh) (ra : RR X.K β H a x) (rb : RR X.K β H b y) (rx : RelV x v) (ry : RelV y u)
    (hs : PlainIx slice) (h : getIx mh a b = some r) (q : ∀ w, VR X.K β H r w → Q w H) : wpAny (model X.prog X.w) X.A (subscriptTail value slice v u) (EP X pins σ Q) X.xe s := by
  unfold getIx at h
  split at h
  · rename_i z
    split at h
    · rename_i k
      split at h
      · rename_i hl
        simp only [Option.map_eq_some_iff] at h
        obtain ⟨c, e1, rfl⟩ := h
        refine ix_str value slice pins s σ H x y v u Q I rx ry ⟨toS z, k, c, ra, rb, by rw [← line_eq]; simpa [PySem.Str.length] using hl, ?_, q _ rfl⟩ (hs _ _)
        simpa [L2.atI, atI, ixN_eq] using e1
      · cases h
    · cases h
  · split at h
    · rename_i xs k
      obtain ⟨c, vs, rfl, g1, g2⟩ := ra
      obtain ⟨w, e1, e2⟩ := atI_ok g2 h
      exact ix_tup value slice pins s σ H _ y v u Q I rx ry ⟨c, vs, k, w, rfl, rb, g1, e1, q w e2⟩ (hs _ _)
    · cases h
  · split at h
    · rename_i xs el
      split at h
      · rename_i k
        obtain ⟨c, vs, rfl, g1, g2⟩ := lstOf_ok sm ra el
        obtain ⟨w, e1, e2⟩ := atI_ok g2 h
        exact ix_list value slice pins s σ H _ y v u Q I rx ry ⟨c, vs, k, w, rfl, rb, g1, e1, q w e2⟩ (hs _ _)
      · cases h
    · split at h
      · rename_i kvs ed
        split at h
        · rename_i k
          split at h
          · rename_i hk
            obtain ⟨c, ks, rfl, g1, g2⟩ := dctOf_ok sm ra ed
            cases rx
            obtain ⟨o, e1, e2⟩ := dget_of g1 g2 hk rb
            rw [h] at e2
            cases o with
            | none => exact e2.elim
            | some w => exact tail_any (ops := [.ref c, u]) (dict_typeIs I e1) PySem.F.slot_dict_getitem.lookup (d_getItem (by omega) I e1 ry fun w' s3 I3 rw' => ⟨w, H, I3, rw', q w e2⟩) (hs _ _)
          · cases h
        · cases h
      · cases h
/-- o[i:j] -/
def rCut (K : PySem.W.Frag) : V → Option Int → Option Int → Hp → VK → Prop := fun x lo hi H Q => ∃ β mh a r, Sim K β H mh ∧ RR K β H a x ∧ getCut mh a lo hi = some r ∧ After K β H mh r Q
theorem sl_cut : L2.SlR X (rCut X.K) := by
  intro pins s σ H x v vl vu lo hi sl Q I rx hs pl pu ⟨β, mh, a, r, sm, ra, h, q⟩
  unfold getCut at h
  split at h
  · split at h
    · rename_i z hl
      cases h
      refine sl_str pins s σ H x v vl vu lo hi sl Q I rx hs pl pu ⟨toS z, ra, by rw [← line_eq]; simpa [PySem.Str.length] using hl, q.pv sm ?_⟩
      show V.str _ = V.str _
      unfold cutS cut
      rw [sIx_eq, sIx_eq]
      rfl
    · cases h
  · cases h
    rename_i xs
    obtain ⟨c, vs, rfl, g1, g2⟩ := ra
    refine sl_tupA pins s σ H _ v vl vu lo hi sl Q I rx hs pl pu ⟨c, vs, rfl, g1, fun hw => q.pv sm ⟨c, vs, rfl, g1, ?_⟩, fun _ => q.tup sm (cut_ok lo hi g2)⟩
    have e : cut xs lo hi = xs := by
      unfold cut
      rw [sIx_eq, sIx_eq, ← g2.length, hw.1, hw.2]
      simp [g2.length]
    rw [e]; exact g2
  · split at h
    · rename_i xs el
      cases h
      obtain ⟨c, vs, rfl, g1, g2⟩ := lstOf_ok sm ra el
      exact sl_list pins s σ H _ v vl vu lo hi sl Q I rx hs pl pu ⟨c, vs, rfl, g1, q.lst sm (cut_ok lo hi g2)⟩
    · cases h
/-! ### built-in functions -/
def biV : BI → Value
  | .len => .builtin "len" | .min => .builtin "min" | .max => .builtin "max" | .sum => .builtin "sum" | .all => .builtin "all" | .any => .builtin "any" | .abs => .builtin "abs" | .repr => .builtin "repr"
  | .int => .type "int" | .tuple => .type "tuple" | .list => .type "list"
def rCB (K : PySem.W.Frag) (b : BI) : List V → Hp → VK → Prop := fun ws H Q => ∃ β mh rs r, Sim K β H mh ∧ RRs K β H rs ws ∧ callB b mh rs = some r ∧ After K β H mh r Q
theorem reads_all {K : PySem.W.Frag} {β : List Addr} {H : Hp} {s : Shared} {f : PV → Option PyData} : ∀ {xs : List PV} {ds : List PyData} {ws : List V} {us : List Value}, (∀ (v : PV) (d : PyData) (w : V) (u : Value), f v = some d → VR K β H v w → RelV w u → ∃ as, Reads s.heap u d as) →
    dataL f xs = some ds → VRs K β H xs ws → Vals ws us → ∃ as, ReadsAll s.heap us ds as
  | [], _, _, _, _, h, g, r => by
    cases h; cases g; cases r
    exact ⟨_, .nil⟩
  | x :: xs, _, _, _, k, h, g, r => by
    obtain ⟨w, t, rfl, g1, g2⟩ := g
    cases r with
    | cons r1 r2 =>
      simp only [dataL] at h
      split at h
      · rename_i d ds e1 e2
        cases h
        obtain ⟨as, p⟩ := k x d w _ e1 g1 r1
        obtain ⟨bs, q⟩ := reads_all k e2 g2 r2
        exact ⟨_, .cons p q⟩
      · cases h
theorem reads_ok (sm : Sim X.K β H mh) (I : Inv X pins σ H s) : ∀ (n : Nat) (v : PV) (d : PyData) (w : V) (u : Value), dataOf mh n v = some d → VR X.K β H v w → RelV w u → ∃ as, Reads s.heap u d as
  | 0, _, _, _, _, h, _, _ => by cases h
  | n + 1, v, d, w, u, h, g, r => by
    cases v with
    | non => cases h; cases g; cases r; exact ⟨_, .none⟩
    | bl b => cases h; cases g; cases r; exact ⟨_, .bool b⟩
    | int i => cases h; cases g; obtain ⟨t, rfl⟩ := r; exact ⟨_, .int i t⟩
    | str z => cases h; cases g; obtain ⟨t, rfl⟩ := r; exact ⟨_, .str _ t⟩
    | scr _ => cases h
    | tup xs =>
      simp only [dataOf, Option.map_eq_some_iff] at h
      obtain ⟨ds, e, rfl⟩ := h
      obtain ⟨a, vs, rfl, h1, h2⟩ := g
      cases r
      obtain ⟨its, rv, ⟨o, e1, c1, m, d1⟩, _⟩ := I.tuple h1
      obtain ⟨as, p⟩ := reads_all (fun v d w u h g r => reads_ok sm I n v d w u h g r) e h2 rv
      exact ⟨_, .tuple e1 c1 d1 (by simpa using p)⟩
    | ref k =>
      simp only [dataOf] at h
      split at h
      · rename_i xs ee
        simp only [Option.map_eq_some_iff] at h
        obtain ⟨ds, e, rfl⟩ := h
        obtain ⟨a, rfl, h1⟩ := g
        cases r
        obtain ⟨vs, g1, g2⟩ := sm.obj k a _ h1 ee
        obtain ⟨its, rv, ⟨o, m, e1, c1, _, d1⟩, _⟩ := I.list (SqL.of g1)
        obtain ⟨as, p⟩ := reads_all (fun v d w u h g r => reads_ok sm I n v d w u h g r) e g2 rv
        exact ⟨_, .list e1 c1 d1 (by simpa using p)⟩
      · cases h
theorem repr_ok (gd : X.A.guards = some []) (hu : X.A.units + 64 < cLine) (I : Inv X pins σ H s) {u : Value} {d : PyData} {as : List Addr} {z : Txt} {Q : VK} (r : Reads s.heap u d as) (h : shows d = some z) (q : Q (.str (toS z)) H) :
    wpAny (model X.prog X.w) X.A (call (.builtin "repr") [u]) (EP X pins σ Q) X.xe s := by
  unfold shows at h
  split at h
  · rename_i c
    cases h
    simp only [Bool.and_eq_true, decide_eq_true_eq, Bool.not_eq_true'] at c
    obtain ⟨⟨⟨c1, c2⟩, c3⟩, c4⟩ := c
    rw [line_eq] at c4
    have q : Q (.str d.shown) H := q
    have fin : ∀ (h' : Heap) (u : Tok) (tk : Nat), (∀ b o, s.heap.get? b = some o → h'.get? b = some o) → EP X pins σ Q (.str d.shown u) { s with heap := h', toks := tk } := fun h' u tk k => ⟨.str _, H, I.kept k, ⟨_, rfl⟩, q⟩
    have tok : EP X pins σ Q (.str d.shown s.toks) { s with toks := s.toks + 1 } := ⟨.str _, H, I.tok _, ⟨_, rfl⟩, q⟩
    cases r with
    | none => exact PySem.P.repr_of_none (by simpa only [PyData.shown] using tok)
    | bool b => exact PySem.P.repr_of_bool (by simpa only [PyData.shown] using tok)
    | int i t => exact PySem.P.repr_of_int (by simpa only [PyData.showable, decide_eq_true_eq] using c1) (by simpa only [PyData.shown] using tok)
    | str x t => exact PySem.P.repr_of_str (by simpa only [PyData.shown] using tok) (by simpa only [PyData.shown] using c4)
    | list a b c e => exact repr_of_reads' (.list a b c e) c1 (PyData.noDict_hsm c3) gd (by omega) (fun _ _ z => z) fin c4
    | tuple a b c e => exact repr_of_reads' (.tuple a b c e) c1 (PyData.noDict_hsm c3) gd (by omega) (fun _ _ z => z) fin c4
    | dict a b c e f => simp [PyData.hasDict] at c3
  · cases h
theorem RRs.one {K : PySem.W.Frag} {r : RV} {ws : List V} (h : RRs K β H [r] ws) : ∃ w, ws = [w] ∧ RR K β H r w := by
  obtain ⟨w, t, rfl, h1, h2⟩ := h
  cases h2
  exact ⟨w, rfl, h1⟩
theorem RRs.two {K : PySem.W.Frag} {r q : RV} {ws : List V} (h : RRs K β H [r, q] ws) : ∃ w u, ws = [w, u] ∧ RR K β H r w ∧ RR K β H q u := by
  obtain ⟨w, t, rfl, h1, h2⟩ := h
  obtain ⟨u, rfl, h3⟩ := RRs.one h2
  exact ⟨w, u, rfl, h1, h3⟩
theorem cr_bi (hc : X.calm = true) (gd : X.A.guards = some []) (hu : X.A.units + 64 < cLine) (b : BI) : CallR X (biV b) (rCB X.K b) := by
  intro pins s σ H ws us Q I rw' ⟨β, mh, rs, r, sm, ra, h, q⟩
  unfold callB at h
  split at h
  · -- len of a text
    split at h
    · rename_i z hl
      cases h
      obtain ⟨w, rfl, r1⟩ := RRs.one ra
      refine call_len_str pins s σ H _ us Q I rw' ⟨toS z, by rw [r1], by rw [← line_eq]; simpa [PySem.Str.length] using hl, q.pv sm ?_⟩
      simp [VR, PySem.Str.length]
    · cases h
  · split at h
    · rename_i xs es
      cases h
      obtain ⟨w, rfl, r1⟩ := RRs.one ra
      obtain ⟨a, vs, rfl, e1, e2⟩ := seqOf_ok sm r1 es
      exact call_len_seq pins s σ H _ us Q I rw' ⟨a, vs, rfl, e1, q.pv sm (by rw [e2.length]; rfl)⟩
    · split at h
      · rename_i kvs ed
        cases h
        obtain ⟨w, rfl, r1⟩ := RRs.one ra
        obtain ⟨a, ks, rfl, e1, e2⟩ := dctOf_ok sm r1 ed
        exact call_lenD pins s σ H _ us Q I rw' ⟨a, ks, rfl, e1, q.pv sm (by rw [e2.length]; rfl)⟩
      · cases h
  · cases h
    obtain ⟨w, u, rfl, r1, r2⟩ := RRs.two ra
    cases r1; cases r2
    exact call_min2 hc pins s σ H _ us Q I rw' ⟨_, _, rfl, q.pv sm rfl⟩
  · cases h
    obtain ⟨w, u, rfl, r1, r2⟩ := RRs.two ra
    cases r1; cases r2
    exact call_max2 hc pins s σ H _ us Q I rw' ⟨_, _, rfl, q.pv sm rfl⟩
  · split at h
    · rename_i i is ei
      cases h
      obtain ⟨w, rfl, r1⟩ := RRs.one ra
      rw [Option.bind_eq_some_iff] at ei
      obtain ⟨xs, e1, e2⟩ := ei
      obtain ⟨a, vs, rfl, g1, g2⟩ := lstOf_ok sm r1 e1
      have e := intsOf_ok g2 e2
      subst e
      exact cr_max hc pins s σ H _ us Q I rw' ⟨a, _, rfl, g1, by simp, fun m h1 h2 => q.pv sm (by rw [maxL_spec i is m h1 h2]; rfl)⟩
    · cases h
  · split at h
    · rename_i is ei
      cases h
      obtain ⟨w, rfl, r1⟩ := RRs.one ra
      rw [Option.bind_eq_some_iff] at ei
      obtain ⟨xs, e1, e2⟩ := ei
      obtain ⟨a, vs, rfl, g1, g2⟩ := lstOf_ok sm r1 e1
      have e := intsOf_ok g2 e2
      subst e
      exact cr_sum hc pins s σ H _ us Q I rw' ⟨a, _, rfl, g1, q.pv sm rfl⟩
    · cases h
  · split at h
    · rename_i is ei
      cases h
      obtain ⟨w, rfl, r1⟩ := RRs.one ra
      rw [Option.bind_eq_some_iff] at ei
      obtain ⟨xs, e1, e2⟩ := ei
      obtain ⟨a, vs, rfl, g1, g2⟩ := lstOf_ok sm r1 e1
      have e := boolsOf_ok g2 e2
      subst e
      exact cr_all hc pins s σ H _ us Q I rw' ⟨a, _, rfl, g1, q.pv sm rfl⟩
    · cases h
  · split at h
    · rename_i is ei
      cases h
      obtain ⟨w, rfl, r1⟩ := RRs.one ra
      rw [Option.bind_eq_some_iff] at ei
      obtain ⟨xs, e1, e2⟩ := ei
      obtain ⟨a, vs, rfl, g1, g2⟩ := lstOf_ok sm r1 e1
      have e := boolsOf_ok g2 e2
      subst e
      exact cr_any hc pins s σ H _ us Q I rw' ⟨a, _, rfl, g1, q.pv sm rfl⟩
    · cases h
  · cases h
    obtain ⟨w, rfl, r1⟩ := RRs.one ra
    cases r1
    exact call_int1 pins s σ H _ us Q I rw' (.inl ⟨_, rfl, q.pv sm rfl⟩)
  · cases h
    obtain ⟨w, rfl, r1⟩ := RRs.one ra
    cases r1
    exact call_int1 pins s σ H _ us Q I rw' (.inr ⟨_, rfl, q.pv sm rfl⟩)
  · cases h
    obtain ⟨w, rfl, r1⟩ := RRs.one ra
    cases r1
    exact call_abs pins s σ H _ us Q I rw' ⟨_, rfl, q.pv sm rfl⟩
  · split at h
    · rename_i z ez
      cases h
      obtain ⟨w, rfl, r1⟩ := RRs.one ra
      obtain ⟨u, rfl, rel⟩ : ∃ u, us = [u] ∧ RelV w u := by
        cases rw' with
        | cons a b => cases b; exact ⟨_, rfl, a⟩
      have fin : Q (.str (toS z)) H := q.pv sm rfl
      rename_i r0 _
      cases r0 with
      | pv v =>
        simp only [reprOf, Option.bind_eq_some_iff] at ez
        obtain ⟨d, e1, e2⟩ := ez
        obtain ⟨as, rd⟩ := reads_ok sm I 30 v d w u e1 r1 rel
        exact repr_ok gd hu I rd e2 fin
      | lst xs =>
        simp only [reprOf, Option.bind_eq_some_iff, Option.map_eq_some_iff] at ez
        obtain ⟨d, ⟨ds, e1, rfl⟩, e2⟩ := ez
        obtain ⟨a, vs, rfl, _, g1, g2⟩ := r1
        cases rel
        obtain ⟨its, rv, ⟨o, m, e3, c1, _, d1⟩, _⟩ := I.list (SqL.of g1)
        obtain ⟨as, p⟩ := reads_all (fun v d w u h g r => reads_ok sm I 30 v d w u h g r) e1 g2 rv
        exact repr_ok gd hu I (.list e3 c1 d1 (by simpa using p)) e2 fin
      | dct _ => cases ez
    · cases h
  · split at h
    · rename_i xs es
      cases h
      obtain ⟨w, rfl, r1⟩ := RRs.one ra
      obtain ⟨a, vs, rfl, e1, e2⟩ := seqOf_ok sm r1 es
      rcases e1 with e1 | e1
      · exact call_tuple_of pins s σ H _ us Q I rw' ⟨a, vs, rfl, .inl ⟨e1, q.tup sm e2⟩⟩
      · exact call_tuple_of pins s σ H _ us Q I rw' ⟨a, vs, rfl, .inr ⟨e1, q.pv sm ⟨a, vs, rfl, e1, e2⟩⟩⟩
    · cases h
  · split at h
    · rename_i xs es
      cases h
      obtain ⟨w, rfl, r1⟩ := RRs.one ra
      obtain ⟨a, vs, rfl, e1, e2⟩ := seqOf_ok sm r1 es
      exact call_list_of pins s σ H _ us Q I rw' ⟨a, vs, rfl, e1, q.lst sm e2⟩
    · cases h
  · cases h
/-! ### isinstance -/
def tyS : Ty → String
  | .tInt => "int" | .tBool => "bool" | .tStr => "str" | .tTuple => "tuple" | .tList => "list" | .tDict => "dict"
theorem sqT_ty {K : PySem.W.Frag} {a : Addr} {vs : List V} (h : SqT K H a vs) : TyX K H (.ref a) (.type "tuple") := by
  rcases h with h | ⟨o, its, n, e, c, _⟩
  · rcases h with h | ⟨o, h⟩
    · exact .base (.tup h)
    · exact .fTuple h
  · exact .kTuple e c
theorem isTy_ok (sm : Sim X.K β H mh) {r : RV} {w : V} {t : Ty} {b : Bool} (h : RR X.K β H r w) (e : isTy mh t r = some b) : ∃ tv, TyX X.K H w tv ∧ PySem.W.kitOne X.K tv (.type (tyS t)) = some b := by
  unfold isTy at e
  split at e
  · cases h; cases e
    exact ⟨_, .base .non, kit_ty (by cases t <;> decide +kernel)⟩
  · cases h; cases e
    exact ⟨_, .base (.bl _), kit_ty (by cases t <;> decide +kernel)⟩
  · cases h; cases e
    exact ⟨_, .base (.int _), kit_ty (by cases t <;> decide +kernel)⟩
  · cases h; cases e
    exact ⟨_, .base (.str _), kit_ty (by cases t <;> decide +kernel)⟩
  · obtain ⟨a, vs, rfl, h1, _⟩ := h
    cases e
    exact ⟨_, sqT_ty h1, kit_ty (by cases t <;> decide +kernel)⟩
  · cases e
  · rename_i n
    split at e
    · rename_i xs ee
      obtain ⟨a, rfl, h1⟩ := h
      obtain ⟨vs, g1, _⟩ := sm.obj n a _ h1 ee
      cases e
      exact ⟨_, .base (.lst g1), kit_ty (by cases t <;> decide +kernel)⟩
    · rename_i xs ee
      obtain ⟨a, rfl, h1⟩ := h
      obtain ⟨vs, g1, _⟩ := sm.obj n a _ h1 ee
      cases e
      exact ⟨_, .base (.dK g1), kit_ty (by cases t <;> decide +kernel)⟩
    · cases e
  · obtain ⟨a, vs, rfl, _, h1, _⟩ := h
    cases e
    exact ⟨_, .base (.lst h1), kit_ty (by cases t <;> decide +kernel)⟩
  · obtain ⟨a, vs, rfl, _, h1, _⟩ := h
    cases e
    exact ⟨_, .base (.dK h1), kit_ty (by cases t <;> decide +kernel)⟩
end
end Pf
/-! PfExp: expressions: a checker that an expression is told by a CE, and that it then does what the interpreter tells. -/
namespace Pf
open PySem PySem.Spec PyProof.Rows L2
/-! ### the forms of expressions -/
def plainE : PySem.Expr → Bool
  | .Starred .. => false
  | .Set .. => false
  | .Slice .. => false
  | .Yield .. => false
  | .YieldFrom .. => false
  | .Await .. => false
  | _ => true
theorem star_plain {e : PySem.Expr} {es : List PySem.Expr} {env : PySem.Env} (h : plainE e = true) : starEach (e :: es) env = (false, eval e env) :: starEach es env := by
  cases e <;> first | rfl | cases h
theorem behind_plain {e : PySem.Expr} (op : CmpOp) (h : plainE e = true) : behindInMarks op e = false := by
  cases e <;> first | rfl | cases h
theorem ix_plain {e : PySem.Expr} (h : plainE e = true) : PlainIx e := fun o i => by
  cases e <;> first | rfl | cases h
theorem fold_plain {e : PySem.Expr} {env : PySem.Env} (h : plainE e = true) (x : Value) : foldedSetIterable e env x = pure x := by
  cases e <;> first | rfl | cases h
theorem stars_plain : ∀ {es : List PySem.Expr} {env : PySem.Env} {pos : Pos}, es.all plainE = true → (backTo pos (starEach es env)).any (·.1) = false
  | [], _, _, _ => rfl
  | e :: es, env, pos, h => by
    rw [List.all_cons, Bool.and_eq_true] at h
    rw [star_plain h.1]
    simp only [backTo, List.map_cons, List.any_cons, Bool.false_or]
    exact stars_plain (pos := pos) h.2
theorem stars_all : ∀ {es : List PySem.Expr} {env : PySem.Env} {pos : Pos}, es.all plainE = true → (backTo pos (starEach es env)).all (fun x => !x.1) = true
  | [], _, _, _ => rfl
  | e :: es, env, pos, h => by
    rw [List.all_cons, Bool.and_eq_true] at h
    rw [star_plain h.1]
    simp only [backTo, List.map_cons, List.all_cons, Bool.not_false, Bool.true_and]
    exact stars_all (pos := pos) h.2
/-- as a test it is asked for its truth -/
def plainT : PySem.Expr → Bool
  | .UnaryOp .Not .. => false
  | .BoolOp .. => false
  | .IfExp .. => false
  | .Compare .. => false
  | _ => true
theorem true_plain {e : PySem.Expr} {env : PySem.Env} (h : plainT e = true) (whole : Sem Value) : isTrue e env whole = (do let v ← whole; standAt e.pos; holding [v] (truthy v)) := by
  cases e with
  | UnaryOp op x p => cases op <;> first | rfl | cases h
  | BoolOp => cases h
  | IfExp => cases h
  | Compare => cases h
  | _ => rfl
/-- a receiver of a method: no call of a bare name -/
def plainO : PySem.Expr → Bool
  | .Call .. => false
  | _ => true
theorem base_plain {e : PySem.Expr} {env : PySem.Env} {m : Str} (h : plainO e = true) (whole : Sem Value) : attributeBase e m env whole = whole := by
  cases e <;> first | rfl | cases h
/-! ### the checker -/
def isGlob (sc : Scope) (x : Str) : Bool := match sc.names.lookup x with
  | some .globalImplicit => true
  | _ => false
def isVis (sc : Scope) (x : Str) : Bool := match sc.names.lookup x with
  | some .local => true
  | some .cell => true
  | some .free => true
  | _ => false
def isLocal (sc : Scope) (x : Str) : Bool := match sc.names.lookup x with
  | some .local => true
  | _ => false
def isLoc (sc : Scope) (x : Str) : Bool := match sc.names.lookup x with
  | some .local => true
  | some .cell => true
  | _ => false
def okName (x : Str) : Bool := decide (x ≠ ("__debug__" : Str)) && decide (x ≠ ("__classdict__" : Str)) && decide (x ≠ ("__name__" : Str))
def biN : BI → Str
  | .len => "len" | .min => "min" | .max => "max" | .sum => "sum" | .all => "all" | .any => "any" | .abs => "abs" | .repr => "repr"
  | .int => "int" | .tuple => "tuple" | .list => "list"
def tyN (t : Ty) : Str := PySem.Str.ofString (tyS t)
def chL (f : CE → PySem.Expr → Bool) : CL → List PySem.Expr → Bool
  | .nil, [] => true
  | .cons c r, e :: es => plainE e && f c e && chL f r es
  | _, _ => false
def chP (f : CE → PySem.Expr → Bool) : CP → List (Option PySem.Expr) → List PySem.Expr → Bool
  | .nil, [], [] => true
  | .cons c d r, some e :: es, g :: gs => f c e && f d g && chP f r es gs
  | _, _, _ => false
def chO (f : CE → PySem.Expr → Bool) : CO → Option PySem.Expr → Bool
  | .none, none => true
  | .some c, some e => f c e
  | _, _ => false
def chB (f : CE → PySem.Expr → Bool) (isAnd : Bool) : CE → List PySem.Expr → Bool
  | c, [x] => f c x
  | .band a b, x :: y :: r => isAnd && f a x && chB f isAnd b (y :: r)
  | .bor a b, x :: y :: r => !isAnd && f a x && chB f isAnd b (y :: r)
  | _, _ => false
def chG (loc : Scope → Str → Bool) (N : List Str) (sc : Scope) : List Nat → List PySem.Expr → Bool
  | [], [] => true
  | i :: is, .Name x _ :: es => decide (N[i]? = some x) && loc sc x && chG loc N sc is es
  | _, _ => false
/-- a target -/
def chT (loc : Scope → Str → Bool) (N : List Str) (sc : Scope) : Tgt → PySem.Expr → Bool
  | .nm i, .Name x _ => decide (N[i]? = some x) && loc sc x
  | .tp is, .Tuple es _ _ => chG loc N sc is es
  | _, _ => false
/-- a call of a built-in with one, two plain arguments -/
def chC1 (f : CE → PySem.Expr → Bool) (sc : Scope) (nm : Str) (a : CE) : PySem.Expr → Bool
  | .Call (.Name x _) [e] [] _ => decide (x = nm) && isGlob sc x && plainE e && f a e
  | _ => false
def chC2 (f : CE → PySem.Expr → Bool) (sc : Scope) (nm : Str) (a b : CE) : PySem.Expr → Bool
  | .Call (.Name x _) [e, g] [] _ => decide (x = nm) && isGlob sc x && plainE e && plainE g && f a e && f b g
  | _ => false
/-- zip(a, b, strict=True) -/
def chC2S (f : CE → PySem.Expr → Bool) (sc : Scope) (a b : CE) : PySem.Expr → Bool
  | .Call (.Name x _) [e, g] [⟨some kw, .Constant (.bool true) _ _, _⟩] _ => decide (x = ("zip" : Str)) && decide (kw = ("strict" : Str)) && isGlob sc x && plainE e && plainE g && f a e && f b g
  | _ => false
def isTp : Tgt → Bool
  | .tp _ => true
  | _ => false
/-- what is walked -/
def chS (f : CE → PySem.Expr → Bool) (sc : Scope) (t : Tgt) (c : CSrc) (it : PySem.Expr) : Bool := match c with
  | .seq a => plainE it && f a it
  | .rng a => chC1 f sc "range" a it
  | .rng2 a b => chC2 f sc "range" a b it
  | .enum a => isTp t && chC1 f sc "enumerate" a it
  | .zip a b => isTp t && chC2 f sc "zip" a b it
  | .zipS a b => isTp t && chC2S f sc a b it
/-- the target's slots are the comprehension's own -/
def ownT (own : List Nat) : Tgt → Bool
  | .nm i => decide (i ∈ own)
  | .tp is => is.all fun i => decide (i ∈ own)
/-- what is asked for its truth -/
def isPT : CE → Bool
  | .non => true
  | .bl _ => true
  | .int _ => true
  | .str _ => true
  | .gl _ => true
  | .var _ => true
  | .idx _ _ => true
  | .call _ _ => true
  | .bi _ _ => true
  | .isi _ _ => true
  | _ => false
section
variable (N fn gn : List Str)
mutual
def chE : Nat → Scope → CE → PySem.Expr → Bool
  | 0, _, _, _ => false
  | n + 1, sc, c, e => match c, e with
    | .non, .Constant .none _ _ => true
    | .bl b, .Constant (.bool k) _ _ => b == k
    | .int i, .Constant (.int j) _ _ => i == j
    | .str s, .Constant (.str z) _ _ => s == z.cps.toList
    | .gl j, .Name x _ => decide (gn[j]? = some x) && isGlob sc x && okName x
    | .var i, .Name x _ => decide (N[i]? = some x) && isVis sc x && okName x
    | .bop op a b, .BinOp l o r _ => op == o && chE n sc a l && chE n sc b r
    | .neg a, .UnaryOp .USub x _ => chE n sc a x
    | .cmp op a b, .Compare l [o] [r] _ => op == o && plainE r && chE n sc a l && chE n sc b r
    | .cmp2 op op' a b d, .Compare l [o, o'] [r, t] _ => op == o && op' == o' && plainE r && plainE t && chE n sc a l && chE n sc b r && chE n sc d t
    | c, .BoolOp .And vs _ => chB (chE n sc) true c vs
    | c, .BoolOp .Or vs _ => chB (chE n sc) false c vs
    | .bnot a, .UnaryOp .Not x _ => chE n sc a x
    | .ife c a b, .IfExp t x y _ => chTe n sc c t && chE n sc a x && chE n sc b y
    | .tup es, .Tuple xs _ _ => chL (chE n sc) es xs
    | .lst es, .List xs _ => chL (chE n sc) es xs
    | .dct ps, .Dict ks vs _ => decide (ks.length ≤ 15) && decide (ks.length = vs.length) && ks.all (·.isSome) && chP (chE n sc) ps ks vs
    | .slc a lo hi, .Subscript x (.Slice l u none _) _ => chE n sc a x && chO (chE n sc) lo l && chO (chE n sc) hi u
    | .idx a b, .Subscript x y _ => plainE y && chE n sc a x && chE n sc b y
    | .isi a t, .Call (.Name f _) [x, .Name y _] [] _ => decide (f = ("isinstance" : Str)) && isGlob sc f && decide (y = tyN t) && isGlob sc y && plainE x && chE n sc a x
    | .bi b es, .Call (.Name f _) (x :: xs) [] _ => decide (f = biN b) && isGlob sc f && (x :: xs).all plainE && chL (chE n sc) es (x :: xs)
    | .call j es, .Call (.Name f _) xs [] _ => decide (fn[j]? = some f) && isGlob sc f && okName f && xs.all plainE && chL (chE n sc) es xs
    | .mth .append o (.cons a .nil), .Call (.Attribute x m ap) [y] [] cp => decide (m = ("append" : Str)) && plainO x && plainE y && (ap.endLine == cp.line) && chE n sc o x && chE n sc a y
    | .mth .extend o (.cons a .nil), .Call (.Attribute x m ap) [y] [] cp => decide (m = ("extend" : Str)) && plainO x && plainE y && (ap.endLine == cp.line) && chE n sc o x && chE n sc a y
    | .mth .pop o .nil, .Call (.Attribute x m ap) [] [] cp => decide (m = ("pop" : Str)) && plainO x && (ap.endLine == cp.line) && chE n sc o x
    | .mth .get o (.cons a .nil), .Call (.Attribute x m ap) [y] [] cp => decide (m = ("get" : Str)) && plainO x && plainE y && (ap.endLine == cp.line) && chE n sc o x && chE n sc a y
    | .mth .get o (.cons a (.cons d .nil)), .Call (.Attribute x m ap) [y, z] [] cp => decide (m = ("get" : Str)) && plainO x && plainE y && plainE z && (ap.endLine == cp.line) && chE n sc o x && chE n sc a y && chE n sc d z
    | .lzip a b, .Call (.Name f _) [.Call (.Name g _) [e, e2] [] _] [] _ => decide (f = ("list" : Str)) && isGlob sc f && decide (g = ("zip" : Str)) && isGlob sc g && plainE e && plainE e2 && chE n sc a e && chE n sc b e2
    | .lc elt t src cs own, .ListComp x [⟨tg, it, ifs, ia⟩] bsc _ => (ia == 0) && plainE it && blkC N sc bsc (own.filterMap fun i => (N[i]?).map fun y => (y, i)) && decide ((own.filterMap fun i => (N[i]?).map fun y => (y, i)).map (·.2) = own) &&
        ownT own t && chT isLocal N (relS bsc sc) t tg && chS (chE n sc) sc t src it && chE n (relS bsc sc) elt x && chTs n (relS bsc sc) cs ifs
    | _, _ => false
def chTe : Nat → Scope → CE → PySem.Expr → Bool
  | 0, _, _, _ => false
  | n + 1, sc, c, e => match c, e with
    | c, .BoolOp .And vs _ => chB (chTe n sc) true c vs
    | c, .BoolOp .Or vs _ => chB (chTe n sc) false c vs
    | .bnot a, .UnaryOp .Not x _ => chTe n sc a x
    | .cmp op a b, .Compare l [o] [r] _ => op == o && plainE r && chE n sc a l && chE n sc b r
    | .cmp2 op op' a b d, .Compare l [o, o'] [r, t] _ => op == o && op' == o' && plainE r && plainE t && chE n sc a l && chE n sc b r && chE n sc d t
    | c, e => plainT e && isPT c && chE n sc c e
def chTs : Nat → Scope → CL → List PySem.Expr → Bool
  | 0, _, _, _ => false
  | _ + 1, _, .nil, [] => true
  | n + 1, sc, .cons c .nil, [e] => chTe n sc c e
  | _ + 1, _, _, _ => false
end
end
end Pf
/-! PfZip: zip(a, b, strict=True) of two tuples of one length. -/
namespace Pf
open PySem PySem.Spec PyProof.Rows L2
abbrev IsZipS (h : Heap) (z TI TO : Addr) (f0 : Value) : Prop :=
  h.get? z = some { cls := .type "zip", dict := none, data := .fields #[f0, .bool false, .bool true, .ref TI, .ref TO], slots := #[] }
theorem typeCall_zipS (a b c : Value) : checkTypeCall "zip" ⟨[a, b], [(Str.ofString "strict", c)]⟩ = pure () := by kernel_rfl
theorem newCall_zipS (a b c : Value) : checkBuiltinCall "zip.__new__" ⟨[.type "zip", a, b], [(Str.ofString "strict", c)]⟩ = pure () := by kernel_rfl
theorem args_zipS (obj a b c : Value) : argsOk "object.__init__" ⟨[obj, a, b], [(Str.ofString "strict", c)]⟩ := by unfold argsOk; kernel_rfl
abbrev zsH5 (h : Heap) (l1 l2 : Addr) : Heap := (RZ.zipTH4 h l1 l2).push { cls := .type "zip", data := .fields #[.none, .bool false, .bool true, .ref (RZ.zipTH2 h l1 l2).objs.size, .ref (RZ.zipTH3 h l1 l2).objs.size] }
theorem meets_zipS_new (l1 l2 : Addr) (xs ys : Array Value) :
    Meets (Builtin.«zip.__new__» ⟨[.type "zip", .ref l1, .ref l2], [(Str.ofString "strict", .bool true)]⟩) (fun _ R s => s.heap.IsTuple l1 xs ∧ s.heap.IsTuple l2 ys ∧
      R (.ok (.ret (.ref (RZ.zipTH4 s.heap l1 l2).objs.size))) { s with heap := zsH5 s.heap l1 l2 }) :=
  .of_wp fun prog w A R s h => by
    obtain ⟨hp, g, d, tk, os⟩ := s; obtain ⟨hl1, hl2, h⟩ := h
    have hsub := sub_zip
    have hL1 : Heap.IsTuple (Shared.heap ⟨hp, g, d, tk, os⟩) l1 xs := hl1
    have hL2 : Heap.IsTuple (Shared.heap ⟨hp.push { cls := .type "tuple_iterator", data := .fields #[.ref l1, .int 0 0] }, g, d, tk, os⟩) l2 ys := Heap.IsTuple.push hl2 _
    have e1 : (Str.ofString "strict" != ("strict" : Str)) = false := by decide +kernel
    wp_walk using wpAny_pyIter_tuple hL1, wpAny_pyIter_tuple hL2
    exact ⟨_, rfl, h⟩
section
variable {prog : Program} {w : World} {A : Around} {E : Value → Shared → Prop} {s : Shared}
theorem call_zipS {l1 l2 : Addr} {xs ys : Array Value} {Q : Value → Shared → Prop} (hl1 : s.heap.IsTuple l1 xs) (hl2 : s.heap.IsTuple l2 ys)
    (h : ∀ h', IsZipS h' (s.heap.objs.size + 4) (s.heap.objs.size + 2) (s.heap.objs.size + 3) .none → IsPair h' (s.heap.objs.size + 2) (.ref s.heap.objs.size) (.ref (s.heap.objs.size + 1)) →
      IsPair h' (s.heap.objs.size + 3) .none .none → h'.IsTupleIter s.heap.objs.size l1 0 → h'.IsTupleIter (s.heap.objs.size + 1) l2 0 → h'.objs.size = s.heap.objs.size + 5 →
      (∀ c o, s.heap.get? c = some o → h'.get? c = some o) → Q (.ref (s.heap.objs.size + 4)) { s with heap := h' }) :
    wpAny (model prog w) A (call (.type "zip") [.ref l1, .ref l2] [(Str.ofString "strict", .bool true)]) Q E s := by
  refine callType_newKw F.called_zip (by decide) (typeCall_zipS _ _ _) (newCall_zipS _ _ _) (fun obj => args_zipS obj _ _ _) F.entry_zip_new
    (meets_zipS_new l1 l2 xs ys) ⟨hl1, hl2, ?_⟩
  have z1 : (RZ.zipTH1 s.heap l1).objs.size = s.heap.objs.size + 1 := Heap.size_push ..
  have z2 : (RZ.zipTH2 s.heap l1 l2).objs.size = s.heap.objs.size + 2 := by rw [Heap.size_push, z1]
  have z3 : (RZ.zipTH3 s.heap l1 l2).objs.size = s.heap.objs.size + 3 := by rw [Heap.size_push, z2]
  have z4 : (RZ.zipTH4 s.heap l1 l2).objs.size = s.heap.objs.size + 4 := by rw [Heap.size_push, z3]
  have z5 : (zsH5 s.heap l1 l2).objs.size = s.heap.objs.size + 5 := by rw [Heap.size_push, z4]
  have g5 : (zsH5 s.heap l1 l2).get? (RZ.zipTH4 s.heap l1 l2).objs.size = some _ := Heap.get?_push_size _ rfl
  have g4 : (zsH5 s.heap l1 l2).get? (RZ.zipTH3 s.heap l1 l2).objs.size = some _ := Heap.get?_push_of_some _ (Heap.get?_push_size _ rfl)
  have g3 : (zsH5 s.heap l1 l2).get? (RZ.zipTH2 s.heap l1 l2).objs.size = some _ := Heap.get?_push_of_some _ (Heap.get?_push_of_some _ (Heap.get?_push_size _ rfl))
  have g2 : (zsH5 s.heap l1 l2).get? (RZ.zipTH1 s.heap l1).objs.size = some _ := Heap.get?_push_of_some _ (Heap.get?_push_of_some _ (Heap.get?_push_of_some _ (Heap.get?_push_size _ rfl)))
  have g1 : (zsH5 s.heap l1 l2).get? s.heap.objs.size = some _ := Heap.get?_push_of_some _ (Heap.get?_push_of_some _ (Heap.get?_push_of_some _ (Heap.get?_push_of_some _ (Heap.get?_push_size _ rfl))))
  show _ ∧ _
  rw [z2, z3, z4] at g5
  rw [z1, z2] at g3
  rw [z3] at g4
  rw [z1] at g2
  rw [z4]
  exact ⟨⟨_, g5, rfl⟩, h _ g5 g3 g4 ⟨_, g1, rfl, rfl⟩ ⟨_, g2, rfl, rfl⟩ z5 fun c o x =>
    Heap.get?_push_of_some _ (Heap.get?_push_of_some _ (Heap.get?_push_of_some _ (Heap.get?_push_of_some _ (Heap.get?_push_of_some _ x))))⟩
theorem nextOrEnd_item {it l : Addr} {i : Nat} {items} {x : Value} {Q : Option Value → Shared → Prop} (hit : s.heap.IsTupleIter it l i)
    (hl : s.heap.IsTuple l items) (hx : items[i]? = some x)
    (hQ : ∀ h', h'.IsTupleIter it l (i + 1) → Heap.SameBut it s.heap h' → Q (some x) { s with heap := h' }) :
    wpAny (model prog w) A (Builtin.SmallTypes.nextOrEnd (.ref it)) Q E s := by
  unfold Builtin.SmallTypes.nextOrEnd
  exact wpAny_bind (wpAny_attempt (RZ.nextOf_tuple_item hit hl hx fun h' a b => wpAny_pure (hQ h' a b)))
theorem nextOrEnd_end {it l : Addr} {i : Nat} {items} {Q : Option Value → Shared → Prop} (hh : A.handled = none) (hit : s.heap.IsTupleIter it l i)
    (hl : s.heap.IsTuple l items) (hx : items[i]? = none) (hQ : ∀ h', Heap.ExtBut it s.heap h' → Q none { s with heap := h' }) :
    wpAny (model prog w) A (Builtin.SmallTypes.nextOrEnd (.ref it)) Q E s := by
  unfold Builtin.SmallTypes.nextOrEnd
  refine wpAny_bind (wpAny_attempt (RZ.nextOf_tuple_end hh hit hl hx fun h' e a he => ?_))
  obtain ⟨o, ho, hc⟩ := he
  refine wpAny_bind (wpAny_isInstance (T := "StopIteration") (b := true) ⟨o, ho, hc⟩ isSubtype_stop ?_)
  exact wpAny_pure (hQ _ a)
theorem zipS_next_item {z TI TO i1 i2 l1 l2 : Addr} {k1 k2 : Nat} {xs ys : Array Value} {x y a b : Value} {Q : Value → Shared → Prop} (D : ZipApart z TI TO i1 i2 l1 l2)
    (hz : IsZipS s.heap z TI TO .none) (hTI : IsPair s.heap TI (.ref i1) (.ref i2)) (hTO : IsPair s.heap TO a b)
    (h1 : s.heap.IsTupleIter i1 l1 k1) (h2 : s.heap.IsTupleIter i2 l2 k2) (hl1 : s.heap.IsTuple l1 xs) (hl2 : s.heap.IsTuple l2 ys) (hx : xs[k1]? = some x) (hy : ys[k2]? = some y)
    (hQ : ∀ h', IsZipS h' z TI TO (rawInt s.heap.objs.size) → IsPair h' TO x y → h'.IsTupleIter i1 l1 (k1 + 1) → h'.IsTupleIter i2 l2 (k2 + 1) → IsPair h' s.heap.objs.size x y → h'.objs.size = s.heap.objs.size + 1 →
      (∀ c o, c ≠ z → c ≠ TO → c ≠ i1 → c ≠ i2 → s.heap.get? c = some o → h'.get? c = some o) → Q (.ref s.heap.objs.size) { s with heap := h' }) :
    wpAny (model prog w) A (Builtin.«zip.__next__» ⟨[.ref z], []⟩) (fun fin s' => ∃ v, fin = .done (.ret v) ∧ Q v s') E s := by
  show wpAny _ _ (field (.ref z) 2 >>= _) _ _ _
  refine wpAny_bind (wpAny_field hz rfl (x := .bool true) rfl ?_)
  show wpAny _ _ (field (.ref z) 3 >>= _) _ _ _
  refine wpAny_bind (wpAny_field hz rfl (x := .ref TI) rfl ?_)
  refine wpAny_bind (wpAny_seqItems hTI rfl ?_)
  show wpAny _ _ (Builtin.SmallTypes.ownedTupleIsFree (.ref z) >>= _) _ _ _
  refine wpAny_bind ?_
  unfold Builtin.SmallTypes.ownedTupleIsFree
  refine wpAny_bind (wpAny_field hz rfl (x := .none) rfl (wpAny_pure ?_))
  simp only [if_true]
  refine wpAny_bind (wpAny_rule ?_)
  refine wpAny_bind (wpAny_field hz rfl (x := .ref TO) rfl ?_)
  refine wpAny_bind (wpAny_setField_rec hz (by simp) fun h₁ hz₁ hs₁ => ?_)
  replace hz₁ : IsZipS h₁ z TI TO .ellipsis := hz₁
  refine wpAny_bind ?_
  simp only [List.zipIdx_cons, List.zipIdx_nil, List.forIn_cons, List.forIn_nil]

  refine wpAny_bind (wpAny_bind (wpAny_onRaise ?_))
  show wpAny _ _ (Builtin.SmallTypes.nextOrEnd (.ref i1)) _ _ _
  refine nextOrEnd_item (h1.extBut hs₁.extBut D.i1z) (hl1.extBut hs₁.extBut D.l1z) hx fun h₂ h1₂ hs₂ => ?_
  have hTO₂ : IsPair h₂ TO a b := hs₂.extBut _ _ D.TOi1 (hs₁.extBut _ _ D.TOz hTO)
  refine wpAny_bind (wpAny_seqItems hTO₂ rfl ?_)
  refine wpAny_bind (wpAny_updateSeq_pair hTO₂ fun h₃ hTO₃ hs₃ => ?_)
  replace hTO₃ : IsPair h₃ TO x b := hTO₃
  refine wpAny_bind (wpAny_letGo (wpAny_pure ?_))

  refine wpAny_bind (wpAny_bind (wpAny_onRaise ?_))
  show wpAny _ _ (Builtin.SmallTypes.nextOrEnd (.ref i2)) _ _ _
  refine nextOrEnd_item (((h2.extBut hs₁.extBut D.i2z).extBut hs₂.extBut D.i12.symm).extBut hs₃.extBut D.TOi2.symm)
    (((hl2.extBut hs₁.extBut D.l2z).extBut hs₂.extBut D.l2i1).extBut hs₃.extBut D.l2TO) hy fun h₄ h2₄ hs₄ => ?_
  have hTO₄ : IsPair h₄ TO x b := hs₄.extBut _ _ D.TOi2 hTO₃
  refine wpAny_bind (wpAny_seqItems hTO₄ rfl ?_)
  refine wpAny_bind (wpAny_updateSeq_pair hTO₄ fun h₅ hTO₅ hs₅ => ?_)
  replace hTO₅ : IsPair h₅ TO x y := hTO₅
  refine wpAny_bind (wpAny_letGo (wpAny_pure (wpAny_pure ?_)))

  refine wpAny_bind (wpAny_seqItems hTO₅ rfl ?_)
  refine wpAny_bind (wpAny_newTuple ?_)
  have hsz : h₅.objs.size = s.heap.objs.size := by rw [hs₅.1, hs₄.1, hs₃.1, hs₂.1, hs₁.1]
  have hz₅ : IsZipS h₅ z TI TO .ellipsis := hs₅.extBut _ _ D.TOz.symm (hs₄.extBut _ _ D.i2z.symm (hs₃.extBut _ _ D.TOz.symm (hs₂.extBut _ _ D.i1z.symm hz₁)))
  have hk₅ : ∀ c o, c ≠ z → c ≠ TO → c ≠ i1 → c ≠ i2 → s.heap.get? c = some o → h₅.get? c = some o := fun c o c1 c2 c3 c4 e =>
    hs₅.extBut _ _ c2 (hs₄.extBut _ _ c4 (hs₃.extBut _ _ c2 (hs₂.extBut _ _ c3 (hs₁.extBut _ _ c1 e))))
  have h1₅ : h₅.IsTupleIter i1 l1 (k1 + 1) := ((h1₂.extBut hs₃.extBut D.TOi1.symm).extBut hs₄.extBut D.i12).extBut hs₅.extBut D.TOi1.symm
  have h2₅ : h₅.IsTupleIter i2 l2 (k2 + 1) := h2₄.extBut hs₅.extBut D.TOi2.symm
  have hzlt : z < h₅.objs.size := Heap.lt_size hz₅
  have hTOlt : TO < h₅.objs.size := Heap.lt_size hTO₅
  have hi1lt : i1 < h₅.objs.size := by obtain ⟨_, e, _⟩ := h1₅; exact Heap.lt_size e
  have hi2lt : i2 < h₅.objs.size := by obtain ⟨_, e, _⟩ := h2₅; exact Heap.lt_size e
  show wpAny _ _ (Builtin.SmallTypes.ownedTupleHandOut (.ref z) (.ref h₅.objs.size) >>= _) _ _ _
  refine wpAny_bind ?_
  unfold Builtin.SmallTypes.ownedTupleHandOut
  have hz₆ : IsZipS (h₅.push { cls := .type "tuple", data := .seq #[x, y] }) z TI TO .ellipsis := Heap.get?_push_of_some _ hz₅
  refine wpAny_bind (wpAny_setField_rec hz₆ (by simp) fun h₇ hz₇ hs₇ => ?_)
  replace hz₇ : IsZipS h₇ z TI TO (rawInt h₅.objs.size) := hz₇
  refine wpAny_setField_rec hz₇ (by simp) fun h₈ hz₈ hs₈ => ?_
  replace hz₈ : IsZipS h₈ z TI TO (rawInt h₅.objs.size) := hz₈
  have up : ∀ c o, c ≠ z → h₅.get? c = some o → h₈.get? c = some o := fun c o c1 e => hs₈.extBut _ _ c1 (hs₇.extBut _ _ c1 (Heap.get?_push_of_some _ e))
  have hT₈ : IsPair h₈ h₅.objs.size x y := hs₈.extBut _ _ (Nat.ne_of_gt hzlt) (hs₇.extBut _ _ (Nat.ne_of_gt hzlt) (Heap.get?_push_size _ rfl))
  have hz8 : h₈.objs.size = h₅.objs.size + 1 := by rw [hs₈.1, hs₇.1, Heap.size_push]
  rw [hsz] at hz₈ hT₈ hz8
  refine wpAny_pure ⟨_, rfl, ?_⟩
  show Q (.ref h₅.objs.size) _
  rw [hsz]
  exact hQ h₈ hz₈ (up _ _ D.TOz hTO₅) (h1₅.at fun o e => up _ o D.i1z e) (h2₅.at fun o e => up _ o D.i2z e) hT₈ hz8 fun c o c1 c2 c3 c4 e => up c o c1 (hk₅ c o c1 c2 c3 c4 e)
theorem stop_raises {Q : Fin → Shared → Prop} (hh : A.handled = none) (hE : ∀ h' e, (∀ c o, s.heap.get? c = some o → h'.get? c = some o) → (∃ o, h'.get? e = some o ∧ o.cls = .type "StopIteration") → E (.ref e) { s with heap := h' }) :
    wpAny (model prog w) A (Builtin.SmallTypes.stopIteration : Sem Fin) Q E s := by
  show wpAny _ _ (newExc (.type "StopIteration") [] >>= _) _ _ _
  refine wpAny_bind ?_
  simp only [newExc, newTuple]
  refine wpAny_bind (wpAny_newObj_type ?_ (by size_fits))
  refine wpAny_bind (m := firstArgMember _ _) (wpAny_of_eq (a := Value.none) (by first | rfl | (simp only [firstArgMember]; rfl)) ?_)
  refine wpAny_newObj_type ?_ (by size_fits)
  simp only [raiseNew]
  refine wpAny_bind (wpAny_handled ?_)
  first | rw [show A.in1.handled = none from hh] | rw [hh]
  refine wpAny_bind (wpAny_pure (wpAny_throw ?_))
  exact hE _ _ (fun c o x => Heap.get?_push_of_some _ (Heap.get?_push_of_some _ x)) ⟨_, Heap.get?_push_size _ rfl, rfl⟩
theorem zipS_next_end {z TI TO i1 i2 l1 l2 : Addr} {k1 k2 : Nat} {xs ys : Array Value} {a b : Value} {Q : Fin → Shared → Prop} (hh : A.handled = none) (D : ZipApart z TI TO i1 i2 l1 l2)
    (hz : IsZipS s.heap z TI TO .none) (hTI : IsPair s.heap TI (.ref i1) (.ref i2)) (hTO : IsPair s.heap TO a b)
    (h1 : s.heap.IsTupleIter i1 l1 k1) (h2 : s.heap.IsTupleIter i2 l2 k2) (hl1 : s.heap.IsTuple l1 xs) (hl2 : s.heap.IsTuple l2 ys) (hx : xs[k1]? = none) (hy : ys[k2]? = none)
    (hE : ∀ h' e, (∀ c o, c ≠ z → c ≠ TO → c ≠ i1 → c ≠ i2 → s.heap.get? c = some o → h'.get? c = some o) → (∃ o, h'.get? e = some o ∧ o.cls = .type "StopIteration") → E (.ref e) { s with heap := h' }) :
    wpAny (model prog w) A (Builtin.«zip.__next__» ⟨[.ref z], []⟩) Q E s := by
  show wpAny _ _ (field (.ref z) 2 >>= _) _ _ _
  refine wpAny_bind (wpAny_field hz rfl (x := .bool true) rfl ?_)
  show wpAny _ _ (field (.ref z) 3 >>= _) _ _ _
  refine wpAny_bind (wpAny_field hz rfl (x := .ref TI) rfl ?_)
  refine wpAny_bind (wpAny_seqItems hTI rfl ?_)
  show wpAny _ _ (Builtin.SmallTypes.ownedTupleIsFree (.ref z) >>= _) _ _ _
  refine wpAny_bind ?_
  unfold Builtin.SmallTypes.ownedTupleIsFree
  refine wpAny_bind (wpAny_field hz rfl (x := .none) rfl (wpAny_pure ?_))
  simp only [if_true]
  refine wpAny_bind (wpAny_rule ?_)
  refine wpAny_bind (wpAny_field hz rfl (x := .ref TO) rfl ?_)
  refine wpAny_bind (wpAny_setField_rec hz (by simp) fun h₁ hz₁ hs₁ => ?_)
  replace hz₁ : IsZipS h₁ z TI TO .ellipsis := hz₁
  refine wpAny_bind ?_
  simp only [List.zipIdx_cons, List.zipIdx_nil, List.forIn_cons, List.forIn_nil]
  refine wpAny_bind (wpAny_bind (wpAny_onRaise ?_))
  show wpAny _ _ (Builtin.SmallTypes.nextOrEnd (.ref i1)) _ _ _
  refine nextOrEnd_end hh (h1.extBut hs₁.extBut D.i1z) (hl1.extBut hs₁.extBut D.l1z) hx fun h₂ hs₂ => ?_
  have hz₂ : IsZipS h₂ z TI TO .ellipsis := hs₂ _ _ D.i1z.symm hz₁
  refine wpAny_bind (wpAny_setField_rec hz₂ (by simp) fun h₃ hz₃ hs₃ => ?_)
  have h2₃ : h₃.IsTupleIter i2 l2 k2 := ((h2.extBut hs₁.extBut D.i2z).extBut hs₂ D.i12.symm).extBut hs₃.extBut D.i2z
  have hl2₃ : h₃.IsTuple l2 ys := ((hl2.extBut hs₁.extBut D.l2z).extBut hs₂ D.l2i1).extBut hs₃.extBut D.l2z
  refine wpAny_bind (wpAny_bind ?_)
  show wpAny _ _ (forIn [(Value.ref i2, 1)] PUnit.unit _) _ _ _
  simp only [List.forIn_cons, List.forIn_nil]
  refine wpAny_bind (wpAny_bind (nextOrEnd_end hh h2₃ hl2₃ hy fun h₄ hs₄ => ?_))
  refine wpAny_pure (wpAny_pure (wpAny_bind (wpAny_rule (stop_raises hh fun h₅ e hs₅ he => ?_))))
  refine hE h₅ e (fun c o c1 c2 c3 c4 x => ?_) he
  exact hs₅ _ _ (hs₄ _ _ c4 (hs₃.extBut _ _ c1 (hs₂ _ _ c3 (hs₁.extBut _ _ c1 x))))
theorem pyNext_zipS_item {z TI TO i1 i2 l1 l2 : Addr} {k1 k2 : Nat} {xs ys : Array Value} {x y a b : Value} {Q : Option Value → Shared → Prop} (D : ZipApart z TI TO i1 i2 l1 l2)
    (hz : IsZipS s.heap z TI TO .none) (hTI : IsPair s.heap TI (.ref i1) (.ref i2)) (hTO : IsPair s.heap TO a b)
    (h1 : s.heap.IsTupleIter i1 l1 k1) (h2 : s.heap.IsTupleIter i2 l2 k2) (hl1 : s.heap.IsTuple l1 xs) (hl2 : s.heap.IsTuple l2 ys) (hx : xs[k1]? = some x) (hy : ys[k2]? = some y)
    (hQ : ∀ h', IsZipS h' z TI TO (rawInt s.heap.objs.size) → IsPair h' TO x y → h'.IsTupleIter i1 l1 (k1 + 1) → h'.IsTupleIter i2 l2 (k2 + 1) → IsPair h' s.heap.objs.size x y → h'.objs.size = s.heap.objs.size + 1 →
      (∀ c o, c ≠ z → c ≠ TO → c ≠ i1 → c ≠ i2 → s.heap.get? c = some o → h'.get? c = some o) → Q (some (.ref s.heap.objs.size)) { s with heap := h' }) :
    wpAny (model prog w) A (pyNext (.ref z)) Q E s := by
  have hT : s.TypeIs (.ref z) "zip" := ⟨_, hz, rfl⟩
  unfold pyNext
  exact wpAny_bind (wpAny_attempt (wpAny_callSpecial?_slot (name := Str.ofString "__next__") hT F.slot_zip_next
    (wpAny_call_entry F.slot_zip_next hT F.entry_zip_next
      (zipS_next_item D hz hTI hTO h1 h2 hl1 hl2 hx hy fun h' a1 a2 a3 a4 a5 a6 a7 => wpAny_pure (hQ h' a1 a2 a3 a4 a5 a6 a7)) (F.args_zip_next_1 _))))
theorem pyNext_zipS_end {z TI TO i1 i2 l1 l2 : Addr} {k1 k2 : Nat} {xs ys : Array Value} {a b : Value} {Q : Option Value → Shared → Prop} (hh : A.handled = none) (D : ZipApart z TI TO i1 i2 l1 l2)
    (hz : IsZipS s.heap z TI TO .none) (hTI : IsPair s.heap TI (.ref i1) (.ref i2)) (hTO : IsPair s.heap TO a b)
    (h1 : s.heap.IsTupleIter i1 l1 k1) (h2 : s.heap.IsTupleIter i2 l2 k2) (hl1 : s.heap.IsTuple l1 xs) (hl2 : s.heap.IsTuple l2 ys) (hx : xs[k1]? = none) (hy : ys[k2]? = none)
    (hQ : ∀ h', (∀ c o, c ≠ z → c ≠ TO → c ≠ i1 → c ≠ i2 → s.heap.get? c = some o → h'.get? c = some o) → Q none { s with heap := h' }) : wpAny (model prog w) A (pyNext (.ref z)) Q E s := by
  have hT : s.TypeIs (.ref z) "zip" := ⟨_, hz, rfl⟩
  unfold pyNext
  refine wpAny_bind (wpAny_attempt (wpAny_callSpecial?_slot (name := Str.ofString "__next__") hT F.slot_zip_next
    (wpAny_call_entry F.slot_zip_next hT F.entry_zip_next (zipS_next_end hh D hz hTI hTO h1 h2 hl1 hl2 hx hy fun h' e hk he => ?_) (F.args_zip_next_1 _))))
  obtain ⟨o, ho, hc⟩ := he
  refine wpAny_bind (wpAny_isInstance (T := "StopIteration") (b := true) ⟨o, ho, hc⟩ isSubtype_stop ?_)
  exact wpAny_pure (hQ _ hk)
theorem go_zipS {elts : List PySem.Expr} {x1} {pos : Pos} {z TI TO T : Addr} {Q : Unit → Shared → Prop} (hz : IsZipS s.heap z TI TO (rawInt T))
    (hQ : ∀ h', IsZipS h' z TI TO .none → Heap.SameBut z s.heap h' → Q () { s with heap := h' }) :
    wpAny (model prog w) A (letOwnedTupleGo (.Tuple elts x1 pos) (.ref z) (.ref T)) Q E s := by
  unfold letOwnedTupleGo
  refine wpAny_bind (wpAny_load hz ?_)
  show wpAny _ _ (if (["enumerate", "zip", "dict_itemiterator", "dict_reverseitemiterator", "odict_iterator", "itertools.zip_longest", "itertools.pairwise"].contains "zip" &&
      (#[rawInt T, .bool false, .bool true, .ref TI, .ref TO] : Array Value)[0]? == some (rawInt T)) = true then _ else _) Q E s
  rw [if_pos (by simp)]
  refine wpAny_bind (wpAny_rule ?_)
  show wpAny _ _ (setField (.ref z) 0 .none) Q E s
  exact wpAny_setField_rec hz (by simp) fun h' hz' hs' => hQ h' hz' hs'
theorem pyIter_zipS {z TI TO : Addr} {f0 : Value} {Q : Value → Shared → Prop} (hz : IsZipS s.heap z TI TO f0) (h : Q (.ref z) s) : wpAny (model prog w) A (pyIter (.ref z)) Q E s := by
  have hT : s.TypeIs (.ref z) "zip" := ⟨_, hz, rfl⟩
  refine wpAny_pyIter_slot hT F.slot_zip_iter (wpAny_call_entry F.slot_zip_iter hT F.entry_zip_iter ?_ (F.args_zip_iter_1 _))
  show wpAny _ _ (ret (.ref z)) _ _ s
  exact wpAny_pure ⟨_, rfl, "zip", _, hT, F.slot_zip_next.lookup, h⟩
end
/-- the tuples at a and b, of one length -/
def ItzS (K : PySem.W.Frag) (a b : Addr) : It :=
  ⟨(RZ.ItzT K a b).go, (RZ.ItzT K a b).yld, fun i H => ∃ xs ys : List V, SqT K H a xs ∧ SqT K H b ys ∧ xs.length ≤ i ∧ ys.length ≤ i⟩
theorem turn_zipS {P : Program} {w : World} {K : PySem.W.Frag} {elts : List PySem.Expr} {kk : Nat} {tpos : Pos} {a b z TI TO i1 i2 : Addr} (D : ZipApart z TI TO i1 i2 a b) :
    Turn P w K (.Tuple elts kk tpos) (ItzS K a b) [z, TI, TO, i1, i2] z (fun i h => IsZipS h z TI TO .none ∧ IsPair h TI (.ref i1) (.ref i2) ∧ (∃ x y, IsPair h TO x y) ∧ h.IsTupleIter i1 a i ∧ h.IsTupleIter i2 b i) where
  mem := by simp
  obj := fun i h st c hc => by
    obtain ⟨hz, hTI, ⟨x, y, hTO⟩, ⟨o1, e1, _, d1⟩, ⟨o2, e2, _, d2⟩⟩ := st
    have e' : c = z ∨ c = TI ∨ c = TO ∨ c = i1 ∨ c = i2 := by simpa using hc
    rcases e' with q | q | q | q | q
    · rw [q]; exact ⟨_, hz, fun v q => nomatch q⟩
    · rw [q]; exact ⟨_, hTI, fun v q => nomatch q⟩
    · rw [q]; exact ⟨_, hTO, fun v q => nomatch q⟩
    · rw [q]; exact ⟨o1, e1, fun v q => by rw [d1] at q; cases q⟩
    · rw [q]; exact ⟨o2, e2, fun v q => by rw [d2] at q; cases q⟩
  keep := fun i h h' st k => by
    obtain ⟨hz, hTI, ⟨x, y, hTO⟩, h1, h2⟩ := st
    exact ⟨k z (by simp) _ hz, k TI (by simp) _ hTI, ⟨x, y, k TO (by simp) _ hTO⟩, h1.at fun o q => k i1 (by simp) o q, h2.at fun o q => k i2 (by simp) o q⟩
  item := by
    intro X hP hw hK hc i pins s σ H E I hf st hg
    subst hP hw hK
    obtain ⟨hz, hTI, ⟨x0, y0, hTO⟩, h1, h2⟩ := st
    obtain ⟨xs, ys, x, y, hqx, hqy, hx, hy⟩ := hg
    obtain ⟨its, rv, p, _⟩ := I.tuple hqx
    obtain ⟨its2, rv2, p2, _⟩ := I.tuple hqy
    obtain ⟨u, hu, ru⟩ := rv.get hx
    obtain ⟨u2, hu2, ru2⟩ := rv2.get hy
    have hzl : z < s.heap.objs.size := Heap.lt_size hz
    refine pyNext_zipS_item D hz hTI hTO h1 h2 p p2 (x := u) (y := u2) (by simpa using hu) (by simpa using hu2) fun h' z' TO' h1' h2' hT hsz hk => ?_
    refine ⟨_, rfl, go_zipS (s := { s with heap := h' }) z' fun h'' z'' sb => ?_⟩
    have hT2 : h''.get? s.heap.objs.size = some { cls := .type "tuple", data := .seq #[u, u2] } := (sb.2 _ (Nat.ne_of_gt hzl)).trans hT
    have new : ObjOk X.prog X.w (upd H s.heap.objs.size (.tup [x, y])) h'' s.heap.objs.size (.tup [x, y]) :=
      ⟨by show 2 ≤ sizeLine; decide, [u, u2], .cons ru (.cons ru2 .nil), ⟨_, hT2, rfl, _, rfl⟩⟩
    have I1 : Inv X pins σ (upd H s.heap.objs.size (.tup [x, y])) { s with heap := h'' } :=
      I.turnedNew (t' := s.toks) (ch := [z, TI, TO, i1, i2]) (fun c o hb q => (sb.2 c (fun q' => hb (by simp [q']))).trans (hk c o (fun q' => hb (by simp [q'])) (fun q' => hb (by simp [q'])) (fun q' => hb (by simp [q'])) (fun q' => hb (by simp [q'])) q)) hf (Nat.le_refl _) new
    refine ⟨.ref s.heap.objs.size, _, I1, rfl, ⟨_, x, y, rfl, I.hok.fresh (Nat.le_refl _), rfl, fun l hl => by rw [I.tuple_inj hl hqx]; exact hx, fun l hl => by rw [I.tuple_inj hl hqy]; exact hy⟩, ⟨z'', ?_, ⟨u, u2, ?_⟩, ?_, ?_⟩, fun c hcm => ?_⟩
    · exact (sb.2 _ D.TIz).trans (hk _ _ D.TIz D.TITO D.TIi1 D.TIi2 hTI)
    · exact (sb.2 _ D.TOz).trans TO'
    · exact h1'.at fun o q => (sb.2 _ D.i1z).trans q
    · exact h2'.at fun o q => (sb.2 _ D.i2z).trans q
    · have hlt : c < s.heap.objs.size := by
        have e' : c = z ∨ c = TI ∨ c = TO ∨ c = i1 ∨ c = i2 := by simpa using hcm
        rcases e' with q | q | q | q | q
        · rw [q]; exact hzl
        · rw [q]; exact Heap.lt_size hTI
        · rw [q]; exact Heap.lt_size hTO
        · rw [q]; obtain ⟨_, e1, _⟩ := h1; exact Heap.lt_size e1
        · rw [q]; obtain ⟨_, e2, _⟩ := h2; exact Heap.lt_size e2
      rw [upd_ne (Nat.ne_of_lt hlt)]
      exact (hf c hcm).1
  done := by
    intro X hP hw hK hc i pins s σ H E I hf st hg
    subst hP hw hK
    obtain ⟨hz, hTI, ⟨x0, y0, hTO⟩, h1, h2⟩ := st
    obtain ⟨xs, ys, hqx, hqy, hend1, hend2⟩ := hg
    obtain ⟨its, rv, p, _⟩ := I.tuple hqx
    obtain ⟨its2, rv2, p2, _⟩ := I.tuple hqy
    have l1 := rv.length
    have l2 := rv2.length
    have he1 : its.toArray[i]? = none := by simp; omega
    have he2 : its2.toArray[i]? = none := by simp; omega
    exact pyNext_zipS_end (I.ok.hd hc) D hz hTI hTO h1 h2 p p2 he1 he2 fun h' hk => ⟨rfl, I.turnedL (t' := s.toks) (ch := [z, TI, TO, i1, i2]) (fun c o hb q =>
      hk c o (fun q' => hb (by simp [q'])) (fun q' => hb (by simp [q'])) (fun q' => hb (by simp [q'])) (fun q' => hb (by simp [q'])) q) hf⟩
  self := fun A i s Q E st h => pyIter_zipS st.1 h
theorem callWith_typeKw {M : Model} {A : Around} {E : Value → Shared → Prop} {s : Shared} {env : PySem.Env} {pos : Pos} {T : String} {e : PySem.Expr} {rest : List PySem.Expr} {kws : List Keyword} {Q : Value → Shared → Prop}
    (h : wpAny M A (spliced (backTo pos (starEach (e :: rest) env))) (fun vs s₁ => wpAny M A (evalAll ((backToKw pos (keywordEach kws env)).map (·.2)))
      (fun kvs s₂ => wpAny M A (call (.type T) vs (((backToKw pos (keywordEach kws env)).filterMap (·.1)).zip kvs)) Q E s₂) E s₁) E s)
    (he : backTo pos (starEach (e :: rest) env) = (false, eval e env) :: backTo pos (starEach rest env))
    (hplain : (backTo pos (starEach (e :: rest) env)).any (·.1) = false)
    (hall : (backToKw pos (keywordEach kws env)).all (·.1.isSome) = true)
    (hkw : (backToKw pos (keywordEach kws env)).any (·.1.isNone) = false) :
    wpAny M A (callWith pos (.type T) [] (backTo pos (starEach (e :: rest) env)) (backToKw pos (keywordEach kws env))) Q E s := by
  have key : ∀ {args : List (Bool × Sem Value)} {keywords : List (Option Str × Sem Value)}, args.any (·.1) = false → keywords.any (·.1.isNone) = false →
      wpAny M A (evalArgs (.type T) true args keywords) (fun a s₁ => wpAny M A (call (.type T) ([] ++ a.pos) a.kw) Q E s₁) E s → wpAny M A (callWith pos (.type T) [] args keywords) Q E s := fun {args keywords} hp hk h => by
    unfold callWith
    refine wpAny_bind (wpAny_holding (wpAny_mono h (fun a s₁ h₁ => wpAny_bind (wpAny_standAt ?_)) fun _ _ x => x))
    simp only [hp, hk, Bool.or_false]
    refine wpAny_bind (wpAny_pure ?_)
    exact wpAny_bind (wpAny_mono h₁ (fun r s₂ hr => wpAny_bind (wpAny_holding (wpAny_point (wpAny_pure hr)))) fun _ _ x => x)
  refine key hplain hkw ?_
  rw [he] at h ⊢
  exact evalArgs_kwB hall h
def iZipS (K : PySem.W.Frag) (ta : TA) : TI := fun σ H R => ta σ H fun vs H1 => ∃ a b xs ys, vs = [.ref a, .ref b] ∧ SqT K H1 a xs ∧ SqT K H1 b ys ∧ R (ItzS K a b) H1
theorem pi_zipS {X : Cx} {e e2 : PySem.Expr} {ta : TA} {p pos tpos kp cp : Pos} {ck : Nat} {elts : List PySem.Expr} {kk : Nat} (hg : Gl X "zip") (hm : X.mg "zip" = none) (ha : PA X [e, e2] ta)
    (hs : starEach [e, e2] X.env = (false, eval e X.env) :: starEach [e2] X.env) (hpl : (backTo pos (starEach [e2] X.env)).any (·.1) = false) :
    PI X (.Tuple elts kk tpos) (.Call (.Name "zip" p) [e, e2] [⟨some (Str.ofString "strict"), .Constant (.bool true) ck cp, kp⟩] pos) (iZipS X.K ta) := by
  refine ⟨fun pins s σ H R I h => ?_⟩
  have he : eval (.Call (.Name "zip" p) [e, e2] [⟨some (Str.ofString "strict"), .Constant (.bool true) ck cp, kp⟩] pos) X.env = (do
      let f ← eval (.Name "zip" p) X.env
      callWith pos f [] (backTo pos (starEach [e, e2] X.env)) (backToKw pos (keywordEach [⟨some (Str.ofString "strict"), .Constant (.bool true) ck cp, kp⟩] X.env))) := by rfl
  rw [he]
  refine wpAny_bind (ld_blt I hg hm PyProof.Rows.boot_zip (callWith_typeKw (thn (ha.run pos pins s σ H _ I h) fun us s1 ⟨vs, H1, I1, r1, q1⟩ => ?_) (by rw [hs]; rfl) (by rw [hs]; exact hpl) rfl rfl))
  refine kws_cons (Constant_bool (kws_nil ?_))
  obtain ⟨a, b, xs, ys, ex, hqx, hqy, q⟩ := q1
  subst ex
  cases r1 with
  | cons r rr =>
    cases rr with
    | cons r' rr =>
      cases rr
      cases r
      cases r'
      have fresh5 : ∀ c, c ∈ [s1.heap.objs.size + 4, s1.heap.objs.size + 2, s1.heap.objs.size + 3, s1.heap.objs.size, s1.heap.objs.size + 1] → FpOk X pins H1 c := fun c hcm => by
        have e' : c = s1.heap.objs.size + 4 ∨ c = s1.heap.objs.size + 2 ∨ c = s1.heap.objs.size + 3 ∨ c = s1.heap.objs.size ∨ c = s1.heap.objs.size + 1 := by simpa using hcm
        have hle : s1.heap.objs.size ≤ c := by
          rcases e' with z | z | z | z | z
          · rw [z]; exact Nat.le_add_right _ _
          · rw [z]; exact Nat.le_add_right _ _
          · rw [z]; exact Nat.le_add_right _ _
          · rw [z]; exact Nat.le_refl _
          · rw [z]; exact Nat.le_add_right _ _
        exact I1.fpOk hle (I1.hok.fresh hle)
      obtain ⟨its, rv, p1, _⟩ := I1.tuple hqx
      obtain ⟨its2, rv2, p2, _⟩ := I1.tuple hqy
      obtain ⟨o1, ho1, _⟩ := id p1
      obtain ⟨o2, ho2, _⟩ := id p2
      refine call_zipS (show s1.heap.IsTuple a its.toArray from p1) (show s1.heap.IsTuple b its2.toArray from p2) fun h' hz hTI hTO h1 h2 hsz hk => pyIter_zipS hz ?_
      have I2 : Inv X pins σ H1 { s1 with heap := h' } := I1.kept (t' := s1.toks) hk
      exact ⟨s1.heap.objs.size + 4, [s1.heap.objs.size + 4, s1.heap.objs.size + 2, s1.heap.objs.size + 3, s1.heap.objs.size, s1.heap.objs.size + 1], _, _, H1, rfl, I2, turn_zipS (PySem.W.ktu_apart s1.heap.objs.size a b (Heap.lt_size ho1) (Heap.lt_size ho2)), ⟨hz, hTI, ⟨_, _, hTO⟩, h1, h2⟩, fresh5, q⟩
end Pf
/-! PfLzip: list(zip(a, b)) of two tuples. -/
namespace Pf
open PySem PySem.Spec PyProof.Rows L2
section
variable {prog : Program} {w : World} {A : Around} {E : Value → Shared → Prop} {s : Shared}
theorem zipT_item_held {z TI TO T i1 i2 l1 l2 : Addr} {f : Bool} {oT : Obj} {k1 k2 : Nat} {xs ys : Array Value} {x y : Value} {Q : Value → Shared → Prop} (D : ZipApart z TI TO i1 i2 l1 l2)
    (hz : IsZipHeld s.heap z TI TO T f) (hT : s.heap.get? T = some oT) (hTI : IsPair s.heap TI (.ref i1) (.ref i2))
    (h1 : s.heap.IsTupleIter i1 l1 k1) (h2 : s.heap.IsTupleIter i2 l2 k2) (hl1 : s.heap.IsTuple l1 xs) (hl2 : s.heap.IsTuple l2 ys) (hx : xs[k1]? = some x) (hy : ys[k2]? = some y)
    (hQ : ∀ h', IsZipHeld h' z TI TO T true → h'.IsTupleIter i1 l1 (k1 + 1) → h'.IsTupleIter i2 l2 (k2 + 1) → IsPair h' s.heap.objs.size x y → h'.objs.size = s.heap.objs.size + 1 →
      (∀ c o, c ≠ z → c ≠ i1 → c ≠ i2 → s.heap.get? c = some o → h'.get? c = some o) → Q (.ref s.heap.objs.size) { s with heap := h' }) :
    wpAny (model prog w) A (Builtin.«zip.__next__» ⟨[.ref z], []⟩) (fun fin s' => ∃ v, fin = .done (.ret v) ∧ Q v s') E s := by
  show wpAny _ _ (field (.ref z) 2 >>= _) _ _ _
  refine wpAny_bind (wpAny_field hz rfl (x := .bool false) rfl ?_)
  show wpAny _ _ (field (.ref z) 3 >>= _) _ _ _
  refine wpAny_bind (wpAny_field hz rfl (x := .ref TI) rfl ?_)
  refine wpAny_bind (wpAny_seqItems hTI rfl ?_)
  show wpAny _ _ (Builtin.SmallTypes.ownedTupleIsFree (.ref z) >>= _) _ _ _
  refine wpAny_bind (wpAny_tupleHeld_zip hz hT fun h₁ hz₁ hs₁ => ?_)
  simp only [Bool.false_eq_true, if_false]
  refine wpAny_bind ?_
  rw [← Array.forIn_toList]
  simp only [List.forIn_cons, List.forIn_nil]
  refine wpAny_bind (wpAny_bind (wpAny_holding ?_))
  show wpAny _ _ (Builtin.SmallTypes.nextOf (.ref i1) >>= _) _ _ _
  refine wpAny_bind (RZ.nextOf_tuple_item (s := { s with heap := h₁ }) (h1.extBut hs₁.extBut D.i1z) (hl1.extBut hs₁.extBut D.l1z) hx fun h₂ h1₂ hs₂ => wpAny_pure ?_)
  refine wpAny_pure ?_
  refine wpAny_bind (wpAny_bind (wpAny_holding ?_))
  show wpAny _ _ (Builtin.SmallTypes.nextOf (.ref i2) >>= _) _ _ _
  refine wpAny_bind (RZ.nextOf_tuple_item (s := { s with heap := h₂ }) ((h2.extBut hs₁.extBut D.i2z).extBut hs₂.extBut D.i12.symm) ((hl2.extBut hs₁.extBut D.l2z).extBut hs₂.extBut D.l2i1) hy fun h₃ h2₃ hs₃ => wpAny_pure ?_)
  refine wpAny_pure (wpAny_pure ?_)
  show wpAny _ _ (newTuple [x, y] >>= _) _ _ _
  refine wpAny_bind (wpAny_newTuple ?_)
  have hsz : h₃.objs.size = s.heap.objs.size := by rw [hs₃.1, hs₂.1, hs₁.1]
  have hz₃ : IsZipHeld h₃ z TI TO T true := hs₃.extBut _ _ D.i2z.symm (hs₂.extBut _ _ D.i1z.symm hz₁)
  have hk : ∀ c o, c ≠ z → c ≠ i1 → c ≠ i2 → s.heap.get? c = some o → h₃.get? c = some o := fun c o c1 c2 c3 e => hs₃.extBut _ _ c3 (hs₂.extBut _ _ c2 (hs₁.extBut _ _ c1 e))
  have h1₃ : h₃.IsTupleIter i1 l1 (k1 + 1) := h1₂.extBut hs₃.extBut D.i12
  refine wpAny_pure ⟨_, rfl, ?_⟩
  show Q (.ref h₃.objs.size) _
  have hp : IsPair (h₃.push { cls := .type "tuple", data := .seq #[x, y] }) h₃.objs.size x y := Heap.get?_push_size _ rfl
  have hz4 : (h₃.push { cls := .type "tuple", data := .seq #[x, y] }).objs.size = h₃.objs.size + 1 := Heap.size_push ..
  rw [hsz] at hp hz4 ⊢
  exact hQ _ (Heap.get?_push_of_some _ hz₃) (h1₃.at fun o e => Heap.get?_push_of_some _ e) (h2₃.at fun o e => Heap.get?_push_of_some _ e) hp hz4 fun c o c1 c2 c3 e => Heap.get?_push_of_some _ (hk c o c1 c2 c3 e)
theorem zipT_end_held {z TI TO T i1 i2 l1 l2 : Addr} {f : Bool} {oT : Obj} {k1 k2 : Nat} {xs ys : Array Value} {Q : Fin → Shared → Prop} (hh : A.handled = none) (D : ZipApart z TI TO i1 i2 l1 l2)
    (hz : IsZipHeld s.heap z TI TO T f) (hT : s.heap.get? T = some oT) (hTI : IsPair s.heap TI (.ref i1) (.ref i2))
    (h1 : s.heap.IsTupleIter i1 l1 k1) (h2 : s.heap.IsTupleIter i2 l2 k2) (hl1 : s.heap.IsTuple l1 xs) (hl2 : s.heap.IsTuple l2 ys) (hend : xs[k1]? = none ∨ ys[k2]? = none)
    (hE : ∀ h' e, (∀ c o, c ≠ z → c ≠ i1 → c ≠ i2 → s.heap.get? c = some o → h'.get? c = some o) → (∃ o, h'.get? e = some o ∧ o.cls = .type "StopIteration") → E (.ref e) { s with heap := h' }) :
    wpAny (model prog w) A (Builtin.«zip.__next__» ⟨[.ref z], []⟩) Q E s := by
  show wpAny _ _ (field (.ref z) 2 >>= _) _ _ _
  refine wpAny_bind (wpAny_field hz rfl (x := .bool false) rfl ?_)
  show wpAny _ _ (field (.ref z) 3 >>= _) _ _ _
  refine wpAny_bind (wpAny_field hz rfl (x := .ref TI) rfl ?_)
  refine wpAny_bind (wpAny_seqItems hTI rfl ?_)
  show wpAny _ _ (Builtin.SmallTypes.ownedTupleIsFree (.ref z) >>= _) _ _ _
  refine wpAny_bind (wpAny_tupleHeld_zip hz hT fun h₁ hz₁ hs₁ => ?_)
  simp only [Bool.false_eq_true, if_false]
  refine wpAny_bind ?_
  rw [← Array.forIn_toList]
  simp only [List.forIn_cons, List.forIn_nil]
  refine wpAny_bind (wpAny_bind (wpAny_holding ?_))
  show wpAny _ _ (Builtin.SmallTypes.nextOf (.ref i1) >>= _) _ _ _
  cases hx : xs[k1]? with
  | none =>
    refine wpAny_bind (RZ.nextOf_tuple_end (s := { s with heap := h₁ }) hh (h1.extBut hs₁.extBut D.i1z) (hl1.extBut hs₁.extBut D.l1z) hx fun h₂ e hs₂ he => ?_)
    exact hE h₂ e (fun c o c1 c2 _ x => hs₂ _ _ c2 (hs₁.extBut _ _ c1 x)) he
  | some x =>
    have hy : ys[k2]? = none := by rcases hend with h | h; rw [hx] at h; cases h; exact h
    refine wpAny_bind (RZ.nextOf_tuple_item (s := { s with heap := h₁ }) (h1.extBut hs₁.extBut D.i1z) (hl1.extBut hs₁.extBut D.l1z) hx fun h₂ h1₂ hs₂ => wpAny_pure ?_)
    refine wpAny_pure ?_
    refine wpAny_bind (wpAny_bind (wpAny_holding ?_))
    show wpAny _ _ (Builtin.SmallTypes.nextOf (.ref i2) >>= _) _ _ _
    refine wpAny_bind (RZ.nextOf_tuple_end (s := { s with heap := h₂ }) hh ((h2.extBut hs₁.extBut D.i2z).extBut hs₂.extBut D.i12.symm) ((hl2.extBut hs₁.extBut D.l2z).extBut hs₂.extBut D.l2i1) hy fun h₃ e hs₃ he => ?_)
    exact hE h₃ e (fun c o c1 c2 c3 x => hs₃ _ _ c3 (hs₂.extBut _ _ c2 (hs₁.extBut _ _ c1 x))) he
theorem pyNext_zipT_item_held {z TI TO T i1 i2 l1 l2 : Addr} {f : Bool} {oT : Obj} {k1 k2 : Nat} {xs ys : Array Value} {x y : Value} {Q : Option Value → Shared → Prop} (D : ZipApart z TI TO i1 i2 l1 l2)
    (hz : IsZipHeld s.heap z TI TO T f) (hT : s.heap.get? T = some oT) (hTI : IsPair s.heap TI (.ref i1) (.ref i2))
    (h1 : s.heap.IsTupleIter i1 l1 k1) (h2 : s.heap.IsTupleIter i2 l2 k2) (hl1 : s.heap.IsTuple l1 xs) (hl2 : s.heap.IsTuple l2 ys) (hx : xs[k1]? = some x) (hy : ys[k2]? = some y)
    (hQ : ∀ h', IsZipHeld h' z TI TO T true → h'.IsTupleIter i1 l1 (k1 + 1) → h'.IsTupleIter i2 l2 (k2 + 1) → IsPair h' s.heap.objs.size x y → h'.objs.size = s.heap.objs.size + 1 →
      (∀ c o, c ≠ z → c ≠ i1 → c ≠ i2 → s.heap.get? c = some o → h'.get? c = some o) → Q (some (.ref s.heap.objs.size)) { s with heap := h' }) :
    wpAny (model prog w) A (pyNext (.ref z)) Q E s := by
  have hTy : s.TypeIs (.ref z) "zip" := ⟨_, hz, rfl⟩
  unfold pyNext
  exact wpAny_bind (wpAny_attempt (wpAny_callSpecial?_slot (name := Str.ofString "__next__") hTy F.slot_zip_next
    (wpAny_call_entry F.slot_zip_next hTy F.entry_zip_next
      (zipT_item_held D hz hT hTI h1 h2 hl1 hl2 hx hy fun h' a1 a3 a4 a5 a6 a7 => wpAny_pure (hQ h' a1 a3 a4 a5 a6 a7)) (F.args_zip_next_1 _))))
theorem pyNext_zipT_end_held {z TI TO T i1 i2 l1 l2 : Addr} {f : Bool} {oT : Obj} {k1 k2 : Nat} {xs ys : Array Value} {Q : Option Value → Shared → Prop} (hh : A.handled = none) (D : ZipApart z TI TO i1 i2 l1 l2)
    (hz : IsZipHeld s.heap z TI TO T f) (hT : s.heap.get? T = some oT) (hTI : IsPair s.heap TI (.ref i1) (.ref i2))
    (h1 : s.heap.IsTupleIter i1 l1 k1) (h2 : s.heap.IsTupleIter i2 l2 k2) (hl1 : s.heap.IsTuple l1 xs) (hl2 : s.heap.IsTuple l2 ys) (hend : xs[k1]? = none ∨ ys[k2]? = none)
    (hQ : ∀ h', (∀ c o, c ≠ z → c ≠ i1 → c ≠ i2 → s.heap.get? c = some o → h'.get? c = some o) → Q none { s with heap := h' }) : wpAny (model prog w) A (pyNext (.ref z)) Q E s := by
  have hTy : s.TypeIs (.ref z) "zip" := ⟨_, hz, rfl⟩
  unfold pyNext
  refine wpAny_bind (wpAny_attempt (wpAny_callSpecial?_slot (name := Str.ofString "__next__") hTy F.slot_zip_next
    (wpAny_call_entry F.slot_zip_next hTy F.entry_zip_next (zipT_end_held hh D hz hT hTI h1 h2 hl1 hl2 hend fun h' e hk he => ?_) (F.args_zip_next_1 _))))
  obtain ⟨o, ho, hc⟩ := he
  refine wpAny_bind (wpAny_isInstance (T := "StopIteration") (b := true) ⟨o, ho, hc⟩ isSubtype_stop ?_)
  exact wpAny_pure (hQ _ hk)
end
/-! ### the loop -/
structure LzC where
  z : Addr
  TI : Addr
  TO : Addr
  i1 : Addr
  i2 : Addr
  l1 : Addr
  l2 : Addr
  S : Addr
  xs : Array Value
  ys : Array Value
structure LzD (c : LzC) : Prop where
  D : ZipApart c.z c.TI c.TO c.i1 c.i2 c.l1 c.l2
  z : c.z < c.S
  TI : c.TI < c.S
  TO : c.TO < c.S
  i1 : c.i1 < c.S
  i2 : c.i2 < c.S
  l1 : c.l1 < c.S
  l2 : c.l2 < c.S
structure LzSt (c : LzC) (h : Heap) (i : Nat) : Prop where
  zip : (i = 0 ∧ IsZip h c.z c.TI c.TO .none) ∨ ∃ T f oT, IsZipHeld h c.z c.TI c.TO T f ∧ h.get? T = some oT ∧ c.S < T
  TI : IsPair h c.TI (.ref c.i1) (.ref c.i2)
  TO : ∃ a b, IsPair h c.TO a b
  i1 : h.IsTupleIter c.i1 c.l1 i
  i2 : h.IsTupleIter c.i2 c.l2 i
  l1 : h.IsTuple c.l1 c.xs
  l2 : h.IsTuple c.l2 c.ys
abbrev IsTw (h : Heap) (a : Addr) (x y : Value) : Prop := h.get? a = some { cls := .type "tuple", data := .seq #[x, y] }
structure LzG (c : LzC) (h : Heap) (as : List Addr) : Prop where
  rise : as.Pairwise (· < ·)
  above : ∀ a ∈ as, c.S < a
  pairs : ∀ (j : Nat) (a : Addr), as[j]? = some a → ∃ x y, c.xs[j]? = some x ∧ c.ys[j]? = some y ∧ IsTw h a x y
/-- what may turn -/
def LzC.ap (c : LzC) (b : Addr) : Prop := b ≠ c.S ∧ b ≠ c.z ∧ b ≠ c.TO ∧ b ≠ c.i1 ∧ b ≠ c.i2
section
variable {prog : Program} {w : World} {A : Around} {E : Value → Shared → Prop} {s : Shared} {c : LzC}
theorem LzSt.keep {h h' : Heap} {i : Nat} (st : LzSt c h i) (d : LzD c) (up : ∀ b o, b ≠ c.S → h.get? b = some o → h'.get? b = some o) : LzSt c h' i := by
  have ne : ∀ {a : Addr}, a < c.S → a ≠ c.S := fun h => Nat.ne_of_lt h
  refine ⟨?_, up _ _ (ne d.TI) st.TI, ?_, st.i1.at fun o e => up _ o (ne d.i1) e, st.i2.at fun o e => up _ o (ne d.i2) e, st.l1.at fun o e => up _ o (ne d.l1) e, st.l2.at fun o e => up _ o (ne d.l2) e⟩
  · rcases st.zip with ⟨h0, hz⟩ | ⟨T, f, oT, hz, hT, hl⟩
    · exact .inl ⟨h0, up _ _ (ne d.z) hz⟩
    · exact .inr ⟨T, f, oT, up _ _ (ne d.z) hz, up _ _ (Nat.ne_of_gt hl) hT, hl⟩
  · obtain ⟨a, b, h1⟩ := st.TO
    exact ⟨a, b, up _ _ (ne d.TO) h1⟩
theorem lz_item {i : Nat} {x y : Value} {Q : Option Value → Shared → Prop} (st : LzSt c s.heap i) (d : LzD c) (hS : c.S < s.heap.objs.size) (hx : c.xs[i]? = some x) (hy : c.ys[i]? = some y)
    (hQ : ∀ h', LzSt c h' (i + 1) → IsTw h' s.heap.objs.size x y → h'.objs.size = s.heap.objs.size + 1 → (∀ b o, b ≠ c.z → b ≠ c.TO → b ≠ c.i1 → b ≠ c.i2 → s.heap.get? b = some o → h'.get? b = some o) → Q (some (.ref s.heap.objs.size)) { s with heap := h' }) :
    wpAny (model prog w) A (pyNext (.ref c.z)) Q E s := by
  have D := d.D
  have lt : ∀ {a : Addr}, a < c.S → a ≠ s.heap.objs.size := fun h => Nat.ne_of_lt (Nat.lt_trans h hS)
  obtain ⟨a, b, hTO⟩ := st.TO
  rcases st.zip with ⟨h0, hz⟩ | ⟨T, f, oT, hz, hT, hl⟩
  · refine RZ.pyNext_zipT_item D hz st.TI hTO st.i1 st.i2 st.l1 st.l2 hx hy fun h' z' TO' h1' h2' hT hsz hk => ?_
    exact hQ h' ⟨.inr ⟨s.heap.objs.size, false, _, z', hT, hS⟩, hk _ _ D.TIz D.TITO D.TIi1 D.TIi2 st.TI, ⟨_, _, TO'⟩, h1', h2', st.l1.at fun o e => hk _ o D.l1z D.l1TO D.l1i1 D.l1i2 e, st.l2.at fun o e => hk _ o D.l2z D.l2TO D.l2i1 D.l2i2 e⟩ hT hsz hk
  · refine pyNext_zipT_item_held D hz hT st.TI st.i1 st.i2 st.l1 st.l2 hx hy fun h' z' h1' h2' hT' hsz hk => ?_
    have nz : T ≠ c.z ∧ T ≠ c.i1 ∧ T ≠ c.i2 := ⟨Nat.ne_of_gt (Nat.lt_trans d.z hl), Nat.ne_of_gt (Nat.lt_trans d.i1 hl), Nat.ne_of_gt (Nat.lt_trans d.i2 hl)⟩
    exact hQ h' ⟨.inr ⟨T, true, _, z', hk _ _ nz.1 nz.2.1 nz.2.2 hT, hl⟩, hk _ _ D.TIz D.TIi1 D.TIi2 st.TI, ⟨_, _, hk _ _ D.TOz D.TOi1 D.TOi2 hTO⟩, h1', h2', st.l1.at fun o e => hk _ o D.l1z D.l1i1 D.l1i2 e, st.l2.at fun o e => hk _ o D.l2z D.l2i1 D.l2i2 e⟩ hT' hsz fun b o b1 _ b3 b4 e => hk b o b1 b3 b4 e
theorem lz_done {i : Nat} {Q : Option Value → Shared → Prop} (hh : A.handled = none) (st : LzSt c s.heap i) (d : LzD c) (he : c.xs[i]? = none ∨ c.ys[i]? = none)
    (hQ : ∀ h', (∀ b o, b ≠ c.z → b ≠ c.TO → b ≠ c.i1 → b ≠ c.i2 → s.heap.get? b = some o → h'.get? b = some o) → Q none { s with heap := h' }) : wpAny (model prog w) A (pyNext (.ref c.z)) Q E s := by
  obtain ⟨a, b, hTO⟩ := st.TO
  rcases st.zip with ⟨h0, hz⟩ | ⟨T, f, oT, hz, hT, hl⟩
  · exact RZ.pyNext_zipT_end hh d.D hz st.TI hTO st.i1 st.i2 st.l1 st.l2 he hQ
  · exact pyNext_zipT_end_held hh d.D hz hT st.TI st.i1 st.i2 st.l1 st.l2 he fun h' hk => hQ h' fun b o b1 _ b3 b4 e => hk b o b1 b3 b4 e
end
section
variable {prog : Program} {w : World} {A : Around} {s : Shared} {R : Result → Shared → Prop} {c : LzC}
theorem lz_loop (hh : A.handled = none) (d : LzD c) (hn : min c.xs.size c.ys.size ≤ sizeLine) (res : Value) {h₁ : Heap}
    (hR : ∀ h' tk acc n as, (∀ b o, c.ap b → h₁.get? b = some o → h'.get? b = some o) → h'.get? c.S = some { cls := .type "list", dict := none, data := .seq acc n, slots := #[] } → as.length = min c.xs.size c.ys.size → LzG c h' as →
      acc.toList = as.map Value.ref → R (.ok (.ret res)) { s with heap := h', toks := tk }) :
    ∀ (k i : Nat) (h : Heap) (tk n : Nat) (acc : Array Value) (as : List Addr), min c.xs.size c.ys.size - i = k → i ≤ min c.xs.size c.ys.size → LzSt c h i → (∀ b o, c.ap b → h₁.get? b = some o → h.get? b = some o) →
      h.get? c.S = some { cls := .type "list", dict := none, data := .seq acc n, slots := #[] } → acc.toList = as.map Value.ref → as.length = i → LzG c h as →
      codeAny (model prog w) A (.builtin "list.extend.loop" ⟨[.ref c.S, .ref c.z, res], []⟩) R { s with heap := h, toks := tk } := by
  have Sne : c.S ≠ c.z ∧ c.S ≠ c.TO ∧ c.S ≠ c.i1 ∧ c.S ≠ c.i2 := ⟨Nat.ne_of_gt d.z, Nat.ne_of_gt d.TO, Nat.ne_of_gt d.i1, Nat.ne_of_gt d.i2⟩
  have ane : ∀ {a : Addr}, c.S < a → a ≠ c.z ∧ a ≠ c.TO ∧ a ≠ c.i1 ∧ a ≠ c.i2 := fun h => ⟨Nat.ne_of_gt (Nat.lt_trans d.z h), Nat.ne_of_gt (Nat.lt_trans d.TO h), Nat.ne_of_gt (Nat.lt_trans d.i1 h), Nat.ne_of_gt (Nat.lt_trans d.i2 h)⟩
  intro k
  induction k with
  | zero =>
    intro i h tk n acc as hk hi hst hkeep hS hacc hal hG
    have he : c.xs[i]? = none ∨ c.ys[i]? = none := by
      rcases Nat.le_total c.xs.size c.ys.size with hle | hle
      · exact .inl (by rw [Array.getElem?_eq_none]; omega)
      · exact .inr (by rw [Array.getElem?_eq_none]; omega)
    refine codeAny_builtin PySem.F.entry_extend_loop ?_
    rw [Around.under_plainId PySem.F.plain_extend_loop _]
    show wpAny _ A.in1 (pyNext (.ref c.z) >>= _) _ _ _
    refine wpAny_bind (lz_done (s := { s with heap := h, toks := tk }) (A := A.in1) hh hst d he fun h' hq => ?_)
    refine wpAny_pure (hR h' tk acc n as (fun b o hb e => hq b o hb.2.1 hb.2.2.1 hb.2.2.2.1 hb.2.2.2.2 (hkeep b o hb e)) (hq _ _ Sne.1 Sne.2.1 Sne.2.2.1 Sne.2.2.2 hS) (by omega) ⟨hG.rise, hG.above, fun j a hj => ?_⟩ hacc)
    obtain ⟨x, y, e1, e2, e3⟩ := hG.pairs j a hj
    have hb := ane (hG.above a (List.mem_of_getElem? hj))
    exact ⟨x, y, e1, e2, hq a _ hb.1 hb.2.1 hb.2.2.1 hb.2.2.2 e3⟩
  | succ k ih =>
    intro i h tk n acc as hk hi hst hkeep hS hacc hal hG
    have hlt1 : i < c.xs.size := by omega
    have hlt2 : i < c.ys.size := by omega
    have hsz : acc.size = i := by rw [← Array.length_toList, hacc, List.length_map, hal]
    have hSl : c.S < h.objs.size := Heap.lt_size hS
    refine codeAny_builtin PySem.F.entry_extend_loop ?_
    rw [Around.under_plainId PySem.F.plain_extend_loop _]
    show wpAny _ A.in1 (pyNext (.ref c.z) >>= _) _ _ _
    refine wpAny_bind (lz_item (s := { s with heap := h, toks := tk }) hst d hSl (Array.getElem?_eq_getElem hlt1) (Array.getElem?_eq_getElem hlt2) fun h' hst' ht hz hkp => ?_)
    dsimp only at ht hz hkp ⊢
    have hS' := hkp c.S _ Sne.1 Sne.2.1 Sne.2.2.1 Sne.2.2.2 hS
    have up : ∀ b o, b ≠ c.S → h'.get? b = some o → (h'.update c.S (Obj.mapSeq (·.push (Value.ref h.objs.size)))).get? b = some o := fun b o hb e => (Heap.get?_update_other _ _ (Ne.symm hb)).trans e
    show wpAny _ A.in1 (updateSeq c.S (·.push (Value.ref h.objs.size)) >>= _) _ _ _
    refine wpAny_bind ?_
    refine wpAny_updateSeq hS' rfl (wpAny_pure ⟨plainId_quiet PySem.F.plain_extend_loop _, ih (i + 1) _ tk _ (acc.push (Value.ref h.objs.size)) (as ++ [h.objs.size]) (by omega) (by omega) (hst'.keep d up)
      (fun b o hb e => up b o hb.1 (hkp b o hb.2.1 hb.2.2.1 hb.2.2.2.1 hb.2.2.2.2 (hkeep b o hb e))) (Heap.get?_update_self _ hS' rfl) (by rw [Array.toList_push, hacc, List.map_append]; rfl) (by rw [List.length_append, hal]; rfl) ⟨?_, ?_, ?_⟩⟩) (by rw [hsz]; omega) (by show (acc.push (Value.ref h.objs.size)).size ≤ sizeLine + 1; rw [Array.size_push, hsz]; omega)
    · refine List.pairwise_append.mpr ⟨hG.rise, List.pairwise_singleton _ _, fun a ha b hb => ?_⟩
      rw [List.mem_singleton.mp hb]
      obtain ⟨j, hj⟩ := List.mem_iff_getElem?.mp ha
      obtain ⟨_, _, _, _, e⟩ := hG.pairs j a hj
      exact Heap.lt_size e
    · intro a ha
      rcases List.mem_append.mp ha with ha | ha
      · exact hG.above a ha
      · rw [List.mem_singleton.mp ha]; exact hSl
    · intro j b hj
      rcases Nat.lt_trichotomy j as.length with h1 | h1 | h1
      · rw [List.getElem?_append_left h1] at hj
        obtain ⟨x, y, e1, e2, e3⟩ := hG.pairs j b hj
        have hb := hG.above b (List.mem_of_getElem? hj)
        have hq := ane hb
        exact ⟨x, y, e1, e2, up b _ (Nat.ne_of_gt hb) (hkp b _ hq.1 hq.2.1 hq.2.2.1 hq.2.2.2 e3)⟩
      · subst h1
        have hb : h.objs.size = b := by simpa using hj
        subst hb
        exact ⟨_, _, by rw [hal]; exact Array.getElem?_eq_getElem hlt1, by rw [hal]; exact Array.getElem?_eq_getElem hlt2, up _ _ (Nat.ne_of_gt hSl) ht⟩
      · have hnone : (as ++ [h.objs.size])[j]? = none := List.getElem?_eq_none (by rw [List.length_append, List.length_singleton]; omega)
        rw [hnone] at hj; cases hj
theorem zip_no_len : typeLookup (.type "zip") "__len__" = pure none := by rw [typeLookup_type, builtinLookup_eq_fast]; kernel_rfl
theorem zip_no_hint : typeLookup (.type "zip") "__length_hint__" = pure none := by rw [typeLookup_type, builtinLookup_eq_fast]; kernel_rfl
theorem lz_extend (hh : A.handled = none) (d : LzD c) (st : LzSt c s.heap 0) (z0 : IsZip s.heap c.z c.TI c.TO .none) (res : Value) (c₀ : Nat) (hS : s.heap.get? c.S = some { cls := .type "list", data := .seq #[] c₀ })
    (hR : ∀ h' tk acc n as, (∀ b o, c.ap b → s.heap.get? b = some o → h'.get? b = some o) → h'.get? c.S = some { cls := .type "list", dict := none, data := .seq acc n, slots := #[] } → as.length = min c.xs.size c.ys.size → LzG c h' as →
      acc.toList = as.map Value.ref → R (.ok (.ret res)) { s with heap := h', toks := tk }) (hn : min c.xs.size c.ys.size ≤ sizeLine) :
    wpAny (model prog w) A.in1 (Builtin.List.listExtendWith (.ref c.S) (.ref c.z) res)
      (fun fin s' => match fin with | .done f => R (.ok f) s' | .again c' => c'.quiet = true ∧ codeAny (model prog w) A c' R s') (fun e s' => R (.error e) s') s := by
  have Sz : c.S ≠ c.z := Nat.ne_of_gt d.z
  unfold Builtin.List.listExtendWith
  refine wpAny_bind (wpAny_typeOf (T := "zip") ⟨_, z0, rfl⟩ ?_)
  have h1 : Builtin.List.listSameRef (.ref c.S) (.ref c.z) = false := by simp [Builtin.List.listSameRef, Sz]
  have h2 : (Value.type "zip" == Value.type "list") = false := by decide
  have h3 : (Value.type "zip" == Value.type "tuple") = false := by decide
  simp only [h1, h2, h3, Bool.or_false, Bool.false_eq_true, if_false]
  refine wpAny_bind (wpAny_pyIter_zip z0 ?_)
  refine wpAny_bind (wpAny_holding ?_)
  unfold Builtin.List.listLengthHint
  refine wpAny_bind (wpAny_specialOf (T := "zip") ⟨_, z0, rfl⟩ zip_no_len ?_)
  show wpAny _ A.in1 (specialOf (Value.ref c.z) (Str.ofString "__length_hint__") >>= _) _ _ _
  refine wpAny_bind (wpAny_specialOf (T := "zip") ⟨_, z0, rfl⟩ zip_no_hint ?_)
  refine wpAny_pure ?_
  show wpAny _ A.in1 (rule "list.extend.makes-room" >>= fun _ => Builtin.List.listTouch (.ref c.S) >>= fun _ =>
    again (.builtin "list.extend.loop" ⟨[.ref c.S, .ref c.z, res], []⟩)) _ _ _
  refine wpAny_bind (wpAny_rule ?_)
  refine wpAny_bind ?_
  show wpAny _ _ (updateSeq c.S (·.push .none) >>= fun _ => updateSeq c.S (·.pop)) _ _ _
  refine wpAny_bind (wpAny_updateSeq hS rfl ?_)
  have hS₂ := Heap.get?_update_self (Obj.mapSeq (·.push Value.none)) hS rfl
  refine wpAny_updateSeq (hz := by seq_fits) hS₂ rfl ?_
  have hS₃ := Heap.get?_update_self (Obj.mapSeq (·.pop)) hS₂ rfl
  have oth : ∀ b o, b ≠ c.S → s.heap.get? b = some o → ((s.heap.update c.S (Obj.mapSeq (·.push Value.none))).update c.S (Obj.mapSeq (·.pop))).get? b = some o :=
    fun b o hb e => (Heap.get?_update_other _ _ (Ne.symm hb)).trans ((Heap.get?_update_other _ _ (Ne.symm hb)).trans e)
  exact wpAny_pure ⟨plainId_quiet PySem.F.plain_extend_loop _, lz_loop (s := s) (h₁ := s.heap) hh d hn res hR _ 0 _ s.toks _ #[] [] rfl (Nat.zero_le _) (st.keep d oth) (fun b o hb e => oth b o hb.1 e) hS₃ rfl rfl ⟨List.Pairwise.nil, (fun _ ha => nomatch ha), (fun j a hj => by simp at hj)⟩⟩
theorem lz_init (hh : A.handled = none) (d : LzD c) (st : LzSt c s.heap 0) (z0 : IsZip s.heap c.z c.TI c.TO .none) (hS : s.heap.get? c.S = some { cls := .type "list", data := .seq #[] })
    (hR : ∀ h' tk acc n as, (∀ b o, c.ap b → s.heap.get? b = some o → h'.get? b = some o) → h'.get? c.S = some { cls := .type "list", dict := none, data := .seq acc n, slots := #[] } → as.length = min c.xs.size c.ys.size → LzG c h' as →
      acc.toList = as.map Value.ref → R (.ok (.ret .none)) { s with heap := h', toks := tk }) (hn : min c.xs.size c.ys.size ≤ sizeLine) :
    wpAny (model prog w) A.in1 (Builtin.«list.__init__» ⟨[.ref c.S, .ref c.z], []⟩)
      (fun fin s' => match fin with | .done f => R (.ok f) s' | .again c' => c'.quiet = true ∧ codeAny (model prog w) A c' R s') (fun e s' => R (.error e) s') s := by
  show wpAny _ _ (do let old ← Builtin.List.listItems (.ref c.S); Builtin.List.listUpdate (.ref c.S) (fun _ => #[]); letGo old.toList.reverse; Builtin.List.listExtendWith (.ref c.S) (.ref c.z) .none) _ _ s
  refine wpAny_bind ?_
  unfold Builtin.List.listItems
  refine wpAny_bind (wpAny_seqItems hS rfl (wpAny_pure ?_))
  show wpAny _ _ (updateSeq c.S (fun _ => #[]) >>= fun _ => letGo (#[] : Array Value).toList.reverse >>= fun _ => Builtin.List.listExtendWith (.ref c.S) (.ref c.z) .none) _ _ s
  refine wpAny_bind (wpAny_updateSeq hS rfl ?_)
  have hS₂ := Heap.get?_update_self (Obj.mapSeq (fun _ => (#[] : Array Value))) hS rfl
  have oth : ∀ b o, b ≠ c.S → s.heap.get? b = some o → (s.heap.update c.S (Obj.mapSeq (fun _ => (#[] : Array Value)))).get? b = some o :=
    fun b o hb e => (Heap.get?_update_other _ _ (Ne.symm hb)).trans e
  refine wpAny_bind (wpAny_letGo ?_)
  refine lz_extend hh d (st.keep d oth) (oth _ _ (Nat.ne_of_lt d.z) z0) .none _ hS₂ (fun h' tk acc n as hk hS' hl hG hacc => ?_) hn
  exact hR h' tk acc n as (fun b o hb e => hk b o hb (oth b o hb.1 e)) hS' hl hG hacc
end
section
variable {prog : Program} {w : World} {A : Around} {E : Value → Shared → Prop} {s : Shared}
theorem lz_call {Q : Value → Shared → Prop} {c : LzC} (hh : A.handled = none) (hc : c.S = s.heap.objs.size) (D : ZipApart c.z c.TI c.TO c.i1 c.i2 c.l1 c.l2) (z0 : IsZip s.heap c.z c.TI c.TO .none) (hTI : IsPair s.heap c.TI (.ref c.i1) (.ref c.i2)) (hTO : IsPair s.heap c.TO .none .none)
    (h1 : s.heap.IsTupleIter c.i1 c.l1 0) (h2 : s.heap.IsTupleIter c.i2 c.l2 0) (hl1 : s.heap.IsTuple c.l1 c.xs) (hl2 : s.heap.IsTuple c.l2 c.ys) (hn : min c.xs.size c.ys.size ≤ sizeLine)
    (hQ : ∀ h' tk acc n as, (∀ b o, c.ap b → s.heap.get? b = some o → h'.get? b = some o) → h'.get? c.S = some { cls := .type "list", dict := none, data := .seq acc n, slots := #[] } → as.length = min c.xs.size c.ys.size → LzG c h' as →
      acc.toList = as.map Value.ref → Q (.ref c.S) { s with heap := h', toks := tk }) :
    wpAny (model prog w) A (call (.type "list") [.ref c.z]) Q E s := by
  refine callType_codes (Q₁ := fun obj s₁ => obj = .ref s.heap.objs.size ∧ s₁ = { s with heap := s.heap.push { cls := .type "list", data := .seq #[] } }) PySem.F.called_list (PySem.F.typeCall_list_1 _) PySem.F.entry_list_init
    (code_list_new _ ⟨rfl, rfl⟩) fun obj s₁ h₁ => ?_
  obtain ⟨rfl, rfl⟩ := h₁
  have up : ∀ b o, s.heap.get? b = some o → (s.heap.push { cls := .type "list", data := .seq #[] }).get? b = some o := fun b o e => Heap.get?_push_of_some _ e
  have hS : (s.heap.push { cls := .type "list", data := .seq #[] }).get? c.S = some { cls := .type "list", data := .seq #[] } := by rw [hc]; exact Heap.get?_push_size _ rfl
  have d : LzD c := by
    refine ⟨D, ?_, ?_, ?_, ?_, ?_, ?_, ?_⟩ <;> rw [hc]
    · exact Heap.lt_size z0
    · exact Heap.lt_size hTI
    · exact Heap.lt_size hTO
    · obtain ⟨o, e, _⟩ := h1; exact Heap.lt_size e
    · obtain ⟨o, e, _⟩ := h2; exact Heap.lt_size e
    · obtain ⟨o, e, _⟩ := hl1; exact Heap.lt_size e
    · obtain ⟨o, e, _⟩ := hl2; exact Heap.lt_size e
  have st : LzSt c (s.heap.push { cls := .type "list", data := .seq #[] }) 0 := ⟨.inl ⟨rfl, up _ _ z0⟩, up _ _ hTI, ⟨_, _, up _ _ hTO⟩, h1.at fun o e => up _ o e, h2.at fun o e => up _ o e, hl1.at fun o e => up _ o e, hl2.at fun o e => up _ o e⟩
  rw [← hc]
  refine ⟨⟨_, hS, rfl⟩, PySem.F.args_list_init_2 _ _, lz_init (A := A.in1) hh d st (up _ _ z0) hS (fun h' tk acc n as hk hS' hl hG hacc => ?_) hn⟩
  exact ⟨rfl, hQ h' tk acc n as (fun b o hb e => hk b o hb (up b o e)) hS' hl hG hacc⟩
end
/-! ### in HandS's heap -/
def putZ : Hp → List Addr → List (V × V) → Hp
  | H, a :: as, p :: kvs => putZ (upd H a (.tup [p.1, p.2])) as kvs
  | H, _, _ => H
theorem putZ_off {b : Addr} : ∀ (as : List Addr) (kvs : List (V × V)) (H : Hp), b ∉ as → putZ H as kvs b = H b
  | [], _, _, _ => rfl
  | _ :: _, [], _, _ => rfl
  | a :: as, p :: kvs, H, h => by
    show putZ (upd H a (.tup [p.1, p.2])) as kvs b = H b
    rw [putZ_off as kvs _ (fun z => h (List.mem_cons_of_mem _ z)), upd_ne (fun z => h (by rw [z]; exact List.mem_cons_self))]
theorem putZ_at : ∀ (as : List Addr) (kvs : List (V × V)) (H : Hp), as.length = kvs.length → as.Nodup → Paired (fun (t : Addr) (p : V × V) => putZ H as kvs t = some (.tup [p.1, p.2])) as kvs
  | [], [], _, _, _ => .nil
  | [], _ :: _, _, h, _ => by cases h
  | _ :: _, [], _, h, _ => by cases h
  | a :: as, p :: kvs, H, h, hn => by
    have hn' := List.nodup_cons.mp hn
    have ih := putZ_at as kvs (upd H a (.tup [p.1, p.2])) (Nat.succ.inj h) hn'.2
    refine .cons ?_ ih
    show putZ (upd H a (.tup [p.1, p.2])) as kvs a = some (.tup [p.1, p.2])
    rw [putZ_off as kvs _ hn'.1, upd_same]
theorem zip_get {α γ : Type} : ∀ {xs : List α} {ys : List γ} {j : Nat} {p : α × γ}, (xs.zip ys)[j]? = some p → xs[j]? = some p.1 ∧ ys[j]? = some p.2
  | [], _, _, _, h => by simp at h
  | _ :: _, [], _, _, h => by simp at h
  | x :: xs, y :: ys, 0, p, h => by simp at h; subst h; exact ⟨rfl, rfl⟩
  | x :: xs, y :: ys, j + 1, p, h => by simpa using zip_get (xs := xs) (ys := ys) (j := j) (by simpa using h)
theorem zip_laid {X : Cx} {pins : List (Addr × Obj)} {σ : L2.St} {H : Hp} {s : Shared} {h' : Heap} {tk : Nat} {c : LzC} {xs ys : List V} {its its2 : List Value} {acc : Array Value} {n : Nat} {as : List Addr} (I : Inv X pins σ H s) (hz : min xs.length ys.length ≤ sizeLine) (r1 : Vals xs its) (r2 : Vals ys its2) (hxs : c.xs = its.toArray) (hys : c.ys = its2.toArray) (hc : s.heap.objs.size ≤ c.S)
    (hk : ∀ b o, s.heap.get? b = some o → h'.get? b = some o) (hS : h'.get? c.S = some { cls := .type "list", dict := none, data := .seq acc n, slots := #[] }) (hl : as.length = min c.xs.size c.ys.size) (hG : LzG c h' as) (hacc : acc.toList = as.map Value.ref) :
    ∃ H' : Hp, (∀ b o, H b = some o → H' b = some o) ∧ H c.S = none ∧ H' c.S = some (.lst (as.map V.ref)) ∧ Paired (fun (t : Addr) (q : V × V) => H' t = some (.tup [q.1, q.2])) as (xs.zip ys) ∧ Inv X pins σ H' { s with heap := h', toks := tk } := by
  have lx := r1.length
  have ly := r2.length
  have hl' : as.length = min xs.length ys.length := by rw [hl, hxs, hys]; simp [lx, ly]
  have lk : as.length = (xs.zip ys).length := by rw [List.length_zip, hl']
  have hSn : c.S ∉ as := fun z => Nat.lt_irrefl _ (hG.above _ z)
  have nd : as.Nodup := List.Pairwise.imp (fun {a b} (h : a < b) => Nat.ne_of_lt h) hG.rise
  have new : ∀ t ∈ as, H t = none := fun t ht => I.hok.fresh (Nat.le_trans hc (Nat.le_of_lt (hG.above t ht)))
  have newS : H c.S = none := I.hok.fresh hc
  have atP := putZ_at as (xs.zip ys) (upd H c.S (.lst (as.map V.ref))) lk nd
  have off : ∀ b, b ∉ as → b ≠ c.S → putZ (upd H c.S (.lst (as.map V.ref))) as (xs.zip ys) b = H b := fun b h1 h2 => by rw [putZ_off as _ _ h1, upd_ne h2]
  have low : ∀ b o, s.heap.get? b = some o → b ∉ as ∧ b ≠ c.S := fun b o e => ⟨fun z => absurd (Nat.lt_of_lt_of_le (Heap.lt_size e) hc) (Nat.not_lt.mpr (Nat.le_of_lt (hG.above b z))), Nat.ne_of_lt (Nat.lt_of_lt_of_le (Heap.lt_size e) hc)⟩
  have kp : ∀ b u, H b = some u → (putZ (upd H c.S (.lst (as.map V.ref))) as (xs.zip ys)) b = some u := fun b u e => by
    rw [off b (fun z => by rw [new b z] at e; cases e) (fun z => by rw [z, newS] at e; cases e)]
    exact e
  have eS : putZ (upd H c.S (.lst (as.map V.ref))) as (xs.zip ys) c.S = some (.lst (as.map V.ref)) := by rw [putZ_off as _ _ hSn, upd_same]
  refine ⟨putZ (upd H c.S (.lst (as.map V.ref))) as (xs.zip ys), kp, newS, eS, atP, ?_⟩
  refine I.call' (ch := []) rfl ⟨fun b o q _ _ _ => hk b o q, fun b o q _ _ _ => ⟨o.slots, hk b o q⟩, fun b o q n _ => ?_, fun b o q _ => ⟨o, hk b o q⟩, fun b xs q => kp b _ q, fun b o u q => kp b _ q, fun b ps q => ⟨#[], by rw [kp b _ q]; simp⟩⟩ (fun b u q => ?_) I.bare fun b z => by simp at z
  · obtain ⟨z1, z2⟩ := low b o q
    rw [off b z1 z2]
    exact n
  · by_cases hb : b ∈ as
    · obtain ⟨j, pk, e1, e2, e3⟩ := LiI.paired_ix atP hb
      rw [e3] at q
      cases q
      obtain ⟨x, y, f1, f2, f3⟩ := hG.pairs j b e1
      obtain ⟨g1, g2⟩ := zip_get e2
      obtain ⟨u, hu, ru⟩ := r1.get g1
      obtain ⟨u2, hu2, ru2⟩ := r2.get g2
      rw [hxs] at f1
      rw [hys] at f2
      have e1' : u = x := by
        have : its[j]? = some x := by simpa using f1
        rw [hu] at this; exact Option.some.inj this
      have e2' : u2 = y := by
        have : its2[j]? = some y := by simpa using f2
        rw [hu2] at this; exact Option.some.inj this
      subst e1'; subst e2'
      exact ⟨by show 2 ≤ sizeLine; decide, [u, u2], .cons ru (.cons ru2 .nil), ⟨_, f3, rfl, _, rfl⟩⟩
    · by_cases hb2 : b = c.S
      · rw [hb2] at q ⊢
        rw [eS] at q
        cases q
        refine ⟨by rw [List.length_map, hl']; exact hz, acc.toList, n, by rw [hacc]; exact LiI.vals_refs as, ?_⟩
        rw [Array.toArray_toList]
        exact hS
      · rw [off b hb hb2] at q
        exact (I.hok b u q).stay (fun d v _ y => hk d v y) (fun d y => kp d _ y) fun d xs y => kp d _ y
def tLzip (K : PySem.W.Frag) (ta : TA) : TE := fun σ H Q => ta σ H fun vs H1 => ∃ (a b : Addr) (xs ys : List V), vs = [.ref a, .ref b] ∧ SqT K H1 a xs ∧ SqT K H1 b ys ∧
  ∀ (H' : Hp) (p : Addr) (ts : List Addr), (∀ b o, H1 b = some o → H' b = some o) → H1 p = none → H' p = some (.lst (ts.map V.ref)) → Paired (fun (t : Addr) (q : V × V) => H' t = some (.tup [q.1, q.2])) ts (xs.zip ys) → Q (.ref p) H'
theorem pe_lzip {X : Cx} {e e2 : PySem.Expr} {ta : TA} {p p2 pos pos2 : Pos} (hcm : X.calm = true) (hg : Gl X "list") (hm : X.mg "list" = none) (hg2 : Gl X "zip") (hm2 : X.mg "zip" = none) (ha : PA X [e, e2] ta)
    (hs : starEach [e, e2] X.env = (false, eval e X.env) :: starEach [e2] X.env) (hpl : (backTo pos2 (starEach [e2] X.env)).any (·.1) = false) :
    PE X (.Call (.Name "list" p) [.Call (.Name "zip" p2) [e, e2] [] pos2] [] pos) (tLzip X.K ta) := by
  refine ⟨fun pins s σ H Q I h => ?_⟩
  refine wpAny_Call_Name_kw (ld_blt I hg hm (by decide +kernel : bootBuiltins "list" = some (.type "list")) ?_)
  refine PyProof.Rows.callWith_type1 ?_ rfl rfl
  show wpAny _ _ (spliced ((false, eval (.Call (.Name "zip" p2) [e, e2] [] pos2) X.env) :: backTo pos (starEach [] X.env))) _ _ s
  refine Calls.spliced_cons ?_
  refine Call_ (ld_blt I hg2 hm2 PyProof.Rows.boot_zip (PyProof.Rows.callWith_type1 (thn (ha.run pos2 pins s σ H _ I h) fun us s1 ⟨vs, H1, I1, r1, q1⟩ => ?_) hs hpl))
  obtain ⟨a, b, xs, ys, ex, hqx, hqy, q⟩ := q1
  subst ex
  cases r1 with
  | cons r rr =>
    cases rr with
    | cons r' rr =>
      cases rr
      cases r
      cases r'
      obtain ⟨its, rv, p1, l1⟩ := I1.tuple hqx
      obtain ⟨its2, rv2, p2, l2⟩ := I1.tuple hqy
      obtain ⟨o1, ho1, _⟩ := id p1
      obtain ⟨o2, ho2, _⟩ := id p2
      have t1 : s1.heap.IsTuple a its.toArray := p1
      have t2 : s1.heap.IsTuple b its2.toArray := p2
      refine RZ.call_zipT t1 t2 fun h' hz hTI hTO h1 h2 hsz hk => Calls.spliced_nil ?_
      have I2 : Inv X pins σ H1 { s1 with heap := h' } := I1.kept (t' := s1.toks) hk
      let c : LzC := ⟨s1.heap.objs.size + 4, s1.heap.objs.size + 2, s1.heap.objs.size + 3, s1.heap.objs.size, s1.heap.objs.size + 1, a, b, h'.objs.size, its.toArray, its2.toArray⟩
      have hmin : min its.toArray.size its2.toArray.size ≤ sizeLine := by
        have := rv.length
        simp only [List.size_toArray]
        omega
      refine lz_call (c := c) (s := { s1 with heap := h' }) (I.ok.hd hcm) rfl (PySem.W.ktu_apart s1.heap.objs.size a b (Heap.lt_size ho1) (Heap.lt_size ho2)) hz hTI hTO h1 h2 (t1.at fun o e => hk _ o e) (t2.at fun o e => hk _ o e) hmin fun h'' tk acc n as hk2 hS hl hG hacc => ?_
      have low : ∀ b o, s1.heap.get? b = some o → c.ap b := fun b o e => by
        have := Heap.lt_size e
        refine ⟨?_, ?_, ?_, ?_, ?_⟩
        · exact Nat.ne_of_lt (Nat.lt_of_lt_of_le this (show s1.heap.objs.size ≤ h'.objs.size by rw [hsz]; exact Nat.le_add_right _ _))
        · exact Nat.ne_of_lt (Nat.lt_of_lt_of_le this (Nat.le_add_right _ 4))
        · exact Nat.ne_of_lt (Nat.lt_of_lt_of_le this (Nat.le_add_right _ 3))
        · exact Nat.ne_of_lt this
        · exact Nat.ne_of_lt (Nat.lt_of_lt_of_le this (Nat.le_add_right _ 1))
      have hle : s1.heap.objs.size ≤ c.S := by show s1.heap.objs.size ≤ h'.objs.size; omega
      obtain ⟨H', k1, k2, k3, k4, J⟩ := zip_laid (tk := tk) I1 (by omega) rv rv2 rfl rfl hle (fun b o e => hk2 b o (low b o e) (hk b o e)) hS hl hG hacc
      exact ⟨.ref _, H', J, rfl, q H' _ as k1 k2 k3 k4⟩
end Pf
/-! PfGd: what a def promises where no repr runs around it. -/
namespace Pf
open PySem PySem.Spec PyProof.Rows L2
/-- a def's promise, told to callers around whom no repr runs -/
structure FnG (P : Program) (w : World) (K : PySem.W.Frag) (mg : Str → Option Value) (base : Heap) (CX : CXT) (k : Nat) (f : Addr) (fd : FuncData) (ps : List Str) (sp : Sp) : Prop where
  len : ∀ vs H Q E, sp vs H Q E → vs.length = ps.length
  run : ∀ (A : Around) (o : List PySem.Env) (s : Shared) (H : Hp) (args : Args) (us : List Value) (vs : List V) (Q : VK) (E : XK), A.guards = some [] → Room k A → Env0 P w K mg base A o s H → BindsTo s fd args (ps.zip us) → Vals vs us → sp vs H Q E →
    codeAny (model P w) A (.call (.ref f) args) (CR CX o P w H s Q E) s
section
variable {X : Cx} {CX : CXT} {k : Nat} {f : Addr} {fd : FuncData} {ps : List Str} {sp : Sp} {E : XK} {x : Str} {p pos : Pos} {e : Expr} {es : List Expr} {t : TA}
theorem run_fnG {pins : List (Addr × Obj)} {σ : L2.St} {H : Hp} {s : Shared} {Q : VK} {us : List Value} {vs : List V} (F : FnG X.prog X.w X.K X.mg X.base CX k f fd ps sp) (gd : X.A.guards = some []) (hr : Room k X.A) (hb : Binds X.K fd ps []) (hx : Passes CX X E)
    (I : Inv X pins σ H s) (r : Vals vs us) (h : sp vs H Q E) : wpAny (model X.prog X.w) X.A (call (.ref f) us) (EP X pins σ Q) X.xe s := by
  have l : us.length = ps.length := r.length ▸ F.len _ _ _ _ h
  have b := hb s us I.kIn (by simpa using l)
  rw [List.append_nil] at b
  refine wpAny_call (codeAny_mono (F.run X.A X.stack s H ⟨us, []⟩ us vs Q E gd hr I.env0 b r h) fun z s1 q => ?_)
  match z, q with
  | .error d, q => exact hx pins σ H s d s1 I q
  | .ok (.ret u), q => exact I.after q
theorem pe_callG (F : FnG X.prog X.w X.K X.mg X.base CX k f fd ps sp) (gd : X.A.guards = some []) (hr : Room k X.A) (hg : Gl X x) (hm : X.mg x = some (.ref f)) (hk : PySem.W.keepIn X.K (.ref f) = true) (hb : Binds X.K fd ps []) (hx : Passes CX X E)
    (ha : PA X (e :: es) t) (hdb : (x == ("__debug__" : Str)) = false) (he : starEach (e :: es) X.env = (false, eval e X.env) :: starEach es X.env) (hpl : (backTo pos (starEach es X.env)).any (·.1) = false) :
    PE X (.Call (.Name x p) (e :: es) [] pos) (tCall sp [] E t) :=
  ⟨fun pins s σ H Q I h => wpAny_Call_Name_kw (ld_glob I hg hm (PySem.W.callWith_K (h₀ := X.base) I.ok.mod.kin hk (thn (ha.run pos pins s σ H _ I h) fun us s1 ⟨vs, H1, J, r, q⟩ => ⟨J.kIn, run_fnG F gd hr hb hx J r (by simpa using q)⟩) he hpl) hdb)⟩
theorem pe_call0G (F : FnG X.prog X.w X.K X.mg X.base CX k f fd ps sp) (gd : X.A.guards = some []) (hr : Room k X.A) (hg : Gl X x) (hm : X.mg x = some (.ref f)) (hk : PySem.W.keepIn X.K (.ref f) = true) (hb : Binds X.K fd ps []) (hx : Passes CX X E)
    (hdb : (x == ("__debug__" : Str)) = false) : PE X (.Call (.Name x p) [] [] pos) (tCall sp [] E tNil) :=
  ⟨fun pins s σ H Q I h => wpAny_Call_Name_kw (ld_glob I hg hm (PySem.W.callWith_K0 I.kIn hk (run_fnG (us := []) F gd hr hb hx I .nil (by simpa using (show sp ([] ++ []) H Q E from h)))) hdb)⟩
end
section
variable {P : Program} {w : World} {K : PySem.W.Frag} {mg : Str → Option Value} {base : Heap}
theorem fun_okG {x qual : Str} {st : Stmt} {f : Addr} {fd : FuncData} {N ps : List Str} {k : Nat} {sp : Sp} (F : Fun K x qual st f fd) (S : FnScope N ps (defScope st)) (len : ∀ vs H Q E, sp vs H Q E → vs.length = ps.length)
    (go : ∀ (cdv : Value) (A : Around) (o : List PySem.Env) (s : Shared) (H : Hp) (vs : List V) (Q : VK) (E : XK), A.guards = some [] → Room k (A.deeper (envOfC qual (defScope st) s.heap.objs.size f cdv)) → sp vs H Q E →
      ∃ t, PSs (cxOf (L2.CX P w) P w K mg base N qual (defScope st) f cdv A o s H E) (defBody st) t ∧ t { nx := fun _ H' => Q .non H', rt := Q } (L2.start N vs) H) : FnG P w K mg base (L2.CX P w) (k + 1) f fd ps sp := by
  obtain ⟨oc, od, kV, doc, pm, an, cdv, ct, osl, rfl, lk, hcd⟩ := F.ex
  refine ⟨len, fun A o s H args us vs Q E gd hr e0 hb r q => ?_⟩
  have ks := fun b ob z => (e0.bs b ob z).1
  have KX := e0.mod.kin.keeps ks
  have pk : ∀ y ∈ ps.zip us, (defScope st).names.lookup y.1 = some .local ∨ ((defScope st).names.lookup y.1 = some .cell ∧ ((cellsFrom (s.heap.objs.size + 1) (defScope st).names []).lookup y.1).isSome = true) := fun y hy =>
    (S.par y.1 (List.of_mem_zip (show (y.1, y.2) ∈ _ from hy)).1).imp id fun z => ⟨z, PySem.W.cellsFrom_some _ _ _ (.inl z)⟩
  refine codeAny_call_function hr.depth (KX _ _ lk) rfl S.co S.gen rfl (PySem.W.codeRec_of KX hcd) (hb _ _ _ _ (wpAny_newFunctionEnv_cells S.kind pk fun env he s1 y => ?_))
  cases he
  refine ⟨(e0.mod.nolimit.keeps ks).keeps y.toInCall.keep, codeAny_func ?_⟩
  obtain ⟨t, ht, hq⟩ := go cdv A o s H vs Q E gd (hr.deeper _) q
  refine wpAny_mono (ht.run [] s1 (L2.start N vs) H _ (inv_start S hr.hd e0 (len _ _ _ _ q) r y) hq) (fun fl s2 z => ?_) fun _ _ z => z
  match fl, z with
  | .ret u, ⟨v, _, H', J, rv, q⟩ => exact ⟨v, H', J.os, J.bare, J.base, J.hok, rv, q⟩
  | .next, ⟨_, H', J, q⟩ => exact ⟨V.non, H', J.os, J.bare, J.base, J.hok, (rfl : RelV .non Value.none), q⟩
  | .brk, ⟨_, _, _, q⟩ => exact False.elim q
  | .cont, ⟨_, _, _, q⟩ => exact False.elim q
end
end Pf
/-! PfGood: the context, targets, what is walked. -/
namespace Pf
open PySem PySem.Spec PyProof.Rows L2
def blNames : List Str := ["len", "min", "max", "sum", "all", "any", "abs", "int", "tuple", "list", "isinstance", "str", "bool", "dict", "range", "enumerate", "zip", "repr"]
/-- what a def promises: what the interpreter tells -/
def spF (K : PySem.W.Frag) (cv : Nat → Value) (F : Nat → List PV → MH → Res RV) (j n : Nat) : Sp := fun vs H Q E =>
  vs.length = n ∧ ∃ β args mh, VRs K β H args vs ∧ Sim K β H mh ∧ WV K cv E β H (F j args mh) Q
structure PGood (cv : Nat → Value) (E : XK) (F : Nat → List PV → MH → Res RV) (G : List PV) (N fn gn : List Str) (k : Nat) (X : Cx) : Prop where
  calm : X.calm = true
  room : Room k X.A
  gd : X.A.guards = some []
  names : X.N = N
  nd : N.Nodup
  bl : ∀ x, x ∈ blNames → X.mg x = none
  gl : ∀ (j : Nat) (x : Str), gn[j]? = some x → ∀ v, G[j]? = some v → ∃ u w, X.mg x = some u ∧ RelV w u ∧ ∀ β H, VR X.K β H v w
  fnk : ∀ (j : Nat) (x : Str), fn[j]? = some x → ∃ (a : Addr) (fd : FuncData) (ps : List Str), X.mg x = some (.ref a) ∧ PySem.W.keepIn X.K (.ref a) = true ∧ Binds X.K fd ps [] ∧ FnG X.prog X.w X.K X.mg X.base (L2.CX X.prog X.w) k a fd ps (spF X.K cv F j ps.length) ∧ ∀ args mh, F j args mh ≠ .bad → args.length = ps.length
  takes : Takes X (fun c d _ H => E c d H)
abbrev E0' : XK := fun _ _ _ => False
section
variable {cv : Nat → Value} {E : XK} {F : Nat → List PV → MH → Res RV} {G : List PV} {N fn gn : List Str} {k : Nat} {X : Cx}
theorem PGood.blk (g : PGood cv E F G N fn gn k X) (s : Shared) (H : Hp) (scope : Scope) (cenv : PySem.Env) (fp : List Addr) : PGood cv E0' F G N fn gn k (X.blk s H scope cenv fp) :=
  ⟨g.calm, g.room, g.gd, g.names, g.nd, g.bl, g.gl, g.fnk, takes0⟩
theorem PGood.u64 (g : PGood cv E F G N fn gn k X) : X.A.units + 64 < cLine := g.room.units
end
/-! ### targets -/
def gL : List Nat → TGs
  | [] => gNil
  | i :: is => gCons (gName i) (gL is)
def gT (K : PySem.W.Frag) : Tgt → TG
  | .nm i => gName i
  | .tp is => gTup K is.length (gL is)
theorem wipe_swap {σ : L2.St} {i j : Nat} {a : Option V} : ∀ {vs : List Nat}, i ∈ vs → wipe (σ.set i a) vs = wipe σ vs
  | [], h => by cases h
  | v :: vs, h => by
    unfold wipe
    by_cases hv : i ∈ vs
    · rw [wipe_swap (j := j) hv]
    · have e : i = v := by
        rcases List.mem_cons.mp h with e | e
        · exact e
        · exact absurd e hv
      subst e
      clear h
      have key : ∀ ws : List Nat, i ∉ ws → wipe (σ.set i a) ws = (wipe σ ws).set i a := by
        intro ws
        induction ws with
        | nil => intro _; rfl
        | cons w ws ih =>
          intro hn
          unfold wipe
          rw [ih (fun z => hn (List.mem_cons_of_mem _ z)), List.set_comm]
          exact fun z => hn (by rw [z]; exact List.mem_cons_self)
      rw [key vs hv, List.set_set]
theorem wipe_wipe {σ : L2.St} (vs : List Nat) : wipe (wipe σ vs) vs = wipe σ vs := by
  have key : ∀ (ws us : List Nat), (∀ w ∈ ws, w ∈ us) → wipe (wipe σ ws) us = wipe σ us := by
    intro ws
    induction ws with
    | nil => intro us _; rfl
    | cons w ws ih =>
      intro us h
      show wipe ((wipe σ ws).set w none) us = wipe σ us
      rw [wipe_swap (j := 0) (h w List.mem_cons_self)]
      exact ih us fun z hz => h z (List.mem_cons_of_mem _ hz)
  exact key vs vs fun _ h => h
section
variable {K : PySem.W.Frag} {β : List Addr} {H : Hp} {e : Env} {σ : L2.St}
theorem gL_ok : ∀ {is : List Nat} {xs : List PV} {vs : List V} {e e' : Env} {σ : L2.St} {Q : L2.St → Hp → Prop}, EnvR K β H e σ → VRs K β H xs vs → setAll is xs e = some e' →
    (∀ σ', EnvR K β H e' σ' → (∀ us, (∀ i ∈ is, i ∈ us) → wipe σ' us = wipe σ us) → Q σ' H) → gL is vs σ H Q
  | [], [], _, e, e', σ, Q, he, hx, h, q => by
    cases hx; cases h
    exact ⟨rfl, q σ he fun _ _ => rfl⟩
  | i :: is, x :: xs, _, e, e', σ, Q, he, hx, h, q => by
    obtain ⟨v, r, rfl, h1, h2⟩ := hx
    refine ⟨v, r, rfl, gL_ok (he.set i h1) h2 h fun σ' he' hw => q σ' he' fun us hu => ?_⟩
    rw [hw us fun j hj => hu j (List.mem_cons_of_mem _ hj), wipe_swap (j := 0) (hu i List.mem_cons_self)]
  | [], _ :: _, _, _, _, _, _, _, _, h, _ => by cases h
  | _ :: _, [], _, _, _, _, _, _, _, h, _ => by cases h
theorem setAll_len : ∀ {is : List Nat} {xs : List PV} {e e' : Env}, setAll is xs e = some e' → is.length = xs.length
  | [], [], _, _, _ => rfl
  | _ :: is, _ :: xs, _, _, h => by simp [setAll_len (is := is) (xs := xs) h]
  | [], _ :: _, _, _, h => by cases h
  | _ :: _, [], _, _, h => by cases h
theorem gT_ok {t : Tgt} {x : PV} {v : V} {e' : Env} {Q : L2.St → Hp → Prop} (he : EnvR K β H e σ) (hx : VR K β H x v) (h : t.set x e = some e')
    (q : ∀ σ', EnvR K β H e' σ' → (∀ us, ownT us t = true → wipe σ' us = wipe σ us) → Q σ' H) : gT K t v σ H Q := by
  cases t with
  | nm i =>
    cases h
    exact q _ (he.set i hx) fun us hu => wipe_swap (j := 0) (by simpa [ownT] using hu)
  | tp is =>
    cases x with
    | tup xs =>
      obtain ⟨a, vs, rfl, h1, h2⟩ := hx
      refine ⟨a, vs, rfl, h1, by rw [h2.length, setAll_len h], gL_ok he h2 h fun σ' he' hw => q σ' he' fun us hu => hw us ?_⟩
      simpa [ownT] using hu
    | _ => cases h
end
section
variable {X : Cx} {N : List Str} {loc : Scope → Str → Bool}
theorem pgs_ok (hN : X.N = N) (nd : N.Nodup) (hl : ∀ x, loc X.env.scope x = true → Loc X.env.scope x ∧ (X.fn x = true ∨ X.env.scope.names.lookup x = some .local)) :
    ∀ {is : List Nat} {es : List PySem.Expr}, chG loc N X.env.scope is es = true → PGs X es (gL is) ∧ (assignEach es X.env).length = is.length ∧ (assignEach es X.env).findIdx? (·.1) = none
  | [], [], _ => ⟨pgs_nil, rfl, rfl⟩
  | i :: is, e :: es, h => by
    cases e with
    | Name x p =>
      simp only [chG, Bool.and_eq_true, decide_eq_true_eq] at h
      obtain ⟨⟨h1, h2⟩, h3⟩ := h
      obtain ⟨l1, l2⟩ := hl x h2
      obtain ⟨g1, g2, g3⟩ := pgs_ok hN nd hl h3
      refine ⟨pgs_cons (pg_name (hN ▸ nd) (hN ▸ h1) l1 l2) g1 rfl, ?_, ?_⟩
      · show (assignEach es X.env).length + 1 = is.length + 1
        rw [g2]
      · show List.findIdx? _ ((false, _) :: assignEach es X.env) = none
        rw [List.findIdx?_cons]
        simp [g3]
    | _ => cases h
  | [], _ :: _, h => by cases h
  | _ :: _, [], h => by cases h
theorem pg_ok (hc : X.calm = true) (hN : X.N = N) (nd : N.Nodup) (hl : ∀ x, loc X.env.scope x = true → Loc X.env.scope x ∧ (X.fn x = true ∨ X.env.scope.names.lookup x = some .local)) {t : Tgt} {tg : PySem.Expr} (h : chT loc N X.env.scope t tg = true) : PG X tg (gT X.K t) := by
  cases t with
  | nm i =>
    cases tg with
    | Name x p =>
      simp only [chT, Bool.and_eq_true, decide_eq_true_eq] at h
      obtain ⟨l1, l2⟩ := hl x h.2
      exact pg_name (hN ▸ nd) (hN ▸ h.1) l1 l2
    | _ => cases h
  | tp is =>
    cases tg with
    | Tuple es k p =>
      obtain ⟨g1, g2, g3⟩ := pgs_ok hN nd hl h
      exact pg_tup hc g1 g2 g3
    | _ => cases h
theorem loc_local {sc : Scope} {x : Str} (h : isLocal sc x = true) : sc.names.lookup x = some .local := by
  unfold isLocal at h
  split at h
  · assumption
  · cases h
theorem loc_loc {sc : Scope} {x : Str} (h : isLoc sc x = true) : Loc sc x := by
  unfold isLoc at h
  split at h
  · exact .inl (by assumption)
  · exact .inr (by assumption)
  · cases h
theorem vis_of {sc : Scope} {x : Str} (h : isVis sc x = true) : Vis sc x := by
  unfold isVis at h
  split at h
  · exact .inl (by assumption)
  · exact .inr (.inl (by assumption))
  · exact .inr (.inr (by assumption))
  · cases h
theorem gl_of {x : Str} (h : isGlob X.env.scope x = true) : Gl X x := by
  unfold isGlob at h
  split at h
  · assumption
  · cases h
end
/-! ### what is walked -/
/-- J walks these items, as long as what is locked stands -/
def Src (K : PySem.W.Frag) (β : List Addr) (H : Hp) (p : Option (Nat × List PV) × List PV) (J : It) : Prop :=
  ∀ (i : Nat) (β' : List Addr) (H' : Hp) (mh : MH), Ext β H β' H' → Sim K β' H' mh → lockOk p.1 mh = true →
    (∀ x, p.2[i]? = some x → J.go i H' ∧ ∀ w H2, J.yld i H' w H2 → Ext β' H' β' H2 ∧ Sim K β' H2 mh ∧ VR K β' H2 x w) ∧ (p.2.length ≤ i → J.stop i H')
def adS (_ : Option (Nat × List PV) × List PV) (_ : It) : List Addr := []
def rdS' (K : PySem.W.Frag) (cv : Nat → Value) (E : XK) (F : Nat → List PV → MH → Res RV) (G : List PV) (c : CSrc) : TI := fun σ H R =>
  ∃ β e mh, EnvR K β H e σ ∧ Sim K β H mh ∧ WG K cv E (Src K) adS β H (evS F G c e mh) R
section
variable {K : PySem.W.Frag} {β : List Addr} {H : Hp} {mh : MH}
/-- a list that is walked as it stands -/
theorem lst_stays {r : RV} {w : V} {xs : List PV} (sm : Sim K β H mh) (h : RR K β H r w) (e : lstOf mh r = some xs) : ∃ a, w = .ref a ∧ (∃ vs, SqL K H a vs) ∧
    ∀ β' H' mh', Ext β H β' H' → Sim K β' H' mh' → lockOk (lockOf r xs) mh' = true → ∃ vs, SqL K H' a vs ∧ VRs K β' H' xs vs := by
  cases r with
  | lst ys =>
    obtain ⟨a, vs, rfl, n, h1, h2⟩ := h
    cases e
    exact ⟨a, rfl, ⟨vs, SqL.of h1⟩, fun β' H' mh' x _ _ => ⟨vs, SqL.of (x.keep _ _ n h1), h2.ext x⟩⟩
  | dct => cases e
  | pv v =>
    cases v with
    | ref n =>
      have h0 := h
      obtain ⟨a, rfl, h1⟩ := h
      refine ⟨a, rfl, ?_, fun β' H' mh' x s' l => ?_⟩
      · obtain ⟨c, vs, ec, e1, _⟩ := lstOf_ok sm h0 e
        cases ec
        exact ⟨vs, e1⟩
      · have hb : β'[n]? = some a := by
          obtain ⟨t, rfl⟩ := x.pre
          rw [List.getElem?_append_left]
          · exact h1
          · exact (List.getElem?_eq_some_iff.mp h1).1
        simp only [lockOf, lockOk] at l
        split at l
        · rename_i ys ee
          have := of_decide_eq_true l
          subst this
          obtain ⟨vs, g1, g2⟩ := s'.obj n a _ hb ee
          exact ⟨vs, SqL.of g1, g2⟩
        · cases l
    | scr ys =>
      obtain ⟨a, vs, rfl, h1, h2⟩ := h
      cases e
      exact ⟨a, rfl, ⟨vs, h1.sq⟩, fun β' H' mh' x _ _ => ⟨vs, (scr_wk x.wk h1).sq, h2.ext x⟩⟩
    | _ => cases e
theorem rngL_get : ∀ (n : Nat) (lo : Int) (i : Nat), (rngL lo n)[i]? = if i < n then some (.int (lo + i)) else none
  | 0, _, _ => by simp [rngL]
  | n + 1, lo, 0 => by simp [rngL]
  | n + 1, lo, i + 1 => by
    simp only [rngL, List.getElem?_cons_succ]
    rw [rngL_get n (lo + 1) i]
    have e : lo + 1 + (i : Int) = lo + ((i + 1 : Nat) : Int) := by omega
    rw [e]
    by_cases h : i < n
    · rw [if_pos h, if_pos (by omega)]
    · rw [if_neg h, if_neg (by omega)]
theorem rngL_len : ∀ (n : Nat) (lo : Int), (rngL lo n).length = n
  | 0, _ => rfl
  | n + 1, lo => by simp [rngL, rngL_len n]
theorem enumL_get : ∀ (xs : List PV) (k : Int) (i : Nat), (enumL k xs)[i]? = (xs[i]?).map fun x => .tup [.int (k + i), x]
  | [], _, _ => by simp [enumL]
  | x :: xs, k, 0 => by simp [enumL]
  | x :: xs, k, i + 1 => by
    simp only [enumL, List.getElem?_cons_succ]
    rw [enumL_get xs (k + 1) i]
    have e : k + 1 + (i : Int) = k + ((i + 1 : Nat) : Int) := by omega
    rw [e]
theorem enumL_len : ∀ (xs : List PV) (k : Int), (enumL k xs).length = xs.length
  | [], _ => rfl
  | x :: xs, k => by simp [enumL, enumL_len xs]
theorem zipL_get : ∀ (xs ys : List PV) (i : Nat) (x : PV), (zipL xs ys)[i]? = some x → ∃ a b, xs[i]? = some a ∧ ys[i]? = some b ∧ x = .tup [a, b]
  | x :: xs, y :: ys, 0, z, h => by
    simp [zipL] at h
    exact ⟨x, y, rfl, rfl, h.symm⟩
  | x :: xs, y :: ys, i + 1, z, h => by
    simp only [zipL, List.getElem?_cons_succ] at h
    simpa using zipL_get xs ys i z h
  | [], ys, i, z, h => by simp [zipL] at h
  | x :: xs, [], i, z, h => by simp [zipL] at h
theorem zipL_len : ∀ (xs ys : List PV), (zipL xs ys).length = min xs.length ys.length
  | x :: xs, y :: ys => by simp [zipL, zipL_len xs ys]
  | [], ys => by simp [zipL]
  | x :: xs, [] => by simp [zipL]
theorem src_list {a : Addr} {lk : Option (Nat × List PV)} {xs : List PV} (h : ∀ β' H' mh', Ext β H β' H' → Sim K β' H' mh' → lockOk lk mh' = true → ∃ vs, SqL K H' a vs ∧ VRs K β' H' xs vs) : Src K β H (lk, xs) (Itl K a) := by
  intro i β' H' mh' x s l
  obtain ⟨vs, h1, h2⟩ := h β' H' mh' x s l
  refine ⟨fun v hv => ?_, fun hl => ⟨vs, h1, by rw [h2.length]; exact hl⟩⟩
  obtain ⟨w, e1, e2⟩ := h2.get hv
  refine ⟨⟨vs, w, h1, e1⟩, fun w' H2 y => ?_⟩
  obtain ⟨rfl, y⟩ := y
  have := y vs h1
  rw [e1] at this; cases this
  exact ⟨Ext.refl, s, e2⟩
theorem src_tup {a : Addr} {xs : List PV} {vs : List V} (h1 : SqT K H a vs) (h2 : VRs K β H xs vs) : Src K β H (none, xs) (Itt K a) := by
  intro i β' H' mh' x s l
  have h1 := sqt_wk x.wk h1
  have h2 := h2.ext x
  refine ⟨fun v hv => ?_, fun hl => ⟨vs, h1, by rw [h2.length]; exact hl⟩⟩
  obtain ⟨w, e1, e2⟩ := h2.get hv
  refine ⟨⟨vs, w, h1, e1⟩, fun w' H2 y => ?_⟩
  obtain ⟨rfl, y⟩ := y
  have := y vs h1
  rw [e1] at this; cases this
  exact ⟨Ext.refl, s, e2⟩
theorem src_rng (lo : Int) (n : Nat) : Src K β H (none, rngL lo n) (Itr lo n) := by
  intro i β' H' mh' x s l
  refine ⟨fun v hv => ?_, fun hl => by rw [rngL_len] at hl; exact hl⟩
  rw [rngL_get] at hv
  split at hv
  · rename_i hi
    cases hv
    refine ⟨hi, fun w' H2 y => ?_⟩
    obtain ⟨rfl, rfl⟩ := y
    exact ⟨Ext.refl, s, rfl⟩
  · cases hv
theorem src_str (z : Txt) : Src K β H (none, z.map fun c => .str [c]) (Its (toS z)) := by
  intro i β' H' mh' x s l
  refine ⟨fun v hv => ?_, fun hl => by simpa [Its] using hl⟩
  rw [List.getElem?_map, Option.map_eq_some_iff] at hv
  obtain ⟨c, e1, rfl⟩ := hv
  refine ⟨by have := (List.getElem?_eq_some_iff.mp e1).1; simpa [Its] using this, fun w' H2 y => ?_⟩
  obtain ⟨rfl, c', e2, rfl⟩ := y
  have : c' = c := by
    rw [List.getElem?_toArray, e1] at e2
    exact (Option.some.inj e2).symm
  subst this
  exact ⟨Ext.refl, s, rfl⟩
theorem src_enum {a : Addr} {lk : Option (Nat × List PV)} {xs : List PV} (h : ∀ β' H' mh', Ext β H β' H' → Sim K β' H' mh' → lockOk lk mh' = true → ∃ vs, SqL K H' a vs ∧ VRs K β' H' xs vs) : Src K β H (lk, enumL 0 xs) (Ite K a) := by
  intro i β' H' mh' x s l
  obtain ⟨vs, h1, h2⟩ := h β' H' mh' x s l
  refine ⟨fun v hv => ?_, fun hl => ⟨vs, h1, by rw [h2.length]; rw [enumL_len] at hl; exact hl⟩⟩
  rw [enumL_get, Option.map_eq_some_iff] at hv
  obtain ⟨u, e0, rfl⟩ := hv
  obtain ⟨w, e1, e2⟩ := h2.get e0
  refine ⟨⟨vs, w, h1, e1⟩, fun w' H2 y => ?_⟩
  obtain ⟨T, z, rfl, hT, rfl, y⟩ := y
  have := y vs h1
  rw [e1] at this; cases this
  exact ⟨Ext.laid hT, s.laid hT, T, _, rfl, SqT.of upd_same, _, _, rfl, by simp [VR], _, _, rfl, e2.ext (Ext.laid hT), rfl⟩
theorem src_zip {a b : Addr} {xs ys : List PV} {vs us : List V} (h1 : SqT K H a vs) (h2 : VRs K β H xs vs) (g1 : SqT K H b us) (g2 : VRs K β H ys us) : Src K β H (none, zipL xs ys) (RZ.ItzT K a b) := by
  intro i β' H' mh' x s l
  have h1 := sqt_wk x.wk h1
  have h2 := h2.ext x
  have g1 := sqt_wk x.wk g1
  have g2 := g2.ext x
  refine ⟨fun v hv => ?_, fun hl => ⟨vs, us, h1, g1, by rw [h2.length, g2.length]; have hl : (zipL xs ys).length ≤ i := hl; rw [zipL_len] at hl; omega⟩⟩
  obtain ⟨p, q, e0, e0', rfl⟩ := zipL_get _ _ _ _ hv
  obtain ⟨w, e1, e2⟩ := h2.get e0
  obtain ⟨u, f1, f2⟩ := g2.get e0'
  refine ⟨⟨vs, us, w, u, h1, g1, e1, f1⟩, fun w' H2 y => ?_⟩
  obtain ⟨T, z, z', rfl, hT, rfl, y, y'⟩ := y
  have := y vs h1
  rw [e1] at this; cases this
  have := y' us g1
  rw [f1] at this; cases this
  exact ⟨Ext.laid hT, s.laid hT, T, _, rfl, SqT.of upd_same, _, _, rfl, e2.ext (Ext.laid hT), _, _, rfl, f2.ext (Ext.laid hT), rfl⟩
theorem src_zipS {a b : Addr} {xs ys : List PV} {vs us : List V} (hl : xs.length = ys.length) (h1 : SqT K H a vs) (h2 : VRs K β H xs vs) (g1 : SqT K H b us) (g2 : VRs K β H ys us) : Src K β H (none, zipL xs ys) (ItzS K a b) := by
  intro i β' H' mh' x s l
  refine ⟨((src_zip h1 h2 g1 g2) i β' H' mh' x s l).1, fun hn => ?_⟩
  have hn : (zipL xs ys).length ≤ i := hn
  rw [zipL_len] at hn
  exact ⟨vs, us, sqt_wk x.wk h1, sqt_wk x.wk g1, by rw [h2.length]; omega, by rw [g2.length]; omega⟩
end
end Pf
/-! PfSound: what the checker lets by does what the interpreter tells. -/
namespace Pf
open PySem PySem.Spec PyProof.Rows L2
section
variable {α γ α2 γ2 : Type} {K : PySem.W.Frag} {cv : Nat → Value} {E E2 : XK} {rel : List Addr → Hp → α → γ → Prop} {ad : α → γ → List Addr} {rel2 : List Addr → Hp → α2 → γ2 → Prop} {ad2 : α2 → γ2 → List Addr}
variable {β β1 : List Addr} {H H1 : Hp} {r : Res α} {Q : γ → Hp → Prop} {Q2 : γ2 → Hp → Prop} {f : α → MH → Res α2}
/-- one step, and what is left of the whole, seen from its start -/
theorem WG.bind2 (h : WG K cv E rel2 ad2 β H (r.bind f) Q2) (x : Ext β H β1 H1)
    (k : ∀ v mh2 β2 H2 w2, Ext β1 H1 β2 H2 → Sim K β2 H2 mh2 → rel β2 H2 v w2 → (∀ a, a ∈ ad v w2 → H1 a = none) → WG K cv E rel2 ad2 β H (f v mh2) Q2 → Q w2 H2) : WG K cv E rel ad β1 H1 r Q := by
  cases r with
  | ok v mh => exact fun β' H' w y s q n => k v mh β' H' w y s q n h
  | exc c fs mh => exact WG.from (r := .exc c fs mh) (ad := ad) (rel := rel) (Q := Q) h x
  | bad => exact h
theorem WG.bindC2 (h : WG K cv E rel2 ad2 β H (r.bindC f) Q2) (x : Ext β H β1 H1)
    (k : ∀ v mh2 β2 H2 w2, Ext β1 H1 β2 H2 → Sim K β2 H2 mh2 → rel β2 H2 v w2 → (∀ a, a ∈ ad v w2 → H1 a = none) → WG K cv E rel2 ad2 β H (f v mh2) Q2 → Q w2 H2) : WG K cv E2 rel ad β1 H1 r Q := by
  cases r with
  | ok v mh => exact fun β' H' w y s q n => k v mh β' H' w y s q n h
  | exc c fs mh => exact False.elim h
  | bad => exact h
theorem WV.aft {r : RV} {mh : MH} {Q : VK} (h : WV K cv E β H (.ok r mh) Q) (x : Ext β H β1 H1) : After K β1 H1 mh r Q := fun β' H' w y s q f => h β' H' w (x.trans y) s q fun a m => x.back a (f.to a m)
theorem WV.pv2 {v : PV} {w : V} {mh : MH} {Q : VK} (h : WV K cv E β H (.ok (.pv v) mh) Q) (x : Ext β H β1 H1) (s : Sim K β1 H1 mh) (q : VR K β1 H1 v w) : Q w H1 := (h.aft x).pv s q
theorem WB.is2 {b : Bool} {mh : MH} {Q : Bool → Hp → Prop} (h : WB K cv E β H (.ok b mh) Q) (x : Ext β H β1 H1) (s : Sim K β1 H1 mh) : Q b H1 := h β1 H1 b x s rfl fun a m => by cases m
end
section
variable {cv : Nat → Value} {E : XK} {F : Nat → List PV → MH → Res RV} {G : List PV} {N fn gn : List Str} {k : Nat} {X : Cx}
/-! ### small ones -/
theorem se_var {i : Nat} {x : Str} {p : Pos} (hN : X.N[i]? = some x) (hv : Vis X.env.scope x) (ok : okName x = true) : PE X (.Name x p) (rdE X.K cv E F G (.var i)) := by
  simp only [okName, Bool.and_eq_true, decide_eq_true_eq] at ok
  refine PE.imp (pe_var hN hv (by simpa using ok.1.1) (by simpa using ok.1.2)) fun σ H Q ⟨β, e, mh, he, s, w⟩ => ?_
  simp only [ev] at w
  split at w
  · rename_i v hv
    obtain ⟨u, h1, h2⟩ := he.2 i v hv
    exact ⟨u, h1, WV.pv w s h2⟩
  · exact False.elim w
theorem se_gl (g : PGood cv E F G N fn gn k X) {j : Nat} {x : Str} {p : Pos} (h : gn[j]? = some x) (hg : Gl X x) (ok : okName x = true) : PE X (.Name x p) (rdE X.K cv E F G (.gl j)) := by
  simp only [okName, Bool.and_eq_true, decide_eq_true_eq] at ok
  refine ⟨fun pins s σ H Q I ⟨β, e, mh, he, sm, w⟩ => ?_⟩
  simp only [ev] at w
  obtain ⟨v, hv, w⟩ := w.opt
  obtain ⟨u, z, h1, h2, h3⟩ := g.gl j x h v hv
  exact (pe_glob hg h1 h2 (by simpa using ok.1.1)).run pins s σ H Q I (WV.pv w sm (h3 _ _))
theorem pa_ok {f : CE → PySem.Expr → Bool} (hf : ∀ c e, f c e = true → PE X e (rdE X.K cv E F G c)) : ∀ {cs : CL} {es : List PySem.Expr}, chL f cs es = true → PA X es (rdL X.K cv E F G cs)
  | .nil, [], _ => PA.imp pa_nil fun σ H Q ⟨β, e, mh, he, s, w⟩ => by
      simp only [evL] at w
      exact w β H [] Ext.refl s ⟨rfl, List.nodup_nil⟩ fun a m => by cases m
  | .cons c r, e :: es, h => by
    simp only [chL, Bool.and_eq_true] at h
    obtain ⟨⟨h1, h2⟩, h3⟩ := h
    refine PA.imp (pa_cons (hf c e h2) (pa_ok hf h3) (star_plain h1)) fun σ H Q ⟨β, ee, mh, he, s, w⟩ => ?_
    simp only [evL] at w
    refine ⟨β, ee, mh, he, s, w.bind2 Ext.refl fun v mh1 β1 H1 w1 x1 s1 r1 f1 w => ?_⟩
    refine ⟨β1, ee, mh1, he.ext x1, s1, w.bind2 x1 fun vs mh2 β2 H2 ws x2 s2 r2 f2 w => ?_⟩
    have r1' := r1.ext x2
    refine w β2 H2 (w1 :: ws) (x1.trans x2) s2 ⟨⟨w1, ws, rfl, r1', r2.1⟩, ?_⟩ fun a m => ?_
    · rw [tmps_cons, List.nodup_append]
      refine ⟨by cases tmp v w1 <;> simp, r2.2, fun a ha b hb => ?_⟩
      have e1 : tmp v w1 = some a := by simpa using ha
      obtain ⟨⟨o, e2⟩, _⟩ := tmp_some r1 e1
      intro e3; subst e3
      have := f2 a hb
      rw [e2] at this; cases this
    · rw [tmps_cons] at m
      rcases List.mem_append.mp m with m | m
      · exact f1 a m
      · exact x1.back a (f2 a m)
  | .nil, _ :: _, h => by cases h
  | .cons _ _, [], h => by cases h
theorem se_bop (ha : PE X a (rdE X.K cv E F G ca)) (hb : PE X b (rdE X.K cv E F G cb)) {op : Operator} {p : Pos} : PE X (.BinOp a op b p) (rdE X.K cv E F G (.bop op ca cb)) := by
  refine PE.imp (pe_op (or_bin op) ha hb) fun σ H Q ⟨β, e, mh, he, s, w⟩ => ?_
  simp only [ev] at w
  refine ⟨β, e, mh, he, s, w.bind2 Ext.refl fun v mh1 β1 H1 w1 x1 s1 r1 f1 w => ⟨β1, e, mh1, he.ext x1, s1, w.bind2 x1 fun u mh2 β2 H2 w2 x2 s2 r2 f2 w => ?_⟩⟩
  obtain ⟨r, hr, w⟩ := w.ofOpt
  exact ⟨β2, mh2, v, u, r, s2, r1.ext x2, r2, hr, WV.aft w (x1.trans x2)⟩
theorem se_neg (ha : PE X a (rdE X.K cv E F G ca)) {p : Pos} : PE X (.UnaryOp .USub a p) (rdE X.K cv E F G (.neg ca)) := by
  refine PE.imp (pe_un un_neg ha) fun σ H Q ⟨β, e, mh, he, s, w⟩ => ?_
  simp only [ev] at w
  refine ⟨β, e, mh, he, s, w.bind2 Ext.refl fun v mh1 β1 H1 w1 x1 s1 r1 f1 w => ?_⟩
  split at w
  · exact ⟨_, r1, WV.pv2 w x1 s1 rfl⟩
  · exact False.elim w
theorem se_cmp (hu : X.A.units + 64 < cLine) (ha : PE X a (rdE X.K cv E F G ca)) (hb : PE X b (rdE X.K cv E F G cb)) (hp : plainE b = true) {op : CmpOp} {p : Pos} : PE X (.Compare a [op] [b] p) (rdE X.K cv E F G (.cmp op ca cb)) := by
  refine PE.imp (pe_cmpR (or_cmp hu op) ha hb (behind_plain op hp)) fun σ H Q ⟨β, e, mh, he, s, w⟩ => ?_
  simp only [ev] at w
  refine ⟨β, e, mh, he, s, w.bind2 Ext.refl fun v mh1 β1 H1 w1 x1 s1 r1 f1 w => ⟨β1, e, mh1, he.ext x1, s1, w.bind2 x1 fun u mh2 β2 H2 w2 x2 s2 r2 f2 w => ?_⟩⟩
  obtain ⟨c, hc, w⟩ := w.opt
  exact ⟨β2, mh2, v, u, c, s2, r1.ext x2, r2, nodup2 r1 f2 |> fun h => h, hc, WV.pv2 w (x1.trans x2) s2 rfl⟩
theorem st_cmp (hu : X.A.units + 64 < cLine) (ha : PE X a (rdE X.K cv E F G ca)) (hb : PE X b (rdE X.K cv E F G cb)) (hp : plainE b = true) {op : CmpOp} {p : Pos} : PT X (.Compare a [op] [b] p) (rdT X.K cv E F G (.cmp op ca cb)) := by
  refine PT.imp (pt_cmpR (or_cmp hu op) ha hb (behind_plain op hp)) fun σ H Q ⟨β, e, mh, he, s, w⟩ => ?_
  simp only [tst] at w
  refine ⟨β, e, mh, he, s, w.bind2 Ext.refl fun v mh1 β1 H1 w1 x1 s1 r1 f1 w => ⟨β1, e, mh1, he.ext x1, s1, w.bind2 x1 fun u mh2 β2 H2 w2 x2 s2 r2 f2 w => ?_⟩⟩
  obtain ⟨c, hc, w⟩ := w.opt
  exact ⟨β2, mh2, v, u, c, s2, r1.ext x2, r2, nodup2 r1 f2, hc, c, rfl, WB.is2 w (x1.trans x2) s2⟩
theorem last_plain {op op' : CmpOp} {b c : PySem.Expr} (hc : plainE c = true) : lastMarks [op, op'] [b, c] = false := by
  show lastMarks [op'] [c] = false
  exact behind_plain op' hc
theorem se_cmp2 (hu : X.A.units + 64 < cLine) (ha : PE X a (rdE X.K cv E F G ca)) (hb : PE X b (rdE X.K cv E F G cb)) (hc : PE X c (rdE X.K cv E F G cc)) (hp : plainE c = true) {op op' : CmpOp} {p : Pos} :
    PE X (.Compare a [op, op'] [b, c] p) (rdE X.K cv E F G (.cmp2 op op' ca cb cc)) := by
  refine PE.imp (pe_chain (or_cmp hu op) (or_cmp hu op') ha hb hc (last_plain hp)) fun σ H Q ⟨β, e, mh, he, s, w⟩ => ?_
  simp only [ev] at w
  refine ⟨β, e, mh, he, s, w.bind2 Ext.refl fun v mh1 β1 H1 w1 x1 s1 r1 f1 w => ⟨β1, e, mh1, he.ext x1, s1, w.bind2 x1 fun u mh2 β2 H2 w2 x2 s2 r2 f2 w => ?_⟩⟩
  obtain ⟨d, hd, w⟩ := w.opt
  refine ⟨β2, mh2, v, u, d, s2, r1.ext x2, r2, nodup2 r1 f2, hd, d, rfl, ?_⟩
  have x12 := x1.trans x2
  cases d with
  | false => exact WV.pv2 w x12 s2 rfl
  | true =>
    simp only [if_true] at w ⊢
    refine ⟨β2, e, mh2, he.ext x12, s2, w.bind2 x12 fun z mh3 β3 H3 w3 x3 s3 r3 f3 w => ?_⟩
    obtain ⟨m, hm, w⟩ := w.opt
    exact ⟨β3, mh3, u, z, m, s3, r2.ext x3, r3, nodup2 r2 f3, hm, WV.pv2 w (x12.trans x3) s3 rfl⟩
theorem st_cmp2 (hu : X.A.units + 64 < cLine) (ha : PE X a (rdE X.K cv E F G ca)) (hb : PE X b (rdE X.K cv E F G cb)) (hc : PE X c (rdE X.K cv E F G cc)) (hp : plainE c = true) {op op' : CmpOp} {p : Pos} :
    PT X (.Compare a [op, op'] [b, c] p) (rdT X.K cv E F G (.cmp2 op op' ca cb cc)) := by
  refine PT.imp (pt_chain (or_cmp hu op) (or_cmp hu op') ha hb hc (last_plain hp)) fun σ H Q ⟨β, e, mh, he, s, w⟩ => ?_
  simp only [tst] at w
  refine ⟨β, e, mh, he, s, w.bind2 Ext.refl fun v mh1 β1 H1 w1 x1 s1 r1 f1 w => ⟨β1, e, mh1, he.ext x1, s1, w.bind2 x1 fun u mh2 β2 H2 w2 x2 s2 r2 f2 w => ?_⟩⟩
  obtain ⟨d, hd, w⟩ := w.opt
  refine ⟨β2, mh2, v, u, d, s2, r1.ext x2, r2, nodup2 r1 f2, hd, d, rfl, ?_⟩
  have x12 := x1.trans x2
  cases d with
  | false => exact ⟨false, rfl, WB.is2 w x12 s2⟩
  | true =>
    simp only [if_true] at w ⊢
    refine ⟨β2, e, mh2, he.ext x12, s2, w.bind2 x12 fun z mh3 β3 H3 w3 x3 s3 r3 f3 w => ?_⟩
    obtain ⟨m, hm, w⟩ := w.opt
    exact ⟨β3, mh3, u, z, m, s3, r2.ext x3, r3, nodup2 r2 f3, hm, m, rfl, WB.is2 w (x12.trans x3) s3⟩
/-! ### and, or, not, if -/
theorem se_boolop {f : CE → PySem.Expr → Bool} (hf : ∀ c e, f c e = true → PE X e (rdE X.K cv E F G c)) {isAnd : Bool} {p : Pos} : ∀ {vs : List PySem.Expr} {c : CE}, chB f isAnd c vs = true → PE X (.BoolOp (if isAnd then .And else .Or) vs p) (rdE X.K cv E F G c)
  | [], c, h => by cases c <;> simp [chB] at h
  | [x], c, h => by
    have h : f c x = true := by cases c <;> simpa [chB] using h
    exact pe_one (hf c x h)
  | x :: y :: r, c, h => by
    cases c with
    | band a b =>
      simp only [chB, Bool.and_eq_true] at h
      obtain ⟨⟨rfl, h2⟩, h3⟩ := h
      refine PE.imp (pe_and (hf a x h2) (se_boolop hf (isAnd := true) h3)) fun σ H Q ⟨β, e, mh, he, s, w⟩ => ?_
      simp only [ev] at w
      refine ⟨β, e, mh, he, s, w.bind2 Ext.refl fun v mh1 β1 H1 w1 x1 s1 r1 f1 w => ?_⟩
      split at w
      · rename_i k
        refine ⟨k, r1, ?_⟩
        cases k with
        | true =>
          simp only [if_true] at w ⊢
          exact ⟨β1, e, mh1, he.ext x1, s1, w.from x1⟩
        | false => exact WV.pv2 w x1 s1 rfl
      · exact False.elim w
    | bor a b =>
      simp only [chB, Bool.and_eq_true, Bool.not_eq_true'] at h
      obtain ⟨⟨rfl, h2⟩, h3⟩ := h
      refine PE.imp (pe_or (hf a x h2) (se_boolop hf (isAnd := false) h3)) fun σ H Q ⟨β, e, mh, he, s, w⟩ => ?_
      simp only [ev] at w
      refine ⟨β, e, mh, he, s, w.bind2 Ext.refl fun v mh1 β1 H1 w1 x1 s1 r1 f1 w => ?_⟩
      split at w
      · rename_i k
        refine ⟨k, r1, ?_⟩
        cases k with
        | false =>
          simp only [Bool.false_eq_true, if_false] at w ⊢
          exact ⟨β1, e, mh1, he.ext x1, s1, w.from x1⟩
        | true => exact WV.pv2 w x1 s1 rfl
      · exact False.elim w
    | _ => simp [chB] at h
theorem st_boolop {f : CE → PySem.Expr → Bool} (hf : ∀ c e, f c e = true → PT X e (rdT X.K cv E F G c)) {isAnd : Bool} {p : Pos} : ∀ {vs : List PySem.Expr} {c : CE}, chB f isAnd c vs = true → PW X (.BoolOp (if isAnd then .And else .Or) vs p) (rdT X.K cv E F G c)
  | [], c, h => by cases c <;> simp [chB] at h
  | [x], c, h => by
    have h1 : f c x = true := by
      cases c <;> simpa [chB] using h
    cases isAnd with
    | true => exact pw_and1 (hf c x h1)
    | false => exact pw_or1 (hf c x h1)
  | x :: y :: r, c, h => by
    cases c with
    | band a b =>
      simp only [chB, Bool.and_eq_true] at h
      obtain ⟨⟨rfl, h2⟩, h3⟩ := h
      refine PW.imp (pw_and (hf a x h2) (st_boolop hf (isAnd := true) h3)) fun σ H Q ⟨β, e, mh, he, s, w⟩ => ?_
      simp only [tst] at w
      refine ⟨β, e, mh, he, s, w.bind2 Ext.refl fun k mh1 β1 H1 w1 x1 s1 r1 f1 w => ?_⟩
      cases r1
      cases k with
      | true =>
        simp only [if_true] at w ⊢
        exact ⟨β1, e, mh1, he.ext x1, s1, w.from x1⟩
      | false => exact WB.is2 w x1 s1
    | bor a b =>
      simp only [chB, Bool.and_eq_true, Bool.not_eq_true'] at h
      obtain ⟨⟨rfl, h2⟩, h3⟩ := h
      refine PW.imp (pw_or (hf a x h2) (st_boolop hf (isAnd := false) h3)) fun σ H Q ⟨β, e, mh, he, s, w⟩ => ?_
      simp only [tst] at w
      refine ⟨β, e, mh, he, s, w.bind2 Ext.refl fun k mh1 β1 H1 w1 x1 s1 r1 f1 w => ?_⟩
      cases r1
      cases k with
      | false =>
        simp only [Bool.false_eq_true, if_false] at w ⊢
        exact ⟨β1, e, mh1, he.ext x1, s1, w.from x1⟩
      | true => exact WB.is2 w x1 s1
    | _ => simp [chB] at h
theorem se_not (ha : PE X a (rdE X.K cv E F G ca)) {p : Pos} : PE X (.UnaryOp .Not a p) (rdE X.K cv E F G (.bnot ca)) := by
  refine PE.imp (pe_not ha) fun σ H Q ⟨β, e, mh, he, s, w⟩ => ?_
  simp only [ev] at w
  refine ⟨β, e, mh, he, s, w.bind2 Ext.refl fun v mh1 β1 H1 w1 x1 s1 r1 f1 w => ?_⟩
  split at w
  · exact ⟨_, r1, WV.pv2 w x1 s1 rfl⟩
  · exact False.elim w
theorem st_not (ha : PT X a (rdT X.K cv E F G ca)) {p : Pos} : PT X (.UnaryOp .Not a p) (rdT X.K cv E F G (.bnot ca)) := by
  refine PT.imp (pt_not ha) fun σ H Q ⟨β, e, mh, he, s, w⟩ => ?_
  simp only [tst] at w
  refine ⟨β, e, mh, he, s, w.bind2 Ext.refl fun v mh1 β1 H1 w1 x1 s1 r1 f1 w => ?_⟩
  cases r1
  exact WB.is2 w x1 s1
theorem se_ife (hc : PT X c (rdT X.K cv E F G cc)) (ha : PE X a (rdE X.K cv E F G ca)) (hb : PE X b (rdE X.K cv E F G cb)) {p : Pos} : PE X (.IfExp c a b p) (rdE X.K cv E F G (.ife cc ca cb)) := by
  refine PE.imp (pe_ifExp hc ha hb) fun σ H Q ⟨β, e, mh, he, s, w⟩ => ?_
  simp only [ev] at w
  refine ⟨β, e, mh, he, s, w.bind2 Ext.refl fun v mh1 β1 H1 w1 x1 s1 r1 f1 w => ?_⟩
  cases r1
  cases v with
  | true =>
    simp only [if_true] at w ⊢
    exact ⟨β1, e, mh1, he.ext x1, s1, w.from x1⟩
  | false =>
    simp only [Bool.false_eq_true, if_false] at w ⊢
    exact ⟨β1, e, mh1, he.ext x1, s1, w.from x1⟩
/-! ### displays -/
theorem se_tup (h : PA X es (rdL X.K cv E F G cs)) {j : Nat} {p : Pos} : PE X (.Tuple es j p) (rdE X.K cv E F G (.tup cs)) := by
  refine PE.imp (pe_tup h) fun σ H Q ⟨β, e, mh, he, s, w⟩ => ?_
  simp only [ev] at w
  refine ⟨β, e, mh, he, s, w.bind2 Ext.refl fun rs mh1 β1 H1 ws x1 s1 r1 f1 w => ?_⟩
  obtain ⟨hl, w⟩ := w.ite
  obtain ⟨β2, x2, s2, v2⟩ := WL.fix r1 x1 s1 f1
  exact ⟨by rw [r1.1.length, ← line_eq]; exact hl, (WV.aft w x2).tup s2 v2⟩
theorem se_lst (h : PA X es (rdL X.K cv E F G cs)) {p : Pos} : PE X (.List es p) (rdE X.K cv E F G (.lst cs)) := by
  refine PE.imp (pe_lst h) fun σ H Q ⟨β, e, mh, he, s, w⟩ => ?_
  simp only [ev] at w
  refine ⟨β, e, mh, he, s, w.bind2 Ext.refl fun rs mh1 β1 H1 ws x1 s1 r1 f1 w => ?_⟩
  obtain ⟨hl, w⟩ := w.ite
  obtain ⟨β2, x2, s2, v2⟩ := WL.fix r1 x1 s1 f1
  exact ⟨by rw [r1.1.length, ← line_eq]; exact hl, (WV.aft w x2).lst s2 v2⟩
/-! ### subscripts -/
theorem se_idx (hu : X.A.units + 64 < cLine) (ha : PE X a (rdE X.K cv E F G ca)) (hb : PE X b (rdE X.K cv E F G cb)) (hp : plainE b = true) {p : Pos} : PE X (.Subscript a b p) (rdE X.K cv E F G (.idx ca cb)) := by
  refine ⟨fun pins s σ H Q I ⟨β, e, mh, he, sm, w⟩ => ?_⟩
  simp only [ev] at w
  have h : rdE X.K cv E F G ca σ H fun x H1 => rdE X.K cv E F G cb σ H1 fun y H2 => ∃ β mh u v r, Sim X.K β H2 mh ∧ RR X.K β H2 u x ∧ RR X.K β H2 v y ∧ getIx mh u v = some r ∧ ∀ z, VR X.K β H2 r z → Q z H2 :=
    ⟨β, e, mh, he, sm, w.bind2 Ext.refl fun v mh1 β1 H1 w1 x1 s1 r1 f1 w => ⟨β1, e, mh1, he.ext x1, s1, w.bind2 x1 fun u mh2 β2 H2 w2 x2 s2 r2 f2 w => by
      obtain ⟨r, hr, w⟩ := w.opt
      exact ⟨β2, mh2, v, u, r, s2, r1.ext x2, r2, hr, fun z hz => WV.pv2 w (x1.trans x2) s2 hz⟩⟩⟩
  refine Subscript_ (binT ha hb I h fun v u s2 x y H2 I2 rx ry ⟨β, mh, a', b', r, sm, ra, rb, hr, q⟩ => ?_)
  exact getIx_ok hu I2 sm ra rb rx ry (ix_plain hp) hr q
theorem so_ok {f : CE → PySem.Expr → Bool} (hf : ∀ c e, f c e = true → PE X e (rdE X.K cv E F G c)) {c : CO} {o : Option PySem.Expr} (h : chO f c o = true) : PO X o (rdO X.K cv E F G c) := by
  cases c with
  | none =>
    cases o with
    | none =>
      refine ⟨fun pins s σ H Q I ⟨β, e, mh, he, sm, w⟩ => po_none.run pins s σ H Q I ?_⟩
      simp only [evO] at w
      exact w β H none Ext.refl sm rfl fun a m => by cases m
    | some _ => cases h
  | some c =>
    cases o with
    | none => cases h
    | some e0 =>
      refine ⟨fun pins s σ H Q I ⟨β, e, mh, he, sm, w⟩ => (po_some (hf c e0 h)).run pins s σ H Q I ?_⟩
      simp only [evO] at w
      refine ⟨β, e, mh, he, sm, w.bind2 Ext.refl fun v mh1 β1 H1 w1 x1 s1 r1 f1 w => ?_⟩
      obtain ⟨i, hi, w⟩ := w.opt
      have e1 : w1 = .int i := by
        unfold partOf at hi
        split at hi
        · cases hi; exact r1
        · cases hi
      exact ⟨i, e1, w β1 H1 (some i) x1 s1 rfl fun a m => by cases m⟩
theorem se_slc {lo hi : Option PySem.Expr} {cl ch : CO} (ha : PE X a (rdE X.K cv E F G ca)) (hl : PO X lo (rdO X.K cv E F G cl)) (hh : PO X hi (rdO X.K cv E F G ch)) {p p2 : Pos} : PE X (.Subscript a (.Slice lo hi none p2) p) (rdE X.K cv E F G (.slc ca cl ch)) := by
  refine PE.imp (pe_slice sl_cut ha hl hh) fun σ H Q ⟨β, e, mh, he, s, w⟩ => ?_
  simp only [ev] at w
  refine ⟨β, e, mh, he, s, w.bind2 Ext.refl fun v mh1 β1 H1 w1 x1 s1 r1 f1 w => ⟨β1, e, mh1, he.ext x1, s1, w.bind2 x1 fun l mh2 β2 H2 l' x2 s2 r2 f2 w => ⟨β2, e, mh2, (he.ext x1).ext x2, s2, w.bind2 (x1.trans x2) fun u mh3 β3 H3 u' x3 s3 r3 f3 w => ?_⟩⟩⟩
  cases r2; cases r3
  obtain ⟨r, hr, w⟩ := w.ofOpt
  exact ⟨β3, mh3, v, r, s3, (r1.ext x2).ext x3, hr, WV.aft w ((x1.trans x2).trans x3)⟩
/-! ### calls -/
theorem ty_boot (t : Ty) : bootBuiltins (tyN t) = some (.type (tyS t)) := by cases t <;> decide +kernel
theorem ty_in (t : Ty) : tyN t ∈ blNames := by cases t <;> decide +kernel
theorem ty_ok (t : Ty) : tyN t ≠ ("__name__" : Str) ∧ (tyN t == ("__debug__" : Str)) = false := by cases t <;> decide +kernel
theorem se_isi (g : PGood cv E F G N fn gn k X) (ha : PE X a (rdE X.K cv E F G ca)) (hp : plainE a = true) (t : Ty) (h1 : Gl X "isinstance") (h2 : Gl X (tyN t)) {p p2 p3 : Pos} :
    PE X (.Call (.Name "isinstance" p) [a, .Name (tyN t) p2] [] p3) (rdE X.K cv E F G (.isi ca t)) := by
  have ht := pe_bltn (X := X) (pos := p2) (v := V.ty (tyS t)) h2 (g.bl _ (ty_in t)) (ty_boot t) rfl (ty_ok t).1 (ty_ok t).2
  refine PE.imp (pe_callB call_isi h1 (g.bl _ (by decide)) (by decide +kernel) (pa_cons ha (pa_cons ht pa_nil) (star_plain hp)) (he := star_plain hp)) fun σ H Q ⟨β, e, mh, he, s, w⟩ => ?_
  simp only [ev] at w
  refine ⟨β, e, mh, he, s, w.bind2 Ext.refl fun v mh1 β1 H1 w1 x1 s1 r1 f1 w => ?_⟩
  obtain ⟨c, hc, w⟩ := w.opt
  obtain ⟨tv, t1, t2⟩ := isTy_ok s1 r1 hc
  exact ⟨w1, .ty (tyS t), tv, .type (tyS t), c, rfl, .ty _, t1, t2, WV.pv2 w x1 s1 rfl⟩
theorem bi_in (b : BI) : biN b ∈ blNames := by cases b <;> decide +kernel
theorem bi_ok (b : BI) : biN b ≠ ("__name__" : Str) ∧ (biN b == ("__debug__" : Str)) = false := by cases b <;> decide +kernel
theorem bi_boot (b : BI) : bootBuiltins (biN b) = some (biV b) := by cases b <;> decide +kernel
theorem pe_callV {f : Value} {r : List V → Hp → VK → Prop} {x : Str} {e : PySem.Expr} {es : List PySem.Expr} {t : TA} {p pos : Pos} (hf : (∃ id, f = .builtin id) ∨ ∃ T, f = .type T) (hc : CallR X f r) (hg : Gl X x) (hm : X.mg x = none) (hv : bootBuiltins x = some f) (ha : PA X (e :: es) t) (hn : x ≠ "__name__") (hdb : (x == ("__debug__" : Str)) = false)
    (he : starEach (e :: es) X.env = (false, eval e X.env) :: starEach es X.env) (hpl : (backTo pos (starEach es X.env)).any (·.1) = false) : PE X (.Call (.Name x p) (e :: es) [] pos) (tCB r t) := by
  rcases hf with ⟨id, rfl⟩ | ⟨T, rfl⟩
  · exact pe_callB hc hg hm hv ha hn hdb he hpl
  · exact pe_callTy hc hg hm hv ha hn hdb he hpl
theorem se_bi (g : PGood cv E F G N fn gn k X) (b : BI) (h1 : Gl X (biN b)) (hp : (x :: xs).all plainE = true) (ha : PA X (x :: xs) (rdL X.K cv E F G cs)) {p p3 : Pos} :
    PE X (.Call (.Name (biN b) p) (x :: xs) [] p3) (rdE X.K cv E F G (.bi b cs)) := by
  have hp' := hp
  rw [List.all_cons, Bool.and_eq_true] at hp'
  refine PE.imp (pe_callV (f := biV b) (by cases b <;> first | exact .inl ⟨_, rfl⟩ | exact .inr ⟨_, rfl⟩) (cr_bi g.calm g.gd g.u64 b) h1 (g.bl _ (bi_in b)) (bi_boot b) ha (bi_ok b).1 (bi_ok b).2 (star_plain hp'.1) (stars_plain hp'.2)) fun σ H Q ⟨β, e, mh, he, s, w⟩ => ?_
  simp only [ev] at w
  refine ⟨β, e, mh, he, s, w.bind2 Ext.refl fun rs mh1 β1 H1 ws x1 s1 r1 f1 w => ?_⟩
  obtain ⟨r, hr, w⟩ := w.ofOpt
  exact ⟨β1, mh1, rs, r, s1, r1.1, hr, WV.aft w x1⟩
theorem se_call (g : PGood cv E F G N fn gn k X) {j : Nat} {f : Str} (hj : fn[j]? = some f) (h1 : Gl X f) (ok : okName f = true) (hp : xs.all plainE = true) (ha : PA X xs (rdL X.K cv E F G cs)) (hc0 : xs = [] → cs = .nil) {p p3 : Pos} :
    PE X (.Call (.Name f p) xs [] p3) (rdE X.K cv E F G (.call j cs)) := by
  simp only [okName, Bool.and_eq_true, decide_eq_true_eq] at ok
  obtain ⟨a, fd, ps, hm, hk, hb, hF, hl⟩ := g.fnk j f hj
  have pass : Passes (L2.CX X.prog X.w) X E := L2.passes_call g.takes fun _ _ _ _ h => h
  have go : ∀ σ H Q, rdE X.K cv E F G (.call j cs) σ H Q → tCall (spF X.K cv F j ps.length) [] E (rdL X.K cv E F G cs) σ H Q := fun σ H Q ⟨β, e, mh, he, s, w⟩ => by
    simp only [ev] at w
    refine ⟨β, e, mh, he, s, w.bind2 Ext.refl fun rs mh1 β1 H1 ws x1 s1 r1 f1 w => ?_⟩
    obtain ⟨β2, x2, s2, v2⟩ := WL.fix r1 x1 s1 f1
    have nb : F j (fixL rs mh1).1 (fixL rs mh1).2 ≠ .bad := fun z => by rw [z] at w; exact w
    have ln := hl _ _ nb
    refine ⟨by rw [List.append_nil, v2.length]; exact ln, β2, _, _, by rw [List.append_nil]; exact v2, s2, w.from x2⟩
  cases xs with
  | nil =>
    refine PE.imp (pe_call0G hF g.gd g.room h1 hm hk hb pass (by simpa using ok.1.1)) fun σ H Q h => ?_
    have e0 := hc0 rfl
    subst e0
    have h' := go σ H Q h
    obtain ⟨β, e, mh, he, s, w⟩ := h'
    simp only [evL] at w
    exact w β H [] Ext.refl s ⟨rfl, List.nodup_nil⟩ fun a m => by cases m
  | cons x xs =>
    rw [List.all_cons, Bool.and_eq_true] at hp
    exact PE.imp (pe_callG hF g.gd g.room h1 hm hk hb pass ha (by simpa using ok.1.1) (star_plain hp.1) (stars_plain hp.2)) go
end
end Pf
/-! PfSound2: methods, dict displays, comprehensions. -/
namespace Pf
open PySem PySem.Spec PyProof.Rows L2
section
variable {K : PySem.W.Frag} {β β1 : List Addr} {H H1 : Hp} {mh : MH}
theorem After.put {β0 : List Addr} {H0 : Hp} {E : XK} {cv : Nat → Value} {n : Nat} {a : Addr} {ob : MO} {u v : HO} {r : RV} {w : V} {Q : VK} (h : WV K cv E β0 H0 (.ok r (mh.set n ob)) Q) (x : Ext β0 H0 β H) (s : Sim K β H mh) (hn : β[n]? = some a) (hv : H a = some v)
    (ht : ∀ k, ¬ FA H a k) (ho : OR K β (upd H a u) a ob) (hr : RR K β (upd H a u) r w) (hf : ∀ b, b ∈ adR r w → H0 b = none) : Q w (upd H a u) :=
  h β (upd H a u) w (x.trans (Ext.put (ob := ob) (List.mem_of_getElem? hn) hv ht)) (s.put hn ht ho) hr hf
theorem RR.recv {r : RV} {w : V} (s : Sim K β H mh) (h : RR K β H r w) {m : MT} (hm : m ≠ .get) (e : recvOk m mh r = true) : ∃ p, w = .ref p ∧ ∃ xs, SqL K H p xs := by
  have e1 : (lstOf mh r).isSome = true := by cases m <;> first | exact e | exact absurd rfl hm
  obtain ⟨xs, e2⟩ := Option.isSome_iff_exists.mp e1
  obtain ⟨a, vs, rfl, h1, _⟩ := lstOf_ok s h e2
  exact ⟨a, rfl, vs, h1⟩
end
section
variable {cv : Nat → Value} {E : XK} {F : Nat → List PV → MH → Res RV} {G : List PV} {N fn gn : List Str} {k : Nat} {X : Cx}
theorem few1 {y : PySem.Expr} {env : PySem.Env} {cp : Pos} (h : plainE y = true) : ((backTo cp (starEach [y] env)).all (fun x => !x.1) && (backToKw cp (keywordEach [] env)).all (fun x => x.1.isSome)
      && decide (([y] : List PySem.Expr).length + ([] : List Keyword).length + (if ([] : List Keyword).isEmpty then 0 else 1) < 30)) = true := by
  rw [stars_all (by simp [h])]; rfl
theorem few2 {y z : PySem.Expr} {env : PySem.Env} {cp : Pos} (h : plainE y = true) (h2 : plainE z = true) : ((backTo cp (starEach [y, z] env)).all (fun x => !x.1) && (backToKw cp (keywordEach [] env)).all (fun x => x.1.isSome)
      && decide (([y, z] : List PySem.Expr).length + ([] : List Keyword).length + (if ([] : List Keyword).isEmpty then 0 else 1) < 30)) = true := by
  rw [stars_all (by simp [h, h2])]; rfl
theorem rl1 {K : PySem.W.Frag} {β : List Addr} {H : Hp} {x : RV} {ws : List V} (h : rlL K β H [x] ws) : ∃ w, ws = [w] ∧ RR K β H x w := RRs.one h.1
theorem rd_of_sq {K : PySem.W.Frag} {H : Hp} {a : Addr} {vs : List V} (h : H a = some (.lst vs)) : ∀ k, ¬ FA H a k := fun _ => rd_lst h
theorem mAppend_ok {K : PySem.W.Frag} {β0 β : List Addr} {H0 H : Hp} {mh : MH} {o x : RV} {p : Addr} {y : V} {q : RV × MH} {Q : VK} (s : Sim K β H mh) (ro : RR K β H o (.ref p)) (rx : RR K β H x y) (fx : ∀ a, a ∈ adR x y → H0 a = none) (x0 : Ext β0 H0 β H)
    (h : mAppend mh o x = some q) (w : WV K cv E β0 H0 (.ok q.1 q.2) Q) : rAppend (.ref p) [y] H Q := by
  unfold mAppend at h
  split at h
  · rename_i n
    obtain ⟨a, ea, hn⟩ := ro
    cases ea
    split at h
    · rename_i xs ex
      split at h
      · rename_i hz
        cases h
        obtain ⟨vs, g1, g2⟩ := s.obj n _ _ hn ex
        obtain ⟨β3, x3, s3, v3, p3, n3⟩ := WV.fix rx x0 s fx
        have hn3 : β3[n]? = some p := by
          obtain ⟨t, rfl⟩ := p3
          rw [List.getElem?_append_left (List.getElem?_eq_some_iff.mp hn).1]; exact hn
        refine ⟨p, vs, y, rfl, rfl, g1, by rw [g2.length, ← line_eq]; exact hz, ?_⟩
        have wk : Wk β H β3 (upd H p (.lst (vs ++ [y]))) := ⟨p3, fun b k hb => hb.upd fun e => by subst e; exact rd_lst g1 hb⟩
        have wk3 : Wk β3 H β3 (upd H p (.lst (vs ++ [y]))) := ⟨List.prefix_refl _, wk.tup⟩
        exact After.put w x3 s3 hn3 g1 (rd_of_sq (K := K) g1) ⟨_, upd_same, (g2.wk wk).append ⟨_, _, rfl, v3.wk wk3, rfl⟩⟩ rfl fun b m => by cases m
      · cases h
    · cases h
  · cases h
theorem se_append (ho : PE X o (rdE X.K cv E F G co)) (ha : PA X [y] (rdL X.K cv E F G (.cons ca .nil))) (h1 : plainO o = true) (h2 : plainE y = true) {ap cp : Pos} (hl : (ap.endLine == cp.line) = true) :
    PE X (.Call (.Attribute o "append" ap) [y] [] cp) (rdE X.K cv E F G (.mth .append co (.cons ca .nil))) := by
  refine PE.imp (pe_bm PySem.F.plainAttrs_list PySem.F.slot_list_append PySem.F.type_list_append mt_append ho ha (base_plain h1 _) (few1 h2) hl (star_plain h2) rfl) fun σ H Q ⟨β, e, mh, he, s, w⟩ => ?_
  simp only [ev] at w
  refine ⟨β, e, mh, he, s, w.bind2 Ext.refl fun v mh1 β1 H1 w1 x1 s1 r1 f1 w => ?_⟩
  obtain ⟨hr, w⟩ := w.ite
  obtain ⟨p, rfl, hp⟩ := r1.recv s1 (by decide) hr
  refine ⟨.inl ⟨rfl, hp⟩, β1, e, mh1, he.ext x1, s1, w.bind2 x1 fun rs mh2 β2 H2 ws x2 s2 r2 f2 w => ?_⟩
  obtain ⟨q, hq, w⟩ := w.opt
  match rs, r2, f2, hq, w with
  | [], _, _, hq, _ => cases hq
  | [x], r2, f2, hq, w =>
    obtain ⟨wy, rfl, ry⟩ := rl1 r2
    exact mAppend_ok s2 (r1.ext x2) ry (fun a m => x1.back a (f2 a (by rw [tmps_cons]; exact List.mem_append_left _ m))) (x1.trans x2) hq w
  | [_, _], _, _, hq, _ => cases hq
  | _ :: _ :: _ :: _, _, _, hq, _ => cases hq
theorem mExtend_ok {K : PySem.W.Frag} {β0 β : List Addr} {H0 H : Hp} {mh : MH} {o x : RV} {p : Addr} {y : V} {q : RV × MH} {Q : VK} (s : Sim K β H mh) (ro : RR K β H o (.ref p)) (rx : RR K β H x y) (x0 : Ext β0 H0 β H)
    (h : mExtend mh o x = some q) (w : WV K cv E β0 H0 (.ok q.1 q.2) Q) : rExtend (.ref p) [y] H Q := by
  unfold mExtend at h
  split at h
  · rename_i n
    obtain ⟨a, ea, hn⟩ := ro
    cases ea
    split at h
    · rename_i xs ex
      split at h
      · rename_i ys ey
        split at h
        · rename_i hz
          cases h
          obtain ⟨vs, g1, g2⟩ := s.obj n _ _ hn ex
          obtain ⟨b, us, rfl, k1, k2⟩ := lstW_ok s rx ey
          refine ⟨p, b, vs, us, rfl, rfl, g1, k1, by rw [g2.length, k2.length, ← line_eq]; exact hz, ?_⟩
          have wk : Wk β H β (upd H p (.lst (vs ++ us))) := ⟨List.prefix_refl _, fun b k hb => hb.upd fun e => by subst e; exact rd_lst g1 hb⟩
          exact After.put w x0 s hn g1 (rd_of_sq (K := K) g1) ⟨_, upd_same, (g2.wk wk).append (k2.wk wk)⟩ rfl fun b m => by cases m
        · cases h
      · cases h
    · cases h
  · cases h
theorem se_extend (ho : PE X o (rdE X.K cv E F G co)) (ha : PA X [y] (rdL X.K cv E F G (.cons ca .nil))) (h1 : plainO o = true) (h2 : plainE y = true) {ap cp : Pos} (hl : (ap.endLine == cp.line) = true) :
    PE X (.Call (.Attribute o "extend" ap) [y] [] cp) (rdE X.K cv E F G (.mth .extend co (.cons ca .nil))) := by
  refine PE.imp (pe_bm PySem.F.plainAttrs_list PySem.F.slot_list_extend PySem.F.type_list_extend mt_extend ho ha (base_plain h1 _) (few1 h2) hl (star_plain h2) rfl) fun σ H Q ⟨β, e, mh, he, s, w⟩ => ?_
  simp only [ev] at w
  refine ⟨β, e, mh, he, s, w.bind2 Ext.refl fun v mh1 β1 H1 w1 x1 s1 r1 f1 w => ?_⟩
  obtain ⟨hr, w⟩ := w.ite
  obtain ⟨p, rfl, hp⟩ := r1.recv s1 (by decide) hr
  refine ⟨.inl ⟨rfl, hp⟩, β1, e, mh1, he.ext x1, s1, w.bind2 x1 fun rs mh2 β2 H2 ws x2 s2 r2 f2 w => ?_⟩
  obtain ⟨q, hq, w⟩ := w.opt
  match rs, r2, hq, w with
  | [], _, hq, _ => cases hq
  | [x], r2, hq, w =>
    obtain ⟨wy, rfl, ry⟩ := rl1 r2
    exact mExtend_ok s2 (r1.ext x2) ry (x1.trans x2) hq w
  | [_, _], _, hq, _ => cases hq
  | _ :: _ :: _ :: _, _, hq, _ => cases hq
theorem mPop_ok {K : PySem.W.Frag} {β0 β : List Addr} {H0 H : Hp} {mh : MH} {o : RV} {p : Addr} {q : RV × MH} {Q : VK} (s : Sim K β H mh) (ro : RR K β H o (.ref p)) (x0 : Ext β0 H0 β H)
    (h : mPop mh o = some q) (w : WV K cv E β0 H0 (.ok q.1 q.2) Q) : rPop (.ref p) [] H Q := by
  unfold mPop at h
  split at h
  · rename_i n
    obtain ⟨a, ea, hn⟩ := ro
    cases ea
    split at h
    · rename_i xs ex
      split at h
      · rename_i z ez
        cases h
        obtain ⟨vs, g1, g2⟩ := s.obj n _ _ hn ex
        obtain ⟨u, e1, e2⟩ := g2.get ez
        refine ⟨p, vs, u, rfl, rfl, g1, by rw [g2.length]; exact e1, ?_⟩
        have wk : Wk β H β (upd H p (.lst vs.dropLast)) := ⟨List.prefix_refl _, fun b k hb => hb.upd fun e => by subst e; exact rd_lst g1 hb⟩
        exact After.put w x0 s hn g1 (rd_of_sq (K := K) g1) ⟨_, upd_same, (g2.wk wk).dropLast⟩ (show VR _ _ _ _ _ from e2.wk wk) fun b m => by cases m
      · cases h
    · cases h
  · cases h
theorem se_pop (ho : PE X o (rdE X.K cv E F G co)) (h1 : plainO o = true) {ap cp : Pos} (hl : (ap.endLine == cp.line) = true) :
    PE X (.Call (.Attribute o "pop" ap) [] [] cp) (rdE X.K cv E F G (.mth .pop co .nil)) := by
  refine PE.imp (pe_bm0 PySem.F.plainAttrs_list PySem.F.slot_list_pop PySem.F.type_list_pop mt_pop ho (base_plain h1 _) hl) fun σ H Q ⟨β, e, mh, he, s, w⟩ => ?_
  simp only [ev, evL] at w
  refine ⟨β, e, mh, he, s, w.bind2 Ext.refl fun v mh1 β1 H1 w1 x1 s1 r1 f1 w => ?_⟩
  obtain ⟨hr, w⟩ := w.ite
  obtain ⟨p, rfl, hp⟩ := r1.recv s1 (by decide) hr
  refine ⟨.inl ⟨rfl, hp⟩, ?_⟩
  obtain ⟨q, hq, w⟩ := WG.opt (show WV X.K cv E β H (opt (callM .pop mh1 v []) fun p => .ok p.1 p.2) Q from w)
  exact mPop_ok s1 r1 x1 hq w
theorem mGet_ok {K : PySem.W.Frag} {β : List Addr} {H : Hp} {mh : MH} {o kk d : RV} {p : Addr} {y z : V} {q : RV × MH} (s : Sim K β H mh) (ro : RR K β H o (.ref p)) (rk : RR K β H kk y) (h : mGet mh o kk d = some q) :
    ∃ ov, DGet H p y ov ∧ q.2 = mh ∧ ((∃ v w, ov = some w ∧ q.1 = .pv v ∧ VR K β H v w) ∨ (ov = none ∧ q.1 = d)) := by
  unfold mGet at h
  split at h
  · rename_i kv
    split at h
    · rename_i kvs ed
      split at h
      · rename_i hk
        cases h
        obtain ⟨a, ks, ea, e1, e2⟩ := dctOf_ok s ro ed
        cases ea
        obtain ⟨j, rfl⟩ := isKey_iff hk
        have ey := keyP_V rk
        subst ey
        refine ⟨_, DGet.k e1, rfl, ?_⟩
        have g := dget_ok j e2
        cases h1 : dget kvs (keyP j) with
        | some v =>
          rw [h1] at g
          cases h2 : valV ks j with
          | some w => rw [h2] at g; exact .inl ⟨v, w, rfl, rfl, g⟩
          | none => rw [h2] at g; exact g.elim
        | none =>
          rw [h1] at g
          cases h2 : valV ks j with
          | some w => rw [h2] at g; exact g.elim
          | none => exact .inr ⟨rfl, rfl⟩
      · cases h
    · cases h
  · cases h
theorem isD_of {K : PySem.W.Frag} {β : List Addr} {H : Hp} {mh : MH} {r : RV} {w : V} (s : Sim K β H mh) (h : RR K β H r w) (e : recvOk .get mh r = true) : ∃ p, w = .ref p ∧ IsD H p := by
  obtain ⟨kvs, e2⟩ := Option.isSome_iff_exists.mp (show (dctOf mh r).isSome = true from e)
  obtain ⟨a, ks, rfl, h1, _⟩ := dctOf_ok s h e2
  exact ⟨a, rfl, .inl ⟨ks, .inl h1⟩⟩
theorem se_get1 (hu : X.A.units + 64 < cLine) (ho : PE X o (rdE X.K cv E F G co)) (ha : PE X y (rdE X.K cv E F G ca)) (h1 : plainO o = true) (h2 : plainE y = true) {ap cp : Pos} (hl : (ap.endLine == cp.line) = true) :
    PE X (.Call (.Attribute o "get" ap) [y] [] cp) (rdE X.K cv E F G (.mth .get co (.cons ca .nil))) := by
  refine PE.imp (pe_dget1 (by omega) ho ha ⟨base_plain h1 _, few1 h2, hl, by rw [star_plain h2]; rfl⟩) fun σ H Q ⟨β, e, mh, he, s, w⟩ => ?_
  simp only [ev, evL] at w
  refine ⟨β, e, mh, he, s, w.bind2 Ext.refl fun v mh1 β1 H1 w1 x1 s1 r1 f1 w => ?_⟩
  obtain ⟨hr, w⟩ := w.ite
  obtain ⟨p, rfl, hp⟩ := isD_of s1 r1 hr
  refine ⟨p, rfl, hp, β1, e, mh1, he.ext x1, s1, ?_⟩
  have w : WV X.K cv E β H ((ev F G ca e mh1).bind fun a h2 => opt (callM .get h2 v [a]) fun p => .ok p.1 p.2) Q := by
    cases hh : ev F G ca e mh1 <;> rw [hh] at w <;> exact w
  refine w.bind2 x1 fun kk mh2 β2 H2 w2 x2 s2 r2 f2 w => ?_
  obtain ⟨q, hq, w⟩ := w.opt
  obtain ⟨ov, g1, g2, g3⟩ := mGet_ok (z := V.non) s2 (r1.ext x2) r2 (show mGet mh2 v kk (.pv .non) = some q from hq)
  refine ⟨ov, g1, ?_⟩
  rw [g2] at w
  rcases g3 with ⟨vv, ww, rfl, e2, e3⟩ | ⟨rfl, e2⟩
  · rw [e2] at w; exact WV.pv2 w (x1.trans x2) s2 e3
  · rw [e2] at w; exact WV.pv2 w (x1.trans x2) s2 rfl
theorem se_get2 (hu : X.A.units + 64 < cLine) (ho : PE X o (rdE X.K cv E F G co)) (ha : PE X y (rdE X.K cv E F G ca)) (hd : PE X z (rdE X.K cv E F G cd)) (h1 : plainO o = true) (h2 : plainE y = true) (h3 : plainE z = true) {ap cp : Pos} (hl : (ap.endLine == cp.line) = true) :
    PE X (.Call (.Attribute o "get" ap) [y, z] [] cp) (rdE X.K cv E F G (.mth .get co (.cons ca (.cons cd .nil)))) := by
  refine PE.imp (pe_dget2 (by omega) ho ha hd ⟨base_plain h1 _, few2 h2 h3, hl, by rw [star_plain h2, star_plain h3]; rfl⟩) fun σ H Q ⟨β, e, mh, he, s, w⟩ => ?_
  simp only [ev, evL] at w
  refine ⟨β, e, mh, he, s, w.bind2 Ext.refl fun v mh1 β1 H1 w1 x1 s1 r1 f1 w => ?_⟩
  obtain ⟨hr, w⟩ := w.ite
  obtain ⟨p, rfl, hp⟩ := isD_of s1 r1 hr
  refine ⟨p, rfl, hp, β1, e, mh1, he.ext x1, s1, ?_⟩
  have w : WV X.K cv E β H ((ev F G ca e mh1).bind fun a h2 => (ev F G cd e h2).bind fun d h3 => opt (callM .get h3 v [a, d]) fun p => .ok p.1 p.2) Q := by
    cases hh : ev F G ca e mh1 with
    | ok a h2 =>
      rw [hh] at w
      simp only [Res.bind] at w ⊢
      cases hh2 : ev F G cd e h2 <;> rw [hh2] at w <;> exact w
    | exc c fs h2 => rw [hh] at w; exact w
    | bad => rw [hh] at w; exact w
  refine w.bind2 x1 fun kk mh2 β2 H2 w2 x2 s2 r2 f2 w => ?_
  refine ⟨β2, e, mh2, (he.ext x1).ext x2, s2, w.bind2 (x1.trans x2) fun d mh3 β3 H3 w3 x3 s3 r3 f3 w => ?_⟩
  obtain ⟨q, hq, w⟩ := w.opt
  obtain ⟨ov, g1, g2, g3⟩ := mGet_ok (z := w3) s3 ((r1.ext x2).ext x3) (r2.ext x3) (show mGet mh3 v kk d = some q from hq)
  refine ⟨ov, g1, ?_⟩
  rw [g2] at w
  rcases g3 with ⟨vv, ww, rfl, e2, e3⟩ | ⟨rfl, e2⟩
  · rw [e2] at w; exact WV.pv2 w ((x1.trans x2).trans x3) s3 e3
  · rw [e2] at w
    exact w β3 H3 w3 ((x1.trans x2).trans x3) s3 r3 fun a m => x1.back a (x2.back a (f3 a m))
/-! ### dict displays -/
def rdP (K : PySem.W.Frag) (cv : Nat → Value) (E : XK) (F : Nat → List PV → MH → Res RV) (G : List PV) : CP → List (TE × TE)
  | .nil => []
  | .cons c d r => (rdE K cv E F G c, rdE K cv E F G d) :: rdP K cv E F G r
theorem pps_ok {f : CE → PySem.Expr → Bool} (hf : ∀ c e, f c e = true → PE X e (rdE X.K cv E F G c)) {pos : Pos} : ∀ {ps : CP} {ks : List (Option PySem.Expr)} {vs : List PySem.Expr}, chP f ps ks vs = true → PPs X pos ks vs (rdP X.K cv E F G ps)
  | .nil, [], [], _ => pps_nil
  | .cons c d r, some e :: es, g :: gs, h => by
    simp only [chP, Bool.and_eq_true] at h
    exact pps_cons (hf c e h.1.1) (hf d g h.1.2) (pps_ok hf h.2)
  | .nil, _ :: _, _, h => by simp [chP] at h
  | .nil, [], _ :: _, h => by simp [chP] at h
  | .cons _ _ _, [], _, h => by simp [chP] at h
  | .cons _ _ _, none :: _, _, h => by simp [chP] at h
  | .cons _ _ _, some _ :: _, [], h => by simp [chP] at h
/-- the pairs' reading -/
def relP (K : PySem.W.Frag) (β : List Addr) (H : Hp) (kvs : List (PV × PV)) (ps : List (V × V)) : Prop := ∃ ks : List (Key × V), ps = ks.map (fun kv => (kV kv.1, kv.2)) ∧ DR K β H kvs ks
theorem dct_go {β0 : List Addr} {H0 : Hp} {p : Addr} {e : Env} {σ : L2.St} (hp0 : H0 p = none) {α2 γ2 : Type} {rel2 : List Addr → Hp → α2 → γ2 → Prop} {ad2 : α2 → γ2 → List Addr} {Q2 : γ2 → Hp → Prop} : ∀ {ps : CP} {β : List Addr} {H : Hp} {mh : MH} {f : List (PV × PV) → MH → Res α2} {R : List (V × V) → Hp → Prop},
    EnvR X.K β H e σ → Sim X.K β H mh → Ext β0 H0 β H → p ∉ β → H p = some (.dK []) → WG X.K cv E rel2 ad2 β0 H0 ((evD F G ps e mh).bind f) Q2 →
    (∀ kvs mh' β' H' qs, Ext β H β' H' → Ext β0 H0 β' H' → Sim X.K β' H' mh' → p ∉ β' → H' p = some (.dK []) → relP X.K β' H' kvs qs → WG X.K cv E rel2 ad2 β0 H0 (f kvs mh') Q2 → R qs H') →
    tPairs (rdP X.K cv E F G ps) σ H R
  | .nil, β, H, mh, f, R, he, s, x, hb, hp, w, k => by
    simp only [evD, Res.bind] at w
    exact k [] mh β H [] Ext.refl x s hb hp ⟨[], rfl, rfl⟩ w
  | .cons c d r, β, H, mh, f, R, he, s, x, hb, hp, w, k => by
    show rdE X.K cv E F G c σ H fun kk H1 => rdE X.K cv E F G d σ H1 fun vv H2 => tPairs (rdP X.K cv E F G r) σ H2 fun rs => R ((kk, vv) :: rs)
    have w : WG X.K cv E rel2 ad2 β0 H0 ((ev F G c e mh).bind fun a h1 => (ev F G d e h1).bind fun y h2 => (match a with
      | .pv k => if isKey k then (evD F G r e (fix y h2).2).bind fun r h3 => .ok ((k, (fix y h2).1) :: r) h3 else .bad
      | _ => .bad : Res (List (PV × PV))).bind f) Q2 := by
      simp only [evD] at w
      cases hh : ev F G c e mh with
      | ok a h1 =>
        rw [hh] at w
        simp only [Res.bind] at w ⊢
        cases hh2 : ev F G d e h1 <;> rw [hh2] at w <;> exact w
      | exc c fs h2 => rw [hh] at w; exact w
      | bad => rw [hh] at w; exact w
    refine ⟨β, e, mh, he, s, w.bind2 x fun a mh1 β1 H1 w1 x1 s1 r1 f1 w => ?_⟩
    have hb1 : p ∉ β1 := fun m => by
      have := x1.new p m hb
      rw [hp] at this; cases this
    have hp1 := x1.keep p _ hb hp
    refine ⟨β1, e, mh1, he.ext x1, s1, w.bind2 (x.trans x1) fun y mh2 β2 H2 w2 x2 s2 r2 f2 w => ?_⟩
    have hb2 : p ∉ β2 := fun m => by
      have := x2.new p m hb1
      rw [hp1] at this; cases this
    have hp2 := x2.keep p _ hb1 hp1
    have x012 := (x.trans x1).trans x2
    obtain ⟨β3, x3, s3, v3, p3, n3⟩ := WV.fix r2 x012 s2 fun b m => (x.trans x1).back b (f2 b m)
    have hb3 : p ∉ β3 := fun m => by
      have e1 := n3 p m hb2
      have := f2 p (by unfold adR; rw [e1]; simp)
      rw [hp1] at this; cases this
    match a, r1, w with
    | .pv kk, r1, w =>
      simp only at w
      by_cases hk : isKey kk = true
      · rw [if_pos hk] at w
        have w : WG X.K cv E rel2 ad2 β0 H0 ((evD F G r e (fix y mh2).2).bind fun rr h3 => f ((kk, (fix y mh2).1) :: rr) h3) Q2 := by
          cases hh : evD F G r e (fix y mh2).2 <;> rw [hh] at w <;> exact w
        obtain ⟨j, rfl⟩ := isKey_iff hk
        have ek := keyP_V r1
        subst ek
        have he3 : EnvR X.K β3 H2 e σ := by
          have h2 := (he.ext x1).ext x2
          exact ⟨h2.1, fun i v q => let ⟨w, a, b⟩ := h2.2 i v q; ⟨w, a, b.wk (Wk.track p3)⟩⟩
        refine dct_go hp0 he3 s3 x3 hb3 hp2 w fun kvs mh' β' H' qs x3' x' s' hb' hp' ⟨ks, e1, e2⟩ w => ?_
        have x13 : Ext β H β3 H2 := (x1.trans x2).track p3 fun b m n => x1.back b (f2 b (by unfold adR; rw [n3 b m n]; simp))
        exact k ((keyP j, (fix y mh2).1) :: kvs) mh' β' H' _ (x13.trans x3') x' s' hb' hp' ⟨(j, w2) :: ks, by rw [e1]; rfl, j, w2, ks, rfl, rfl, v3.ext x3', e2⟩ w
      · rw [if_neg hk] at w; exact False.elim w
    | .lst _, _, w => exact False.elim w
    | .dct _, _, w => exact False.elim w
theorem DR.put {K : PySem.W.Frag} {β : List Addr} {H : Hp} (j : Key) {v : PV} {w : V} (hv : VR K β H v w) : ∀ {kvs : List (PV × PV)} {ks : List (Key × V)}, DR K β H kvs ks → (ks.map (·.1)).Nodup → DR K β H (dput kvs (keyP j) v) (putK ks j w)
  | [], ks, h, _ => by
    cases h
    exact ⟨j, w, [], rfl, rfl, hv, rfl⟩
  | (k, u) :: r, ks, h, nd => by
    obtain ⟨i, z, t, rfl, rfl, h1, h2⟩ := h
    simp only [List.map_cons, List.nodup_cons] at nd
    unfold putK
    by_cases e : i = j
    · subst e
      simp only [dput, if_true]
      have nx : ∀ kv ∈ t, ¬ kv.1 = i := fun kv m e => nd.1 (by rw [← e]; exact List.mem_map_of_mem m)
      simp only [List.any_cons, decide_true, Bool.true_or, if_true, List.map_cons]
      refine ⟨i, w, t, ?_, rfl, hv, h2⟩
      congr 1
      · exact (List.map_congr_left fun kv m => if_neg (nx kv m)).trans (List.map_id _)
    · have ne : ¬ keyP i = keyP j := fun z => e (keyP_inj z)
      simp only [dput, if_neg ne]
      have ih := DR.put j hv h2 nd.2
      unfold putK at ih
      simp only [List.any_cons, decide_eq_true_eq, e, decide_false, Bool.false_or, List.map_cons]
      split
      · rename_i ha
        rw [if_pos ha] at ih
        exact ⟨i, z, _, by simp, rfl, h1, ih⟩
      · rename_i ha
        rw [if_neg ha] at ih
        exact ⟨i, z, _, rfl, rfl, h1, ih⟩
theorem putK_nodup (j : Key) (w : V) {ks : List (Key × V)} (nd : (ks.map (·.1)).Nodup) : ((putK ks j w).map (·.1)).Nodup := by
  unfold putK
  split
  · have e : (ks.map fun kv => if kv.1 = j then (kv.1, w) else kv).map (·.1) = ks.map (·.1) := by
      rw [List.map_map]
      apply List.map_congr_left
      intro kv _
      simp only [Function.comp]
      split <;> rfl
    rw [e]; exact nd
  · rename_i h
    rw [List.map_append, List.nodup_append]
    refine ⟨nd, by simp, fun a ha b hb => ?_⟩
    have hb : b = j := by simpa using hb
    subst hb
    intro e; subst e
    obtain ⟨kv, m, e⟩ := List.mem_map.mp ha
    exact h (List.any_eq_true.mpr ⟨kv, m, decide_eq_true e⟩)
theorem DR.merge {K : PySem.W.Frag} {β : List Addr} {H : Hp} : ∀ {kvs : List (PV × PV)} {ks : List (Key × V)} {acc : List (PV × PV)} {ak : List (Key × V)}, DR K β H kvs ks → DR K β H acc ak → (ak.map (·.1)).Nodup →
    DR K β H (kvs.foldl (fun d p => dput d p.1 p.2) acc) (mergeK ak ks)
  | [], ks, acc, ak, h, ha, _ => by cases h; exact ha
  | (k, v) :: r, ks, acc, ak, h, ha, nd => by
    obtain ⟨j, w, t, rfl, rfl, h1, h2⟩ := h
    show DR K β H (r.foldl (fun d p => dput d p.1 p.2) (dput acc (keyP j) v)) (mergeK (putK ak j w) t)
    exact DR.merge h2 (ha.put j h1 nd) (putK_nodup j w nd)
theorem Ext.over {β0 β : List Addr} {H0 H : Hp} {p : Addr} {v u : HO} (x : Ext β0 H0 β H) (h0 : H0 p = none) (hb : p ∉ β) (hv : H p = some v) (ht : ∀ k, ¬ FA H p k) : Ext β0 H0 β (upd H p u) where
  pre := x.pre
  tup := fun a k h => (x.tup a k h).upd fun e => by subst e; exact ht k (x.tup _ k h)
  keep := fun a o n h => by rw [upd_ne (ne_of_none h h0)]; exact x.keep a o n h
  new := x.new
  back := fun a h => by
    by_cases e : a = p
    · subst e; rw [upd_same] at h; cases h
    · rw [upd_ne e] at h; exact x.back a h
theorem wk_over {β : List Addr} {H : Hp} {p : Addr} {u : HO} (ht : ∀ k, ¬ FA H p k) : Wk β H β (upd H p u) := ⟨List.prefix_refl _, fun a k h => h.upd fun e => by subst e; exact ht k h⟩
theorem Sim.over {K : PySem.W.Frag} {β : List Addr} {H : Hp} {mh : MH} {p : Addr} {u : HO} (s : Sim K β H mh) (hb : p ∉ β) (ht : ∀ k, ¬ FA H p k) : Sim K β (upd H p u) mh :=
  ⟨s.len, s.nd, fun n a o h1 h2 => (s.obj n a o h1 h2).wk (wk_over ht) (upd_ne fun e => hb (by rw [← e]; exact List.mem_of_getElem? h1))⟩
theorem se_dct {f : CE → PySem.Expr → Bool} (hf : ∀ c e, f c e = true → PE X e (rdE X.K cv E F G c)) {ps : CP} {ks : List (Option PySem.Expr)} {vs : List PySem.Expr} {pos : Pos} (h : chP f ps ks vs = true) (h15 : ks.length ≤ 15) (hl : ks.length = vs.length) (ha : ks.all (·.isSome) = true) :
    PE X (.Dict ks vs pos) (rdE X.K cv E F G (.dct ps)) := by
  cases ps with
  | nil =>
    cases ks with
    | nil =>
      cases vs with
      | nil =>
        refine PE.imp pe_dnewK fun σ H Q ⟨β, e, mh, he, s, w⟩ => ?_
        simp only [ev, evD, Res.bind] at w
        exact fun p hp => w β _ _ (Ext.laid hp) (s.laid hp) ⟨p, [], rfl, s.notin hp, upd_same, rfl⟩ fun a m => by
          have : a = p := by simpa [adR, tmp] using m
          rw [this]; exact hp
      | cons => simp [chP] at h
    | cons => cases vs <;> simp [chP] at h
  | cons c d r =>
    have h0 : ks ≠ [] := fun e => by subst e; simp [chP] at h
    refine PE.imp (pe_disp (pps_ok hf h) ha hl h0 h15) fun σ H Q ⟨β, e, mh, he, s, w⟩ => ?_
    simp only [ev] at w
    intro p hp
    refine dct_go (cv := cv) (E := E) (F := F) (G := G) hp (he.ext (Ext.laid hp)) (s.laid hp) (Ext.laid hp) (s.notin hp) upd_same w fun kvs mh' β' H' qs x3 x' s' hb' hp' ⟨kk, e1, e2⟩ w => ?_
    obtain ⟨hz, w⟩ := w.ite
    refine ⟨hp', kk, e1, by rw [e2.length]; exact hz, ?_⟩
    have nt : ∀ k, ¬ FA H' p k := fun k => rd_dK hp'
    refine w β' (upd H' p (.dK (mergeK [] kk))) (.ref p) (x'.over hp hb' hp' nt) (s'.over hb' nt) ⟨p, _, rfl, hb', upd_same, (DR.merge (acc := []) (ak := []) e2 rfl List.nodup_nil).wk (wk_over nt)⟩ fun a m => ?_
    have : a = p := by simpa [adR, tmp] using m
    rw [this]; exact hp
end
end Pf
/-! PfComp: what is walked, comprehensions. -/
namespace Pf
open PySem PySem.Spec PyProof.Rows L2
section
variable {X : Cx} {tg : PySem.Expr}
def iSeq (K : PySem.W.Frag) (tl : TE) : TI := fun σ H R => tl σ H fun x H1 => (∃ a, x = .ref a ∧ (∃ xs, SqL K H1 a xs) ∧ R (Itl K a) H1) ∨ (∃ a, x = .ref a ∧ (∃ xs, SqT K H1 a xs) ∧ R (Itt K a) H1) ∨ ∃ z, x = .str z ∧ R (Its z) H1
theorem pi_seq {l : PySem.Expr} {tl : TE} (hl : PE X l tl) : PI X tg l (iSeq X.K tl) := by
  refine ⟨fun pins s σ H R I h => ?_⟩
  refine thn (hl.run pins s σ H _ I h) fun v s1 ⟨x, H1, I1, r1, q1⟩ => ?_
  rcases q1 with ⟨a, e, ⟨xs, hq⟩, q⟩ | ⟨a, e, ⟨xs, hq⟩, q⟩ | ⟨z, ex, q⟩
  · subst e
    cases r1
    obtain ⟨its, rv, p, hz⟩ := I1.list hq
    refine wpAny_pyIter_list p.isList ?_
    refine ⟨s1.heap.objs.size, [s1.heap.objs.size], _, _, H1, rfl, I1.kept (t' := s1.toks) fun b o e => Heap.get?_push_of_some _ e, turn_list a _, ⟨_, Heap.get?_push_size _ rfl, rfl, rfl⟩, fun b hb => ?_, q⟩
    have e : b = s1.heap.objs.size := by simpa using hb
    subst e
    exact I1.fpOk (Nat.le_refl _) (I1.hok.fresh (Nat.le_refl _))
  · subst e
    cases r1
    obtain ⟨its, rv, p, hz⟩ := I1.tuple hq
    refine wpAny_pyIter_tuple (show s1.heap.IsTuple a its.toArray from p) ?_
    refine ⟨s1.heap.objs.size, [s1.heap.objs.size], _, _, H1, rfl, I1.kept (t' := s1.toks) fun b o e => Heap.get?_push_of_some _ e, turn_tuple a _, ⟨_, Heap.get?_push_size _ rfl, rfl, rfl⟩, fun b hb => ?_, q⟩
    have e : b = s1.heap.objs.size := by simpa using hb
    subst e
    exact I1.fpOk (Nat.le_refl _) (I1.hok.fresh (Nat.le_refl _))
  · subst ex
    obtain ⟨t, rfl⟩ := r1
    cases ha : z.cps.all (· < 128)
    · exact wpAny_pyIter_wide ha (pi_one (tk := s1.toks) I1 _ (turn_str _ z t "str_iterator" (.inr rfl)) ⟨_, Heap.get?_push_size _ rfl, rfl, rfl⟩ q)
    · exact wpAny_pyIter_ascii ha (pi_one (tk := s1.toks) I1 _ (turn_str _ z t "str_ascii_iterator" (.inl rfl)) ⟨_, Heap.get?_push_size _ rfl, rfl, rfl⟩ q)
end
section
variable {K : PySem.W.Frag} {β β1 : List Addr} {H H1 : Hp}
theorem Src.from {p : Option (Nat × List PV) × List PV} {J : It} (h : Src K β H p J) (x : Ext β H β1 H1) : Src K β1 H1 p J := fun i β' H' mh y s l => h i β' H' mh (x.trans y) s l
end
section
variable {cv : Nat → Value} {E : XK} {F : Nat → List PV → MH → Res RV} {G : List PV} {N fn gn : List Str} {k : Nat} {X : Cx}
theorem star1 {e : PySem.Expr} {env : PySem.Env} (h : plainE e = true) : starEach [e] env = [(false, eval e env)] := by rw [star_plain h]; rfl
theorem star2 {e g : PySem.Expr} {env : PySem.Env} (h : plainE e = true) (h2 : plainE g = true) : starEach [e, g] env = [(false, eval e env), (false, eval g env)] := by rw [star_plain h, star_plain h2]; rfl
theorem small_of {i : Int} (h : smallR i = true) : -(2 ^ 62) ≤ i ∧ i < 2 ^ 62 := by simpa [smallR] using h
theorem partOf_ok {K : PySem.W.Frag} {β : List Addr} {H : Hp} {r : RV} {w : V} {i : Int} (h : RR K β H r w) (e : partOf r = some i) : w = .int i := by
  unfold partOf at e
  split at e
  · cases e; exact h
  · cases e
theorem src_ok (g : PGood cv E F G N fn gn k X) {f : CE → PySem.Expr → Bool} (hf : ∀ c e, f c e = true → PE X e (rdE X.K cv E F G c)) {tg : PySem.Expr} {t : Tgt} (ht : ∀ is, t = .tp is → ∃ elts kk tpos, tg = .Tuple elts kk tpos) :
    ∀ {src : CSrc} {it : PySem.Expr}, chS f X.env.scope t src it = true → PI X tg it (rdS' X.K cv E F G src) := by
  intro src it h
  have seq : ∀ {a : CE} {e : PySem.Expr}, f a e = true → PI X tg e (rdS' X.K cv E F G (.seq a)) := fun {a e} h2 => by
    refine PI.imp (pi_seq (hf a e h2)) fun σ H R ⟨β, ee, mh, he, s, w⟩ => ?_
    simp only [evS] at w
    refine ⟨β, ee, mh, he, s, w.bind2 Ext.refl fun v mh1 β1 H1 w1 x1 s1 r1 f1 w => ?_⟩
    split at w
    · rename_i z
      exact .inr (.inr ⟨toS z, r1, w β1 H1 _ x1 s1 (src_str z) fun a m => by cases m⟩)
    · obtain ⟨xs, hx, w⟩ := w.opt
      unfold seqOf at hx
      split at hx
      · rename_i ys hy
        cases hx
        obtain ⟨a, vs, rfl, e1, e2⟩ := tupOf_ok r1 hy
        have hk : lockOf v xs = none := by
          cases v with
          | pv v => cases v <;> first | rfl | cases hy
          | _ => cases hy
        rw [hk] at w
        exact .inr (.inl ⟨a, rfl, ⟨vs, e1⟩, w β1 H1 _ x1 s1 (src_tup e1 e2) fun a m => by cases m⟩)
      · obtain ⟨a, rfl, h1, h2⟩ := lst_stays s1 r1 hx
        exact .inl ⟨a, rfl, h1, w β1 H1 _ x1 s1 (src_list h2) fun a m => by cases m⟩
  have c1 : ∀ {nm : Str} {a : CE} {it : PySem.Expr}, chC1 f X.env.scope nm a it = true → ∃ p e pos, it = .Call (.Name nm p) [e] [] pos ∧ Gl X nm ∧ plainE e = true ∧ f a e = true := fun {nm a it} h => by
    unfold chC1 at h
    split at h
    · simp only [Bool.and_eq_true, decide_eq_true_eq] at h
      obtain ⟨⟨⟨rfl, h2⟩, h3⟩, h4⟩ := h
      exact ⟨_, _, _, rfl, gl_of h2, h3, h4⟩
    · cases h
  have c2 : ∀ {nm : Str} {a b : CE} {it : PySem.Expr}, chC2 f X.env.scope nm a b it = true → ∃ p e e2 pos, it = .Call (.Name nm p) [e, e2] [] pos ∧ Gl X nm ∧ plainE e = true ∧ plainE e2 = true ∧ f a e = true ∧ f b e2 = true := fun {nm a b it} h => by
    unfold chC2 at h
    split at h
    · simp only [Bool.and_eq_true, decide_eq_true_eq] at h
      obtain ⟨⟨⟨⟨⟨rfl, h2⟩, h3⟩, h4⟩, h5⟩, h6⟩ := h
      exact ⟨_, _, _, _, rfl, gl_of h2, h3, h4, h5, h6⟩
    · cases h
  have tp : isTp t = true → ∃ elts kk tpos, tg = .Tuple elts kk tpos := fun h => by
    cases t with
    | nm _ => cases h
    | tp is => exact ht is rfl
  cases src with
  | seq a =>
    simp only [chS, Bool.and_eq_true] at h
    exact seq h.2
  | rng a =>
    obtain ⟨p, e, pos, rfl, h2, h3, h4⟩ := c1 h
    refine PI.imp (pi_range1 h2 (g.bl _ (by decide)) (pa_cons (hf _ _ h4) pa_nil (star_plain h3)) (star1 h3)) fun σ H R ⟨β, ee, mh, he, s, w⟩ => ?_
    simp only [evS] at w
    refine ⟨β, ee, mh, he, s, w.bind2 Ext.refl fun v mh1 β1 H1 w1 x1 s1 r1 f1 w => ?_⟩
    obtain ⟨j, hj, w⟩ := w.opt
    obtain ⟨hz, w⟩ := w.ite
    exact ⟨j, by rw [partOf_ok r1 hj], (small_of hz).1, (small_of hz).2, w β1 H1 _ x1 s1 (src_rng 0 j.toNat) fun a m => by cases m⟩
  | rng2 a b =>
    obtain ⟨p, e, e2, pos, rfl, h2, h3, h4, h5, h6⟩ := c2 h
    refine PI.imp (pi_range2 h2 (g.bl _ (by decide)) (pa_cons (hf _ _ h5) (pa_cons (hf _ _ h6) pa_nil (star_plain h4)) (star_plain h3)) (star2 h3 h4) (star1 h4)) fun σ H R ⟨β, ee, mh, he, s, w⟩ => ?_
    simp only [evS] at w
    refine ⟨β, ee, mh, he, s, w.bind2 Ext.refl fun v mh1 β1 H1 w1 x1 s1 r1 f1 w => ⟨β1, ee, mh1, he.ext x1, s1, w.bind2 x1 fun u mh2 β2 H2 w2 x2 s2 r2 f2 w => ?_⟩⟩
    obtain ⟨i, hi, w⟩ := w.opt
    obtain ⟨j, hj, w⟩ := w.opt
    obtain ⟨hz, w⟩ := w.ite
    rw [Bool.and_eq_true] at hz
    exact ⟨i, j, by rw [partOf_ok r1 hi, partOf_ok r2 hj], ⟨(small_of hz.1).1, (small_of hz.1).2, (small_of hz.2).1, (small_of hz.2).2⟩, w β2 H2 _ (x1.trans x2) s2 (src_rng i _) fun a m => by cases m⟩
  | enum a =>
    simp only [chS, Bool.and_eq_true] at h
    obtain ⟨elts, kk, tpos, rfl⟩ := tp h.1
    obtain ⟨p, e, pos, rfl, h2, h3, h4⟩ := c1 h.2
    refine PI.imp (pi_enum h2 (g.bl _ (by decide)) (pa_cons (hf _ _ h4) pa_nil (star_plain h3)) (star1 h3)) fun σ H R ⟨β, ee, mh, he, s, w⟩ => ?_
    simp only [evS] at w
    refine ⟨β, ee, mh, he, s, w.bind2 Ext.refl fun v mh1 β1 H1 w1 x1 s1 r1 f1 w => ?_⟩
    obtain ⟨xs, hx, w⟩ := w.opt
    obtain ⟨a', rfl, ⟨vs, h1⟩, h2⟩ := lst_stays s1 r1 hx
    exact ⟨a', vs, rfl, h1, w β1 H1 _ x1 s1 (src_enum h2) fun a m => by cases m⟩
  | zip a b =>
    simp only [chS, Bool.and_eq_true] at h
    obtain ⟨elts, kk, tpos, rfl⟩ := tp h.1
    obtain ⟨p, e, e2, pos, rfl, h2, h3, h4, h5, h6⟩ := c2 h.2
    refine PI.imp (RZ.pi_zipA h2 (g.bl _ (by decide)) (pa_cons (hf _ _ h5) (pa_cons (hf _ _ h6) pa_nil (star_plain h4)) (star_plain h3)) (star_plain h3) (stars_plain (by simp [h4]))) fun σ H R ⟨β, ee, mh, he, s, w⟩ => ?_
    simp only [evS] at w
    refine ⟨β, ee, mh, he, s, w.bind2 Ext.refl fun v mh1 β1 H1 w1 x1 s1 r1 f1 w => ⟨β1, ee, mh1, he.ext x1, s1, w.bind2 x1 fun u mh2 β2 H2 w2 x2 s2 r2 f2 w => ?_⟩⟩
    split at w
    · rename_i xs ys e1 e2
      obtain ⟨a1, vs, rfl, q1, q2⟩ := tupOf_ok (r1.ext x2) e1
      obtain ⟨a2, us, rfl, q3, q4⟩ := tupOf_ok r2 e2
      exact ⟨a1, a2, vs, us, rfl, .inr ⟨q1, q3, w β2 H2 _ (x1.trans x2) s2 (src_zip q1 q2 q3 q4) fun a m => by cases m⟩⟩
    · exact False.elim w
  | zipS a b =>
    simp only [chS, Bool.and_eq_true] at h
    obtain ⟨elts, kk, tpos, rfl⟩ := tp h.1
    have c2s : ∃ p e e2 j cp kp pos, it = .Call (.Name "zip" p) [e, e2] [⟨some (Str.ofString "strict"), .Constant (.bool true) j cp, kp⟩] pos ∧ Gl X "zip" ∧ plainE e = true ∧ plainE e2 = true ∧ f a e = true ∧ f b e2 = true := by
      have h := h.2
      unfold chC2S at h
      split at h
      · simp only [Bool.and_eq_true, decide_eq_true_eq] at h
        obtain ⟨⟨⟨⟨⟨⟨rfl, rfl⟩, h2⟩, h3⟩, h4⟩, h5⟩, h6⟩ := h
        exact ⟨_, _, _, _, _, _, _, rfl, gl_of h2, h3, h4, h5, h6⟩
      · cases h
    obtain ⟨p, e, e2, j, cp, kp, pos, rfl, h2, h3, h4, h5, h6⟩ := c2s
    refine PI.imp (pi_zipS h2 (g.bl _ (by decide)) (pa_cons (hf _ _ h5) (pa_cons (hf _ _ h6) pa_nil (star_plain h4)) (star_plain h3)) (star_plain h3) (stars_plain (by simp [h4]))) fun σ H R ⟨β, ee, mh, he, s, w⟩ => ?_
    simp only [evS] at w
    refine ⟨β, ee, mh, he, s, w.bind2 Ext.refl fun v mh1 β1 H1 w1 x1 s1 r1 f1 w => ⟨β1, ee, mh1, he.ext x1, s1, w.bind2 x1 fun u mh2 β2 H2 w2 x2 s2 r2 f2 w => ?_⟩⟩
    split at w
    · rename_i xs ys e1 e2
      obtain ⟨hl, w⟩ := w.ite
      obtain ⟨a1, vs, rfl, q1, q2⟩ := tupOf_ok (r1.ext x2) e1
      obtain ⟨a2, us, rfl, q3, q4⟩ := tupOf_ok r2 e2
      exact ⟨a1, a2, vs, us, rfl, q1, q3, w β2 H2 _ (x1.trans x2) s2 (src_zipS hl q1 q2 q3 q4) fun a m => by cases m⟩
    · exact False.elim w
theorem paired_zip {K : PySem.W.Frag} {β : List Addr} {H : Hp} : ∀ {xs ys : List PV} {vs us : List V} {ts : List Addr}, VRs K β H xs vs → VRs K β H ys us → Paired (fun (t : Addr) (q : V × V) => H t = some (.tup [q.1, q.2])) ts (vs.zip us) → VRs K β H (zipL xs ys) (ts.map V.ref)
  | [], _, _, _, _, h, _, p => by
    cases h
    simp only [List.zip_nil_left] at p
    cases p; rfl
  | x :: xs, [], _, _, _, h, g, p => by
    cases g
    simp only [List.zip_nil_right] at p
    cases p; rfl
  | x :: xs, y :: ys, _, _, _, h, g, p => by
    obtain ⟨v, t, rfl, h1, h2⟩ := h
    obtain ⟨u, t', rfl, g1, g2⟩ := g
    rw [List.zip_cons_cons] at p
    cases p with
    | cons e r => exact ⟨_, _, rfl, ⟨_, _, rfl, SqT.of e, _, _, rfl, h1, _, _, rfl, g1, rfl⟩, paired_zip h2 g2 r⟩
theorem se_lzip (g : PGood cv E F G N fn gn k X) {a b : CE} {e e2 : PySem.Expr} {p p2 pos pos2 : Pos} (h1 : Gl X "list") (h2 : Gl X "zip") (h3 : plainE e = true) (h4 : plainE e2 = true) (ha : PE X e (rdE X.K cv E F G a)) (hb : PE X e2 (rdE X.K cv E F G b)) :
    PE X (.Call (.Name "list" p) [.Call (.Name "zip" p2) [e, e2] [] pos2] [] pos) (rdE X.K cv E F G (.lzip a b)) := by
  refine PE.imp (pe_lzip g.calm h1 (g.bl _ (by decide)) h2 (g.bl _ (by decide)) (pa_cons ha (pa_cons hb pa_nil (star_plain h4)) (star_plain h3)) (star_plain h3) (stars_plain (by simp [h4]))) fun σ H Q ⟨β, ee, mh, he, s, w⟩ => ?_
  simp only [ev] at w
  refine ⟨β, ee, mh, he, s, w.bind2 Ext.refl fun v mh1 β1 H1 w1 x1 s1 r1 f1 w => ⟨β1, ee, mh1, he.ext x1, s1, w.bind2 x1 fun u mh2 β2 H2 w2 x2 s2 r2 f2 w => ?_⟩⟩
  split at w
  · rename_i xs ys e1 e2
    obtain ⟨a1, vs, rfl, q1, q2⟩ := tupOf_ok (r1.ext x2) e1
    obtain ⟨a2, us, rfl, q3, q4⟩ := tupOf_ok r2 e2
    refine ⟨a1, a2, vs, us, rfl, q1, q3, fun H' p ts k1 k2 k3 k4 => ?_⟩
    have x3 : Ext β2 H2 β2 H' := ⟨List.prefix_refl _, fun a k h => h.some (k1 a), fun a o _ h => k1 a o h, fun a m n => absurd m n, fun a h => by
      cases hh : H2 a with
      | none => rfl
      | some o => rw [k1 a o hh] at h; cases h⟩
    have s3 : Sim X.K β2 H' mh2 := s2.ext x3 fun a m => by
      obtain ⟨o, ho⟩ := s2.held m
      rw [ho, k1 a o ho]
    have x12 := x1.trans x2
    refine w β2 H' (.ref p) (x12.trans x3) s3 ⟨p, _, rfl, s2.notin k2, k3, paired_zip (q2.ext x3) (q4.ext x3) k4⟩ fun a m => ?_
    have e0 : a = p := by simpa [adR, tmp] using m
    subst e0
    exact x12.back _ k2
  · exact False.elim w
/-! ### comprehensions -/
abbrev rlC (K : PySem.W.Frag) (β : List Addr) (H : Hp) (xs : List PV) (w : V) : Prop := RR K β H (.lst xs) w
abbrev adC (xs : List PV) (w : V) : List Addr := adR (.lst xs) w
theorem comp_go {K : PySem.W.Frag} {cond : CL} {elt : CE} {t : Tgt} {p : Option (Nat × List PV) × List PV} {J : It} {β0 β1 : List Addr} {H0 H1 : Hp} {e : Env} {σ : L2.St} {own : List Nat} {D : Addr} {Q : VK} {mh1 : MH} (x01 : Ext β0 H0 β1 H1) (s1 : Sim K β1 H1 mh1) (he : EnvR K β1 H1 e σ) (hJ : Src K β1 H1 p J) (hD0 : H0 D = none) (hD : H1 D = none) (ho : ownT own t = true)
    (w : WG K cv E (rlC K) adC β0 H0 (compL (tsts F G cond) (ev F G elt) t p.1 (wipeE e own) p.2 [] mh1) Q) :
    ∃ W : Nat → Nat → Hp → Prop, (∃ m, W 0 m (upd H1 D (.lst []))) ∧ ∀ i m H, W i m H →
      (J.stop i H ∧ Q (.ref D) H) ∨ (J.go i H ∧ ∃ Nx : Hp → Prop, (∀ H', Nx H' → ∃ m', m' < m ∧ W (i + 1) m' H') ∧ ∀ x H', J.yld i H x H' → gT K t x (wipe σ own) H' fun σ2 H2 => wipe σ2 own = wipe σ own ∧ rdTs K cv E0' F G cond σ2 H2 fun b H3 =>
        if b = true then rdE K cv E0' F G elt σ2 H3 fun y H4 => ∃ acc, H4 D = some (.lst acc) ∧ acc.length < sizeLine ∧ Nx (upd H4 D (.lst (acc ++ [y]))) else Nx H3) := by
  -- behind i items: the list so far, and what is left of the run
  let W : Nat → Nat → Hp → Prop := fun i m H => m = p.2.length - i ∧ i ≤ p.2.length ∧ ∃ β mh acc av, Ext β1 H1 β H ∧ Sim K β H mh ∧ H D = some (.lst av) ∧ D ∉ β ∧ VRs K β H acc av ∧
    WG K cv E (rlC K) adC β0 H0 (compL (tsts F G cond) (ev F G elt) t p.1 (wipeE e own) (p.2.drop i) acc mh) Q
  refine ⟨W, ⟨p.2.length, by simp, Nat.zero_le _, β1, mh1, [], [], Ext.laid hD, s1.laid hD, upd_same, s1.notin hD, rfl, by simpa using w⟩, ?_⟩
  rintro i m H ⟨rfl, hi, β, mh, acc, av, x1, s, hv, hb, va, w⟩
  by_cases hlt : i < p.2.length
  · have hg : p.2[i]? = some p.2[i] := List.getElem?_eq_getElem hlt
    rw [List.drop_eq_getElem_cons hlt] at w
    simp only [compL] at w
    obtain ⟨hl, w⟩ := w.ite
    obtain ⟨go, yl⟩ := (hJ i β H mh x1 s hl).1 _ hg
    refine .inr ⟨go, fun H' => W (i + 1) (p.2.length - (i + 1)) H', fun H' h' => ⟨_, by omega, h'⟩, fun v H' y => ?_⟩
    obtain ⟨x2, s2, vx⟩ := yl v H' y
    obtain ⟨e', hs, w⟩ := w.opt
    have hv2 := x2.keep D _ hb hv
    have va2 := va.ext x2
    have he2 : EnvR K β H' e σ := (he.ext x1).ext x2
    refine gT_ok (he2.wipe own) vx hs fun σ2 he3 hw => ⟨by rw [hw own ho, wipe_wipe], ?_⟩
    have x12 := x1.trans x2
    refine ⟨β, e', mh, he3, s2, w.bindC2 (x01.trans x12) fun c mh3 β3 H3 c' x3 s3 r3 f3 w => ?_⟩
    cases r3
    have hb3 : D ∉ β3 := fun m => by
      have := x3.new D m hb
      rw [hv2] at this; cases this
    have hv3 := x3.keep D _ hb hv2
    have va3 := va2.ext x3
    have x13 := x12.trans x3
    cases c with
    | false =>
      simp only [Bool.false_eq_true, if_false] at w ⊢
      exact ⟨rfl, hlt, β3, mh3, acc, av, x13, s3, hv3, hb3, va3, w⟩
    | true =>
      simp only [if_true] at w ⊢
      refine ⟨β3, e', mh3, he3.ext x3, s3, w.bindC2 (x01.trans x13) fun r mh4 β4 H4 u x4 s4 r4 f4 w => ?_⟩
      obtain ⟨hz, w⟩ := w.ite
      have hb4 : D ∉ β4 := fun m => by
        have := x4.new D m hb3
        rw [hv3] at this; cases this
      have hv4 := x4.keep D _ hb3 hv3
      have va4 := va3.ext x4
      obtain ⟨β5, x5, s5, v5, p5, n5⟩ := WV.fix r4 x4 s4 f4
      have hb5 : D ∉ β5 := fun m => by
        have := x5.new D m hb3
        rw [hv3] at this; cases this
      have nt : ∀ k, ¬ FA H4 D k := fun k => rd_lst hv4
      refine ⟨av, hv4, by rw [va4.length, ← line_eq]; exact hz, rfl, hlt, β5, _, _, _, (x13.trans x5).over hD hb5 hv4 nt, s5.over hb5 nt, upd_same, hb5, ?_, w⟩
      exact ((va4.wk (Wk.track p5)).wk (wk_over nt)).append ⟨_, _, rfl, v5.wk (wk_over nt), rfl⟩
  · have e0 : i = p.2.length := by omega
    subst e0
    rw [List.drop_length] at w
    simp only [compL] at w
    obtain ⟨hl, w⟩ := w.ite
    refine .inl ⟨(hJ _ β H mh x1 s hl).2 (Nat.le_refl _), ?_⟩
    refine w β H (.ref D) (x01.trans x1) s ⟨D, av, rfl, hb, hv, va⟩ fun a m => ?_
    have : a = D := by simpa [adC, adR, tmp] using m
    rw [this]; exact hD0
theorem own_map {N : List Str} {own : List Nat} (h : (own.filterMap fun i => (N[i]?).map fun y => (y, i)).map (·.2) = own) : (own.filterMap fun i => (N[i]?).map fun y => (y, i)).map (·.2) = own := h
theorem se_lc (g : PGood cv E F G N fn gn k X) {elt : CE} {t : Tgt} {src : CSrc} {cs : CL} {own : List Nat} {x tg it : PySem.Expr} {ifs : List PySem.Expr} {bsc : Scope} {pos : Pos} (hpl : plainE it = true ∨ ∀ x, foldedSetIterable it X.env x = pure x)
    (hb : blkC N X.env.scope bsc (own.filterMap fun i => (N[i]?).map fun y => (y, i)) = true) (hm : (own.filterMap fun i => (N[i]?).map fun y => (y, i)).map (·.2) = own) (ho : ownT own t = true)
    (hsrc : PI X tg it (rdS' X.K cv E F G src)) (ht : chT isLocal N (relS bsc X.env.scope) t tg = true)
    (he : ∀ (s : Shared) (H : Hp) (C : Addr) (cl : List (Str × Addr)) (fp : List Addr), PE (X.blk s H bsc (compEnvC bsc cl C X.env) fp) x (rdE X.K cv E0' F G elt))
    (hcs : ∀ (s : Shared) (H : Hp) (C : Addr) (cl : List (Str × Addr)) (fp : List Addr), PTs (X.blk s H bsc (compEnvC bsc cl C X.env) fp) ifs (rdTs X.K cv E0' F G cs)) :
    PE X (.ListComp x [⟨tg, it, ifs, 0⟩] bsc pos) (rdE X.K cv E F G (.lc elt t src cs own)) := by
  have key := pe_lc (own := own.filterMap fun i => (N[i]?).map fun y => (y, i)) (g := gT X.K t) (pos := pos) g.calm (g.names ▸ g.nd) hsrc (by rw [g.names]; exact blkOk_by hb)
    (fun s H C cl fp => pg_ok (X := X.blk s H bsc (compEnvC bsc cl C X.env) fp) (N := N) (loc := isLocal) g.calm g.names g.nd (fun y hy => ⟨.inl (loc_local hy), .inr (loc_local hy)⟩) ht) hcs he
    (by rcases hpl with h | h; exact fold_plain h; exact h)
  rw [hm] at key
  refine PE.imp key fun σ H Q ⟨β, e, mh, hee, s, w⟩ => ?_
  simp only [ev] at w
  refine ⟨β, e, mh, hee, s, w.bind2 Ext.refl fun p mh1 β1 H1 J x1 s1 r1 f1 w => ?_⟩
  intro D hD
  refine comp_go (E := E) (β0 := β) (H0 := H) x1 s1 (hee.ext x1) r1 (x1.back D hD) hD ho (Q := Q) ?_
  -- the list that is told
  cases hh : compL (tsts F G cs) (ev F G elt) t p.1 (wipeE e own) p.2 [] mh1 with
  | ok xs mh2 => rw [hh] at w; exact w
  | exc c fs mh2 => rw [hh] at w; exact w
  | bad => rw [hh] at w; exact w
/-! ### all expressions -/
def SoundE (cv : Nat → Value) (F : Nat → List PV → MH → Res RV) (G : List PV) (N fn gn : List Str) (k n : Nat) : Prop :=
  ∀ (E : XK) (X : Cx), PGood cv E F G N fn gn k X → ∀ (c : CE) (e : PySem.Expr), chE N fn gn n X.env.scope c e = true → PE X e (rdE X.K cv E F G c)
def SoundT (cv : Nat → Value) (F : Nat → List PV → MH → Res RV) (G : List PV) (N fn gn : List Str) (k n : Nat) : Prop :=
  ∀ (E : XK) (X : Cx), PGood cv E F G N fn gn k X → ∀ (c : CE) (e : PySem.Expr), chTe N fn gn n X.env.scope c e = true → PT X e (rdT X.K cv E F G c)
def SoundTs (cv : Nat → Value) (F : Nat → List PV → MH → Res RV) (G : List PV) (N fn gn : List Str) (k n : Nat) : Prop :=
  ∀ (E : XK) (X : Cx), PGood cv E F G N fn gn k X → ∀ (c : CL) (es : List PySem.Expr), chTs N fn gn n X.env.scope c es = true → PTs X es (rdTs X.K cv E F G c)
theorem soundE_succ {n : Nat} (ihE : SoundE cv F G N fn gn k n) (ihT : SoundT cv F G N fn gn k n) (ihS : SoundTs cv F G N fn gn k n) : SoundE cv F G N fn gn k (n + 1) := by
  intro E X g c e h
  have hu := g.u64
  have hf : ∀ c e, chE N fn gn n X.env.scope c e = true → PE X e (rdE X.K cv E F G c) := ihE E X g
  unfold chE at h
  split at h
  · exact PE.imp pe_non fun σ H Q ⟨β, e, mh, he, s, w⟩ => WV.pv w s rfl
  · rw [beq_iff_eq] at h; subst h
    exact PE.imp pe_bl fun σ H Q ⟨β, e, mh, he, s, w⟩ => WV.pv w s rfl
  · rw [beq_iff_eq] at h; subst h
    exact PE.imp pe_int fun σ H Q ⟨β, e, mh, he, s, w⟩ => WV.pv w s rfl
  · rw [beq_iff_eq] at h; subst h
    refine PE.imp pe_str fun σ H Q ⟨β, e, mh, he, s, w⟩ => WV.pv w s ?_
    simp [VR, toS]
  · simp only [Bool.and_eq_true, decide_eq_true_eq] at h
    exact se_gl g h.1.1 (gl_of h.1.2) h.2
  · simp only [Bool.and_eq_true, decide_eq_true_eq] at h
    exact se_var (g.names ▸ h.1.1) (vis_of h.1.2) h.2
  · simp only [Bool.and_eq_true, beq_iff_eq] at h
    obtain ⟨⟨rfl, h1⟩, h2⟩ := h
    exact se_bop (hf _ _ h1) (hf _ _ h2)
  · exact se_neg (hf _ _ h)
  · simp only [Bool.and_eq_true, beq_iff_eq] at h
    obtain ⟨⟨⟨rfl, h1⟩, h2⟩, h3⟩ := h
    exact se_cmp hu (hf _ _ h2) (hf _ _ h3) h1
  · simp only [Bool.and_eq_true, beq_iff_eq] at h
    obtain ⟨⟨⟨⟨⟨⟨rfl, rfl⟩, h1⟩, h2⟩, h3⟩, h4⟩, h5⟩ := h
    exact se_cmp2 hu (hf _ _ h3) (hf _ _ h4) (hf _ _ h5) h2
  · exact se_boolop hf (isAnd := true) h
  · exact se_boolop hf (isAnd := false) h
  · exact se_not (hf _ _ h)
  · simp only [Bool.and_eq_true] at h
    exact se_ife (ihT E X g _ _ h.1.1) (hf _ _ h.1.2) (hf _ _ h.2)
  · exact se_tup (pa_ok hf h)
  · exact se_lst (pa_ok hf h)
  · simp only [Bool.and_eq_true, decide_eq_true_eq] at h
    exact se_dct hf h.2 h.1.1.1 h.1.1.2 h.1.2
  · simp only [Bool.and_eq_true] at h
    exact se_slc (hf _ _ h.1.1) (so_ok hf h.1.2) (so_ok hf h.2)
  · simp only [Bool.and_eq_true] at h
    exact se_idx hu (hf _ _ h.1.2) (hf _ _ h.2) h.1.1
  · simp only [Bool.and_eq_true, decide_eq_true_eq] at h
    obtain ⟨⟨⟨⟨⟨rfl, h1⟩, rfl⟩, h2⟩, h3⟩, h4⟩ := h
    exact se_isi g (hf _ _ h4) h3 _ (gl_of h1) (gl_of h2)
  · simp only [Bool.and_eq_true, decide_eq_true_eq] at h
    obtain ⟨⟨⟨rfl, h1⟩, h2⟩, h3⟩ := h
    exact se_bi g _ (gl_of h1) h2 (pa_ok hf h3)
  · rename_i j es f p xs p3
    simp only [Bool.and_eq_true, decide_eq_true_eq] at h
    obtain ⟨⟨⟨⟨h0, h1⟩, h2⟩, h3⟩, h4⟩ := h
    refine se_call g h0 (gl_of h1) h2 h3 (pa_ok hf h4) fun e0 => ?_
    subst e0
    cases es with
    | nil => rfl
    | cons _ _ => simp [chL] at h4
  · simp only [Bool.and_eq_true, decide_eq_true_eq] at h
    obtain ⟨⟨⟨⟨⟨rfl, h1⟩, h2⟩, h3⟩, h4⟩, h5⟩ := h
    exact se_append (hf _ _ h4) (pa_ok (f := fun c e => chE N fn gn n X.env.scope c e) hf (by simp [chL, h2, h5])) h1 h2 h3
  · simp only [Bool.and_eq_true, decide_eq_true_eq] at h
    obtain ⟨⟨⟨⟨⟨rfl, h1⟩, h2⟩, h3⟩, h4⟩, h5⟩ := h
    exact se_extend (hf _ _ h4) (pa_ok (f := fun c e => chE N fn gn n X.env.scope c e) hf (by simp [chL, h2, h5])) h1 h2 h3
  · simp only [Bool.and_eq_true, decide_eq_true_eq] at h
    obtain ⟨⟨⟨rfl, h1⟩, h2⟩, h3⟩ := h
    exact se_pop (hf _ _ h3) h1 h2
  · simp only [Bool.and_eq_true, decide_eq_true_eq] at h
    obtain ⟨⟨⟨⟨⟨rfl, h1⟩, h2⟩, h3⟩, h4⟩, h5⟩ := h
    exact se_get1 hu (hf _ _ h4) (hf _ _ h5) h1 h2 h3
  · simp only [Bool.and_eq_true, decide_eq_true_eq] at h
    obtain ⟨⟨⟨⟨⟨⟨⟨rfl, h1⟩, h2⟩, h2'⟩, h3⟩, h4⟩, h5⟩, h6⟩ := h
    exact se_get2 hu (hf _ _ h4) (hf _ _ h5) (hf _ _ h6) h1 h2 h2' h3
  · simp only [Bool.and_eq_true, decide_eq_true_eq] at h
    obtain ⟨⟨⟨⟨⟨⟨⟨rfl, h1⟩, rfl⟩, h2⟩, h3⟩, h4⟩, h5⟩, h6⟩ := h
    exact se_lzip g (gl_of h1) (gl_of h2) h3 h4 (hf _ _ h5) (hf _ _ h6)
  · rename_i elt t src cs own x tg it ifs ia bsc pos
    simp only [Bool.and_eq_true, decide_eq_true_eq, beq_iff_eq] at h
    obtain ⟨⟨⟨⟨⟨⟨⟨⟨rfl, h1⟩, h2⟩, h3⟩, h4⟩, h5⟩, h6⟩, h7⟩, h8⟩ := h
    refine se_lc g (.inl h1) h2 h3 h4 (src_ok g hf (fun is e0 => ?_) h6) h5 (fun s H C cl fp => ?_) (fun s H C cl fp => ?_)
    · subst e0
      cases tg <;> first | exact ⟨_, _, _, rfl⟩ | simp [chT] at h5
    · exact ihE E0' _ (g.blk s H bsc _ fp) _ _ h7
    · exact ihS E0' _ (g.blk s H bsc _ fp) _ _ h8
  · cases h
theorem plain_ev {c : CE} (hc : isPT c = true) {e : Env} {mh : MH} : tst F G c e mh = (ev F G c e mh).bind fun r h1 => ofOpt (truth h1 r) h1 := by
  cases c with
  | non => rfl
  | bl b => rfl
  | int i => rfl
  | str s => rfl
  | gl j => simp only [tst, ev]; cases G[j]? <;> rfl
  | var i => simp only [tst, ev]; split <;> rfl
  | idx a b =>
    simp only [tst, ev]
    cases ev F G a e mh with
    | ok x h1 =>
      simp only [Res.bind]
      cases ev F G b e h1 with
      | ok y h2 => simp only [Res.bind]; cases getIx h2 x y <;> rfl
      | exc _ _ _ => rfl
      | bad => rfl
    | exc _ _ _ => rfl
    | bad => rfl
  | call f es =>
    simp only [tst, ev]
    cases evL F G es e mh <;> rfl
  | bi b es =>
    simp only [tst, ev]
    cases evL F G es e mh with
    | ok x h1 => simp only [Res.bind]; cases callB b h1 x <;> rfl
    | exc _ _ _ => rfl
    | bad => rfl
  | isi a t =>
    simp only [tst, ev]
    cases ev F G a e mh with
    | ok x h1 => simp only [Res.bind]; cases isTy h1 t x <;> rfl
    | exc _ _ _ => rfl
    | bad => rfl
  | _ => cases hc
theorem st_plain {c : CE} {e : PySem.Expr} (hc : isPT c = true) (hp : plainT e = true) (h : PE X e (rdE X.K cv E F G c)) : PT X e (rdT X.K cv E F G c) := by
  refine PT.imp (pt_truth h (true_plain hp)) fun σ H Q ⟨β, ee, mh, he, s, w⟩ => ?_
  rw [plain_ev hc] at w
  refine ⟨β, ee, mh, he, s, w.bind2 Ext.refl fun v mh1 β1 H1 w1 x1 s1 r1 f1 w => ?_⟩
  obtain ⟨b, hb, w⟩ := w.ofOpt
  exact ⟨b, truth_ok s1 r1 hb, WB.is2 w x1 s1⟩
theorem soundT_succ {n : Nat} (ihE : SoundE cv F G N fn gn k n) (ihT : SoundT cv F G N fn gn k n) : SoundT cv F G N fn gn k (n + 1) := by
  intro E X g c e h
  have hu := g.u64
  have hf : ∀ c e, chE N fn gn n X.env.scope c e = true → PE X e (rdE X.K cv E F G c) := ihE E X g
  have ht : ∀ c e, chTe N fn gn n X.env.scope c e = true → PT X e (rdT X.K cv E F G c) := ihT E X g
  unfold chTe at h
  split at h
  · exact (st_boolop ht (isAnd := true) h).pt
  · exact (st_boolop ht (isAnd := false) h).pt
  · exact st_not (ht _ _ h)
  · simp only [Bool.and_eq_true, beq_iff_eq] at h
    obtain ⟨⟨⟨rfl, h1⟩, h2⟩, h3⟩ := h
    exact st_cmp hu (hf _ _ h2) (hf _ _ h3) h1
  · simp only [Bool.and_eq_true, beq_iff_eq] at h
    obtain ⟨⟨⟨⟨⟨⟨rfl, rfl⟩, h1⟩, h2⟩, h3⟩, h4⟩, h5⟩ := h
    exact st_cmp2 hu (hf _ _ h3) (hf _ _ h4) (hf _ _ h5) h2
  · simp only [Bool.and_eq_true] at h
    exact st_plain h.1.2 h.1.1 (hf _ _ h.2)
theorem soundTs_succ {n : Nat} (ihT : SoundT cv F G N fn gn k n) : SoundTs cv F G N fn gn k (n + 1) := by
  intro E X g c es h
  match c, es, h with
  | .nil, [], _ =>
    refine ⟨fun pins s σ H Q I ⟨β, e, mh, he, sm, w⟩ => pts_nil.run pins s σ H Q I ?_⟩
    simp only [tsts] at w
    exact WB.is2 w Ext.refl sm
  | .cons c .nil, [e], h =>
    have h : chTe N fn gn n X.env.scope c e = true := by simpa [chTs] using h
    refine ⟨fun pins s σ H Q I ⟨β, e, mh, he, sm, w⟩ => (pts_one (ihT E X g _ _ h)).run pins s σ H Q I ⟨β, e, mh, he, sm, ?_⟩⟩
    simp only [tsts] at w
    exact w
  | .nil, _ :: _, h => simp [chTs] at h
  | .cons _ .nil, [], h => simp [chTs] at h
  | .cons _ .nil, _ :: _ :: _, h => simp [chTs] at h
  | .cons _ (.cons _ _), _, h => simp [chTs] at h
theorem sound_all : ∀ n : Nat, SoundE cv F G N fn gn k n ∧ SoundT cv F G N fn gn k n ∧ SoundTs cv F G N fn gn k n
  | 0 => ⟨fun _ _ _ _ _ h => by simp [chE] at h, fun _ _ _ _ _ h => by simp [chTe] at h, fun _ _ _ _ _ h => by simp [chTs] at h⟩
  | n + 1 => let ⟨a, b, c⟩ := sound_all n; ⟨soundE_succ a b c, soundT_succ a b, soundTs_succ b⟩
end
end Pf
/-! PfStm: statements. -/
namespace Pf
open PySem PySem.Spec PyProof.Rows L2
/-! ### the checker -/
def isComp : PySem.Expr → Bool
  | .ListComp .. => true
  | .SetComp .. => true
  | .DictComp .. => true
  | _ => false
theorem swaps_plain {e : PySem.Expr} {t : Option PySem.Expr} {l : Nat} {env : PySem.Env} (h : isComp e = false) : swapsWith e t l env = pure false := by
  cases e <;> first | rfl | cases h
theorem swaps_other {e t : PySem.Expr} {l : Nat} {env : PySem.Env} (h : ∀ x p, t ≠ .Name x p) : swapsWith e (some t) l env = pure false := by
  unfold swapsWith
  cases e <;> first | rfl | (cases t <;> first | rfl | exact absurd rfl (h _ _))
/-- a list comprehension whose list goes to the name itself -/
def lcSwap (sc : Scope) (x : Str) (p : Pos) : PySem.Expr → Bool
  | .ListComp _ _ bsc vp => isLocal sc x && p.line == vp.line && !(bsc.names.any fun (n, k) => n == x && (k == .local || k == .cell))
  | _ => false
def isTupE : PySem.Expr → Bool
  | .Tuple .. => true
  | _ => false
/-- a tuple that is folded to a constant -/
def foldT : PySem.Expr → Bool
  | .Tuple vs _ _ => vs.all (foldedForSure 8)
  | _ => true
theorem swapped_none {ts : List PySem.Expr} {e : PySem.Expr} {env : PySem.Env} (h : foldT e = true) : swappedStores ts e env = pure none := by
  unfold swappedStores
  split
  · rename_i h2
    split at h2
    · cases h2
      simp only [foldT] at h
      rw [h]
      simp only [if_true]
      split <;> first | rfl | (split <;> first | rfl | (split <;> rfl))
    · cases h2
      simp only [foldT] at h
      rw [h]
      simp only [if_true]
      split <;> first | rfl | (split <;> first | rfl | (split <;> rfl))
    · cases h2
  · rfl
theorem foldT_of {e : PySem.Expr} (h : isTupE e = false) : foldT e = true := by
  cases e <;> first | rfl | cases h
section
variable (N fn gn : List Str)
/-- statements, by fuel -/
def chStL (f : CS → PySem.Stmt → Bool) : CSL → List PySem.Stmt → Bool
  | .nil, [] => true
  | .cons c r, s :: ss => f c s && chStL f r ss
  | _, _ => false
def chSt (sc : Scope) : Nat → CS → PySem.Stmt → Bool
  | 0, _, _ => false
  | n + 1, c, s => match c, s with
    | .never, _ => true
    | .asg i a, .Assign [.Name x p] e pos => decide (N[i]? = some x) && isLoc sc x && chE N fn gn n sc a e && (!isComp e || lcSwap sc x p e && p.line == pos.line)
    | .tasg is a, .Assign [.Tuple ts k tp] e pos => chG isLoc N sc is ts && foldT e && chE N fn gn n sc a e
    | .par i j a b, .Assign [.Tuple [.Name x px, .Name y py] kt pt] (.Tuple [e, g] k2 pt2) pos => decide (N[i]? = some x) && decide (N[j]? = some y) && decide (i ≠ j) && decide (x ≠ y) && isLocal sc x && isLocal sc y && py.line == px.line &&
        plainE e && plainE g && !([e, g].all (foldedForSure 8)) && !([e, g].all (constantsAlone 8)) && chE N fn gn n sc a e && chE N fn gn n sc b g
    | .sidx o k a, .Assign [.Subscript x y tp] e pos => plainE y && !isTupE e && chE N fn gn n sc o x && chE N fn gn n sc k y && chE N fn gn n sc a e
    | .aug i op a, .AugAssign (.Name x p) o e pos => decide (N[i]? = some x) && isLoc sc x && op == o && chE N fn gn n sc a e
    | .drop a, .Expr e pos => !isComp e && chE N fn gn n sc a e
    | .pass, .Expr (.Constant (.str _) _ _) _ => true
    | .pass, .Pass _ => true
    | .brk, .Break _ => true
    | .cont, .Continue _ => true
    | .ret a, .Return (some e) _ => chE N fn gn n sc a e
    | .retN, .Return none _ => true
    | .ifs c a b, .If e x y _ => chTe N fn gn n sc c e && chStL (chSt sc n) a x && chStL (chSt sc n) b y
    | .whl c b, .While e x [] _ => chTe N fn gn n sc c e && chStL (chSt sc n) b x
    | .fors t src b, .For tg it x [] _ => plainE it && chT isLoc N sc t tg && chS (chE N fn gn n sc) sc t src it && chStL (chSt sc n) b x
    | _, _ => false
end
/-! ### how a statement ends -/
inductive FV where
  | nx (σ : L2.St) | bk (σ : L2.St) | ct (σ : L2.St) | rt (w : V)
def rlF (K : PySem.W.Frag) (β : List Addr) (H : Hp) : Fl → FV → Prop
  | .nx e, .nx σ => EnvR K β H e σ
  | .brk e, .bk σ => EnvR K β H e σ
  | .cont e, .ct σ => EnvR K β H e σ
  | .ret r, .rt w => RR K β H r w
  | _, _ => False
def adF : Fl → FV → List Addr
  | .ret r, .rt w => adR r w
  | _, _ => []
def endQ (D : Ends) : FV → Hp → Prop
  | .nx σ, H => D.nx σ H
  | .bk σ, H => D.bk σ H
  | .ct σ, H => D.ct σ H
  | .rt w, H => D.rt w H
abbrev WF (K : PySem.W.Frag) (cv : Nat → Value) (E : XK) (β : List Addr) (H : Hp) (r : Res Fl) (D : Ends) := WG K cv E (rlF K) adF β H r (endQ D)
section
variable (K : PySem.W.Frag) (cv : Nat → Value) (E : XK) (F : Nat → List PV → MH → Res RV) (G : List PV)
def rdS (c : CS) : TS := fun D σ H => ∃ β e mh, EnvR K β H e σ ∧ Sim K β H mh ∧ WF K cv E β H (ex F G c e mh) D
def rdSs (c : CSL) : TS := fun D σ H => ∃ β e mh, EnvR K β H e σ ∧ Sim K β H mh ∧ WF K cv E β H (exs F G c e mh) D
end
section
variable {K : PySem.W.Frag} {cv : Nat → Value} {E : XK} {β β1 : List Addr} {H H1 : Hp} {mh : MH} {D : Ends} {e : Env} {σ : L2.St}
theorem WF.nx (w : WF K cv E β H (.ok (.nx e) mh) D) (x : Ext β H β1 H1) (s : Sim K β1 H1 mh) (h : EnvR K β1 H1 e σ) : D.nx σ H1 := w β1 H1 (.nx σ) x s h fun a m => by cases m
theorem WF.rt {r : RV} {v : V} (w : WF K cv E β H (.ok (.ret r) mh) D) (x : Ext β H β1 H1) (s : Sim K β1 H1 mh) (h : RR K β1 H1 r v) (f : ∀ a, a ∈ adR r v → H a = none) : D.rt v H1 := w β1 H1 (.rt v) x s h f
end
/-- the context of a def's own body -/
structure SGood (cv : Nat → Value) (E : XK) (F : Nat → List PV → MH → Res RV) (G : List PV) (N fn gn : List Str) (k : Nat) (X : Cx) : Prop where
  pg : PGood cv E F G N fn gn k X
  fnT : ∀ x, X.fn x = true
  kind : X.env.scope.kind = .function
  po : PassesOwn (model X.prog X.w) X.A X.env X.xe
section
variable {cv : Nat → Value} {E : XK} {F : Nat → List PV → MH → Res RV} {G : List PV} {N fn gn : List Str} {k : Nat} {X : Cx}
theorem EnvR.trk {K : PySem.W.Frag} {β β' : List Addr} {H : Hp} {e : Env} {σ : L2.St} (h : EnvR K β H e σ) (p : β <+: β') : EnvR K β' H e σ :=
  ⟨h.1, fun i v q => let ⟨w, a, b⟩ := h.2 i v q; ⟨w, a, b.wk (Wk.track p)⟩⟩
/-- what goes to a name -/
theorem asg_end {K : PySem.W.Frag} {β0 β1 : List Addr} {H0 H1 : Hp} {e : Env} {σ : L2.St} {i : Nat} {r : RV} {v : V} {mh1 : MH} {D : Ends} (he : EnvR K β1 H1 e σ) (x1 : Ext β0 H0 β1 H1) (s1 : Sim K β1 H1 mh1) (r1 : RR K β1 H1 r v) (f1 : ∀ a, a ∈ adR r v → H0 a = none)
    (w : WF K cv E β0 H0 (.ok (.nx (e.set i (some (fix r mh1).1))) (fix r mh1).2) D) : D.nx (σ.set i (some v)) H1 := by
  obtain ⟨β2, x2, s2, v2, p2, n2⟩ := WV.fix r1 x1 s1 f1
  exact WF.nx w x2 s2 ((he.trk p2).set i v2)
theorem ss_asg (g : SGood cv E F G N fn gn k X) {i : Nat} {x : Str} {p pos : Pos} {a : CE} {e : PySem.Expr} (hi : N[i]? = some x) (hx : Loc X.env.scope x) (hs : swapsWith e (some (.Name x p)) pos.line X.env = pure false) (ha : PE X e (rdE X.K cv E F G a)) :
    PS X (.Assign [.Name x p] e pos) (rdS X.K cv E F G (.asg i a)) := by
  refine PS.imp (ps_set (i := i) (g.pg.names ▸ g.pg.nd) (g.pg.names ▸ hi) hx ha hs (.inl (g.fnT x))) fun D σ H ⟨β, ee, mh, he, s, w⟩ => ?_
  simp only [ex] at w
  exact ⟨β, ee, mh, he, s, w.bind2 Ext.refl fun r mh1 β1 H1 v x1 s1 r1 f1 w => asg_end (he.ext x1) x1 s1 r1 f1 w⟩
/-- a list comprehension that goes to the name itself -/
theorem ss_asgLc (g : SGood cv E F G N fn gn k X) {i : Nat} {x : Str} {p pos : Pos} {elt : CE} {t : Tgt} {src : CSrc} {cs : CL} {own : List Nat} {y tg it : PySem.Expr} {ifs : List PySem.Expr} {bsc : Scope} {vp : Pos} (hi : N[i]? = some x) (hx : X.env.scope.names.lookup x = some .local)
    (hsw : swapsWith (.ListComp y [⟨tg, it, ifs, 0⟩] bsc vp) (some (.Name x p)) pos.line X.env = pure true) (hpl : plainE it = true)
    (hb : blkC N X.env.scope bsc (own.filterMap fun i => (N[i]?).map fun y => (y, i)) = true) (hm : (own.filterMap fun i => (N[i]?).map fun y => (y, i)).map (·.2) = own) (ho : ownT own t = true)
    (hsrc : PI X tg it (rdS' X.K cv E F G src)) (ht : chT isLocal N (relS bsc X.env.scope) t tg = true)
    (he : ∀ (s : Shared) (H : Hp) (C : Addr) (cl : List (Str × Addr)) (fp : List Addr), PE (X.blk s H bsc (compEnvC bsc cl C X.env) fp) y (rdE X.K cv E0' F G elt))
    (hcs : ∀ (s : Shared) (H : Hp) (C : Addr) (cl : List (Str × Addr)) (fp : List Addr), PTs (X.blk s H bsc (compEnvC bsc cl C X.env) fp) ifs (rdTs X.K cv E0' F G cs)) :
    PS X (.Assign [.Name x p] (.ListComp y [⟨tg, it, ifs, 0⟩] bsc vp) pos) (rdS X.K cv E F G (.asg i (.lc elt t src cs own))) := by
  have key := ps_setLc (i := i) (own := own.filterMap fun i => (N[i]?).map fun y => (y, i)) (g := gT X.K t) (pos := vp) (spos := pos) (py := p) g.pg.calm (g.pg.names ▸ g.pg.nd) (g.pg.names ▸ hi) hx hsw hsrc (by rw [g.pg.names]; exact blkOk_by hb)
    (fun s H C cl fp => pg_ok (X := X.blk s H bsc (compEnvC bsc cl C X.env) fp) (N := N) (loc := isLocal) g.pg.calm g.pg.names g.pg.nd (fun y hy => ⟨.inl (loc_local hy), .inr (loc_local hy)⟩) ht) hcs he (fold_plain hpl)
  rw [hm] at key
  refine PS.imp key fun D σ H ⟨β, e, mh, hee, s, w⟩ => ?_
  simp only [ex, ev] at w
  have w : WF X.K cv E β H ((evS F G src e mh).bind fun pr h1 => (compL (tsts F G cs) (ev F G elt) t pr.1 (wipeE e own) pr.2 [] h1).bind fun xs h2 => .ok (.nx (e.set i (some (fix (.lst xs) h2).1))) (fix (.lst xs) h2).2) D := by
    cases hh : evS F G src e mh with
    | ok pr h1 =>
      rw [hh] at w
      simp only [Res.bind] at w ⊢
      cases hh2 : compL (tsts F G cs) (ev F G elt) t pr.1 (wipeE e own) pr.2 [] h1 <;> rw [hh2] at w <;> exact w
    | exc c fs h2 => rw [hh] at w; exact w
    | bad => rw [hh] at w; exact w
  refine ⟨β, e, mh, hee, s, w.bind2 Ext.refl fun pr mh1 β1 H1 J x1 s1 r1 f1 w => ?_⟩
  intro Dl hD
  refine comp_go (E := E) (β0 := β) (H0 := H) x1 s1 (hee.ext x1) r1 (x1.back Dl hD) hD ho (Q := fun v H' => D.nx (σ.set i (some v)) H') ?_
  cases hh : compL (tsts F G cs) (ev F G elt) t pr.1 (wipeE e own) pr.2 [] mh1 with
  | ok xs mh2 =>
    rw [hh] at w
    exact fun β' H' v x2 s2 r2 f2 => asg_end (hee.ext x2) x2 s2 r2 f2 w
  | exc c fs mh2 => rw [hh] at w; exact w
  | bad => rw [hh] at w; exact w
theorem ss_tasg (g : SGood cv E F G N fn gn k X) {is : List Nat} {ts : List PySem.Expr} {kk : Nat} {tp pos : Pos} {a : CE} {e : PySem.Expr} (ht : chG isLoc N X.env.scope is ts = true) (hn : foldT e = true) (ha : PE X e (rdE X.K cv E F G a)) :
    PS X (.Assign [.Tuple ts kk tp] e pos) (rdS X.K cv E F G (.tasg is a)) := by
  have hg : PG X (.Tuple ts kk tp) (gT X.K (.tp is)) := pg_ok (N := N) (loc := isLoc) g.pg.calm g.pg.names g.pg.nd (fun y hy => ⟨loc_loc hy, .inl (g.fnT y)⟩) (by simpa [chT] using ht)
  refine PS.imp (ps_asg ha hg (by show swapsWith e (some (.Tuple ts kk tp)) pos.line X.env = pure false; exact swaps_other (fun x p z => by cases z)) (swapped_none hn) rfl) fun D σ H ⟨β, ee, mh, he, s, w⟩ => ?_
  simp only [ex] at w
  refine ⟨β, ee, mh, he, s, w.bind2 Ext.refl fun r mh1 β1 H1 v x1 s1 r1 f1 w => ?_⟩
  split at w
  · rename_i xs
    obtain ⟨e', hs, w⟩ := w.opt
    exact gT_ok (t := .tp is) (x := .tup xs) (he.ext x1) r1 hs fun σ' he' _ => WF.nx w x1 s1 he'
  · exact False.elim w
/-! ### o[k] = e -/
def rSet (K : PySem.W.Frag) : TSet := fun o i v H Q => ∃ (β0 β : List Addr) (H0 : Hp) (mh : MH) (x y : RV) (pv : PV) (mh' : MH), Ext β0 H0 β H ∧ Sim K β H mh ∧ RR K β H x o ∧ RR K β H y i ∧ VR K β H pv v ∧ setIx mh x y pv = some mh' ∧ ∀ H', Ext β0 H0 β H' → Sim K β H' mh' → Q H'
theorem pset_ok (hu : X.A.units + 64 < cLine) : PSet X (rSet X.K) := by
  intro pins s σ H o i v ov iv u Q I ro ri rv ⟨β0, β, H0, mh, x, y, pv, mh', x0, sm, rx, ry, hv, h, q⟩
  unfold setIx at h
  split at h
  · rename_i n kk
    obtain ⟨a, rfl, hn⟩ := rx
    cases ro
    split at h
    · rename_i xs ex
      split at h
      · rename_i j
        rw [Option.map_eq_some_iff] at h
        obtain ⟨m, hm, rfl⟩ := h
        obtain ⟨vs, g1, g2⟩ := sm.obj n a _ hn ex
        have nt : ∀ k, ¬ FA H a k := fun _ => rd_lst g1
        refine set_list pins s σ H (.ref a) i v _ iv u Q I rfl ri rv ⟨a, vs, j, m, rfl, ry, g1, by rw [g2.length]; exact hm, ?_⟩
        have wk : Wk β H β (upd H a (.lst (vs.set m v))) := wk_over nt
        exact q _ (x0.trans (Ext.put (ob := .lst []) (List.mem_of_getElem? hn) g1 nt)) (sm.put hn nt ⟨_, upd_same, (g2.wk wk).set m (hv.wk wk)⟩)
      · cases h
    · rename_i kvs ex
      split at h
      · rename_i hk
        cases h
        rw [Bool.and_eq_true] at hk
        obtain ⟨ks, g1, g2⟩ := sm.obj n a _ hn ex
        have nt : ∀ k, ¬ FA H a k := fun _ => rd_dK g1
        obtain ⟨j, rfl⟩ := isKey_iff hk.1
        have ei := keyP_V ry
        subst ei
        have hz : ks.length < sizeLine := by rw [g2.length, ← line_eq]; exact Nat.ble_eq.mp hk.2
        have nd : (ks.map (·.1)).Nodup := by
          obtain ⟨_, _, vs, rk, dd⟩ := dk_of I.hok g1
          rw [rk.keys]
          obtain ⟨_, _, _, _, _, _, _, _, nd⟩ := dd
          exact nd
        refine d_setItem (by omega) I (DPut.k g1 hz) ri rv fun s4 I4 => ⟨_, I4, ?_⟩
        have wk : Wk β H β (upd H a (.dK (putK ks j v))) := wk_over nt
        exact q _ (x0.trans (Ext.put (ob := .lst []) (List.mem_of_getElem? hn) g1 nt)) (sm.put hn nt ⟨_, upd_same, (g2.wk wk).put j (hv.wk wk) nd⟩)
      · cases h
    · cases h
  · cases h
theorem ss_sidx (g : SGood cv E F G N fn gn k X) {o a kx : CE} {x y e : PySem.Expr} {tp pos : Pos} (hp : plainE y = true) (hn : isTupE e = false) (ho : PE X x (rdE X.K cv E F G o)) (hk : PE X y (rdE X.K cv E F G kx)) (ha : PE X e (rdE X.K cv E F G a)) :
    PS X (.Assign [.Subscript x y tp] e pos) (rdS X.K cv E F G (.sidx o kx a)) := by
  have hg : PG X (.Subscript x y tp) (gSub (rdE X.K cv E F G o) (rdE X.K cv E F G kx) (rSet X.K)) := pg_sub ho hk (pset_ok g.pg.u64) (fun v => by cases y <;> first | rfl | cases hp)
  refine PS.imp (ps_asg ha hg (by show swapsWith e (some (.Subscript x y tp)) pos.line X.env = pure false; exact swaps_other (fun x p z => by cases z)) (swapped_none (foldT_of hn)) rfl) fun D σ H ⟨β, ee, mh, he, s, w⟩ => ?_
  simp only [ex] at w
  refine ⟨β, ee, mh, he, s, w.bind2 Ext.refl fun r mh1 β1 H1 v x1 s1 r1 f1 w => ?_⟩
  refine ⟨β1, ee, mh1, he.ext x1, s1, w.bind2 x1 fun ro mh2 β2 H2 vo x2 s2 r2 f2 w => ?_⟩
  refine ⟨β2, ee, mh2, (he.ext x1).ext x2, s2, w.bind2 (x1.trans x2) fun rk mh3 β3 H3 vk x3 s3 r3 f3 w => ?_⟩
  obtain ⟨mh4, h4, w4⟩ := w.opt
  have x13 := (x1.trans x2).trans x3
  obtain ⟨β4, x4, s4, v4, p4, n4⟩ := WV.fix (β := β) (H := H) ((r1.ext x2).ext x3) x13 s3 f1
  have r2' := r2.ext x3
  -- what is held now is no receiver's
  have pvs : ∃ n kk, ro = .pv (.ref n) ∧ rk = .pv kk := by
    unfold setIx at h4
    split at h4
    · exact ⟨_, _, rfl, rfl⟩
    · cases h4
  obtain ⟨n, kk, rfl, rfl⟩ := pvs
  have q2 : RR X.K β4 H3 (.pv (.ref n)) vo := VR.wk (Wk.track p4) r2'
  have q3 : RR X.K β4 H3 (.pv kk) vk := VR.wk (Wk.track p4) r3
  exact ⟨β, β4, H, _, _, _, _, mh4, x4, s4, q2, q3, v4, h4, fun H' x5 s5 => WF.nx w4 x5 s5 (he.ext x5)⟩
theorem ss_aug (g : SGood cv E F G N fn gn k X) {i : Nat} {op : Operator} {x : Str} {p pos : Pos} {a : CE} {e : PySem.Expr} (hi : N[i]? = some x) (hx : Loc X.env.scope x) (ha : PE X e (rdE X.K cv E F G a)) :
    PS X (.AugAssign (.Name x p) op e pos) (rdS X.K cv E F G (.aug i op a)) := by
  refine PS.imp (ps_aug (i := i) (g.pg.names ▸ g.pg.nd) (g.pg.names ▸ hi) hx ha (or_aug op) (.inl (g.fnT x))) fun D σ H ⟨β, ee, mh, he, s, w⟩ => ?_
  simp only [ex] at w
  split at w
  · rename_i v hv
    obtain ⟨u, h1, h2⟩ := he.2 i v hv
    refine ⟨u, h1, β, ee, mh, he, s, w.bind2 Ext.refl fun r mh1 β1 H1 y x1 s1 r1 f1 w => ?_⟩
    obtain ⟨z, hz, w⟩ := w.opt
    exact ⟨β1, .pv v, r, z, VR.ext x1 h2, r1, hz, fun wz hw => WF.nx w x1 s1 ((he.ext x1).set i hw)⟩
  · exact False.elim w
theorem ss_drop {a : CE} {e : PySem.Expr} {pos : Pos} (hn : isComp e = false) (ha : PE X e (rdE X.K cv E F G a)) : PS X (.Expr e pos) (rdS X.K cv E F G (.drop a)) := by
  refine PS.imp (ps_expr ha (swaps_plain hn)) fun D σ H ⟨β, ee, mh, he, s, w⟩ => ?_
  simp only [ex] at w
  exact ⟨β, ee, mh, he, s, w.bind2 Ext.refl fun r mh1 β1 H1 y x1 s1 r1 f1 w => WF.nx w x1 s1 (he.ext x1)⟩
theorem ss_ret {a : CE} {e : PySem.Expr} {pos : Pos} (ha : PE X e (rdE X.K cv E F G a)) : PS X (.Return (some e) pos) (rdS X.K cv E F G (.ret a)) := by
  refine PS.imp (ps_ret ha) fun D σ H ⟨β, ee, mh, he, s, w⟩ => ?_
  simp only [ex] at w
  exact ⟨β, ee, mh, he, s, w.bind2 Ext.refl fun r mh1 β1 H1 y x1 s1 r1 f1 w => WF.rt w x1 s1 r1 f1⟩
theorem ss_retN {pos : Pos} : PS X (.Return none pos) (rdS X.K cv E F G .retN) := PS.imp ps_retN fun D σ H ⟨β, ee, mh, he, s, w⟩ => by
  simp only [ex] at w
  exact WF.rt w Ext.refl s (show RR X.K β H (.pv .non) .non from rfl) fun a m => by cases m
theorem ss_if {c : CE} {a b : CSL} {e : PySem.Expr} {x y : List PySem.Stmt} {pos : Pos} (hc : PT X e (rdT X.K cv E F G c)) (ha : PSs X x (rdSs X.K cv E F G a)) (hb : PSs X y (rdSs X.K cv E F G b)) : PS X (.If e x y pos) (rdS X.K cv E F G (.ifs c a b)) := by
  refine PS.imp (ps_if hc ha hb) fun D σ H ⟨β, ee, mh, he, s, w⟩ => ?_
  simp only [ex] at w
  refine ⟨β, ee, mh, he, s, w.bind2 Ext.refl fun r mh1 β1 H1 y x1 s1 r1 f1 w => ?_⟩
  cases r1
  cases r with
  | true =>
    simp only [if_true] at w ⊢
    exact ⟨β1, ee, mh1, he.ext x1, s1, w.from x1⟩
  | false =>
    simp only [Bool.false_eq_true, if_false] at w ⊢
    exact ⟨β1, ee, mh1, he.ext x1, s1, w.from x1⟩
theorem sss_nil : PSs X [] (rdSs X.K cv E F G .nil) := PSs.imp pss_nil fun D σ H ⟨β, ee, mh, he, s, w⟩ => by
  simp only [exs] at w
  exact WF.nx w Ext.refl s he
theorem sss_cons {c : CS} {r : CSL} {st : PySem.Stmt} {sts : List PySem.Stmt} (h1 : PS X st (rdS X.K cv E F G c)) (h2 : PSs X sts (rdSs X.K cv E F G r)) : PSs X (st :: sts) (rdSs X.K cv E F G (.cons c r)) := by
  refine PSs.imp (pss_cons h1 h2) fun D σ H ⟨β, ee, mh, he, s, w⟩ => ?_
  simp only [exs] at w
  refine ⟨β, ee, mh, he, s, w.bind2 Ext.refl fun f mh1 β1 H1 fv x1 s1 r1 f1 w => ?_⟩
  cases f with
  | nx e1 =>
    cases fv with
    | nx σ1 => exact ⟨β1, e1, mh1, r1, s1, w.from x1⟩
    | _ => cases r1
  | brk e1 =>
    cases fv with
    | bk σ1 => exact w β1 H1 (.bk σ1) x1 s1 r1 f1
    | _ => cases r1
  | cont e1 =>
    cases fv with
    | ct σ1 => exact w β1 H1 (.ct σ1) x1 s1 r1 f1
    | _ => cases r1
  | ret r0 =>
    cases fv with
    | rt v => exact w β1 H1 (.rt v) x1 s1 r1 f1
    | _ => cases r1
theorem ss_whl (g : SGood cv E F G N fn gn k X) {c : CE} {b : CSL} {e : PySem.Expr} {x : List PySem.Stmt} {pos : Pos} (hc : PT X e (rdT X.K cv E F G c)) (hb : PSs X x (rdSs X.K cv E F G b)) : PS X (.While e x [] pos) (rdS X.K cv E F G (.whl c b)) := by
  refine PS.imp (ps_while g.po hc hb) fun D σ0 H0 ⟨β0, ee0, mh0, he0, s0, w0⟩ => ?_
  simp only [ex] at w0
  refine ⟨fun m σ H => ∃ β ee mh, Ext β0 H0 β H ∧ EnvR X.K β H ee σ ∧ Sim X.K β H mh ∧ WF X.K cv E β0 H0 (whlL (tst F G c) (exs F G b) m ee mh) D, ⟨_, β0, ee0, mh0, Ext.refl, he0, s0, w0⟩, ?_⟩
  rintro m σ H ⟨β, ee, mh, x0, he, s, w⟩
  cases m with
  | zero => exact False.elim w
  | succ m =>
    simp only [whlL] at w
    refine ⟨β, ee, mh, he, s, w.bind2 x0 fun kb mh1 β1 H1 kb' x1 s1 r1 f1 w => ?_⟩
    cases r1
    cases kb with
    | true =>
      simp only [if_true] at w ⊢
      refine ⟨fun σ' H' => ∃ β ee mh, Ext β0 H0 β H' ∧ EnvR X.K β H' ee σ' ∧ Sim X.K β H' mh ∧ WF X.K cv E β0 H0 (whlL (tst F G c) (exs F G b) m ee mh) D, fun σ' H' h' => ⟨m, Nat.lt_succ_self m, h'⟩, ?_⟩
      refine ⟨β1, ee, mh1, he.ext x1, s1, w.bind2 (x0.trans x1) fun f mh2 β2 H2 fv x2 s2 r2 f2 w => ?_⟩
      have x02 := (x0.trans x1).trans x2
      cases f with
      | nx e1 =>
        cases fv with
        | nx σ1 => exact ⟨β2, e1, mh2, x02, r2, s2, w⟩
        | _ => cases r2
      | brk e1 =>
        cases fv with
        | bk σ1 => exact WF.nx w x02 s2 r2
        | _ => cases r2
      | cont e1 =>
        cases fv with
        | ct σ1 => exact ⟨β2, e1, mh2, x02, r2, s2, w⟩
        | _ => cases r2
      | ret r0 =>
        cases fv with
        | rt v => exact w β2 H2 (.rt v) x02 s2 r2 fun a m => (x0.trans x1).back a (f2 a m)
        | _ => cases r2
    | false =>
      simp only [Bool.false_eq_true, if_false] at w ⊢
      exact WF.nx w (x0.trans x1) s1 (he.ext x1)
theorem ss_for (g : SGood cv E F G N fn gn k X) {t : Tgt} {src : CSrc} {b : CSL} {tg it : PySem.Expr} {x : List PySem.Stmt} {pos : Pos} (hpl : ∀ y, foldedSetIterable it X.env y = pure y) (hsrc : PI X tg it (rdS' X.K cv E F G src)) (ht : PG X tg (gT X.K t)) (hb : PSs X x (rdSs X.K cv E F G b)) :
    PS X (.For tg it x [] pos) (rdS X.K cv E F G (.fors t src b)) := by
  refine PS.imp (ps_for g.po g.pg.calm hsrc ht hb hpl) fun D σ0 H0 ⟨β0, ee0, mh0, he0, s0, w0⟩ => ?_
  simp only [ex] at w0
  refine ⟨β0, ee0, mh0, he0, s0, w0.bind2 Ext.refl fun p mh1 β1 H1 J x1 s1 hJ f1 w1 => ?_⟩
  let W : Nat → Nat → L2.St → Hp → Prop := fun i m σ H => m = p.2.length - i ∧ i ≤ p.2.length ∧ ∃ β ee mh, Ext β1 H1 β H ∧ EnvR X.K β H ee σ ∧ Sim X.K β H mh ∧ WF X.K cv E β0 H0 (forL (exs F G b) t p.1 (p.2.drop i) ee mh) D
  refine ⟨W, ⟨p.2.length, by simp, Nat.zero_le _, β1, ee0, mh1, Ext.refl, he0.ext x1, s1, by simpa using w1⟩, ?_⟩
  rintro i m σ H ⟨rfl, hi, β, ee, mh, x2, he, s, w⟩
  by_cases hlt : i < p.2.length
  · have hg : p.2[i]? = some p.2[i] := List.getElem?_eq_getElem hlt
    rw [List.drop_eq_getElem_cons hlt] at w
    simp only [forL] at w
    obtain ⟨hl, w⟩ := w.ite
    obtain ⟨go, yl⟩ := (hJ i β H mh x2 s hl).1 _ hg
    refine .inr ⟨go, fun σ' H' => W (i + 1) (p.2.length - (i + 1)) σ' H', fun σ' H' h' => ⟨_, by omega, h'⟩, fun v H' y => ?_⟩
    obtain ⟨x3, s3, vx⟩ := yl v H' y
    obtain ⟨e', hs, w⟩ := w.opt
    refine gT_ok (he.ext x3) vx hs fun σ2 he3 _ => ?_
    have x13 := x2.trans x3
    have x03 := x1.trans x13
    refine ⟨β, e', mh, he3, s3, w.bind2 x03 fun f mh4 β4 H4 fv x4 s4 r4 f4 w => ?_⟩
    have x04 := x03.trans x4
    cases f with
    | nx e1 =>
      cases fv with
      | nx σ1 => exact ⟨rfl, hlt, β4, e1, mh4, x13.trans x4, r4, s4, w⟩
      | _ => cases r4
    | brk e1 =>
      cases fv with
      | bk σ1 => exact WF.nx w x04 s4 r4
      | _ => cases r4
    | cont e1 =>
      cases fv with
      | ct σ1 => exact ⟨rfl, hlt, β4, e1, mh4, x13.trans x4, r4, s4, w⟩
      | _ => cases r4
    | ret r0 =>
      cases fv with
      | rt v => exact w β4 H4 (.rt v) x04 s4 r4 fun a m => x03.back a (f4 a m)
      | _ => cases r4
  · have e0 : i = p.2.length := by omega
    subst e0
    rw [List.drop_length] at w
    simp only [forL] at w
    obtain ⟨hl, w⟩ := w.ite
    exact .inl ⟨(hJ _ β H mh x2 s hl).2 (Nat.le_refl _), WF.nx w (x1.trans x2) s he⟩
theorem not_star {e : PySem.Expr} : plainE e = true → (match e with | .Starred .. => true | _ => false) = false := by
  intro h
  cases e <;> first | rfl | cases h
theorem swapped_two {x y : Str} {px py pt : Pos} {kt k2 : Nat} {pt2 : Pos} {e g : PySem.Expr} {env : PySem.Env} (hk : env.scope.kind = .function) (hx : env.scope.names.lookup x = some .local) (hy : env.scope.names.lookup y = some .local) (hl : (py.line == px.line) = true) (hne : x ≠ y)
    (h1 : plainE e = true) (h2 : plainE g = true) (h3 : ([e, g].all (foldedForSure 8)) = false) (h4 : ([e, g].all (constantsAlone 8)) = false) :
    swappedStores [.Tuple [.Name x px, .Name y py] kt pt] (.Tuple [e, g] k2 pt2) env = pure (some [x, y]) := by
  have hb : env.blockKind = .function := by unfold PySem.Env.blockKind; rw [hk]; rfl
  have s1 : ([e, g].any fun | .Starred .. => true | _ => false) = false := by
    have a1 := not_star h1
    have a2 := not_star h2
    simp only [List.any_cons, List.any_nil, Bool.or_false]
    rw [a1, a2]; rfl
  have e1 : (PySem.Env.kindOf env x == some .local) = true := by unfold PySem.Env.kindOf; rw [hx]; rfl
  have e2 : (PySem.Env.kindOf env y == some .local) = true := by unfold PySem.Env.kindOf; rw [hy]; rfl
  have e3 : (px.line == px.line) = true := by simp
  have ed : ([x, y].eraseDups).length = 2 := by
    have : (y == x) = false := by simpa using Ne.symm hne
    simp [List.eraseDups_cons, this]
  unfold swappedStores
  simp only [List.filterMap_cons, List.filterMap_nil, List.head?_cons, Option.map_some, Option.getD_some, PySem.Expr.pos, e1, e2, e3, hl, Bool.and_self, if_true, List.length_cons, List.length_nil, hb]
  refine (if_neg (by decide)).trans ((if_neg fun z => ?_).trans ?_)
  · have := s1.symm.trans z
    cases this
  · rw [ed, h3, h4]
    rfl
theorem isLocal_of {sc : Scope} {x : Str} (h : isLocal sc x = true) : sc.names.lookup x = some .local := loc_local h
theorem ss_par (g : SGood cv E F G N fn gn k X) {i j : Nat} {x y : Str} {px py pt pos : Pos} {kt k2 : Nat} {pt2 : Pos} {a b : CE} {e f : PySem.Expr} (hi : N[i]? = some x) (hj : N[j]? = some y) (hij : i ≠ j) (hne : x ≠ y) (hx : isLocal X.env.scope x = true) (hy : isLocal X.env.scope y = true) (hl : (py.line == px.line) = true)
    (h1 : plainE e = true) (h2 : plainE f = true) (h3 : ([e, f].all (foldedForSure 8)) = false) (h4 : ([e, f].all (constantsAlone 8)) = false) (ha : PE X e (rdE X.K cv E F G a)) (hb : PE X f (rdE X.K cv E F G b)) :
    PS X (.Assign [.Tuple [.Name x px, .Name y py] kt pt] (.Tuple [e, f] k2 pt2) pos) (rdS X.K cv E F G (.par i j a b)) := by
  refine PS.imp (ps_par g.pg.calm (g.pg.names ▸ g.pg.nd) (g.pg.names ▸ hi) (g.pg.names ▸ hj) hij (loc_local hx) (loc_local hy) (pa_cons ha (pa_cons hb pa_nil (star_plain h2)) (star_plain h1)) (swapped_two g.kind (loc_local hx) (loc_local hy) hl hne h1 h2 h3 h4) rfl) fun D σ H ⟨β, ee, mh, he, s, w⟩ => ?_
  simp only [ex] at w
  refine ⟨β, ee, mh, he, s, w.bind2 Ext.refl fun r mh1 β1 H1 v x1 s1 r1 f1 w => ⟨β1, ee, mh1, he.ext x1, s1, w.bind2 x1 fun q mh2 β2 H2 u x2 s2 r2 f2 w => ?_⟩⟩
  have x12 := x1.trans x2
  have nd : (tmps [r, q] [v, u]).Nodup := nodup2 r1 f2
  have rl : rlL X.K β2 H2 [r, q] [v, u] := ⟨⟨v, [u], rfl, r1.ext x2, u, [], rfl, r2, rfl⟩, nd⟩
  have fr : ∀ c, c ∈ tmps [r, q] [v, u] → H c = none := fun c m => by
    rw [tmps_cons, tmps_cons] at m
    simp only [tmps, List.append_nil, List.mem_append] at m
    rcases m with m | m
    · exact f1 c m
    · exact x1.back c (f2 c m)
  obtain ⟨β3, x3, s3, v3⟩ := WL.fix rl x12 s2 fr
  obtain ⟨v', t', e0, w1, w2⟩ := v3
  cases e0
  obtain ⟨u', t'', e0, w3, w4⟩ := w2
  cases e0
  exact ⟨v, u, rfl, WF.nx w x3 s3 (((he.ext x3).set i w1).set j w3)⟩
/-! ### all statements -/
def SoundS (cv : Nat → Value) (E : XK) (F : Nat → List PV → MH → Res RV) (G : List PV) (N fn gn : List Str) (k n : Nat) : Prop :=
  ∀ (X : Cx), SGood cv E F G N fn gn k X → ∀ (c : CS) (s : PySem.Stmt), chSt N fn gn X.env.scope n c s = true → PS X s (rdS X.K cv E F G c)
theorem sss_ok {f : CS → PySem.Stmt → Bool} (hf : ∀ c s, f c s = true → PS X s (rdS X.K cv E F G c)) : ∀ {cs : CSL} {ss : List PySem.Stmt}, chStL f cs ss = true → PSs X ss (rdSs X.K cv E F G cs)
  | .nil, [], _ => sss_nil
  | .cons c r, s :: ss, h => by
    simp only [chStL, Bool.and_eq_true] at h
    exact sss_cons (hf c s h.1) (sss_ok hf h.2)
  | .nil, _ :: _, h => by simp [chStL] at h
  | .cons _ _, [], h => by simp [chStL] at h
theorem lcSwap_eq {env : PySem.Env} {y : PySem.Expr} {gens : List Comprehension} {bsc : Scope} {vp p : Pos} {x : Str} {l : Nat} (hk : env.scope.kind = .function) (h : lcSwap env.scope x p (.ListComp y gens bsc vp) = true) :
    swapsWith (.ListComp y gens bsc vp) (some (.Name x p)) l env = pure true ∧ env.scope.names.lookup x = some .local := by
  simp only [lcSwap, Bool.and_eq_true] at h
  obtain ⟨⟨h1, h2⟩, h3⟩ := h
  have hb : (env.blockKind == .function) = true := by
    have : env.blockKind = .function := by unfold PySem.Env.blockKind; rw [hk]; rfl
    rw [this]; rfl
  have e1 : (PySem.Env.kindOf env x == some .local) = true := by unfold PySem.Env.kindOf; rw [loc_local h1]; rfl
  refine ⟨?_, loc_local h1⟩
  show (pure (env.blockKind == .function && PySem.Env.kindOf env x == some .local && p.line == vp.line && !(bsc.names.any fun (n, k) => n == x && (k == .local || k == .cell))) : Sem Bool) = pure true
  rw [hb, e1, h2, h3]
  rfl
theorem chE_lc {n : Nat} {sc : Scope} {c : CE} {y : PySem.Expr} {gens : List Comprehension} {bsc : Scope} {vp : Pos} (h : chE N fn gn n sc c (.ListComp y gens bsc vp) = true) :
    ∃ m elt t src cs own tg it ifs ia, n = m + 1 ∧ c = .lc elt t src cs own ∧ gens = [⟨tg, it, ifs, ia⟩] ∧ ((ia == 0) && plainE it && blkC N sc bsc (own.filterMap fun i => (N[i]?).map fun y => (y, i)) && decide ((own.filterMap fun i => (N[i]?).map fun y => (y, i)).map (·.2) = own) &&
        ownT own t && chT isLocal N (relS bsc sc) t tg && chS (chE N fn gn m sc) sc t src it && chE N fn gn m (relS bsc sc) elt y && chTs N fn gn m (relS bsc sc) cs ifs) = true := by
  cases n with
  | zero => simp [chE] at h
  | succ m =>
    unfold chE at h
    split at h <;> first
      | (rename_i e0; cases e0; done)
      | (cases h; done)
      | skip
    all_goals first
      | (rename_i e0 ; injection e0 with a1 a2 a3 a4; subst a1; subst a2; subst a3; exact ⟨_, _, _, _, _, _, _, _, _, _, rfl, rfl, rfl, h⟩)
theorem soundS_all (n : Nat) : SoundS cv E F G N fn gn k n := by
  induction n with
  | zero => intro X g c s h; simp [chSt] at h
  | succ n ih =>
    intro X g c s h
    have he : ∀ c e, chE N fn gn n X.env.scope c e = true → PE X e (rdE X.K cv E F G c) := (sound_all n).1 E X g.pg
    have ht : ∀ c e, chTe N fn gn n X.env.scope c e = true → PT X e (rdT X.K cv E F G c) := (sound_all n).2.1 E X g.pg
    have hs : ∀ c s, chSt N fn gn X.env.scope n c s = true → PS X s (rdS X.K cv E F G c) := ih X g
    unfold chSt at h
    split at h
    · exact PS.imp ps_never fun D σ H ⟨β, ee, mh, he, s, w⟩ => w
    · simp only [Bool.and_eq_true, decide_eq_true_eq, Bool.or_eq_true, Bool.not_eq_true'] at h
      obtain ⟨⟨⟨h1, h2⟩, h3⟩, h4⟩ := h
      rcases h4 with h4 | h4
      · refine ss_asg g h1 (loc_loc h2) ?_ (he _ _ h3)
        exact swaps_plain h4
      · rename_i i a x p e pos
        cases e with
        | ListComp y gens bsc vp =>
          obtain ⟨sw, hl⟩ := lcSwap_eq (l := pos.line) g.kind h4.1
          obtain ⟨m, elt, t, src, cs, own, tg, it, ifs, ia, rfl, rfl, rfl, h⟩ := chE_lc h3
          simp only [Bool.and_eq_true, decide_eq_true_eq, beq_iff_eq] at h
          obtain ⟨⟨⟨⟨⟨⟨⟨⟨rfl, g1⟩, g2⟩, g3⟩, g4⟩, g5⟩, g6⟩, g7⟩, g8⟩ := h
          have he : ∀ c e, chE N fn gn m X.env.scope c e = true → PE X e (rdE X.K cv E F G c) := (sound_all m).1 E X g.pg
          refine ss_asgLc g h1 hl sw g1 g2 g3 g4 (src_ok g.pg he (fun is e0 => ?_) g6) g5 (fun s H C cl fp => ?_) (fun s H C cl fp => ?_)
          · subst e0
            cases tg <;> first | exact ⟨_, _, _, rfl⟩ | simp [chT] at g5
          · exact (sound_all m).1 E0' _ (g.pg.blk s H bsc _ fp) _ _ g7
          · exact (sound_all m).2.2 E0' _ (g.pg.blk s H bsc _ fp) _ _ g8
        | _ => simp [lcSwap] at h4
    · simp only [Bool.and_eq_true, Bool.not_eq_true'] at h
      exact ss_tasg g h.1.1 h.1.2 (he _ _ h.2)
    · simp only [Bool.and_eq_true, decide_eq_true_eq, Bool.not_eq_true'] at h
      obtain ⟨⟨⟨⟨⟨⟨⟨⟨⟨⟨⟨⟨h1, h2⟩, h3⟩, h4⟩, h5⟩, h6⟩, h7⟩, h8⟩, h9⟩, h10⟩, h11⟩, h12⟩, h13⟩ := h
      exact ss_par g h1 h2 h3 h4 h5 h6 h7 h8 h9 h10 h11 (he _ _ h12) (he _ _ h13)
    · simp only [Bool.and_eq_true, Bool.not_eq_true'] at h
      obtain ⟨⟨⟨⟨h1, h2⟩, h3⟩, h4⟩, h5⟩ := h
      exact ss_sidx g h1 h2 (he _ _ h3) (he _ _ h4) (he _ _ h5)
    · simp only [Bool.and_eq_true, decide_eq_true_eq, beq_iff_eq] at h
      obtain ⟨⟨⟨h1, h2⟩, rfl⟩, h4⟩ := h
      exact ss_aug g h1 (loc_loc h2) (he _ _ h4)
    · simp only [Bool.and_eq_true, Bool.not_eq_true'] at h
      exact ss_drop h.1 (he _ _ h.2)
    · refine PS.imp ps_doc fun D σ H ⟨β, ee, mh, he, s, w⟩ => ?_
      simp only [ex] at w
      exact WF.nx w Ext.refl s he
    · refine PS.imp ps_pass fun D σ H ⟨β, ee, mh, he, s, w⟩ => ?_
      simp only [ex] at w
      exact WF.nx w Ext.refl s he
    · refine PS.imp ps_break fun D σ H ⟨β, ee, mh, he, s, w⟩ => ?_
      simp only [ex] at w
      exact w β H (.bk σ) Ext.refl s he fun a m => by cases m
    · refine PS.imp ps_continue fun D σ H ⟨β, ee, mh, he, s, w⟩ => ?_
      simp only [ex] at w
      exact w β H (.ct σ) Ext.refl s he fun a m => by cases m
    · exact ss_ret (he _ _ h)
    · exact ss_retN
    · simp only [Bool.and_eq_true] at h
      exact ss_if (ht _ _ h.1.1) (sss_ok hs h.1.2) (sss_ok hs h.2)
    · simp only [Bool.and_eq_true] at h
      exact ss_whl g (ht _ _ h.1) (sss_ok hs h.2)
    · rename_i t src b tg it x pos
      simp only [Bool.and_eq_true] at h
      obtain ⟨⟨⟨h1, h2⟩, h3⟩, h4⟩ := h
      refine ss_for g (fold_plain h1) (src_ok g.pg he (fun is e0 => ?_) h3) (pg_ok (N := N) (loc := isLoc) g.pg.calm g.pg.names g.pg.nd (fun y hy => ⟨loc_loc hy, .inl (g.fnT y)⟩) h2) (sss_ok hs h4)
      subst e0
      cases tg <;> first | exact ⟨_, _, _, rfl⟩ | simp [chT] at h2
    · cases h
end
end Pf
/-! PfFn: defs. -/
namespace Pf
open PySem PySem.Spec PyProof.Rows L2
section
variable {K : PySem.W.Frag} {β β' : List Addr} {H H' : Hp} {mh h1 : MH}
mutual
theorem VR_lt : ∀ {v : PV} {w : V}, VR K β H v w → v.lt β.length = true
  | .non, _, _ => rfl
  | .bl _, _, _ => rfl
  | .int _, _, _ => rfl
  | .str _, _, _ => rfl
  | .tup xs, _, h => by
    obtain ⟨a, vs, _, _, h2⟩ := h
    exact VRs_lt h2
  | .scr xs, _, h => by
    obtain ⟨a, vs, _, _, h2⟩ := h
    exact VRs_lt h2
  | .ref n, _, h => by
    obtain ⟨a, _, h1⟩ := h
    have := (List.getElem?_eq_some_iff.mp h1).1
    simpa [PV.lt] using this
theorem VRs_lt : ∀ {vs : List PV} {ws : List V}, VRs K β H vs ws → PV.ltL β.length vs = true
  | [], _, _ => rfl
  | v :: vs, _, h => by
    obtain ⟨w, t, _, h1, h2⟩ := h
    simp only [PV.ltL, Bool.and_eq_true]
    exact ⟨VR_lt h1, VRs_lt h2⟩
end
theorem keyP_lt {n : Nat} (k : Key) : (keyP k).lt n = true := by cases k <;> rfl
theorem DR_lt : ∀ {vs : List (PV × PV)} {ws : List (Key × V)}, DR K β H vs ws → ltK β.length vs = true
  | [], _, _ => rfl
  | (k, v) :: vs, _, h => by
    obtain ⟨j, w, t, _, e, h1, h2⟩ := h
    simp only [ltK, Bool.and_eq_true]
    exact ⟨⟨by rw [← e]; exact keyP_lt j, VR_lt h1⟩, DR_lt h2⟩
mutual
theorem VR_back (p : β <+: β') : ∀ {v : PV} {w : V}, v.lt β.length = true → VR K β' H v w → VR K β H v w
  | .non, _, _, h => h
  | .bl _, _, _, h => h
  | .int _, _, _, h => h
  | .str _, _, _, h => h
  | .tup xs, _, l, h => by
    obtain ⟨a, vs, e, h1, h2⟩ := h
    exact ⟨a, vs, e, h1, VRs_back p l h2⟩
  | .scr xs, _, l, h => by
    obtain ⟨a, vs, e, h1, h2⟩ := h
    exact ⟨a, vs, e, h1, VRs_back p l h2⟩
  | .ref n, _, l, h => by
    obtain ⟨a, e, h1⟩ := h
    obtain ⟨t, rfl⟩ := p
    have l : n < β.length := by simpa [PV.lt] using l
    rw [List.getElem?_append_left l] at h1
    exact ⟨a, e, h1⟩
theorem VRs_back (p : β <+: β') : ∀ {vs : List PV} {ws : List V}, PV.ltL β.length vs = true → VRs K β' H vs ws → VRs K β H vs ws
  | [], _, _, h => h
  | v :: vs, _, l, h => by
    simp only [PV.ltL, Bool.and_eq_true] at l
    obtain ⟨w, t, e, h1, h2⟩ := h
    exact ⟨w, t, e, VR_back p l.1 h1, VRs_back p l.2 h2⟩
end
theorem DR_back (p : β <+: β') : ∀ {vs : List (PV × PV)} {ws : List (Key × V)}, ltK β.length vs = true → DR K β' H vs ws → DR K β H vs ws
  | [], _, _, h => h
  | (k, v) :: vs, _, l, h => by
    simp only [ltK, Bool.and_eq_true] at l
    obtain ⟨j, w, t, e, e2, h1, h2⟩ := h
    exact ⟨j, w, t, e, e2, VR_back p l.1.2 h1, DR_back p l.2 h2⟩
theorem OR_back (p : β <+: β') {a : Addr} {o : MO} (l : o.lt β.length = true) (h : OR K β' H a o) : OR K β H a o := by
  cases o with
  | lst xs => obtain ⟨vs, h1, h2⟩ := h; exact ⟨vs, h1, VRs_back p l h2⟩
  | dct kvs => obtain ⟨vs, h1, h2⟩ := h; exact ⟨vs, h1, DR_back p l h2⟩
theorem OR_lt {a : Addr} {o : MO} (h : OR K β H a o) : o.lt β.length = true := by
  cases o with
  | lst xs => obtain ⟨vs, h1, h2⟩ := h; exact VRs_lt h2
  | dct kvs => obtain ⟨vs, h1, h2⟩ := h; exact DR_lt h2
theorem allLt_get {n : Nat} : ∀ {h : MH} {i : Nat} {o : MO}, allLt n h = true → h[i]? = some o → o.lt n = true
  | [], _, _, _, e => by simp at e
  | x :: xs, 0, _, h, e => by
    simp only [allLt, Bool.and_eq_true] at h
    simp at e; subst e; exact h.1
  | x :: xs, i + 1, _, h, e => by
    simp only [allLt, Bool.and_eq_true] at h
    exact allLt_get (i := i) h.2 (by simpa using e)
theorem Ext.back_to (x : Ext β H β' H') : Ext β H β H' := ⟨List.prefix_refl _, x.tup, x.keep, fun _ m n => absurd m n, x.back⟩
theorem Sim.back_to (s0 : Sim K β H mh) (x : Ext β H β' H') (s : Sim K β' H' h1) (c : h1.take mh.length = mh ∨ allLt mh.length (h1.take mh.length) = true) : Sim K β H' (h1.take mh.length) := by
  have hl : β.length ≤ β'.length := x.pre.length_le
  refine ⟨?_, s0.nd, fun n a o h1' h2 => ?_⟩
  · rw [List.length_take, ← s.len, ← s0.len]; omega
  · have hn : n < β.length := (List.getElem?_eq_some_iff.mp h1').1
    have hb : β'[n]? = some a := by
      obtain ⟨t, rfl⟩ := x.pre
      rw [List.getElem?_append_left hn]; exact h1'
    have hn' : n < mh.length := by rw [← s0.len]; exact hn
    have ho : h1[n]? = some o := by rwa [List.getElem?_take_of_lt hn'] at h2
    refine OR_back x.pre ?_ (s.obj n a o hb ho)
    rcases c with c | c
    · rw [c] at h2
      exact OR_lt (s0.obj n a o h1' h2)
    · rw [s0.len]
      exact allLt_get c h2
section
variable {cv : Nat → Value} {E : XK} {Q : VK}
theorem norm_ok {r : RV} {v : V} (w : WV K cv E β H (norm mh r h1) Q) (s0 : Sim K β H mh) (x : Ext β H β' H') (s : Sim K β' H' h1) (rr : RR K β' H' r v) (f : ∀ a, a ∈ adR r v → H a = none) : Q v H' := by
  unfold norm at w
  split at w
  · exact w β' H' v x s rr f
  · split at w
    · rename_i hc
      rw [Bool.or_eq_true, decide_eq_true_eq] at hc
      have sb := s0.back_to x s hc
      have xb := x.back_to
      have lb : β.length = mh.length := s0.len
      split at w
      · rename_i n
        obtain ⟨a, rfl, ha⟩ := rr
        split at w
        · rename_i hn
          exact WV.pv2 w xb sb (VR_back x.pre (v := .ref n) (by rw [lb]; simpa [PV.lt] using hn) ⟨a, rfl, ha⟩)
        · rename_i hn
          have na : a ∉ β := fun m => by
            obtain ⟨i, hi⟩ := List.mem_iff_getElem?.mp m
            have hil : i < β.length := (List.getElem?_eq_some_iff.mp hi).1
            have hb : β'[i]? = some a := by
              obtain ⟨t, ht⟩ := x.pre
              rw [← ht, List.getElem?_append_left hil]; exact hi
            obtain ⟨l1, e1⟩ := List.getElem?_eq_some_iff.mp ha
            obtain ⟨l2, e2⟩ := List.getElem?_eq_some_iff.mp hb
            have : n = i := (List.getElem_inj s.nd).mp (e1.trans e2.symm)
            subst this
            exact hn (by simpa [lb] using hil)
          have fa : H a = none := x.new a (List.mem_of_getElem? ha) na
          split at w
          · rename_i xs ex
            split at w
            · rename_i hl
              obtain ⟨vs, g1, g2⟩ := s.obj n a _ ha ex
              exact w β H' _ xb sb ⟨a, vs, rfl, na, g1, VRs_back x.pre (by rw [lb]; exact hl) g2⟩ fun c m => by
                have : c = a := by simpa [adR, tmp] using m
                rw [this]; exact fa
            · exact w β' H' _ x s ⟨a, rfl, ha⟩ f
          · rename_i xs ex
            split at w
            · rename_i hl
              obtain ⟨vs, g1, g2⟩ := s.obj n a _ ha ex
              exact w β H' _ xb sb ⟨a, vs, rfl, na, g1, DR_back x.pre (by rw [lb]; exact hl) g2⟩ fun c m => by
                have : c = a := by simpa [adR, tmp] using m
                rw [this]; exact fa
            · exact w β' H' _ x s ⟨a, rfl, ha⟩ f
          · exact w β' H' _ x s ⟨a, rfl, ha⟩ f
      · split at w
        · rename_i hl
          exact WV.pv2 w xb sb (VR_back x.pre (by rw [lb]; exact hl) rr)
        · exact w β' H' _ x s rr f
      · split at w
        · rename_i hl
          obtain ⟨a, vs, rfl, na, g1, g2⟩ := rr
          exact w β H' _ xb sb ⟨a, vs, rfl, fun m => na (x.pre.subset m), g1, VRs_back x.pre (by rw [lb]; exact hl) g2⟩ f
        · exact w β' H' _ x s rr f
      · split at w
        · rename_i hl
          obtain ⟨a, vs, rfl, na, g1, g2⟩ := rr
          exact w β H' _ xb sb ⟨a, vs, rfl, fun m => na (x.pre.subset m), g1, DR_back x.pre (by rw [lb]; exact hl) g2⟩ f
        · exact w β' H' _ x s rr f
    · exact w β' H' v x s rr f
end
end
/-! ### a table of defs -/
structure DefI where
  name : Str
  qual : Str
  st : PySem.Stmt
  N : List Str
  np : Nat
/-- what the text of a def must be -/
def defOk (fn gn : List Str) (fuel : Nat) (i : DefI) (d : FDef) : Bool :=
  d.np == i.np && d.nv == i.N.length && Nat.ble i.np i.N.length && chStL (chSt i.N fn gn (defScope i.st) fuel) d.body (defBody i.st)
structure DefF (K : PySem.W.Frag) (mg : Str → Option Value) (fn gn : List Str) (i : DefI) (d : FDef) : Prop where
  ex : ∃ (a : Addr) (fd : FuncData), Fun K i.name i.qual i.st a fd ∧ mg i.name = some (.ref a) ∧ Binds K fd (i.N.take i.np) []
  sc : FnScope i.N (i.N.take i.np) (defScope i.st)
  ok : ∃ fuel, defOk fn gn fuel i d = true
structure TabF (K : PySem.W.Frag) (mg : Str → Option Value) (tab : List DefI) (prog : List FDef) (G : List PV) (gn : List Str) : Prop where
  len : tab.length = prog.length
  defs : ∀ (j : Nat) (i : DefI) (d : FDef), tab[j]? = some i → prog[j]? = some d → DefF K mg (tab.map (·.name)) gn i d
  bl : ∀ x, x ∈ blNames → mg x = none
  gl : ∀ (j : Nat) (x : Str), gn[j]? = some x → ∀ v, G[j]? = some v → ∃ u w, mg x = some u ∧ RelV w u ∧ ∀ β H, VR K β H v w
theorem env_start {K : PySem.W.Frag} {β : List Addr} {H : Hp} {N : List Str} {np nv : Nat} {args : List PV} {vs : List V} (h : VRs K β H args vs) (hl : args.length = np) (hv : nv = N.length) (hn : np ≤ N.length) :
    EnvR K β H (args.map some ++ List.replicate (nv - np) none) (L2.start N vs) := by
  have l : vs.length = args.length := h.length
  refine ⟨by unfold L2.start; simp [l, hl, hv], fun i v e => ?_⟩
  by_cases hi : i < args.length
  · rw [List.getElem?_append_left (by simpa using hi), List.getElem?_map] at e
    obtain ⟨x, hx, e2⟩ := Option.map_eq_some_iff.mp e
    cases e2
    obtain ⟨w, h1, h2⟩ := h.get hx
    refine ⟨w, ?_, h2⟩
    unfold L2.start
    rw [List.getElem?_append_left (by simpa [l] using hi), List.getElem?_map, h1]; rfl
  · rw [List.getElem?_append_right (by simpa using hi), List.getElem?_replicate] at e
    split at e <;> cases e
section
variable {P : Program} {w : World} {K : PySem.W.Frag} {mg : Str → Option Value} {base : Heap} {tab : List DefI} {prog : List FDef} {G : List PV} {gn : List Str} {cv : Nat → Value}
theorem run_len (T : TabF K mg tab prog G gn) {j k : Nat} {i : DefI} (hi : tab[j]? = some i) {args : List PV} {mh : MH} (h : run prog G k j args mh ≠ .bad) : args.length = (i.N.take i.np).length := by
  cases k with
  | zero => exact absurd rfl h
  | succ k =>
    unfold run at h
    cases hd : prog[j]? with
    | none => rw [hd] at h; exact absurd rfl h
    | some d =>
      rw [hd] at h
      obtain ⟨fuel, ok⟩ := (T.defs j i d hi hd).ok
      simp only [defOk, Bool.and_eq_true, beq_iff_eq] at ok
      obtain ⟨⟨⟨h1, h2⟩, h3⟩, h4⟩ := ok
      have h3 := Nat.ble_eq.mp h3
      simp only [call1] at h
      split at h
      · rename_i hl
        rw [hl, h1, List.length_take]; omega
      · exact absurd rfl h
/-- the callees' promises -/
def Callees (P : Program) (w : World) (K : PySem.W.Frag) (mg : Str → Option Value) (base : Heap) (cv : Nat → Value) (tab : List DefI) (F : Nat → List PV → MH → Res RV) (k : Nat) : Prop :=
  ∀ (j : Nat) (x : Str), (tab.map (·.name))[j]? = some x → ∃ (a : Addr) (fd : FuncData) (ps : List Str), mg x = some (.ref a) ∧ PySem.W.keepIn K (.ref a) = true ∧ Binds K fd ps [] ∧ FnG P w K mg base (L2.CX P w) k a fd ps (spF K cv F j ps.length) ∧ ∀ args mh, F j args mh ≠ .bad → args.length = ps.length
theorem fn_step (T : TabF K mg tab prog G gn) {k : Nat} (ih : Callees P w K mg base cv tab (run prog G k) k) {j : Nat} {i : DefI} {d : FDef} (hi : tab[j]? = some i) (hd : prog[j]? = some d) {a : Addr} {fd : FuncData} (F : Fun K i.name i.qual i.st a fd) :
    FnG P w K mg base (L2.CX P w) (k + 1) a fd (i.N.take i.np) (spF K cv (run prog G (k + 1)) j (i.N.take i.np).length) := by
  have D := T.defs j i d hi hd
  obtain ⟨fuel, ok⟩ := D.ok
  simp only [defOk, Bool.and_eq_true, beq_iff_eq] at ok
  obtain ⟨⟨⟨h1, h2⟩, h3⟩, h4⟩ := ok
  have h3 := Nat.ble_eq.mp h3
  refine fun_okG F D.sc (fun vs H Q E h => h.1) (fun cdv A outer s H vs Q E gd hr h => ?_)
  obtain ⟨_, β, args, mh, hv, sm, wv⟩ := h
  have sg : SGood cv E (run prog G k) G i.N (tab.map (·.name)) gn k (cxOf (L2.CX P w) P w K mg base i.N i.qual (defScope i.st) a cdv A outer s H E) :=
    ⟨⟨rfl, hr, gd, rfl, D.sc.nd, T.bl, T.gl, ih, L2.takes_of rfl rfl rfl rfl⟩, fun _ => rfl, D.sc.kind, L2.passes_of rfl⟩
  have body := sss_ok (f := chSt i.N (tab.map (·.name)) gn (defScope i.st) fuel) (fun c st hc => soundS_all fuel _ sg c st hc) h4
  refine ⟨_, body, ?_⟩
  · unfold run at wv
    rw [hd] at wv
    simp only [call1] at wv
    obtain ⟨hl, wv⟩ := wv.ite
    refine ⟨β, _, mh, env_start hv hl (h2.symm ▸ rfl) (h1 ▸ h3 : d.np ≤ i.N.length), sm, wv.bind2 Ext.refl fun f h1' β' H' fv x s' r' f' wv => ?_⟩
    cases f with
    | nx e1 =>
      cases fv with
      | nx σ1 => exact norm_ok wv sm x s' (show RR K β' H' (.pv .non) .non from rfl) fun a m => by cases m
      | _ => cases r'
    | brk e1 => exact False.elim wv
    | cont e1 => exact False.elim wv
    | ret r0 =>
      cases fv with
      | rt v => exact norm_ok wv sm x s' r' f'
      | _ => cases r'
theorem callees (T : TabF K mg tab prog G gn) : ∀ k : Nat, Callees P w K mg base cv tab (run prog G k) k
  | 0 => fun j x hx => by
    rw [List.getElem?_map] at hx
    obtain ⟨i, hi, rfl⟩ := Option.map_eq_some_iff.mp hx
    have hjl : j < prog.length := by rw [← T.len]; exact (List.getElem?_eq_some_iff.mp hi).1
    have hd : prog[j]? = some prog[j] := List.getElem?_eq_getElem hjl
    obtain ⟨a, fd, F, hm, hb⟩ := (T.defs j i _ hi hd).ex
    refine ⟨a, fd, _, hm, F.kp, hb, ⟨fun vs H Q E h => h.1, fun A outer s H args us vs Q E gd hr e0 hb' hv h => ?_⟩, fun args mh h => run_len T hi h⟩
    obtain ⟨_, β, ar, mh, _, _, wv⟩ := h
    exact False.elim wv
  | k + 1 => fun j x hx => by
    rw [List.getElem?_map] at hx
    obtain ⟨i, hi, rfl⟩ := Option.map_eq_some_iff.mp hx
    have hjl : j < prog.length := by rw [← T.len]; exact (List.getElem?_eq_some_iff.mp hi).1
    have hd : prog[j]? = some prog[j] := List.getElem?_eq_getElem hjl
    obtain ⟨a, fd, F, hm, hb⟩ := (T.defs j i _ hi hd).ex
    exact ⟨a, fd, _, hm, F.kp, hb, fn_step T (callees T k) hi hd F, fun args mh h => run_len T hi h⟩
end
theorem scr_rel {K : PySem.W.Frag} {β : List Addr} {H : Hp} : ∀ ns : List Int, VRs K β H (ns.map PV.int) (ns.map V.int)
  | [] => rfl
  | n :: ns => ⟨_, _, rfl, rfl, scr_rel ns⟩
/-- law: the script's ints in, True out -/
theorem law_sp {K : PySem.W.Frag} {prog : List FDef} {G : List PV} {cv : Nat → Value} {k j : Nat} {H : Hp} {a : Addr} {ns : List Int} (hO : ∀ b, H b = none ∨ ∃ o xs, H b = some (.frz o (.lst xs))) (hS : SqL K H a (ns.map V.int)) (h : ∃ mh, run prog G k j [.scr (ns.map PV.int)] [] = .ok (.pv (.bl true)) mh) {E : XK} :
    spF K cv (run prog G k) j 1 [.ref a] H (fun v _ => v = .bl true) E := by
  have hs : ScrA K H a (ns.map V.int) := by
    rcases hS with hS | hS
    · rcases hS with hS | ⟨ob, hS⟩
      · rcases hO a with e | ⟨o, xs, e⟩
        · rw [e] at hS; cases hS
        · rw [e] at hS; cases hS
      · exact .inl ⟨ob, hS⟩
    · exact .inr fun _ => .inr hS
  refine ⟨rfl, [], [.scr (ns.map PV.int)], [], ⟨_, _, rfl, ⟨a, _, rfl, hs, scr_rel ns⟩, rfl⟩, ⟨rfl, List.nodup_nil, fun n b o h1 h2 => by simp at h1⟩, ?_⟩
  obtain ⟨mh, h⟩ := h
  rw [h]
  exact fun β' H' v x s r f => r
end Pf
/-! PfCall: the law is called at the top, where no repr runs. -/
namespace Pf
open PySem PySem.Spec PyProof.Rows L2
/-- the end of the law's call, from an abstract heap that knows the script at most -/
theorem top_core {P : Program} {w : World} {K : PySem.W.Frag} {mg mb : Str → Option Value} {CX : CXT} {k : Nat} {fa a : Addr} {fd : FuncData} {x : Str} {sp : Sp} {s : Shared} {vs : Array Value} {H : Hp}
    (KX : K.In s.heap) (hns : s.heap.Ns mainGlobals mg) (hb : s.heap.Ns builtinsNs mb) (hbb : ∀ x : Str, x ≠ "__name__" → mb x = bootBuiltins x) (hlim : s.heap.NoLimit) (hg : s.gens = #[])
    (ha : s.heap.get? a = some { cls := .type "list", data := .seq vs }) (hr : Room k callerA)
    (F : ∀ base : Heap, K.In base → base.Ns mainGlobals mg → FnG P w K mg base CX k fa fd [x] sp) (hbind : ∀ (s : Shared) (u : Value), BindsTo s fd ⟨[u], []⟩ [(x, u)])
    (hsp : sp [.ref a] H (fun v _ => v = .bl true) fun _ _ _ => False)
    (hCX : ∀ e s', CX [] H s (fun _ _ _ => False) e s' → False) (hO : Only H) (hok : HOk P w H s.heap) (hA : ∀ b, H b ≠ none → b = a) (hK : H a ≠ none → K.lookup a = none) :
    codeAny (model P w) callerA (.call (.ref fa) ⟨[.ref a], []⟩) (fun r s' => r = .ok (.ret (.bool true)) ∧ OldK s.heap s'.heap ∧ s'.os = s.os ∧ AllBare s'.gens) s := by
  have off : ∀ {b : Addr}, b ≠ a → H b = none := fun {b} n => by
    by_cases z : H b = none
    · exact z
    · exact absurd (hA b z) n
  have ns : ∀ {b : Addr} {m : Str → Option Value}, s.heap.Ns b m → (hidT s.heap H).Ns b m := fun {b m} ⟨o, es, ep, e, d, r⟩ => by
    refine ⟨o, es, ep, hidT_get e (off fun z => ?_), d, r⟩
    rw [z, ha] at e
    cases e
    exact Data.noConfusion d
  have kin : K.In (hidT s.heap H) := fun b o e => hidT_get (KX b o e) (by
    by_cases z : H b = none
    · exact z
    · obtain rfl := hA b z
      rw [hK z] at e; cases e)
  have md : Mod K mg (hidT s.heap H) := ⟨kin, ns hns, ⟨mb, ns hb, hbb⟩, let ⟨m, h1, h2⟩ := hlim; ⟨m, ns h1, h2⟩⟩
  have e0 : Env0 P w K mg (hidT s.heap H) callerA [] s H := ⟨rfl, md, fun b o e => of_hidT e, Nat.le_of_eq (hidT_size _ _), trivial, fun b z => (List.not_mem_nil (show b ∈ ([] : List Addr) from z)).elim, hok, .of_eq hg⟩
  have no : ∀ b : Addr, b ∉ frs ([] : List PySem.Env) := fun b z => List.not_mem_nil (show b ∈ ([] : List Addr) from z)
  refine codeAny_mono ((F _ kin (ns hns)).run callerA [] s H ⟨[.ref a], []⟩ [.ref a] [.ref a] _ _ rfl hr e0 (hbind s (.ref a)) (.cons rfl .nil) hsp) fun r t h => ?_
  match r, h with
  | .error e, h => exact (hCX e t h).elim
  | .ok (.ret u), ⟨v, H', os, bare, un, hok', rv, q⟩ =>
    have q : v = .bl true := q
    subst q
    have ru : u = Value.bool true := rv
    subst ru
    refine ⟨rfl, OldK.of_keep fun b o e => ?_, os, bare⟩
    rcases hO b with z | ⟨ob, xs, z⟩
    · exact un.keep b o e z (no b) List.not_mem_nil
    · have e1 := (hok b _ z).1
      rw [e] at e1; cases e1
      exact (hok' b _ (un.frzs b _ _ z)).1
theorem top_call {P : Program} {w : World} {K : PySem.W.Frag} {mg mb : Str → Option Value} {CX : CXT} {k : Nat} {fa a : Addr} {fd : FuncData} {x : Str} {sp : Sp} {s : Shared} {vs : List Value} {ns : List Int}
    (KX : K.In s.heap) (hns : s.heap.Ns mainGlobals mg) (hb : s.heap.Ns builtinsNs mb) (hbb : ∀ x : Str, x ≠ "__name__" → mb x = bootBuiltins x) (hlim : s.heap.NoLimit) (hg : s.gens = #[])
    (ha : s.heap.get? a = some { cls := .type "list", data := .seq vs.toArray }) (hi : IntsAre vs ns) (hl : ns.length ≤ sizeLine) (hr : Room k callerA)
    (F : ∀ base : Heap, K.In base → base.Ns mainGlobals mg → FnG P w K mg base CX k fa fd [x] sp) (hbind : ∀ (s : Shared) (u : Value), BindsTo s fd ⟨[u], []⟩ [(x, u)])
    (hsp : ∀ H : Hp, Only H → SqL K H a (ns.map V.int) → sp [.ref a] H (fun v _ => v = .bl true) fun _ _ _ => False)
    (hCX : ∀ H e s', CX [] H s (fun _ _ _ => False) e s' → False) :
    codeAny (model P w) callerA (.call (.ref fa) ⟨[.ref a], []⟩) (fun r s' => r = .ok (.ret (.bool true)) ∧ OldK s.heap s'.heap ∧ s'.os = s.os ∧ AllBare s'.gens) s := by
  have rv := vals_ints hi
  cases hk : K.lookup a with
  | some o =>
    have e := (KX a o hk).symm.trans ha
    cases e
    have o1 : Only (fun _ => none) := fun _ => .inl rfl
    exact top_core KX hns hb hbb hlim hg ha hr F hbind (hsp _ o1 (.inr ⟨_, vs.toArray, _, hk, rfl, rfl, rfl, by simpa [hi.length] using hl, by simpa using rv⟩)) (hCX _) o1 (fun _ _ z => by cases z) (fun _ z => absurd rfl z) fun z => absurd rfl z
  | none =>
    generalize eH : (fun b => if b = a then some (HO.frz { cls := .type "list", data := .seq vs.toArray } (.lst (ns.map V.int))) else none : Hp) = H
    have h1 : H a = some (.frz { cls := .type "list", data := .seq vs.toArray } (.lst (ns.map V.int))) := by rw [← eH]; simp
    have h2 : ∀ b, b ≠ a → H b = none := fun b n => by rw [← eH]; simp [n]
    have o1 : Only H := fun b => by
      by_cases z : b = a
      · rw [z]; exact .inr ⟨_, _, h1⟩
      · exact .inl (h2 b z)
    refine top_core KX hns hb hbb hlim hg ha hr F hbind (hsp _ o1 (.inl (.inr ⟨_, h1⟩))) (hCX _) o1 (fun b u z => ?_) (fun b z => ?_) fun _ => hk
    · by_cases n : b = a
      · subst n
        rw [h1] at z; cases z
        exact ⟨ha, by rw [List.length_map]; exact hl, vs, _, rv, ha⟩
      · rw [h2 b n] at z; cases z
    · by_cases n : b = a
      · exact n
      · exact absurd (h2 b n) z
theorem top_walk {l : PySem.W.OpenLaw} {n k : Nat} {q : Program} {loose : List Str} {XP : (Str → Option Value) → Heap → Prop} {YP : World → Heap → Prop} {d : DefRec} {K : Params → PySem.W.Frag} {CX : World → CXT} {sp : World → Sp} {x : Str}
    (hn : l.most = some n) (hn2 : n ≤ sizeLine) (hdf : d.params.defaults = []) (hr : Room k callerA)
    (hY : ∀ (w : World) (h : Heap), YP w h → (K w.params).In h)
    (F : ∀ (w : World) (mg : Str → Option Value) (fa : Addr) (h : Heap), (K w.params).In h → h.Ns mainGlobals mg → mg d.name = some (.ref fa) →
      ∃ fd : FuncData, (∀ (s : Shared) (u : Value), BindsTo s fd ⟨[u], []⟩ [(x, u)]) ∧
        ∀ base : Heap, (K w.params).In base → base.Ns mainGlobals mg → FnG l.prog w (K w.params) mg base (CX w) k fa fd [x] (sp w))
    (hsp : ∀ (w : World) (H : Hp) (a : Addr) (ns : List Int), ns.length ≤ n → Only H → SqL (K w.params) H a (ns.map V.int) → sp w [.ref a] H (fun v _ => v = .bl true) fun _ _ _ => False)
    (hCX : ∀ (w : World) (H : Hp) (s : Shared) (e : Value) (s' : Shared), CX w [] H s (fun _ _ _ => False) e s' → False) :
    PySem.W.WalkO q loose XP YP l.row.toRowW d [] (fun f vs => PySem.call f vs) := by
  refine Att.attach_call hn hdf fun w s0 s1 mg mb fa o pm cd doc a vs ns G Y ho hd hcd hmg hobj hints hlen hg => ?_
  obtain ⟨fd, hb, hF⟩ := F w mg fa _ (hY w _ Y) G.T.g hmg
  exact top_call (hY w _ Y) G.T.g G.T.b G.T.builtins G.T.nolimit hg hobj hints (Nat.le_trans hlen hn2) hr hF hb (fun H hO hS => hsp w H a ns hlen hO hS) fun H e t => hCX w H s1 e t
end Pf
/-! PfEnd: what the top has written, in few words. -/
namespace Pf
open PySem PySem.Spec PyProof.Rows L2
structure DK (K : PySem.W.Frag) (i : DefI) : Prop where
  ex : ∃ (f : Addr) (oc : Value) (od an : Option Addr) (osl : Array (Option Value)) (kV doc pm cdv ct : Value), PySem.W.nsIn K mainGlobals i.name = some (some (.ref f)) ∧ K.lookup f = some ⟨oc, od, .func (PySem.W.fnOf i.name i.qual (defArgs i.st) (defBody i.st) (defScope i.st) .none kV doc pm an cdv ct), osl⟩ ∧ PySem.W.codeIn K cdv i.qual = true ∧ PySem.W.keepIn K (.ref f) = true
theorem DefF.mk2 {K : PySem.W.Frag} {mg : Str → Option Value} {h : Heap} {fn gn : List Str} {i : DefI} {d : FDef} (X : K.In h) (g : h.Ns mainGlobals mg) (D : DK K i) (sc : FnScope i.N (i.N.take i.np) (defScope i.st)) (ok : ∃ fuel, defOk fn gn fuel i d = true)
    (hb : ∀ (kV doc pm : Value) (an : Option Addr) (cdv ct : Value) (us : List Value), us.length = (i.N.take i.np).length → bindArgs (PySem.W.fnOf i.name i.qual (defArgs i.st) (defBody i.st) (defScope i.st) .none kV doc pm an cdv ct) ⟨us, []⟩ = pure ((i.N.take i.np).zip us)) : DefF K mg fn gn i d := by
  obtain ⟨f, oc, od, an, osl, kV, doc, pm, cdv, ct, a, l, c, k⟩ := D.ex
  have F := fun_mk (st := i.st) l c k
  exact ⟨⟨f, _, F, PySem.W.mg_of X g a, F.binds hb⟩, sc, ok⟩
def AllD (K : PySem.W.Frag) (mg : Str → Option Value) (fn gn : List Str) : List DefI → List FDef → Prop
  | [], [] => True
  | i :: is, d :: ds => DefF K mg fn gn i d ∧ AllD K mg fn gn is ds
  | _, _ => False
theorem AllD.get {K : PySem.W.Frag} {mg : Str → Option Value} {fn gn : List Str} : ∀ {is : List DefI} {ds : List FDef}, AllD K mg fn gn is ds → ∀ (j : Nat) (i : DefI) (d : FDef), is[j]? = some i → ds[j]? = some d → DefF K mg fn gn i d
  | [], [], _, _, _, _, h, _ => by simp at h
  | i :: is, d :: ds, h, 0, _, _, e1, e2 => by
    simp at e1 e2; subst e1; subst e2; exact h.1
  | i :: is, d :: ds, h, j + 1, _, _, e1, e2 => AllD.get h.2 j _ _ (by simpa using e1) (by simpa using e2)
  | [], _ :: _, h, _, _, _, _, _ => h.elim
  | _ :: _, [], h, _, _, _, _, _ => h.elim
/-- constants: ints and texts -/
def GlK (K : PySem.W.Frag) : List Str → List PV → Prop
  | [], [] => True
  | x :: xs, v :: vs => (∃ u w, PySem.W.nsIn K mainGlobals x = some (some u) ∧ RelV w u ∧ ∀ β H, VR K β H v w) ∧ GlK K xs vs
  | _, _ => False
theorem GlK.get {K : PySem.W.Frag} {mg : Str → Option Value} {h : Heap} (X : K.In h) (g : h.Ns mainGlobals mg) : ∀ {xs : List Str} {vs : List PV}, GlK K xs vs → ∀ (j : Nat) (x : Str), xs[j]? = some x → ∀ v, vs[j]? = some v → ∃ u w, mg x = some u ∧ RelV w u ∧ ∀ β H, VR K β H v w
  | [], [], _, _, _, h, _, _ => by simp at h
  | x :: xs, v :: vs, h, 0, _, e1, _, e2 => by
    simp at e1 e2; subst e1; subst e2
    obtain ⟨⟨u, w, a, b, c⟩, _⟩ := h
    exact ⟨u, w, PySem.W.mg_of X g a, b, c⟩
  | x :: xs, v :: vs, h, j + 1, _, e1, _, e2 => GlK.get X g h.2 j _ (by simpa using e1) _ (by simpa using e2)
  | [], _ :: _, h, _, _, _, _, _ => h.elim
  | _ :: _, [], h, _, _, _, _, _ => h.elim
theorem gl_int {K : PySem.W.Frag} {x : Str} {i : Int} {t : Tok} (h : PySem.W.nsIn K mainGlobals x = some (some (.int i t))) : ∃ u w, PySem.W.nsIn K mainGlobals x = some (some u) ∧ RelV w u ∧ ∀ β H, VR K β H (.int i) w := ⟨_, .int i, h, ⟨t, rfl⟩, fun _ _ => rfl⟩
theorem gl_str {K : PySem.W.Frag} {x : Str} {z : Str} {s : Txt} {t : Tok} (h : PySem.W.nsIn K mainGlobals x = some (some (.str z t))) (e : z = toS s) : ∃ u w, PySem.W.nsIn K mainGlobals x = some (some u) ∧ RelV w u ∧ ∀ β H, VR K β H (.str s) w := ⟨_, .str z, h, ⟨t, rfl⟩, fun _ _ => by rw [e]; rfl⟩
theorem bl_of {K : PySem.W.Frag} (h1 : PySem.W.nsIn K mainGlobals "len" = some none) (h2 : PySem.W.nsIn K mainGlobals "min" = some none) (h3 : PySem.W.nsIn K mainGlobals "max" = some none) (h4 : PySem.W.nsIn K mainGlobals "sum" = some none) (h5 : PySem.W.nsIn K mainGlobals "all" = some none) (h6 : PySem.W.nsIn K mainGlobals "any" = some none) (h7 : PySem.W.nsIn K mainGlobals "abs" = some none) (h8 : PySem.W.nsIn K mainGlobals "int" = some none) (h9 : PySem.W.nsIn K mainGlobals "tuple" = some none) (h10 : PySem.W.nsIn K mainGlobals "list" = some none) (h11 : PySem.W.nsIn K mainGlobals "isinstance" = some none) (h12 : PySem.W.nsIn K mainGlobals "str" = some none) (h13 : PySem.W.nsIn K mainGlobals "bool" = some none) (h14 : PySem.W.nsIn K mainGlobals "dict" = some none) (h15 : PySem.W.nsIn K mainGlobals "range" = some none) (h16 : PySem.W.nsIn K mainGlobals "enumerate" = some none) (h17 : PySem.W.nsIn K mainGlobals "zip" = some none) (h18 : PySem.W.nsIn K mainGlobals "repr" = some none) :
    ∀ x, x ∈ blNames → PySem.W.nsIn K mainGlobals x = some none := by
  intro x hx
  unfold blNames at hx
  simp only [List.mem_cons, List.not_mem_nil, or_false] at hx
  rcases hx with rfl | rfl | rfl | rfl | rfl | rfl | rfl | rfl | rfl | rfl | rfl | rfl | rfl | rfl | rfl | rfl | rfl | rfl <;> assumption
theorem cx_none {P : Program} {w : World} {H : Hp} {s : Shared} {e : Value} {s' : Shared} : L2.CX P w [] H s (fun _ _ _ => False) e s' → False := fun h => by
  obtain ⟨_, _, _, _, _, _, _, _, _, _, _, _, z⟩ := h
  exact z
theorem law_sp' {K : PySem.W.Frag} {prog : List FDef} {G : List PV} {cv : Nat → Value} {k j : Nat} {H : Hp} {a : Addr} {ns : List Int} (hO : Only H) (hS : SqL K H a (ns.map V.int)) (h : ∃ mh, run prog G k j [.scr (ns.map PV.int)] [] = .ok (.pv (.bl true)) mh) {E : XK} :
    spF K cv (run prog G k) j 1 [.ref a] H (fun v _ => v = .bl true) E := law_sp hO hS h
theorem glr_int {K : PySem.W.Frag} {i : Int} {t : Tok} : ∃ w, RelV w (.int i t) ∧ ∀ β H, VR K β H (.int i) w := ⟨.int i, ⟨t, rfl⟩, fun _ _ => rfl⟩
theorem glr_str {K : PySem.W.Frag} {z : Str} {s : Txt} {t : Tok} (e : z = toS s) : ∃ w, RelV w (.str z t) ∧ ∀ β H, VR K β H (.str s) w := ⟨.str z, ⟨t, rfl⟩, fun _ _ => by rw [e]; rfl⟩
end Pf
/-! PfSim: stepping the interpreter by simp. -/
namespace Pf
open PySem (Operator CmpOp)
/-- what goes on is not looked into before its time -/
inductive Tag {α : Sort u} (a : α) : Type where
  | mk
def bT {α β : Type} (r : Res α) (f : α → MH → Res β) (_ : Tag f) : Res β := r.bind f
def cT {α β : Type} (r : Res α) (f : α → MH → Res β) (_ : Tag f) : Res β := r.bindC f
def oT {α β : Type} (o : Option α) (f : α → Res β) (_ : Tag f) : Res β := opt o f
theorem bT_eq {α β : Type} {r : Res α} {f : α → MH → Res β} : r.bind f = bT r f .mk := Eq.symm (Eq.symm rfl)
theorem cT_eq {α β : Type} {r : Res α} {f : α → MH → Res β} : r.bindC f = cT r f .mk := Eq.symm (Eq.symm rfl)
theorem oT_eq {α β : Type} {o : Option α} {f : α → Res β} : opt o f = oT o f .mk := Eq.symm (Eq.symm rfl)
theorem bT_ok {α β : Type} {a : α} {h : MH} {f : α → MH → Res β} {t : Tag f} : bT (.ok a h) f t = f a h := Eq.symm (Eq.symm rfl)
theorem cT_ok {α β : Type} {a : α} {h : MH} {f : α → MH → Res β} {t : Tag f} : cT (.ok a h) f t = f a h := Eq.symm (Eq.symm rfl)
theorem oT_some {α β : Type} {a : α} {f : α → Res β} {t : Tag f} : oT (some a) f t = f a := Eq.symm (Eq.symm rfl)
section
variable {α β : Type} {h h' : MH} {i j : Int} {s t : Txt} {xs ys : List PV} {r : RV}
theorem rb_ok {a : α} {f : α → MH → Res β} : (Res.ok a h).bind f = f a h := Eq.symm (Eq.symm rfl)
theorem rc_ok {a : α} {f : α → MH → Res β} : (Res.ok a h).bindC f = f a h := Eq.symm (Eq.symm rfl)
theorem opt_some {a : α} {f : α → Res β} : opt (some a) f = f a := Eq.symm (Eq.symm rfl)
theorem ofOpt_some {a : α} : ofOpt (some a) h = .ok a h := Eq.symm (Eq.symm rfl)
theorem fix_pv {v : PV} : fix (.pv v) h = (v, h) := Eq.symm (Eq.symm rfl)
theorem fix_lst {v : List PV} : fix (.lst v) h = (.ref h.length, h ++ [.lst v]) := Eq.symm (Eq.symm rfl)
theorem fix_dct {v : List (PV × PV)} : fix (.dct v) h = (.ref h.length, h ++ [.dct v]) := Eq.symm (Eq.symm rfl)
theorem fixL_nil : fixL [] h = ([], h) := Eq.symm (Eq.symm rfl)
theorem fixL_cons {r : RV} {rs : List RV} : fixL (r :: rs) h = ((fix r h).1 :: (fixL rs (fix r h).2).1, (fixL rs (fix r h).2).2) := Eq.symm (Eq.symm rfl)
theorem norm_same {r : RV} : norm h r h = .ok r h := by simp [norm]
theorem norm_len {r : RV} (e : h'.length = h.length) : norm h r h' = .ok r h' := by simp [norm, e]
theorem norm_set {r : RV} {d : Nat} {o : MO} : norm h r (h.set d o) = .ok r (h.set d o) := norm_len (by simp)
theorem mulOk_of {i j : Int} (hi : i.natAbs < 340282366920938463463374607431768211456) (hj : j.natAbs < 340282366920938463463374607431768211456) : mulOk i j = true := by
  have key : ∀ n : Nat, n < 340282366920938463463374607431768211456 → n.log2 < 128 := fun n hn => by
    by_cases h0 : n = 0
    · subst h0; decide
    · exact (Nat.log2_lt h0).mpr hn
  have h1 := key _ hi
  have h2 := key _ hj
  unfold mulOk
  simp only [decide_eq_true_eq]
  omega
theorem set_get {d : Nat} {x y : MO} (e : h[d]? = some y) : (h.set d x)[d]? = some x := by
  rw [List.getElem?_set_self (List.getElem?_eq_some_iff.mp e).1]
theorem set_oth {d i : Nat} {x : MO} (e : d ≠ i) : (h.set d x)[i]? = h[i]? := List.getElem?_set_ne e
/-! operators -/
theorem o_add : binOp .Add h (.pv (.int i)) (.pv (.int j)) = some (.pv (.int (i + j))) := Eq.symm (Eq.symm rfl)
theorem o_sub : binOp .Sub h (.pv (.int i)) (.pv (.int j)) = some (.pv (.int (i - j))) := Eq.symm (Eq.symm rfl)
theorem o_mul (e : mulOk i j = true) : binOp .Mult h (.pv (.int i)) (.pv (.int j)) = some (.pv (.int (i * j))) := by simp [binOp, e]
theorem o_mod (e : 0 < j) : binOp .Mod h (.pv (.int i)) (.pv (.int j)) = some (.pv (.int (i % j))) := by simp [binOp, e]
theorem o_fd (e : 0 < j) (e2 : j < 1073741824) : binOp .FloorDiv h (.pv (.int i)) (.pv (.int j)) = some (.pv (.int (i / j))) := by simp [binOp, e, e2]
theorem o_p18 : binOp .Pow h (.pv (.int 10)) (.pv (.int 18)) = some (.pv (.int 1000000000000000000)) := Eq.symm (Eq.symm rfl)
theorem o_adds (e : s.length + t.length ≤ LINE) : binOp .Add h (.pv (.str s)) (.pv (.str t)) = some (.pv (.str (s ++ t))) := by simp [binOp, e]
theorem o_addt (e : xs.length + ys.length ≤ LINE) : binOp .Add h (.pv (.tup xs)) (.pv (.tup ys)) = some (.pv (.tup (xs ++ ys))) := by simp [binOp, e]
theorem o_addl (e : xs.length + ys.length ≤ LINE) : binOp .Add h (.lst xs) (.lst ys) = some (.lst (xs ++ ys)) := by simp [binOp, lstW, e]
theorem a_add : augOp .Add (.pv (.int i)) (.pv (.int j)) = some (.int (i + j)) := Eq.symm (Eq.symm rfl)
theorem a_sub : augOp .Sub (.pv (.int i)) (.pv (.int j)) = some (.int (i - j)) := Eq.symm (Eq.symm rfl)
theorem c_eq : cmpOp .Eq h (.pv (.int i)) (.pv (.int j)) = some (i == j) := Eq.symm (Eq.symm rfl)
theorem c_ne : cmpOp .NotEq h (.pv (.int i)) (.pv (.int j)) = some (!(i == j)) := Eq.symm (Eq.symm rfl)
theorem c_eqs : cmpOp .Eq h (.pv (.str s)) (.pv (.str t)) = some (s == t) := Eq.symm (Eq.symm rfl)
theorem c_nes : cmpOp .NotEq h (.pv (.str s)) (.pv (.str t)) = some (!(s == t)) := Eq.symm (Eq.symm rfl)
theorem c_lt : cmpOp .Lt h (.pv (.int i)) (.pv (.int j)) = some (decide (i < j)) := Eq.symm (Eq.symm rfl)
theorem c_le : cmpOp .LtE h (.pv (.int i)) (.pv (.int j)) = some (decide (i ≤ j)) := Eq.symm (Eq.symm rfl)
theorem c_gt : cmpOp .Gt h (.pv (.int i)) (.pv (.int j)) = some (decide (j < i)) := Eq.symm (Eq.symm rfl)
theorem c_ge : cmpOp .GtE h (.pv (.int i)) (.pv (.int j)) = some (decide (j ≤ i)) := Eq.symm (Eq.symm rfl)
theorem c_is : cmpOp .Is h r (.pv .non) = some (isNonR r) := Eq.symm (Eq.symm rfl)
theorem c_isnot : cmpOp .IsNot h r (.pv .non) = some (!isNonR r) := Eq.symm (Eq.symm rfl)
theorem b_int : callB .int h [.pv (.int i)] = some (.pv (.int i)) := Eq.symm (Eq.symm rfl)
theorem b_min : callB .min h [.pv (.int i), .pv (.int j)] = some (.pv (.int (if j < i then j else i))) := Eq.symm (Eq.symm rfl)
theorem b_max : callB .max h [.pv (.int i), .pv (.int j)] = some (.pv (.int (if j > i then j else i))) := Eq.symm (Eq.symm rfl)
theorem b_lens (e : s.length ≤ LINE) : callB .len h [.pv (.str s)] = some (.pv (.int s.length)) := by simp [callB, e]
theorem b_lent : callB .len h [.pv (.tup xs)] = some (.pv (.int xs.length)) := Eq.symm (Eq.symm rfl)
theorem b_lenl : callB .len h [.lst xs] = some (.pv (.int xs.length)) := Eq.symm (Eq.symm rfl)
theorem b_tuple : callB .tuple h [.lst xs] = some (.pv (.tup xs)) := Eq.symm (Eq.symm rfl)
theorem b_suml {is : List Int} (e : intsOf xs = some is) : callB .sum h [.lst xs] = some (.pv (.int is.sum)) := by simp [callB, lstOf, e]
theorem b_all {bs : List Bool} (e : boolsOf xs = some bs) : callB .all h [.lst xs] = some (.pv (.bl (bs.all id))) := by simp [callB, lstOf, e]
theorem t_bl {b : Bool} : truth h (.pv (.bl b)) = some b := Eq.symm (Eq.symm rfl)
theorem t_non : truth h (.pv .non) = some false := Eq.symm (Eq.symm rfl)
theorem t_int : truth h (.pv (.int i)) = some (i != 0) := Eq.symm (Eq.symm rfl)
theorem ty_ss : isTy h .tStr (.pv (.str s)) = some true := Eq.symm (Eq.symm rfl)
theorem ty_st : isTy h .tTuple (.pv (.str s)) = some false := Eq.symm (Eq.symm rfl)
theorem ty_ts : isTy h .tStr (.pv (.tup xs)) = some false := Eq.symm (Eq.symm rfl)
theorem ty_tt : isTy h .tTuple (.pv (.tup xs)) = some true := Eq.symm (Eq.symm rfl)
theorem q_tup : seqOf h (.pv (.tup xs)) = some xs := Eq.symm (Eq.symm rfl)
theorem l_tup {zs : List PV} : lockOf (.pv (.tup xs)) zs = none := Eq.symm (Eq.symm rfl)
theorem l_lst {zs : List PV} : lockOf (.lst xs) zs = none := Eq.symm (Eq.symm rfl)
theorem at0 {α : Type} {a b : α} : atI [a, b] 0 = some a := Eq.symm (Eq.symm rfl)
theorem at1 {α : Type} {a b : α} : atI [a, b] 1 = some b := Eq.symm (Eq.symm rfl)
theorem p_int : partOf (.pv (.int i)) = some i := Eq.symm (Eq.symm rfl)
theorem i_tup : getIx h (.pv (.tup xs)) (.pv (.int i)) = atI xs i := Eq.symm (Eq.symm rfl)
theorem i_lst : getIx h (.lst xs) (.pv (.int i)) = atI xs i := Eq.symm (Eq.symm rfl)
theorem i_str (e : s.length ≤ LINE) : getIx h (.pv (.str s)) (.pv (.int i)) = (atI s i).map fun c => .str [c] := by simp [getIx, e]
theorem i_dct {d : Nat} {kvs : List (PV × PV)} {k : Txt} (e : h[d]? = some (.dct kvs)) : getIx h (.pv (.ref d)) (.pv (.str k)) = dget kvs (.str k) := by simp [getIx, lstOf, dctOf, e, isKey]
theorem s_dct {d : Nat} {kvs : List (PV × PV)} {k : Txt} {v : PV} (e : h[d]? = some (.dct kvs)) (l : kvs.length < 100) : setIx h (.pv (.ref d)) (.pv (.str k)) v = some (h.set d (.dct (dput kvs (.str k) v))) := by
  have : Nat.blt kvs.length LINE = true := by rw [Nat.blt_eq]; unfold LINE; omega
  simp [setIx, e, isKey, this]
end
theorem run_at {P : List FDef} {G : List PV} {k i : Nat} {d : FDef} {args : List PV} {h : MH} (e : P[i]? = some d) : run P G (k + 1) i args h = call1 (run P G k) G d args h := by simp only [run, e]
section
variable (F : Nat → List PV → MH → Res RV) (G : List PV)
set_option autoImplicit true
theorem ev_non : ev F G (.non) e h = (.ok (.pv .non) h) := Eq.symm (Eq.symm rfl)
theorem ev_bl : ev F G (.bl b) e h = (.ok (.pv (.bl b)) h) := Eq.symm (Eq.symm rfl)
theorem ev_int : ev F G (.int i) e h = (.ok (.pv (.int i)) h) := Eq.symm (Eq.symm rfl)
theorem ev_str : ev F G (.str s) e h = (.ok (.pv (.str s)) h) := Eq.symm (Eq.symm rfl)
theorem ev_gl : ev F G (.gl j) e h = (opt G[j]? fun v => .ok (.pv v) h) := Eq.symm (Eq.symm rfl)
theorem ev_var : ev F G (.var i) e h = (match e[i]? with
    | some (some v) => .ok (.pv v) h
    | _ => .bad) := Eq.symm (Eq.symm rfl)
theorem ev_bop : ev F G (.bop op a b) e h = ((ev F G a e h).bind fun x h1 => (ev F G b e h1).bind fun y h2 => ofOpt (binOp op h2 x y) h2) := Eq.symm (Eq.symm rfl)
theorem ev_neg : ev F G (.neg a) e h = ((ev F G a e h).bind fun x h1 => match x with
    | .pv (.int i) => .ok (.pv (.int (-i))) h1
    | _ => .bad) := Eq.symm (Eq.symm rfl)
theorem ev_cmp : ev F G (.cmp op a b) e h = ((ev F G a e h).bind fun x h1 => (ev F G b e h1).bind fun y h2 => opt (cmpOp op h2 x y) fun c => .ok (.pv (.bl c)) h2) := Eq.symm (Eq.symm rfl)
theorem ev_cmp2 : ev F G (.cmp2 op op' a b c) e h = ((ev F G a e h).bind fun x h1 => (ev F G b e h1).bind fun y h2 => opt (cmpOp op h2 x y) fun k =>
      if k then (ev F G c e h2).bind fun z h3 => opt (cmpOp op' h3 y z) fun m => .ok (.pv (.bl m)) h3 else .ok (.pv (.bl false)) h2) := Eq.symm (Eq.symm rfl)
theorem ev_band : ev F G (.band a b) e h = ((ev F G a e h).bind fun x h1 => match x with
    | .pv (.bl c) => if c then ev F G b e h1 else .ok (.pv (.bl false)) h1
    | _ => .bad) := Eq.symm (Eq.symm rfl)
theorem ev_bor : ev F G (.bor a b) e h = ((ev F G a e h).bind fun x h1 => match x with
    | .pv (.bl c) => if c then .ok (.pv (.bl true)) h1 else ev F G b e h1
    | _ => .bad) := Eq.symm (Eq.symm rfl)
theorem ev_bnot : ev F G (.bnot a) e h = ((ev F G a e h).bind fun x h1 => match x with
    | .pv (.bl c) => .ok (.pv (.bl (!c))) h1
    | _ => .bad) := Eq.symm (Eq.symm rfl)
theorem ev_ife : ev F G (.ife c a b) e h = ((tst F G c e h).bind fun k h1 => if k then ev F G a e h1 else ev F G b e h1) := Eq.symm (Eq.symm rfl)
theorem ev_tup : ev F G (.tup es) e h = ((evL F G es e h).bind fun rs h1 => if rs.length ≤ LINE then .ok (.pv (.tup (fixL rs h1).1)) (fixL rs h1).2 else .bad) := Eq.symm (Eq.symm rfl)
theorem ev_lst : ev F G (.lst es) e h = ((evL F G es e h).bind fun rs h1 => if rs.length ≤ LINE then .ok (.lst (fixL rs h1).1) (fixL rs h1).2 else .bad) := Eq.symm (Eq.symm rfl)
theorem ev_dct : ev F G (.dct ps) e h = ((evD F G ps e h).bind fun kvs h1 => if kvs.length ≤ 15 then .ok (.dct (kvs.foldl (fun d p => dput d p.1 p.2) [])) h1 else .bad) := Eq.symm (Eq.symm rfl)
theorem ev_idx : ev F G (.idx a b) e h = ((ev F G a e h).bind fun x h1 => (ev F G b e h1).bind fun y h2 => opt (getIx h2 x y) fun v => .ok (.pv v) h2) := Eq.symm (Eq.symm rfl)
theorem ev_slc : ev F G (.slc a lo hi) e h = ((ev F G a e h).bind fun x h1 => (evO F G lo e h1).bind fun l h2 => (evO F G hi e h2).bind fun u h3 => ofOpt (getCut h3 x l u) h3) := Eq.symm (Eq.symm rfl)
theorem ev_call : ev F G (.call f es) e h = ((evL F G es e h).bind fun rs h1 => F f (fixL rs h1).1 (fixL rs h1).2) := Eq.symm (Eq.symm rfl)
theorem ev_bi : ev F G (.bi b es) e h = ((evL F G es e h).bind fun rs h1 => ofOpt (callB b h1 rs) h1) := Eq.symm (Eq.symm rfl)
theorem ev_isi : ev F G (.isi a t) e h = ((ev F G a e h).bind fun x h1 => opt (isTy h1 t x) fun c => .ok (.pv (.bl c)) h1) := Eq.symm (Eq.symm rfl)
theorem ev_mth : ev F G (.mth m o es) e h = ((ev F G o e h).bind fun x h1 => if recvOk m h1 x then (evL F G es e h1).bind fun rs h2 => opt (callM m h2 x rs) fun p => .ok p.1 p.2 else .bad) := Eq.symm (Eq.symm rfl)
theorem ev_lc : ev F G (.lc elt t s cs own) e h = ((evS F G s e h).bind fun p h1 => (compL (tsts F G cs) (ev F G elt) t p.1 (wipeE e own) p.2 [] h1).bind fun xs h2 => .ok (.lst xs) h2) := Eq.symm (Eq.symm rfl)
theorem ev_lzip : ev F G (.lzip a b) e h = ((ev F G a e h).bind fun x h1 => (ev F G b e h1).bind fun y h2 => match tupOf x, tupOf y with
    | some xs, some ys => .ok (.lst (zipL xs ys)) h2
    | _, _ => .bad) := Eq.symm (Eq.symm rfl)
theorem evL_nil : evL F G (.nil) e h = (.ok [] h) := Eq.symm (Eq.symm rfl)
theorem evL_cons : evL F G (.cons a r) e h = ((ev F G a e h).bind fun x h1 => (evL F G r e h1).bind fun xs h2 => .ok (x :: xs) h2) := Eq.symm (Eq.symm rfl)
theorem evD_cons : evD F G (.cons k a r) e h = ((ev F G k e h).bind fun x h1 => (ev F G a e h1).bind fun y h2 => match x with
    | .pv k => if isKey k then (evD F G r e (fix y h2).2).bind fun r h3 => .ok ((k, (fix y h2).1) :: r) h3 else .bad
    | _ => .bad) := Eq.symm (Eq.symm rfl)
theorem evD_nil : evD F G (.nil) e h = (.ok [] h) := Eq.symm (Eq.symm rfl)
theorem evO_none : evO F G (.none) e h = (.ok none h) := Eq.symm (Eq.symm rfl)
theorem evO_some : evO F G (.some a) e h = ((ev F G a e h).bind fun x h1 => opt (partOf x) fun i => .ok (some i) h1) := Eq.symm (Eq.symm rfl)
theorem evS_seq : evS F G (.seq a) e h = ((ev F G a e h).bind fun x h1 => match x with
    | .pv (.str s) => .ok (none, s.map fun c => .str [c]) h1
    | x => opt (seqOf h1 x) fun xs => .ok (lockOf x xs, xs) h1) := Eq.symm (Eq.symm rfl)
theorem evS_rng : evS F G (.rng a) e h = ((ev F G a e h).bind fun x h1 => opt (partOf x) fun j => if smallR j then .ok (none, rngL 0 j.toNat) h1 else .bad) := Eq.symm (Eq.symm rfl)
theorem evS_rng2 : evS F G (.rng2 a b) e h = ((ev F G a e h).bind fun x h1 => (ev F G b e h1).bind fun y h2 => opt (partOf x) fun i => opt (partOf y) fun j =>
      if smallR i && smallR j then .ok (none, rngL i (j - i).toNat) h2 else .bad) := Eq.symm (Eq.symm rfl)
theorem evS_enum : evS F G (.enum a) e h = ((ev F G a e h).bind fun x h1 => opt (lstOf h1 x) fun xs => .ok (lockOf x xs, enumL 0 xs) h1) := Eq.symm (Eq.symm rfl)
theorem evS_zip : evS F G (.zip a b) e h = ((ev F G a e h).bind fun x h1 => (ev F G b e h1).bind fun y h2 => match tupOf x, tupOf y with
    | some xs, some ys => .ok (none, zipL xs ys) h2
    | _, _ => .bad) := Eq.symm (Eq.symm rfl)
theorem evS_zipS : evS F G (.zipS a b) e h = ((ev F G a e h).bind fun x h1 => (ev F G b e h1).bind fun y h2 => match tupOf x, tupOf y with
    | some xs, some ys => if xs.length = ys.length then .ok (none, zipL xs ys) h2 else .bad
    | _, _ => .bad) := Eq.symm (Eq.symm rfl)
theorem tst_band : tst F G (.band a b) e h = ((tst F G a e h).bind fun k h1 => if k then tst F G b e h1 else .ok false h1) := Eq.symm (Eq.symm rfl)
theorem tst_bor : tst F G (.bor a b) e h = ((tst F G a e h).bind fun k h1 => if k then .ok true h1 else tst F G b e h1) := Eq.symm (Eq.symm rfl)
theorem tst_bnot : tst F G (.bnot a) e h = ((tst F G a e h).bind fun k h1 => .ok (!k) h1) := Eq.symm (Eq.symm rfl)
theorem tst_non : tst F G (.non) e h = (.ok false h) := Eq.symm (Eq.symm rfl)
theorem tst_bl : tst F G (.bl b) e h = (.ok b h) := Eq.symm (Eq.symm rfl)
theorem tst_int : tst F G (.int i) e h = (.ok (i != 0) h) := Eq.symm (Eq.symm rfl)
theorem tst_str : tst F G (.str s) e h = (ofOpt (truth h (.pv (.str s))) h) := Eq.symm (Eq.symm rfl)
theorem tst_gl : tst F G (.gl j) e h = (opt G[j]? fun v => ofOpt (truth h (.pv v)) h) := Eq.symm (Eq.symm rfl)
theorem tst_var : tst F G (.var i) e h = (match e[i]? with
    | some (some v) => ofOpt (truth h (.pv v)) h
    | _ => .bad) := Eq.symm (Eq.symm rfl)
theorem tst_cmp : tst F G (.cmp op a b) e h = ((ev F G a e h).bind fun x h1 => (ev F G b e h1).bind fun y h2 => opt (cmpOp op h2 x y) fun c => .ok c h2) := Eq.symm (Eq.symm rfl)
theorem tst_cmp2 : tst F G (.cmp2 op op' a b c) e h = ((ev F G a e h).bind fun x h1 => (ev F G b e h1).bind fun y h2 => opt (cmpOp op h2 x y) fun k =>
      if k then (ev F G c e h2).bind fun z h3 => opt (cmpOp op' h3 y z) fun m => .ok m h3 else .ok false h2) := Eq.symm (Eq.symm rfl)
theorem tst_idx : tst F G (.idx a b) e h = ((ev F G a e h).bind fun x h1 => (ev F G b e h1).bind fun y h2 => opt (getIx h2 x y) fun v => ofOpt (truth h2 (.pv v)) h2) := Eq.symm (Eq.symm rfl)
theorem tst_call : tst F G (.call f es) e h = ((evL F G es e h).bind fun rs h1 => (F f (fixL rs h1).1 (fixL rs h1).2).bind fun r h2 => ofOpt (truth h2 r) h2) := Eq.symm (Eq.symm rfl)
theorem tst_bi : tst F G (.bi b es) e h = ((evL F G es e h).bind fun rs h1 => opt (callB b h1 rs) fun r => ofOpt (truth h1 r) h1) := Eq.symm (Eq.symm rfl)
theorem tst_isi : tst F G (.isi a t) e h = ((ev F G a e h).bind fun x h1 => ofOpt (isTy h1 t x) h1) := Eq.symm (Eq.symm rfl)
theorem tsts_nil : tsts F G (.nil) e h = (.ok true h) := Eq.symm (Eq.symm rfl)
theorem tsts_cons : tsts F G (.cons a w0) e h = (tst F G a e h) := Eq.symm (Eq.symm rfl)
theorem ex_asg : ex F G (.asg i a) e h = ((ev F G a e h).bind fun r h1 => .ok (.nx (e.set i (some (fix r h1).1))) (fix r h1).2) := Eq.symm (Eq.symm rfl)
theorem ex_tasg : ex F G (.tasg is a) e h = ((ev F G a e h).bind fun r h1 => match r with
    | .pv (.tup xs) => opt (setAll is xs e) fun e' => .ok (.nx e') h1
    | _ => .bad) := Eq.symm (Eq.symm rfl)
theorem ex_par : ex F G (.par i j a b) e h = ((ev F G a e h).bind fun x h1 => (ev F G b e h1).bind fun y h2 =>
      .ok (.nx ((e.set i (some (fix x h2).1)).set j (some (fix y (fix x h2).2).1))) (fix y (fix x h2).2).2) := Eq.symm (Eq.symm rfl)
theorem ex_sidx : ex F G (.sidx o k a) e h = ((ev F G a e h).bind fun r h1 => (ev F G o e h1).bind fun x h2 => (ev F G k e h2).bind fun y h3 =>
      opt (setIx (fix r h3).2 x y (fix r h3).1) fun h4 => .ok (.nx e) h4) := Eq.symm (Eq.symm rfl)
theorem ex_aug : ex F G (.aug i op a) e h = (match e[i]? with
    | some (some v) => (ev F G a e h).bind fun y h1 => opt (augOp op (.pv v) y) fun w => .ok (.nx (e.set i (some w))) h1
    | _ => .bad) := Eq.symm (Eq.symm rfl)
theorem ex_drop : ex F G (.drop a) e h = ((ev F G a e h).bind fun _ h1 => .ok (.nx e) h1) := Eq.symm (Eq.symm rfl)
theorem ex_ret : ex F G (.ret a) e h = ((ev F G a e h).bind fun r h1 => .ok (.ret r) h1) := Eq.symm (Eq.symm rfl)
theorem ex_retN : ex F G (.retN) e h = (.ok (.ret (.pv .non)) h) := Eq.symm (Eq.symm rfl)
theorem ex_ifs : ex F G (.ifs c a b) e h = ((tst F G c e h).bind fun k h1 => if k then exs F G a e h1 else exs F G b e h1) := Eq.symm (Eq.symm rfl)
theorem ex_fors : ex F G (.fors t s b) e h = ((evS F G s e h).bind fun p h1 => forL (exs F G b) t p.1 p.2 e h1) := Eq.symm (Eq.symm rfl)
theorem ex_whl : ex F G (.whl c b) e h = (whlL (tst F G c) (exs F G b) TURNS e h) := Eq.symm (Eq.symm rfl)
theorem ex_brk : ex F G (.brk) e h = (.ok (.brk e) h) := Eq.symm (Eq.symm rfl)
theorem ex_cont : ex F G (.cont) e h = (.ok (.cont e) h) := Eq.symm (Eq.symm rfl)
theorem ex_pass : ex F G (.pass) e h = (.ok (.nx e) h) := Eq.symm (Eq.symm rfl)
theorem ex_never : ex F G (.never) e h = (.bad) := Eq.symm (Eq.symm rfl)
theorem exs_nil : exs F G (.nil) e h = (.ok (.nx e) h) := Eq.symm (Eq.symm rfl)
theorem exs_cons : exs F G (.cons s r) e h = ((ex F G s e h).bind fun f h1 => match f with
    | .nx e1 => exs F G r e1 h1
    | f => .ok f h1) := Eq.symm (Eq.symm rfl)
end
end Pf
/-! PfDraw: the laws' source of numbers. -/
namespace Pf
namespace Lib
def mixed : FDef := ⟨2, 3, (.cons (.asg 2 (.bop .Add (.bop .Add (.bop .Mod (.bi .int (.cons (.var 0) .nil)) (.idx (.lst (.cons (.int 1000000007) (.cons (.int 998244353) (.cons (.int 2147483629) (.cons (.int 1000000009) .nil))))) (.bop .Mod (.bi .int (.cons (.var 1) .nil)) (.int 4)))) (.bop .Mult (.int 7919) (.var 1))) (.int 13))) (.cons (.ret (.bop .Mod (.bi .int (.cons (.bop .Mult (.bop .Mod (.bi .int (.cons (.bop .Mult (.var 2) (.var 2)) .nil)) (.int 2147483647)) (.int 48271)) .nil)) (.int 2147483647))) .nil))⟩
variable {P : List FDef} {G : List PV} {k : Nat} {h : MH}
theorem step_mixed {i : Nat} (hP : P[i]? = some mixed) (c t m : Int) (hm : atI [PV.int 1000000007, .int 998244353, .int 2147483629, .int 1000000009] (t % 4) = some (.int m)) (h0 : 0 < m) (h1 : m < 2147483648) (ht : 0 ≤ t) (ht2 : t < 1152921504606846976) :
    run P G (k + 1) i [.int c, .int t] h = .ok (.pv (.int (((c % m + 7919 * t + 13) * (c % m + 7919 * t + 13) % 2147483647 * 48271) % 2147483647))) h := by
  have e1 := Int.emod_nonneg c (Int.ne_of_gt h0)
  have e2 := Int.emod_lt_of_pos c h0
  have m1 : mulOk 7919 t = true := mulOk_of (by omega) (by omega)
  have m2 : mulOk (c % m + 7919 * t + 13) (c % m + 7919 * t + 13) = true := mulOk_of (by omega) (by omega)
  have m3 : mulOk ((c % m + 7919 * t + 13) * (c % m + 7919 * t + 13) % 2147483647) 48271 = true := mulOk_of (by omega) (by omega)
  rw [run_at hP]; simp (config := {decide := false}) only [↓reduceIte, ↓bT_eq, ↓cT_eq, ↓oT_eq, bT_ok, cT_ok, oT_some, call1, ev_non, ev_bl, ev_int, ev_str, ev_gl, ev_var, ev_bop, ev_neg, ev_cmp, ev_cmp2, ev_band, ev_bor, ev_bnot, ev_ife, ev_tup, ev_lst, ev_dct, ev_idx, ev_slc, ev_call, ev_bi, ev_isi, ev_mth, ev_lc, ev_lzip, evL_nil, evL_cons, evD_cons, evD_nil, evO_none, evO_some, evS_seq, evS_rng, evS_rng2, evS_enum, evS_zip, evS_zipS, tst_band, tst_bor, tst_bnot, tst_non, tst_bl, tst_int, tst_str, tst_gl, tst_var, tst_cmp, tst_cmp2, tst_idx, tst_call, tst_bi, tst_isi, tsts_nil, tsts_cons, ex_asg, ex_tasg, ex_par, ex_sidx, ex_aug, ex_drop, ex_ret, ex_retN, ex_ifs, ex_fors, ex_whl, ex_brk, ex_cont, ex_pass, ex_never, exs_nil, exs_cons, ofOpt_some, fix_pv, fix_lst, fix_dct, fixL_nil, fixL_cons, norm_same, norm_set, o_add, o_sub, o_mul, o_mod, o_fd, o_p18, a_add, a_sub, c_eq, c_ne, c_eqs, c_nes, c_lt, c_le, c_gt, c_ge, c_is, c_isnot, b_int, b_min, b_max, b_lent, b_lenl, b_tuple, i_tup, i_lst, t_bl, t_non, t_int, ty_ss, ty_st, ty_ts, ty_tt, q_tup, l_tup, l_lst, at0, at1, p_int, isNonR, List.length_cons, List.length_nil, List.map_cons, List.map_nil, List.cons_append, List.nil_append, List.replicate_succ, List.replicate_zero, List.getElem?_cons_zero, List.getElem?_cons_succ, List.getElem?_nil, List.set_cons_zero, List.set_cons_succ, List.set_nil, Nat.sub_self, Nat.reduceSub, Nat.reduceAdd, Nat.reduceMul, Nat.zero_add, Int.reduceLT, Int.reduceLE, Nat.reduceLeDiff, LINE, if_true, if_false, Bool.false_eq_true, Bool.true_eq_false, Bool.not_true, Bool.not_false, ite_self, eq_self, Prod.fst, Prod.snd, mixed, hm, h0, m1, m2, m3]
def mixM (t : Int) : Int := if t % 4 = 0 then 1000000007 else if t % 4 = 1 then 998244353 else if t % 4 = 2 then 2147483629 else 1000000009
def mixF (c t : Int) : Int := ((c % mixM t + 7919 * t + 13) * (c % mixM t + 7919 * t + 13) % 2147483647 * 48271) % 2147483647
theorem mixF_lo (c t : Int) : 0 ≤ mixF c t := Int.emod_nonneg _ (by decide)
theorem mixF_hi (c t : Int) : mixF c t < 2147483647 := Int.emod_lt_of_pos _ (by decide)
theorem run_mixed {i : Nat} (hP : P[i]? = some mixed) (c t : Int) (ht : 0 ≤ t) (ht2 : t < 1152921504606846976) : run P G (k + 1) i [.int c, .int t] h = .ok (.pv (.int (mixF c t))) h := by
  have h4 : t % 4 = 0 ∨ t % 4 = 1 ∨ t % 4 = 2 ∨ t % 4 = 3 := by omega
  refine step_mixed hP c t (mixM t) ?_ ?_ ?_ ht ht2 <;> (rcases h4 with e | e | e | e <;> simp only [mixM, e] <;> first | rfl | decide)
/-! ### the draw dict -/
def kL : PV := .str [108, 101, 102, 116]
def kC : PV := .str [99, 101, 108, 108]
def kT : PV := .str [116, 117, 114, 110, 115]
def D (l c t : Int) : List (PV × PV) := [(kL, .int l), (kC, .int c), (kT, .int t)]
theorem dget_L (l c t : Int) : dget (D l c t) (.str [108, 101, 102, 116]) = some (.int l) := rfl
theorem dget_C (l c t : Int) : dget (D l c t) (.str [99, 101, 108, 108]) = some (.int c) := rfl
theorem dget_T (l c t : Int) : dget (D l c t) (.str [116, 117, 114, 110, 115]) = some (.int t) := rfl
theorem dput_L (l c t x : Int) : dput (D l c t) (.str [108, 101, 102, 116]) (.int x) = D x c t := rfl
theorem dput_T (l c t x : Int) : dput (D l c t) (.str [116, 117, 114, 110, 115]) (.int x) = D l c x := rfl
def draw : FDef := ⟨2, 2, (.cons (.ret (.dct (.cons (.str [108, 101, 102, 116]) (.ife (.cmp .GtE (.var 0) (.bop .Pow (.int 10) (.int 18))) (.var 0) (.int 0)) (.cons (.str [99, 101, 108, 108]) (.var 0) (.cons (.str [116, 117, 114, 110, 115]) (.bop .Mult (.int 1000) (.var 1)) .nil))))) .nil)⟩
def turnB (iM : Nat) : CSL := (.cons (.sidx (.var 0) (.str [116, 117, 114, 110, 115]) (.bop .Add (.idx (.var 0) (.str [116, 117, 114, 110, 115])) (.int 1))) (.cons (.sidx (.var 0) (.str [108, 101, 102, 116]) (.bop .Add (.bop .Mult (.idx (.var 0) (.str [108, 101, 102, 116])) (.int 2147483647)) (.call iM (.cons (.idx (.var 0) (.str [99, 101, 108, 108])) (.cons (.idx (.var 0) (.str [116, 117, 114, 110, 115])) .nil))))) .nil))
def digit (iM : Nat) : FDef := ⟨2, 4, (.cons (.ifs (.cmp .Eq (.idx (.var 0) (.str [108, 101, 102, 116])) (.int 0)) (.cons (.fors (.nm 3) (.rng (.int 4)) (turnB iM)) .nil) .nil) (.cons (.asg 2 (.bop .Mod (.bi .int (.cons (.idx (.var 0) (.str [108, 101, 102, 116])) .nil)) (.var 1))) (.cons (.sidx (.var 0) (.str [108, 101, 102, 116]) (.bop .FloorDiv (.bi .int (.cons (.idx (.var 0) (.str [108, 101, 102, 116])) .nil)) (.var 1))) (.cons (.ret (.var 2)) .nil))))⟩
theorem dfold (l c t : Int) : [(PV.str [108, 101, 102, 116], PV.int l), (.str [99, 101, 108, 108], .int c), (.str [116, 117, 114, 110, 115], .int t)].foldl (fun d p => dput d p.1 p.2) [] = D l c t := rfl
theorem isKey_str {s : Txt} : isKey (.str s) = true := rfl
theorem run_draw {i : Nat} (hP : P[i]? = some draw) (c t : Int) (h0 : 0 ≤ t) (h1 : t < 1000) : ∃ l : Int, 0 ≤ l ∧ run P G (k + 1) i [.int c, .int t] h = .ok (.dct (D l c (1000 * t))) h := by
  have m : mulOk 1000 t = true := mulOk_of (by omega) (by omega)
  by_cases hc : (1000000000000000000 : Int) ≤ c
  · refine ⟨c, by omega, ?_⟩
    rw [run_at hP]; simp (config := {decide := false}) only [↓reduceIte, ↓bT_eq, ↓cT_eq, ↓oT_eq, bT_ok, cT_ok, oT_some, call1, ev_non, ev_bl, ev_int, ev_str, ev_gl, ev_var, ev_bop, ev_neg, ev_cmp, ev_cmp2, ev_band, ev_bor, ev_bnot, ev_ife, ev_tup, ev_lst, ev_dct, ev_idx, ev_slc, ev_call, ev_bi, ev_isi, ev_mth, ev_lc, ev_lzip, evL_nil, evL_cons, evD_cons, evD_nil, evO_none, evO_some, evS_seq, evS_rng, evS_rng2, evS_enum, evS_zip, evS_zipS, tst_band, tst_bor, tst_bnot, tst_non, tst_bl, tst_int, tst_str, tst_gl, tst_var, tst_cmp, tst_cmp2, tst_idx, tst_call, tst_bi, tst_isi, tsts_nil, tsts_cons, ex_asg, ex_tasg, ex_par, ex_sidx, ex_aug, ex_drop, ex_ret, ex_retN, ex_ifs, ex_fors, ex_whl, ex_brk, ex_cont, ex_pass, ex_never, exs_nil, exs_cons, ofOpt_some, fix_pv, fix_lst, fix_dct, fixL_nil, fixL_cons, norm_same, norm_set, o_add, o_sub, o_mul, o_mod, o_fd, o_p18, a_add, a_sub, c_eq, c_ne, c_eqs, c_nes, c_lt, c_le, c_gt, c_ge, c_is, c_isnot, b_int, b_min, b_max, b_lent, b_lenl, b_tuple, i_tup, i_lst, t_bl, t_non, t_int, ty_ss, ty_st, ty_ts, ty_tt, q_tup, l_tup, l_lst, at0, at1, p_int, isNonR, List.length_cons, List.length_nil, List.map_cons, List.map_nil, List.cons_append, List.nil_append, List.replicate_succ, List.replicate_zero, List.getElem?_cons_zero, List.getElem?_cons_succ, List.getElem?_nil, List.set_cons_zero, List.set_cons_succ, List.set_nil, Nat.sub_self, Nat.reduceSub, Nat.reduceAdd, Nat.reduceMul, Nat.zero_add, Int.reduceLT, Int.reduceLE, Nat.reduceLeDiff, LINE, if_true, if_false, Bool.false_eq_true, Bool.true_eq_false, Bool.not_true, Bool.not_false, ite_self, eq_self, Prod.fst, Prod.snd, draw, decide_true, hc, m, isKey_str, dfold]
  · refine ⟨0, Int.le_refl _, ?_⟩
    rw [run_at hP]; simp (config := {decide := false}) only [↓reduceIte, ↓bT_eq, ↓cT_eq, ↓oT_eq, bT_ok, cT_ok, oT_some, call1, ev_non, ev_bl, ev_int, ev_str, ev_gl, ev_var, ev_bop, ev_neg, ev_cmp, ev_cmp2, ev_band, ev_bor, ev_bnot, ev_ife, ev_tup, ev_lst, ev_dct, ev_idx, ev_slc, ev_call, ev_bi, ev_isi, ev_mth, ev_lc, ev_lzip, evL_nil, evL_cons, evD_cons, evD_nil, evO_none, evO_some, evS_seq, evS_rng, evS_rng2, evS_enum, evS_zip, evS_zipS, tst_band, tst_bor, tst_bnot, tst_non, tst_bl, tst_int, tst_str, tst_gl, tst_var, tst_cmp, tst_cmp2, tst_idx, tst_call, tst_bi, tst_isi, tsts_nil, tsts_cons, ex_asg, ex_tasg, ex_par, ex_sidx, ex_aug, ex_drop, ex_ret, ex_retN, ex_ifs, ex_fors, ex_whl, ex_brk, ex_cont, ex_pass, ex_never, exs_nil, exs_cons, ofOpt_some, fix_pv, fix_lst, fix_dct, fixL_nil, fixL_cons, norm_same, norm_set, o_add, o_sub, o_mul, o_mod, o_fd, o_p18, a_add, a_sub, c_eq, c_ne, c_eqs, c_nes, c_lt, c_le, c_gt, c_ge, c_is, c_isnot, b_int, b_min, b_max, b_lent, b_lenl, b_tuple, i_tup, i_lst, t_bl, t_non, t_int, ty_ss, ty_st, ty_ts, ty_tt, q_tup, l_tup, l_lst, at0, at1, p_int, isNonR, List.length_cons, List.length_nil, List.map_cons, List.map_nil, List.cons_append, List.nil_append, List.replicate_succ, List.replicate_zero, List.getElem?_cons_zero, List.getElem?_cons_succ, List.getElem?_nil, List.set_cons_zero, List.set_cons_succ, List.set_nil, Nat.sub_self, Nat.reduceSub, Nat.reduceAdd, Nat.reduceMul, Nat.zero_add, Int.reduceLT, Int.reduceLE, Nat.reduceLeDiff, LINE, if_true, if_false, Bool.false_eq_true, Bool.true_eq_false, Bool.not_true, Bool.not_false, ite_self, eq_self, Prod.fst, Prod.snd, draw, decide_false, hc, m, isKey_str, dfold]
theorem dlen (l c t : Int) : (D l c t).length < 100 := by show 3 < 100; decide
theorem partOf_int {i : Int} : partOf (.pv (.int i)) = some i := rfl
/-- where l is not 0 -/
theorem digit_tail {iM iD : Nat} (hP : P[iD]? = some (digit iM)) {d : Nat} {l c t s : Int} (e : h[d]? = some (.dct (D l c t))) (h0 : l ≠ 0) (hl : 0 ≤ l) (hs : 0 < s) (hs2 : s < 1073741824) :
    run P G (k + 1) iD [.ref d, .int s] h = .ok (.pv (.int (l % s))) (h.set d (.dct (D (l / s) c t))) := by
  have b : (l == 0) = false := by simpa using h0
  rw [run_at hP]; simp (config := {decide := false}) only [↓reduceIte, ↓bT_eq, ↓cT_eq, ↓oT_eq, bT_ok, cT_ok, oT_some, call1, ev_non, ev_bl, ev_int, ev_str, ev_gl, ev_var, ev_bop, ev_neg, ev_cmp, ev_cmp2, ev_band, ev_bor, ev_bnot, ev_ife, ev_tup, ev_lst, ev_dct, ev_idx, ev_slc, ev_call, ev_bi, ev_isi, ev_mth, ev_lc, ev_lzip, evL_nil, evL_cons, evD_cons, evD_nil, evO_none, evO_some, evS_seq, evS_rng, evS_rng2, evS_enum, evS_zip, evS_zipS, tst_band, tst_bor, tst_bnot, tst_non, tst_bl, tst_int, tst_str, tst_gl, tst_var, tst_cmp, tst_cmp2, tst_idx, tst_call, tst_bi, tst_isi, tsts_nil, tsts_cons, ex_asg, ex_tasg, ex_par, ex_sidx, ex_aug, ex_drop, ex_ret, ex_retN, ex_ifs, ex_fors, ex_whl, ex_brk, ex_cont, ex_pass, ex_never, exs_nil, exs_cons, ofOpt_some, fix_pv, fix_lst, fix_dct, fixL_nil, fixL_cons, norm_same, norm_set, o_add, o_sub, o_mul, o_mod, o_fd, o_p18, a_add, a_sub, c_eq, c_ne, c_eqs, c_nes, c_lt, c_le, c_gt, c_ge, c_is, c_isnot, b_int, b_min, b_max, b_lent, b_lenl, b_tuple, i_tup, i_lst, t_bl, t_non, t_int, ty_ss, ty_st, ty_ts, ty_tt, q_tup, l_tup, l_lst, at0, at1, p_int, isNonR, List.length_cons, List.length_nil, List.map_cons, List.map_nil, List.cons_append, List.nil_append, List.replicate_succ, List.replicate_zero, List.getElem?_cons_zero, List.getElem?_cons_succ, List.getElem?_nil, List.set_cons_zero, List.set_cons_succ, List.set_nil, Nat.sub_self, Nat.reduceSub, Nat.reduceAdd, Nat.reduceMul, Nat.zero_add, Int.reduceLT, Int.reduceLE, Nat.reduceLeDiff, LINE, if_true, if_false, Bool.false_eq_true, Bool.true_eq_false, Bool.not_true, Bool.not_false, ite_self, eq_self, Prod.fst, Prod.snd, digit, i_dct e, dget_L, b, hs, hs2, s_dct e (dlen _ _ _), dput_L]
theorem turn_ok {iM : Nat} (hM : P[iM]? = some mixed) {d : Nat} {l c t s : Int} {o p : Option PV} (e : h[d]? = some (.dct (D l c t))) (hl : 0 ≤ l) (hl2 : l < 19807040628566084398385987584) (ht : 0 ≤ t) (ht2 : t < 1000000000000000000) :
    exs (run P G (k + 1)) G (turnB iM) [some (.ref d), some (.int s), o, p] h = .ok (.nx [some (.ref d), some (.int s), o, p]) (h.set d (.dct (D (l * 2147483647 + mixF c (t + 1)) c (t + 1)))) := by
  have m : mulOk l 2147483647 = true := mulOk_of (by omega) (by omega)
  have e1 := set_get (x := MO.dct (D l c (t + 1))) e
  simp (config := {decide := false}) only [↓reduceIte, ↓bT_eq, ↓cT_eq, ↓oT_eq, bT_ok, cT_ok, oT_some, call1, ev_non, ev_bl, ev_int, ev_str, ev_gl, ev_var, ev_bop, ev_neg, ev_cmp, ev_cmp2, ev_band, ev_bor, ev_bnot, ev_ife, ev_tup, ev_lst, ev_dct, ev_idx, ev_slc, ev_call, ev_bi, ev_isi, ev_mth, ev_lc, ev_lzip, evL_nil, evL_cons, evD_cons, evD_nil, evO_none, evO_some, evS_seq, evS_rng, evS_rng2, evS_enum, evS_zip, evS_zipS, tst_band, tst_bor, tst_bnot, tst_non, tst_bl, tst_int, tst_str, tst_gl, tst_var, tst_cmp, tst_cmp2, tst_idx, tst_call, tst_bi, tst_isi, tsts_nil, tsts_cons, ex_asg, ex_tasg, ex_par, ex_sidx, ex_aug, ex_drop, ex_ret, ex_retN, ex_ifs, ex_fors, ex_whl, ex_brk, ex_cont, ex_pass, ex_never, exs_nil, exs_cons, ofOpt_some, fix_pv, fix_lst, fix_dct, fixL_nil, fixL_cons, norm_same, norm_set, o_add, o_sub, o_mul, o_mod, o_fd, o_p18, a_add, a_sub, c_eq, c_ne, c_eqs, c_nes, c_lt, c_le, c_gt, c_ge, c_is, c_isnot, b_int, b_min, b_max, b_lent, b_lenl, b_tuple, i_tup, i_lst, t_bl, t_non, t_int, ty_ss, ty_st, ty_ts, ty_tt, q_tup, l_tup, l_lst, at0, at1, p_int, isNonR, List.length_cons, List.length_nil, List.map_cons, List.map_nil, List.cons_append, List.nil_append, List.replicate_succ, List.replicate_zero, List.getElem?_cons_zero, List.getElem?_cons_succ, List.getElem?_nil, List.set_cons_zero, List.set_cons_succ, List.set_nil, Nat.sub_self, Nat.reduceSub, Nat.reduceAdd, Nat.reduceMul, Nat.zero_add, Int.reduceLT, Int.reduceLE, Nat.reduceLeDiff, LINE, if_true, if_false, Bool.false_eq_true, Bool.true_eq_false, Bool.not_true, Bool.not_false, ite_self, eq_self, Prod.fst, Prod.snd, turnB, i_dct e, dget_T, s_dct e (dlen _ _ _), dput_T, i_dct e1, dget_L, dget_C, m, run_mixed hM c (t + 1) (by omega) (by omega), s_dct e1 (dlen _ _ _), dput_L, List.set_set]
theorem step4 {iM : Nat} (hM : P[iM]? = some mixed) {d : Nat} {c t s : Int} {o p : Option PV} (e : h[d]? = some (.dct (D 0 c t))) (ht : 0 ≤ t) (ht2 : t < 900000000000000000) :
    ∃ l : Int, 0 ≤ l ∧ forL (exs (run P G (k + 1)) G (turnB iM)) (.nm 3) none (rngL 0 4) [some (.ref d), some (.int s), o, p] h = .ok (.nx [some (.ref d), some (.int s), o, some (.int 3)]) (h.set d (.dct (D l c (t + 4)))) := by
  have b : ∀ t, 0 ≤ mixF c t ∧ mixF c t < 2147483647 := fun t => ⟨mixF_lo c t, mixF_hi c t⟩
  obtain ⟨l1, q1⟩ : ∃ l1 : Int, l1 = 0 * 2147483647 + mixF c (t + 1) := ⟨_, rfl⟩
  obtain ⟨l2, q2⟩ : ∃ l2 : Int, l2 = l1 * 2147483647 + mixF c (t + 1 + 1) := ⟨_, rfl⟩
  obtain ⟨l3, q3⟩ : ∃ l3 : Int, l3 = l2 * 2147483647 + mixF c (t + 1 + 1 + 1) := ⟨_, rfl⟩
  obtain ⟨l4, q4⟩ : ∃ l4 : Int, l4 = l3 * 2147483647 + mixF c (t + 1 + 1 + 1 + 1) := ⟨_, rfl⟩
  have b1 := b (t + 1); have b2 := b (t + 1 + 1); have b3 := b (t + 1 + 1 + 1); have b4 := b (t + 1 + 1 + 1 + 1)
  have e1 := set_get (x := MO.dct (D l1 c (t + 1))) e
  have e2 := set_get (x := MO.dct (D l2 c (t + 1 + 1))) e
  have e3 := set_get (x := MO.dct (D l3 c (t + 1 + 1 + 1))) e
  have s1 := fun p => turn_ok (P := P) (G := G) (k := k) hM (s := s) (o := o) (p := p) e (by omega) (by omega) ht (by omega)
  have s2 := fun p => turn_ok (P := P) (G := G) (k := k) hM (s := s) (o := o) (p := p) e1 (by omega) (by omega) (by omega) (by omega)
  have s3 := fun p => turn_ok (P := P) (G := G) (k := k) hM (s := s) (o := o) (p := p) e2 (by omega) (by omega) (by omega) (by omega)
  have s4 := fun p => turn_ok (P := P) (G := G) (k := k) hM (s := s) (o := o) (p := p) e3 (by omega) (by omega) (by omega) (by omega)
  rw [← q1] at s1
  rw [← q2, List.set_set] at s2
  rw [← q3, List.set_set] at s3
  rw [← q4, List.set_set] at s4
  have t4 : t + 1 + 1 + 1 + 1 = t + 4 := by omega
  rw [t4] at s4
  refine ⟨l4, by omega, ?_⟩
  simp (config := {decide := false}) only [↓reduceIte, ↓bT_eq, ↓cT_eq, ↓oT_eq, bT_ok, cT_ok, oT_some, call1, ev_non, ev_bl, ev_int, ev_str, ev_gl, ev_var, ev_bop, ev_neg, ev_cmp, ev_cmp2, ev_band, ev_bor, ev_bnot, ev_ife, ev_tup, ev_lst, ev_dct, ev_idx, ev_slc, ev_call, ev_bi, ev_isi, ev_mth, ev_lc, ev_lzip, evL_nil, evL_cons, evD_cons, evD_nil, evO_none, evO_some, evS_seq, evS_rng, evS_rng2, evS_enum, evS_zip, evS_zipS, tst_band, tst_bor, tst_bnot, tst_non, tst_bl, tst_int, tst_str, tst_gl, tst_var, tst_cmp, tst_cmp2, tst_idx, tst_call, tst_bi, tst_isi, tsts_nil, tsts_cons, ex_asg, ex_tasg, ex_par, ex_sidx, ex_aug, ex_drop, ex_ret, ex_retN, ex_ifs, ex_fors, ex_whl, ex_brk, ex_cont, ex_pass, ex_never, exs_nil, exs_cons, ofOpt_some, fix_pv, fix_lst, fix_dct, fixL_nil, fixL_cons, norm_same, norm_set, o_add, o_sub, o_mul, o_mod, o_fd, o_p18, a_add, a_sub, c_eq, c_ne, c_eqs, c_nes, c_lt, c_le, c_gt, c_ge, c_is, c_isnot, b_int, b_min, b_max, b_lent, b_lenl, b_tuple, i_tup, i_lst, t_bl, t_non, t_int, ty_ss, ty_st, ty_ts, ty_tt, q_tup, l_tup, l_lst, at0, at1, p_int, isNonR, List.length_cons, List.length_nil, List.map_cons, List.map_nil, List.cons_append, List.nil_append, List.replicate_succ, List.replicate_zero, List.getElem?_cons_zero, List.getElem?_cons_succ, List.getElem?_nil, List.set_cons_zero, List.set_cons_succ, List.set_nil, Nat.sub_self, Nat.reduceSub, Nat.reduceAdd, Nat.reduceMul, Nat.zero_add, Int.reduceLT, Int.reduceLE, Nat.reduceLeDiff, LINE, if_true, if_false, Bool.false_eq_true, Bool.true_eq_false, Bool.not_true, Bool.not_false, ite_self, eq_self, Prod.fst, Prod.snd, rngL, forL, lockOk, Tgt.set, s1, s2, s3, s4]
  rfl
theorem run_digit {iM iD : Nat} (hP : P[iD]? = some (digit iM)) (hM : P[iM]? = some mixed) {d : Nat} {l c t s : Int} (e : h[d]? = some (.dct (D l c t))) (hl : 0 ≤ l) (ht : 0 ≤ t) (ht2 : t < 900000000000000000) (hs : 0 < s) (hs2 : s < 1073741824) :
    ∃ r l' t' : Int, 0 ≤ r ∧ r < s ∧ 0 ≤ l' ∧ t ≤ t' ∧ t' ≤ t + 4 ∧ run P G (k + 2) iD [.ref d, .int s] h = .ok (.pv (.int r)) (h.set d (.dct (D l' c t'))) := by
  by_cases h0 : l = 0
  · subst h0
    obtain ⟨l, q, f⟩ := step4 (P := P) (G := G) (k := k) (s := s) (o := none) (p := none) hM e ht ht2
    have e1 := set_get (x := MO.dct (D l c (t + 4))) e
    refine ⟨l % s, l / s, t + 4, Int.emod_nonneg _ (by omega), Int.emod_lt_of_pos _ hs, Int.ediv_nonneg q (by omega), by omega, by omega, ?_⟩
    have b : ((0 : Int) == 0) = true := rfl
    have f' : forL (exs (run P G (k + 1)) G (turnB iM)) (.nm 3) none (rngL 0 (Int.toNat 4)) [some (.ref d), some (.int s), none, none] h = .ok (.nx [some (.ref d), some (.int s), none, some (.int 3)]) (h.set d (.dct (D l c (t + 4)))) := f
    have sm : smallR 4 = true := rfl
    rw [run_at hP]; simp (config := {decide := false}) only [↓reduceIte, ↓bT_eq, ↓cT_eq, ↓oT_eq, bT_ok, cT_ok, oT_some, call1, ev_non, ev_bl, ev_int, ev_str, ev_gl, ev_var, ev_bop, ev_neg, ev_cmp, ev_cmp2, ev_band, ev_bor, ev_bnot, ev_ife, ev_tup, ev_lst, ev_dct, ev_idx, ev_slc, ev_call, ev_bi, ev_isi, ev_mth, ev_lc, ev_lzip, evL_nil, evL_cons, evD_cons, evD_nil, evO_none, evO_some, evS_seq, evS_rng, evS_rng2, evS_enum, evS_zip, evS_zipS, tst_band, tst_bor, tst_bnot, tst_non, tst_bl, tst_int, tst_str, tst_gl, tst_var, tst_cmp, tst_cmp2, tst_idx, tst_call, tst_bi, tst_isi, tsts_nil, tsts_cons, ex_asg, ex_tasg, ex_par, ex_sidx, ex_aug, ex_drop, ex_ret, ex_retN, ex_ifs, ex_fors, ex_whl, ex_brk, ex_cont, ex_pass, ex_never, exs_nil, exs_cons, ofOpt_some, fix_pv, fix_lst, fix_dct, fixL_nil, fixL_cons, norm_same, norm_set, o_add, o_sub, o_mul, o_mod, o_fd, o_p18, a_add, a_sub, c_eq, c_ne, c_eqs, c_nes, c_lt, c_le, c_gt, c_ge, c_is, c_isnot, b_int, b_min, b_max, b_lent, b_lenl, b_tuple, i_tup, i_lst, t_bl, t_non, t_int, ty_ss, ty_st, ty_ts, ty_tt, q_tup, l_tup, l_lst, at0, at1, p_int, isNonR, List.length_cons, List.length_nil, List.map_cons, List.map_nil, List.cons_append, List.nil_append, List.replicate_succ, List.replicate_zero, List.getElem?_cons_zero, List.getElem?_cons_succ, List.getElem?_nil, List.set_cons_zero, List.set_cons_succ, List.set_nil, Nat.sub_self, Nat.reduceSub, Nat.reduceAdd, Nat.reduceMul, Nat.zero_add, Int.reduceLT, Int.reduceLE, Nat.reduceLeDiff, LINE, if_true, if_false, Bool.false_eq_true, Bool.true_eq_false, Bool.not_true, Bool.not_false, ite_self, eq_self, Prod.fst, Prod.snd, digit, i_dct e, dget_L, b, partOf_int, sm, f', i_dct e1, hs, hs2, s_dct e1 (dlen _ _ _), dput_L, List.set_set]
  · exact ⟨l % s, l / s, t, Int.emod_nonneg _ (by omega), Int.emod_lt_of_pos _ hs, Int.ediv_nonneg hl (by omega), Int.le_refl _, by omega, digit_tail hP e h0 hl hs hs2⟩
end Lib
end Pf
/-! PfForm: forms (terms, patterns) and the laws' functions of them. -/
namespace Pf
/-- a form: a variable, or a word with parts -/
inductive Fm where
  | v (s : Txt) | n (w : Txt) (ps : List Fm)
instance : Inhabited Fm := ⟨.v []⟩
namespace Fm
mutual
def pv : Fm → PV
  | .v s => .str s
  | .n w ps => .tup [.str w, .tup (pvs ps)]
def pvs : List Fm → List PV
  | [] => []
  | p :: ps => pv p :: pvs ps
end
mutual
def size : Fm → Int
  | .v _ => 1
  | .n _ ps => 1 + sizes ps
def sizes : List Fm → Int
  | [] => 0
  | p :: ps => size p + sizes ps
end
mutual
def depth : Fm → Nat
  | .v _ => 1
  | .n _ ps => 1 + depths ps
def depths : List Fm → Nat
  | [] => 0
  | p :: ps => max (depth p) (depths ps)
end
theorem pvs_len : ∀ ps : List Fm, (pvs ps).length = ps.length
  | [] => rfl
  | p :: ps => by simp [pvs, pvs_len ps]
theorem pvs_append : ∀ (ps qs : List Fm), pvs (ps ++ qs) = pvs ps ++ pvs qs
  | [], _ => rfl
  | p :: ps, qs => by simp [pvs, pvs_append ps qs]
theorem sizes_append : ∀ (ps qs : List Fm), sizes (ps ++ qs) = sizes ps + sizes qs
  | [], qs => by simp [sizes]
  | p :: ps, qs => by simp [sizes, sizes_append ps qs]; omega
theorem pvs_map : ∀ ps : List Fm, pvs ps = ps.map pv
  | [] => rfl
  | p :: ps => by simp [pvs, pvs_map ps]
mutual
theorem size_pos : ∀ f : Fm, 1 ≤ size f
  | .v _ => by simp [size]
  | .n _ ps => by have := sizes_nn ps; simp [size]; omega
theorem sizes_nn : ∀ ps : List Fm, 0 ≤ sizes ps
  | [] => by simp [sizes]
  | p :: ps => by have := size_pos p; have := sizes_nn ps; simp [sizes]; omega
end
/-- words out of W, at most three parts, variables out of S, at most d deep -/
inductive Ok (W : List Txt) (S : Txt) : Nat → Fm → Prop where
  | v {d : Nat} {c : Nat} (h : c ∈ S) : Ok W S (d + 1) (.v [c])
  | n {d : Nat} {w : Txt} {ps : List Fm} (h : w ∈ W) (l : ps.length ≤ 3) (q : ∀ p ∈ ps, Ok W S d p) : Ok W S (d + 1) (.n w ps)
theorem Ok.mono {W : List Txt} {S : Txt} {d e : Nat} {f : Fm} (h : Ok W S d f) (le : d ≤ e) : Ok W S e f := by
  induction h generalizing e with
  | v h =>
    cases e with
    | zero => omega
    | succ e => exact .v h
  | n h l q ih =>
    cases e with
    | zero => omega
    | succ e => exact .n h l fun p hp => ih p hp (by omega)
end Fm
namespace Lib
variable {P : List FDef} {G : List PV} {k : Nat} {h : MH}
/-- a comprehension that only tells values -/
theorem comp_map {F : Nat → List PV → MH → Res RV} {elt : Env → MH → Res RV} {i : Nat} {e : Env} {g : PV → PV} : ∀ {xs acc : List PV}, (∀ x ∈ xs, elt (e.set i (some x)) h = .ok (.pv (g x)) h) → acc.length + xs.length ≤ LINE →
    compL (tsts F G .nil) elt (.nm i) none e xs acc h = .ok (acc ++ xs.map g) h
  | [], acc, _, _ => by simp [compL, lockOk]
  | x :: xs, acc, hx, hl => by
    simp only [List.length_cons] at hl
    have hl' : acc.length < LINE := by omega
    have h1 := hx x List.mem_cons_self
    simp only [compL, lockOk, if_true, Tgt.set, opt_some, tsts_nil, rc_ok, h1, fix_pv, hl']
    rw [comp_map (fun y hy => hx y (List.mem_cons_of_mem _ hy)) (by simp; omega)]
    simp
/-! ### size -/
def size_of (iZ : Nat) : FDef := ⟨1, 2, (.cons (.ret (.ife (.isi (.var 0) .tStr) (.int 1) (.bop .Add (.int 1) (.bi .sum (.cons (.lc (.call iZ (.cons (.var 1) .nil)) (.nm 1) (.seq (.idx (.var 0) (.int 1))) .nil [1]) .nil))))) .nil)⟩
/-- a function on the parts, as one on values -/
theorem comp_fm {F : Nat → List PV → MH → Res RV} {elt : Env → MH → Res RV} {i : Nat} {e : Env} {g : Fm → PV} : ∀ {ps : List Fm} {acc : List PV}, (∀ p ∈ ps, elt (e.set i (some p.pv)) h = .ok (.pv (g p)) h) → acc.length + ps.length ≤ LINE →
    compL (tsts F G .nil) elt (.nm i) none e (Fm.pvs ps) acc h = .ok (acc ++ ps.map g) h
  | [], acc, _, _ => by simp [compL, lockOk, Fm.pvs]
  | x :: xs, acc, hx, hl => by
    simp only [List.length_cons] at hl
    have hl' : acc.length < LINE := by omega
    have h1 := hx x List.mem_cons_self
    simp only [compL, lockOk, if_true, Tgt.set, opt_some, tsts_nil, rc_ok, h1, fix_pv, hl', Fm.pvs]
    rw [comp_fm (fun y hy => hx y (List.mem_cons_of_mem _ hy)) (by simp; omega)]
    simp
theorem sizes_ints : ∀ ps : List Fm, ∃ is : List Int, intsOf (ps.map fun p => PV.int p.size) = some is ∧ is.sum = Fm.sizes ps
  | [] => ⟨[], rfl, rfl⟩
  | p :: ps => by
    obtain ⟨is, a, b⟩ := sizes_ints ps
    exact ⟨p.size :: is, by simp [intsOf, a], by simp [Fm.sizes, b]⟩
/-- at most three parts everywhere -/
inductive Fm3 : Nat → Fm → Prop where
  | v {d : Nat} {s : Txt} : Fm3 (d + 1) (.v s)
  | n {d : Nat} {w : Txt} {ps : List Fm} (l : ps.length ≤ 1000) (q : ∀ p ∈ ps, Fm3 d p) : Fm3 (d + 1) (.n w ps)
theorem run_size {iZ : Nat} (hZ : P[iZ]? = some (size_of iZ)) : ∀ {d : Nat} {f : Fm} {h : MH} {k : Nat}, Fm3 d f → run P G (k + d) iZ [f.pv] h = .ok (.pv (.int f.size)) h := by
  intro d
  induction d with
  | zero => intro f h k hf; cases hf
  | succ d ih =>
    intro f h k hf
    show run P G ((k + d) + 1) iZ [f.pv] h = _
    cases hf with
    | v =>
      rw [run_at hZ]; simp (config := {decide := false}) only [↓reduceIte, ↓bT_eq, ↓cT_eq, ↓oT_eq, bT_ok, cT_ok, oT_some, call1, ev_non, ev_bl, ev_int, ev_str, ev_gl, ev_var, ev_bop, ev_neg, ev_cmp, ev_cmp2, ev_band, ev_bor, ev_bnot, ev_ife, ev_tup, ev_lst, ev_dct, ev_idx, ev_slc, ev_call, ev_bi, ev_isi, ev_mth, ev_lc, ev_lzip, evL_nil, evL_cons, evD_cons, evD_nil, evO_none, evO_some, evS_seq, evS_rng, evS_rng2, evS_enum, evS_zip, evS_zipS, tst_band, tst_bor, tst_bnot, tst_non, tst_bl, tst_int, tst_str, tst_gl, tst_var, tst_cmp, tst_cmp2, tst_idx, tst_call, tst_bi, tst_isi, tsts_nil, tsts_cons, ex_asg, ex_tasg, ex_par, ex_sidx, ex_aug, ex_drop, ex_ret, ex_retN, ex_ifs, ex_fors, ex_whl, ex_brk, ex_cont, ex_pass, ex_never, exs_nil, exs_cons, ofOpt_some, fix_pv, fix_lst, fix_dct, fixL_nil, fixL_cons, norm_same, norm_set, o_add, o_sub, o_mul, o_mod, o_fd, o_p18, a_add, a_sub, c_eq, c_ne, c_eqs, c_nes, c_lt, c_le, c_gt, c_ge, c_is, c_isnot, b_int, b_min, b_max, b_lent, b_lenl, b_tuple, i_tup, i_lst, t_bl, t_non, t_int, ty_ss, ty_st, ty_ts, ty_tt, q_tup, l_tup, l_lst, at0, at1, p_int, isNonR, List.length_cons, List.length_nil, List.map_cons, List.map_nil, List.cons_append, List.nil_append, List.replicate_succ, List.replicate_zero, List.getElem?_cons_zero, List.getElem?_cons_succ, List.getElem?_nil, List.set_cons_zero, List.set_cons_succ, List.set_nil, Nat.sub_self, Nat.reduceSub, Nat.reduceAdd, Nat.reduceMul, Nat.zero_add, Int.reduceLT, Int.reduceLE, Nat.reduceLeDiff, LINE, if_true, if_false, Bool.false_eq_true, Bool.true_eq_false, Bool.not_true, Bool.not_false, ite_self, eq_self, Prod.fst, Prod.snd, size_of, Fm.pv, Fm.size]
    | @n _ w ps l q =>
      obtain ⟨is, i1, i2⟩ := sizes_ints ps
      have c := comp_fm (G := G) (F := run P G (k + d)) (h := h) (elt := ev (run P G (k + d)) G (.call iZ (.cons (.var 1) .nil))) (i := 1) (e := [some (Fm.pv (.n w ps)), none]) (g := fun p => PV.int p.size) (ps := ps) (acc := []) (fun p hp => by simp (config := {decide := false}) only [↓reduceIte, ↓bT_eq, ↓cT_eq, ↓oT_eq, bT_ok, cT_ok, oT_some, call1, ev_non, ev_bl, ev_int, ev_str, ev_gl, ev_var, ev_bop, ev_neg, ev_cmp, ev_cmp2, ev_band, ev_bor, ev_bnot, ev_ife, ev_tup, ev_lst, ev_dct, ev_idx, ev_slc, ev_call, ev_bi, ev_isi, ev_mth, ev_lc, ev_lzip, evL_nil, evL_cons, evD_cons, evD_nil, evO_none, evO_some, evS_seq, evS_rng, evS_rng2, evS_enum, evS_zip, evS_zipS, tst_band, tst_bor, tst_bnot, tst_non, tst_bl, tst_int, tst_str, tst_gl, tst_var, tst_cmp, tst_cmp2, tst_idx, tst_call, tst_bi, tst_isi, tsts_nil, tsts_cons, ex_asg, ex_tasg, ex_par, ex_sidx, ex_aug, ex_drop, ex_ret, ex_retN, ex_ifs, ex_fors, ex_whl, ex_brk, ex_cont, ex_pass, ex_never, exs_nil, exs_cons, ofOpt_some, fix_pv, fix_lst, fix_dct, fixL_nil, fixL_cons, norm_same, norm_set, o_add, o_sub, o_mul, o_mod, o_fd, o_p18, a_add, a_sub, c_eq, c_ne, c_eqs, c_nes, c_lt, c_le, c_gt, c_ge, c_is, c_isnot, b_int, b_min, b_max, b_lent, b_lenl, b_tuple, i_tup, i_lst, t_bl, t_non, t_int, ty_ss, ty_st, ty_ts, ty_tt, q_tup, l_tup, l_lst, at0, at1, p_int, isNonR, List.length_cons, List.length_nil, List.map_cons, List.map_nil, List.cons_append, List.nil_append, List.replicate_succ, List.replicate_zero, List.getElem?_cons_zero, List.getElem?_cons_succ, List.getElem?_nil, List.set_cons_zero, List.set_cons_succ, List.set_nil, Nat.sub_self, Nat.reduceSub, Nat.reduceAdd, Nat.reduceMul, Nat.zero_add, Int.reduceLT, Int.reduceLE, Nat.reduceLeDiff, LINE, if_true, if_false, Bool.false_eq_true, Bool.true_eq_false, Bool.not_true, Bool.not_false, ite_self, eq_self, Prod.fst, Prod.snd, ih (q p hp)]) (by unfold LINE; simp; omega)
      rw [run_at hZ]; simp only [Fm.pv] at c; simp (config := {decide := false}) only [↓reduceIte, ↓bT_eq, ↓cT_eq, ↓oT_eq, bT_ok, cT_ok, oT_some, call1, ev_non, ev_bl, ev_int, ev_str, ev_gl, ev_var, ev_bop, ev_neg, ev_cmp, ev_cmp2, ev_band, ev_bor, ev_bnot, ev_ife, ev_tup, ev_lst, ev_dct, ev_idx, ev_slc, ev_call, ev_bi, ev_isi, ev_mth, ev_lc, ev_lzip, evL_nil, evL_cons, evD_cons, evD_nil, evO_none, evO_some, evS_seq, evS_rng, evS_rng2, evS_enum, evS_zip, evS_zipS, tst_band, tst_bor, tst_bnot, tst_non, tst_bl, tst_int, tst_str, tst_gl, tst_var, tst_cmp, tst_cmp2, tst_idx, tst_call, tst_bi, tst_isi, tsts_nil, tsts_cons, ex_asg, ex_tasg, ex_par, ex_sidx, ex_aug, ex_drop, ex_ret, ex_retN, ex_ifs, ex_fors, ex_whl, ex_brk, ex_cont, ex_pass, ex_never, exs_nil, exs_cons, ofOpt_some, fix_pv, fix_lst, fix_dct, fixL_nil, fixL_cons, norm_same, norm_set, o_add, o_sub, o_mul, o_mod, o_fd, o_p18, a_add, a_sub, c_eq, c_ne, c_eqs, c_nes, c_lt, c_le, c_gt, c_ge, c_is, c_isnot, b_int, b_min, b_max, b_lent, b_lenl, b_tuple, i_tup, i_lst, t_bl, t_non, t_int, ty_ss, ty_st, ty_ts, ty_tt, q_tup, l_tup, l_lst, at0, at1, p_int, isNonR, List.length_cons, List.length_nil, List.map_cons, List.map_nil, List.cons_append, List.nil_append, List.replicate_succ, List.replicate_zero, List.getElem?_cons_zero, List.getElem?_cons_succ, List.getElem?_nil, List.set_cons_zero, List.set_cons_succ, List.set_nil, Nat.sub_self, Nat.reduceSub, Nat.reduceAdd, Nat.reduceMul, Nat.zero_add, Int.reduceLT, Int.reduceLE, Nat.reduceLeDiff, LINE, if_true, if_false, Bool.false_eq_true, Bool.true_eq_false, Bool.not_true, Bool.not_false, ite_self, eq_self, Prod.fst, Prod.snd, size_of, Fm.pv, Fm.size, wipeE, c, b_suml i1, i2]
/-! ### words -/
def W6 : List Txt := [[97], [98], [108, 105, 115, 116], [109, 97, 112, 50], [120, 95, 121], [97, 98, 99, 100, 101, 102, 103, 104, 105, 106, 107, 108]]
def drawn_word (iD : Nat) : FDef := ⟨1, 1, (.cons (.ret (.idx (.lst (.cons (.str [97]) (.cons (.str [98]) (.cons (.str [108, 105, 115, 116]) (.cons (.str [109, 97, 112, 50]) (.cons (.str [120, 95, 121]) (.cons (.str [97, 98, 99, 100, 101, 102, 103, 104, 105, 106, 107, 108]) .nil))))))) (.call iD (.cons (.var 0) (.cons (.int 6) .nil))))) .nil)⟩
theorem run_word {iM iD iW : Nat} (hW : P[iW]? = some (drawn_word iD)) (hP : P[iD]? = some (digit iM)) (hM : P[iM]? = some mixed) {d : Nat} {l c t : Int} (e : h[d]? = some (.dct (D l c t))) (hl : 0 ≤ l) (ht : 0 ≤ t) (ht2 : t < 900000000000000000) :
    ∃ (w : Txt) (l' t' : Int), w ∈ W6 ∧ 0 ≤ l' ∧ t ≤ t' ∧ t' ≤ t + 4 ∧ run P G (k + 3) iW [.ref d] h = .ok (.pv (.str w)) (h.set d (.dct (D l' c t'))) := by
  obtain ⟨r, l', t', r0, r1, l0, t0, t1, q⟩ := run_digit (G := G) (k := k) hP hM e hl ht ht2 (s := 6) (by decide) (by decide)
  have w : ∃ w ∈ W6, atI [PV.str [97], .str [98], .str [108, 105, 115, 116], .str [109, 97, 112, 50], .str [120, 95, 121], .str [97, 98, 99, 100, 101, 102, 103, 104, 105, 106, 107, 108]] r = some (.str w) := by
    have : r = 0 ∨ r = 1 ∨ r = 2 ∨ r = 3 ∨ r = 4 ∨ r = 5 := by omega
    rcases this with rfl | rfl | rfl | rfl | rfl | rfl
    · exact ⟨[97], by decide, rfl⟩
    · exact ⟨[98], by decide, rfl⟩
    · exact ⟨[108, 105, 115, 116], by decide, rfl⟩
    · exact ⟨[109, 97, 112, 50], by decide, rfl⟩
    · exact ⟨[120, 95, 121], by decide, rfl⟩
    · exact ⟨[97, 98, 99, 100, 101, 102, 103, 104, 105, 106, 107, 108], by decide, rfl⟩
  obtain ⟨w, hw, ew⟩ := w
  refine ⟨w, l', t', hw, l0, t0, t1, ?_⟩
  rw [run_at hW]; simp (config := {decide := false}) only [↓reduceIte, ↓bT_eq, ↓cT_eq, ↓oT_eq, bT_ok, cT_ok, oT_some, call1, ev_non, ev_bl, ev_int, ev_str, ev_gl, ev_var, ev_bop, ev_neg, ev_cmp, ev_cmp2, ev_band, ev_bor, ev_bnot, ev_ife, ev_tup, ev_lst, ev_dct, ev_idx, ev_slc, ev_call, ev_bi, ev_isi, ev_mth, ev_lc, ev_lzip, evL_nil, evL_cons, evD_cons, evD_nil, evO_none, evO_some, evS_seq, evS_rng, evS_rng2, evS_enum, evS_zip, evS_zipS, tst_band, tst_bor, tst_bnot, tst_non, tst_bl, tst_int, tst_str, tst_gl, tst_var, tst_cmp, tst_cmp2, tst_idx, tst_call, tst_bi, tst_isi, tsts_nil, tsts_cons, ex_asg, ex_tasg, ex_par, ex_sidx, ex_aug, ex_drop, ex_ret, ex_retN, ex_ifs, ex_fors, ex_whl, ex_brk, ex_cont, ex_pass, ex_never, exs_nil, exs_cons, ofOpt_some, fix_pv, fix_lst, fix_dct, fixL_nil, fixL_cons, norm_same, norm_set, o_add, o_sub, o_mul, o_mod, o_fd, o_p18, a_add, a_sub, c_eq, c_ne, c_eqs, c_nes, c_lt, c_le, c_gt, c_ge, c_is, c_isnot, b_int, b_min, b_max, b_lent, b_lenl, b_tuple, i_tup, i_lst, t_bl, t_non, t_int, ty_ss, ty_st, ty_ts, ty_tt, q_tup, l_tup, l_lst, at0, at1, p_int, isNonR, List.length_cons, List.length_nil, List.map_cons, List.map_nil, List.cons_append, List.nil_append, List.replicate_succ, List.replicate_zero, List.getElem?_cons_zero, List.getElem?_cons_succ, List.getElem?_nil, List.set_cons_zero, List.set_cons_succ, List.set_nil, Nat.sub_self, Nat.reduceSub, Nat.reduceAdd, Nat.reduceMul, Nat.zero_add, Int.reduceLT, Int.reduceLE, Nat.reduceLeDiff, LINE, if_true, if_false, Bool.false_eq_true, Bool.true_eq_false, Bool.not_true, Bool.not_false, ite_self, eq_self, Prod.fst, Prod.snd, drawn_word, q, ew]
/-! ### heaps -/
mutual
theorem fm_lt (n : Nat) : ∀ f : Fm, (Fm.pv f).lt n = true
  | .v _ => rfl
  | .n _ ps => by simp only [Fm.pv, PV.lt, PV.ltL, Bool.true_and, Bool.and_true]; exact fms_lt n ps
theorem fms_lt (n : Nat) : ∀ ps : List Fm, PV.ltL n (Fm.pvs ps) = true
  | [] => rfl
  | p :: ps => by simp only [Fm.pvs, PV.ltL, fm_lt n p, fms_lt n ps]; rfl
end
theorem allLt_set {n : Nat} {o : MO} (ho : o.lt n = true) : ∀ {h : MH} {d : Nat}, allLt n h = true → allLt n (h.set d o) = true
  | [], _, h => h
  | x :: xs, 0, h => by
    simp only [allLt, Bool.and_eq_true, List.set_cons_zero] at h ⊢
    exact ⟨ho, h.2⟩
  | x :: xs, d + 1, h => by
    simp only [allLt, Bool.and_eq_true, List.set_cons_succ] at h ⊢
    exact ⟨h.1, allLt_set ho h.2⟩
mutual
theorem PV.lt_mono {n m : Nat} (l : n ≤ m) : ∀ {v : PV}, v.lt n = true → v.lt m = true
  | .non, _ => rfl
  | .bl _, _ => rfl
  | .int _, _ => rfl
  | .str _, _ => rfl
  | .tup xs, h => PV.ltL_mono l (xs := xs) h
  | .scr xs, h => PV.ltL_mono l (xs := xs) h
  | .ref i, h => by
    have h : i < n := by simpa [PV.lt] using h
    simp [PV.lt]; omega
theorem PV.ltL_mono {n m : Nat} (l : n ≤ m) : ∀ {xs : List PV}, PV.ltL n xs = true → PV.ltL m xs = true
  | [], _ => rfl
  | x :: xs, h => by
    simp only [PV.ltL, Bool.and_eq_true] at h ⊢
    exact ⟨PV.lt_mono l h.1, PV.ltL_mono l h.2⟩
end
theorem ltK_mono {n m : Nat} (l : n ≤ m) : ∀ {xs : List (PV × PV)}, ltK n xs = true → ltK m xs = true
  | [], _ => rfl
  | (k, v) :: xs, h => by
    simp only [ltK, Bool.and_eq_true] at h ⊢
    exact ⟨⟨PV.lt_mono l h.1.1, PV.lt_mono l h.1.2⟩, ltK_mono l h.2⟩
theorem MO.lt_mono {n m : Nat} (l : n ≤ m) {o : MO} (h : o.lt n = true) : o.lt m = true := by
  cases o with
  | lst xs => exact PV.ltL_mono l h
  | dct xs => exact ltK_mono l h
theorem allLt_mono {n m : Nat} (l : n ≤ m) : ∀ {h : MH}, allLt n h = true → allLt m h = true
  | [], _ => rfl
  | o :: r, h => by
    simp only [allLt, Bool.and_eq_true] at h ⊢
    exact ⟨MO.lt_mono l h.1, allLt_mono l h.2⟩
theorem allLt_app {n : Nat} : ∀ {a b : MH}, allLt n a = true → allLt n b = true → allLt n (a ++ b) = true
  | [], b, _, h => h
  | x :: a, b, h, h2 => by
    simp only [allLt, Bool.and_eq_true, List.cons_append] at h ⊢
    exact ⟨h.1, allLt_app h.2 h2⟩
/-- nothing in the heap points out of it -/
def Wh (h : MH) : Prop := allLt h.length h = true
theorem D_lt {n : Nat} (l c t : Int) : (MO.dct (D l c t)).lt n = true := rfl
theorem Wh.set {d : Nat} {o : MO} (w : Wh h) (ho : o.lt h.length = true) : Wh (h.set d o) := by
  unfold Wh at *
  rw [List.length_set]
  exact allLt_set ho w
theorem Wh.app {o : MO} (w : Wh h) (ho : o.lt (h.length + 1) = true) : Wh (h ++ [o]) := by
  unfold Wh at *
  rw [List.length_append]
  refine allLt_app (allLt_mono (by simp) w) ?_
  simp only [allLt, List.length_cons, List.length_nil, ho]; rfl
/-- a call's own list or dict is let go -/
theorem norm_drop {A : MH} {o : MO} {v : PV} (hl : A.length = h.length) (w : allLt h.length A = true) (hv : v.lt h.length = true) (nr : ∀ n, v ≠ .ref n) : norm h (.pv v) (A ++ [o]) = .ok (.pv v) A := by
  have h1 : ¬ (A ++ [o]).length = h.length := by simp [hl]
  have h2 : (A ++ [o]).take h.length = A := by rw [← hl]; simp
  unfold norm
  rw [if_neg h1, h2, w, Bool.or_true, if_pos rfl]
  cases v with
  | ref n => exact absurd rfl (nr n)
  | _ => simp only [hv, if_true]
theorem set_last {A : MH} {x y : MO} {m : Nat} (e : A.length = m) : (A ++ [x]).set m y = A ++ [y] := by subst e; simp
theorem get_last {A : MH} {x : MO} {m : Nat} (e : A.length = m) : (A ++ [x])[m]? = some x := by subst e; simp
theorem set_left {A : MH} {x y : MO} {d : Nat} (e : d < A.length) : (A ++ [x]).set d y = A.set d y ++ [x] := List.set_append_left _ _ e
theorem get_left {A : MH} {x : MO} {d : Nat} {y : MO} (e : A[d]? = some y) : (A ++ [x])[d]? = some y := by
  rw [List.getElem?_append_left (List.getElem?_eq_some_iff.mp e).1]; exact e
theorem at_last {α : Type} {xs : List α} {v : α} : atI (xs ++ [v]) (-1) = some v := by
  unfold atI ixN
  have h1 : ¬ (0 : Int) ≤ -1 := by decide
  have h2 : -((xs ++ [v]).length : Int) ≤ -1 := by simp; omega
  rw [if_neg h1, if_pos h2]
  simp only [Option.bind_some]
  have h3 : (-1 + ((xs ++ [v]).length : Int)).toNat = xs.length := by
    rw [List.length_append]; simp only [List.length_cons, List.length_nil]; omega
  rw [h3]; simp
theorem m_append {m : Nat} {xs : List PV} {v : PV} (e : h[m]? = some (.lst xs)) (l : xs.length < LINE) : callM .append h (.pv (.ref m)) [.pv v] = some (.pv .non, h.set m (.lst (xs ++ [v]))) := by
  simp [callM, mAppend, e, l, fix]
theorem i_ref {m : Nat} {xs : List PV} {i : Int} (e : h[m]? = some (.lst xs)) : getIx h (.pv (.ref m)) (.pv (.int i)) = atI xs i := by
  simp [getIx, lstOf, e]
theorem r_ref {m : Nat} {xs : List PV} {t : MT} (e : h[m]? = some (.lst xs)) (ht : t ≠ .get) : recvOk t h (.pv (.ref m)) = true := by
  cases t <;> first | (simp [recvOk, lstOf, e]; done) | exact absurd rfl ht
/-! ### a drawn form -/
def fbody (iF iZ : Nat) : CSL := (.cons (.ifs (.cmp .Gt (.var 6) (.int 0)) (.cons (.drop (.mth .append (.var 5) (.cons (.call iF (.cons (.var 0) (.cons (.bop .Sub (.var 1) (.int 1)) (.cons (.bi .min (.cons (.var 6) (.cons (.int 4) .nil))) (.cons (.var 3) .nil))))) .nil))) (.cons (.asg 6 (.bop .Sub (.var 6) (.call iZ (.cons (.idx (.var 5) (.neg (.int 1))) .nil)))) .nil)) .nil) .nil)
def sgnS (iD : Nat) : CS := (.ifs (.band (.cmp .NotEq (.var 3) (.str [])) (.cmp .Eq (.call iD (.cons (.var 0) (.cons (.int 3) .nil))) (.int 0))) (.cons (.ret (.idx (.var 3) (.call iD (.cons (.var 0) (.cons (.bi .len (.cons (.var 3) .nil)) .nil))))) .nil) .nil)
def forS (iF iZ iD : Nat) : CS := (.fors (.nm 4) (.rng (.ife (.cmp .Gt (.var 1) (.int 1)) (.call iD (.cons (.var 0) (.cons (.int 4) .nil))) (.int 0))) (fbody iF iZ))
def drawn_form (iF iZ iW iD : Nat) : FDef := ⟨4, 7, (.cons (sgnS iD) (.cons (.par 5 6 (.lst .nil) (.bop .Sub (.var 2) (.int 1))) (.cons (forS iF iZ iD) (.cons (.ret (.tup (.cons (.call iW (.cons (.var 0) .nil)) (.cons (.bi .tuple (.cons (.var 5) .nil)) .nil)))) .nil))))⟩
/-- what a call of drawn_form promises -/
def FormP (P : List FDef) (G : List PV) (lv iF : Nat) (dp : Nat) : Prop := ∀ {sz : Int} {S : Txt} {h : MH} {d : Nat} {l c t : Int}, 1 ≤ sz → sz ≤ 1000000 → S.length ≤ 1000 → h[d]? = some (.dct (D l c t)) → 0 ≤ l → 0 ≤ t → t + 20 * 4 ^ dp ≤ 800000000000000000 → Wh h →
  ∃ (f : Fm) (l' t' : Int), Fm.Ok W6 S dp f ∧ f.size ≤ sz ∧ 0 ≤ l' ∧ t ≤ t' ∧ t' ≤ t + 20 * 4 ^ dp ∧ run P G lv iF [.ref d, .int dp, .int sz, .str S] h = .ok (.pv f.pv) (h.set d (.dct (D l' c t')))
theorem ok3 {W : List Txt} {S : Txt} {d : Nat} {f : Fm} (h : Fm.Ok W S d f) : Fm3 d f := by
  induction h with
  | v h => exact .v
  | n h l q ih => exact .n (by omega) ih
theorem form_loop {lv iF iZ dp : Nat} (hZ : P[iZ]? = some (size_of iZ)) (hlv : dp ≤ lv) (hF : FormP P G lv iF dp) {S : Txt} (hS : S.length ≤ 1000) {d : Nat} {c sz : Int} {A0 : MH} (hw0 : Wh A0) :
    ∀ (n : Nat) (i : Int) (fs : List Fm) (left l t : Int) (jv : Option PV) (A : MH), A.length = A0.length → Wh A → A[d]? = some (.dct (D l c t)) → 0 ≤ l → 0 ≤ t → t + n * (20 * 4 ^ dp) ≤ 800000000000000000 → 0 ≤ left → left ≤ 1000000 → fs.length + n ≤ 3 → (∀ f ∈ fs, Fm.Ok W6 S dp f) →
    ∃ (fs' : List Fm) (left' l' t' : Int) (jv' : Option PV), fs'.length ≤ 3 ∧ (∀ f ∈ fs', Fm.Ok W6 S dp f) ∧ Fm.sizes fs' + left' = Fm.sizes fs + left ∧ 0 ≤ left' ∧ 0 ≤ l' ∧ t ≤ t' ∧ t' ≤ t + n * (20 * 4 ^ dp) ∧
      forL (exs (run P G lv) G (fbody iF iZ)) (.nm 4) none (rngL i n) [some (.ref d), some (.int ((dp : Int) + 1)), some (.int sz), some (.str S), jv, some (.ref A0.length), some (.int left)] (A ++ [.lst (Fm.pvs fs)]) =
        .ok (.nx [some (.ref d), some (.int ((dp : Int) + 1)), some (.int sz), some (.str S), jv', some (.ref A0.length), some (.int left')]) (A.set d (.dct (D l' c t')) ++ [.lst (Fm.pvs fs')]) := by
  intro n
  induction n with
  | zero =>
    intro i fs left l t jv A hA hw e hl ht hb h0 h1 hn hf
    refine ⟨fs, left, l, t, jv, by omega, hf, rfl, h0, hl, by omega, by omega, ?_⟩
    have : A.set d (.dct (D l c t)) = A := by
      refine List.ext_getElem? fun j => ?_
      by_cases hj : d = j
      · subst hj; rw [set_get e, e]
      · rw [set_oth hj]
    rw [this]
    simp only [rngL, forL, lockOk, if_true]
  | succ n ih =>
    intro i fs left l t jv A hA hw e hl ht hb h0 h1 hn hf
    have e' := get_left (x := MO.lst (Fm.pvs fs)) e
    simp only [rngL, forL, lockOk, if_true, Tgt.set, opt_some]
    have cp : (0 : Int) ≤ 20 * 4 ^ dp := by
      have : (0 : Int) ≤ 4 ^ dp := Int.le_of_lt (Int.pow_pos (by decide))
      omega
    have nb : ((n + 1 : Nat) : Int) * (20 * 4 ^ dp) = n * (20 * 4 ^ dp) + 20 * 4 ^ dp := by
      rw [Int.natCast_add, Int.add_mul]; simp
    have nn : (0 : Int) ≤ n * (20 * 4 ^ dp) := Int.mul_nonneg (by omega) cp
    rw [nb] at hb
    by_cases hc : 0 < left
    · have whA : Wh (A ++ [.lst (Fm.pvs fs)]) := hw.app (fms_lt _ fs)
      obtain ⟨f, l1, t1, o1, z1, l0, t0, tb, q⟩ := hF (sz := if 4 < left then 4 else left) (S := S) (by split <;> omega) (by split <;> omega) hS e' hl ht (by omega) whA
      rw [set_left (List.getElem?_eq_some_iff.mp e).1] at q
      have g := get_last (x := MO.lst (Fm.pvs fs)) (A := A.set d (.dct (D l1 c t1))) (m := A0.length) (by rw [List.length_set]; exact hA)
      have fl : (Fm.pvs fs).length < LINE := by rw [Fm.pvs_len]; unfold LINE; omega
      have g2 := get_last (x := MO.lst (Fm.pvs fs ++ [f.pv])) (A := A.set d (.dct (D l1 c t1))) (m := A0.length) (by rw [List.length_set]; exact hA)
      have zq : ∀ h, run P G lv iZ [f.pv] h = .ok (.pv (.int f.size)) h := fun h => by
        obtain ⟨m, rfl⟩ : ∃ m, lv = m + dp := ⟨lv - dp, by omega⟩
        exact run_size hZ (ok3 o1)
      have g0 := get_last (x := MO.lst (Fm.pvs fs)) (A := A) (m := A0.length) hA
      have sl := set_last (x := MO.lst (Fm.pvs fs)) (y := MO.lst (Fm.pvs fs ++ [f.pv])) (A := A.set d (.dct (D l1 c t1))) (m := A0.length) (by rw [List.length_set]; exact hA)
      have ee : ((dp : Int) + 1) - 1 = dp := by omega
      have ff : Fm.pvs fs ++ [f.pv] = Fm.pvs (fs ++ [f]) := by rw [Fm.pvs_append]; rfl
      have la : atI (Fm.pvs (fs ++ [f])) (-1) = some f.pv := by rw [← ff]; exact at_last
      rw [ff] at sl g2
      obtain ⟨fs', left', l', t', jv', a1, a2, a3, a4, a5, a6, a7, a8⟩ := ih (i + 1) (fs ++ [f]) (left - f.size) l1 t1 (some (.int i)) (A.set d (.dct (D l1 c t1))) (by rw [List.length_set]; exact hA) (hw.set (D_lt _ _ _)) (set_get e) l0 (by omega) (by omega) (by split at z1 <;> omega) (by have := f.size_pos; omega) (by simp; omega) (fun x hx => by
        rcases List.mem_append.mp hx with hx | hx
        · exact hf x hx
        · have : x = f := by simpa using hx
          subst this; exact o1)
      refine ⟨fs', left', l', t', jv', a1, a2, ?_, a4, a5, by omega, by omega, ?_⟩
      · rw [a3, Fm.sizes_append]; simp [Fm.sizes]; omega
      · rw [List.set_set] at a8
        rw [← a8]
        simp (config := {decide := false}) only [↓reduceIte, ↓bT_eq, ↓cT_eq, ↓oT_eq, bT_ok, cT_ok, oT_some, call1, ev_non, ev_bl, ev_int, ev_str, ev_gl, ev_var, ev_bop, ev_neg, ev_cmp, ev_cmp2, ev_band, ev_bor, ev_bnot, ev_ife, ev_tup, ev_lst, ev_dct, ev_idx, ev_slc, ev_call, ev_bi, ev_isi, ev_mth, ev_lc, ev_lzip, evL_nil, evL_cons, evD_cons, evD_nil, evO_none, evO_some, evS_seq, evS_rng, evS_rng2, evS_enum, evS_zip, evS_zipS, tst_band, tst_bor, tst_bnot, tst_non, tst_bl, tst_int, tst_str, tst_gl, tst_var, tst_cmp, tst_cmp2, tst_idx, tst_call, tst_bi, tst_isi, tsts_nil, tsts_cons, ex_asg, ex_tasg, ex_par, ex_sidx, ex_aug, ex_drop, ex_ret, ex_retN, ex_ifs, ex_fors, ex_whl, ex_brk, ex_cont, ex_pass, ex_never, exs_nil, exs_cons, ofOpt_some, fix_pv, fix_lst, fix_dct, fixL_nil, fixL_cons, norm_same, norm_set, o_add, o_sub, o_mul, o_mod, o_fd, o_p18, a_add, a_sub, c_eq, c_ne, c_eqs, c_nes, c_lt, c_le, c_gt, c_ge, c_is, c_isnot, b_int, b_min, b_max, b_lent, b_lenl, b_tuple, i_tup, i_lst, t_bl, t_non, t_int, ty_ss, ty_st, ty_ts, ty_tt, q_tup, l_tup, l_lst, at0, at1, p_int, isNonR, List.length_cons, List.length_nil, List.map_cons, List.map_nil, List.cons_append, List.nil_append, List.replicate_succ, List.replicate_zero, List.getElem?_cons_zero, List.getElem?_cons_succ, List.getElem?_nil, List.set_cons_zero, List.set_cons_succ, List.set_nil, Nat.sub_self, Nat.reduceSub, Nat.reduceAdd, Nat.reduceMul, Nat.zero_add, Int.reduceLT, Int.reduceLE, Nat.reduceLeDiff, LINE, if_true, if_false, Bool.false_eq_true, Bool.true_eq_false, Bool.not_true, Bool.not_false, ite_self, eq_self, Prod.fst, Prod.snd, fbody, hc, decide_true, r_ref (t := .append) g0 (by decide), ee, q, m_append g fl, sl, i_ref g2, la, zq, ff]
    · obtain ⟨fs', left', l', t', jv', a1, a2, a3, a4, a5, a6, a7, a8⟩ := ih (i + 1) fs left l t (some (.int i)) A hA hw e hl ht (by omega) h0 h1 (by omega) hf
      refine ⟨fs', left', l', t', jv', a1, a2, a3, a4, a5, a6, by omega, ?_⟩
      rw [← a8]
      simp (config := {decide := false}) only [↓reduceIte, ↓bT_eq, ↓cT_eq, ↓oT_eq, bT_ok, cT_ok, oT_some, call1, ev_non, ev_bl, ev_int, ev_str, ev_gl, ev_var, ev_bop, ev_neg, ev_cmp, ev_cmp2, ev_band, ev_bor, ev_bnot, ev_ife, ev_tup, ev_lst, ev_dct, ev_idx, ev_slc, ev_call, ev_bi, ev_isi, ev_mth, ev_lc, ev_lzip, evL_nil, evL_cons, evD_cons, evD_nil, evO_none, evO_some, evS_seq, evS_rng, evS_rng2, evS_enum, evS_zip, evS_zipS, tst_band, tst_bor, tst_bnot, tst_non, tst_bl, tst_int, tst_str, tst_gl, tst_var, tst_cmp, tst_cmp2, tst_idx, tst_call, tst_bi, tst_isi, tsts_nil, tsts_cons, ex_asg, ex_tasg, ex_par, ex_sidx, ex_aug, ex_drop, ex_ret, ex_retN, ex_ifs, ex_fors, ex_whl, ex_brk, ex_cont, ex_pass, ex_never, exs_nil, exs_cons, ofOpt_some, fix_pv, fix_lst, fix_dct, fixL_nil, fixL_cons, norm_same, norm_set, o_add, o_sub, o_mul, o_mod, o_fd, o_p18, a_add, a_sub, c_eq, c_ne, c_eqs, c_nes, c_lt, c_le, c_gt, c_ge, c_is, c_isnot, b_int, b_min, b_max, b_lent, b_lenl, b_tuple, i_tup, i_lst, t_bl, t_non, t_int, ty_ss, ty_st, ty_ts, ty_tt, q_tup, l_tup, l_lst, at0, at1, p_int, isNonR, List.length_cons, List.length_nil, List.map_cons, List.map_nil, List.cons_append, List.nil_append, List.replicate_succ, List.replicate_zero, List.getElem?_cons_zero, List.getElem?_cons_succ, List.getElem?_nil, List.set_cons_zero, List.set_cons_succ, List.set_nil, Nat.sub_self, Nat.reduceSub, Nat.reduceAdd, Nat.reduceMul, Nat.zero_add, Int.reduceLT, Int.reduceLE, Nat.reduceLeDiff, LINE, if_true, if_false, Bool.false_eq_true, Bool.true_eq_false, Bool.not_true, Bool.not_false, ite_self, eq_self, Prod.fst, Prod.snd, fbody, hc, decide_false]
theorem b_tupr {m : Nat} {xs : List PV} (e : h[m]? = some (.lst xs)) : callB .tuple h [.pv (.ref m)] = some (.pv (.tup xs)) := by simp [callB, seqOf, tupOf, lstOf, e]
theorem i_sign {S : Txt} {r : Int} (hS : S.length ≤ 1000) (h0 : 0 ≤ r) (h1 : r < S.length) : ∃ c ∈ S, getIx h (.pv (.str S)) (.pv (.int r)) = some (.str [c]) := by
  have hl : S.length ≤ LINE := by unfold LINE; omega
  have hr : r.toNat < S.length := by omega
  refine ⟨S[r.toNat], List.getElem_mem hr, ?_⟩
  rw [i_str hl]
  unfold atI ixN
  rw [if_pos h0, if_pos h1]
  simp [hr]
theorem set_self {d : Nat} {x : MO} (e : h[d]? = some x) : h.set d x = h := by
  refine List.ext_getElem? fun j => ?_
  by_cases hj : d = j
  · subst hj; rw [set_get e, e]
  · rw [set_oth hj]
section
variable {iF iZ iW iD iM : Nat}
theorem sign_step (hP : P[iD]? = some (digit iM)) (hM : P[iM]? = some mixed) {S : Txt} (hS : S.length ≤ 1000) {d : Nat} {l c t dd sz : Int} (e : h[d]? = some (.dct (D l c t))) (hl : 0 ≤ l) (ht : 0 ≤ t) (ht2 : t < 890000000000000000) :
    ∃ l1 t1 : Int, 0 ≤ l1 ∧ t ≤ t1 ∧ t1 ≤ t + 8 ∧ ((∃ ch ∈ S, ex (run P G (k + 2)) G (sgnS iD) [some (.ref d), some (.int dd), some (.int sz), some (.str S), none, none, none] h = .ok (.ret (.pv (.str [ch]))) (h.set d (.dct (D l1 c t1)))) ∨
      ex (run P G (k + 2)) G (sgnS iD) [some (.ref d), some (.int dd), some (.int sz), some (.str S), none, none, none] h = .ok (.nx [some (.ref d), some (.int dd), some (.int sz), some (.str S), none, none, none]) (h.set d (.dct (D l1 c t1)))) := by
  have hl0 : S.length ≤ LINE := by unfold LINE; omega
  cases hs : (S == []) with
  | true =>
    refine ⟨l, t, hl, Int.le_refl _, by omega, .inr ?_⟩
    rw [set_self e]
    simp (config := {decide := false}) only [↓reduceIte, ↓bT_eq, ↓cT_eq, ↓oT_eq, bT_ok, cT_ok, oT_some, call1, ev_non, ev_bl, ev_int, ev_str, ev_gl, ev_var, ev_bop, ev_neg, ev_cmp, ev_cmp2, ev_band, ev_bor, ev_bnot, ev_ife, ev_tup, ev_lst, ev_dct, ev_idx, ev_slc, ev_call, ev_bi, ev_isi, ev_mth, ev_lc, ev_lzip, evL_nil, evL_cons, evD_cons, evD_nil, evO_none, evO_some, evS_seq, evS_rng, evS_rng2, evS_enum, evS_zip, evS_zipS, tst_band, tst_bor, tst_bnot, tst_non, tst_bl, tst_int, tst_str, tst_gl, tst_var, tst_cmp, tst_cmp2, tst_idx, tst_call, tst_bi, tst_isi, tsts_nil, tsts_cons, ex_asg, ex_tasg, ex_par, ex_sidx, ex_aug, ex_drop, ex_ret, ex_retN, ex_ifs, ex_fors, ex_whl, ex_brk, ex_cont, ex_pass, ex_never, exs_nil, exs_cons, ofOpt_some, fix_pv, fix_lst, fix_dct, fixL_nil, fixL_cons, norm_same, norm_set, o_add, o_sub, o_mul, o_mod, o_fd, o_p18, a_add, a_sub, c_eq, c_ne, c_eqs, c_nes, c_lt, c_le, c_gt, c_ge, c_is, c_isnot, b_int, b_min, b_max, b_lent, b_lenl, b_tuple, i_tup, i_lst, t_bl, t_non, t_int, ty_ss, ty_st, ty_ts, ty_tt, q_tup, l_tup, l_lst, at0, at1, p_int, isNonR, List.length_cons, List.length_nil, List.map_cons, List.map_nil, List.cons_append, List.nil_append, List.replicate_succ, List.replicate_zero, List.getElem?_cons_zero, List.getElem?_cons_succ, List.getElem?_nil, List.set_cons_zero, List.set_cons_succ, List.set_nil, Nat.sub_self, Nat.reduceSub, Nat.reduceAdd, Nat.reduceMul, Nat.zero_add, Int.reduceLT, Int.reduceLE, Nat.reduceLeDiff, LINE, if_true, if_false, Bool.false_eq_true, Bool.true_eq_false, Bool.not_true, Bool.not_false, ite_self, eq_self, Prod.fst, Prod.snd, sgnS, hs]
  | false =>
    obtain ⟨r, l1, t1, r0, r1, l0, t0, t2, q⟩ := run_digit (G := G) (k := k) hP hM e hl ht (by omega) (s := 3) (by decide) (by decide)
    cases hr : (r == 0) with
    | false =>
      refine ⟨l1, t1, l0, t0, by omega, .inr ?_⟩
      simp (config := {decide := false}) only [↓reduceIte, ↓bT_eq, ↓cT_eq, ↓oT_eq, bT_ok, cT_ok, oT_some, call1, ev_non, ev_bl, ev_int, ev_str, ev_gl, ev_var, ev_bop, ev_neg, ev_cmp, ev_cmp2, ev_band, ev_bor, ev_bnot, ev_ife, ev_tup, ev_lst, ev_dct, ev_idx, ev_slc, ev_call, ev_bi, ev_isi, ev_mth, ev_lc, ev_lzip, evL_nil, evL_cons, evD_cons, evD_nil, evO_none, evO_some, evS_seq, evS_rng, evS_rng2, evS_enum, evS_zip, evS_zipS, tst_band, tst_bor, tst_bnot, tst_non, tst_bl, tst_int, tst_str, tst_gl, tst_var, tst_cmp, tst_cmp2, tst_idx, tst_call, tst_bi, tst_isi, tsts_nil, tsts_cons, ex_asg, ex_tasg, ex_par, ex_sidx, ex_aug, ex_drop, ex_ret, ex_retN, ex_ifs, ex_fors, ex_whl, ex_brk, ex_cont, ex_pass, ex_never, exs_nil, exs_cons, ofOpt_some, fix_pv, fix_lst, fix_dct, fixL_nil, fixL_cons, norm_same, norm_set, o_add, o_sub, o_mul, o_mod, o_fd, o_p18, a_add, a_sub, c_eq, c_ne, c_eqs, c_nes, c_lt, c_le, c_gt, c_ge, c_is, c_isnot, b_int, b_min, b_max, b_lent, b_lenl, b_tuple, i_tup, i_lst, t_bl, t_non, t_int, ty_ss, ty_st, ty_ts, ty_tt, q_tup, l_tup, l_lst, at0, at1, p_int, isNonR, List.length_cons, List.length_nil, List.map_cons, List.map_nil, List.cons_append, List.nil_append, List.replicate_succ, List.replicate_zero, List.getElem?_cons_zero, List.getElem?_cons_succ, List.getElem?_nil, List.set_cons_zero, List.set_cons_succ, List.set_nil, Nat.sub_self, Nat.reduceSub, Nat.reduceAdd, Nat.reduceMul, Nat.zero_add, Int.reduceLT, Int.reduceLE, Nat.reduceLeDiff, LINE, if_true, if_false, Bool.false_eq_true, Bool.true_eq_false, Bool.not_true, Bool.not_false, ite_self, eq_self, Prod.fst, Prod.snd, sgnS, hs, q, hr]
    | true =>
      have hn : S ≠ [] := by simpa using hs
      have hlen : 0 < S.length := List.length_pos_iff.mpr hn
      obtain ⟨r', l2, t2', r0', r1', l0', t0', t2'', q2⟩ := run_digit (G := G) (k := k) hP hM (set_get (x := MO.dct (D l1 c t1)) e) l0 (by omega) (by omega) (s := (S.length : Int)) (by omega) (by omega)
      obtain ⟨ch, hch, ei⟩ := i_sign (h := (h.set d (.dct (D l1 c t1))).set d (.dct (D l2 c t2'))) hS r0' r1'
      refine ⟨l2, t2', l0', by omega, by omega, .inl ⟨ch, hch, ?_⟩⟩
      rw [List.set_set] at q2 ei
      simp (config := {decide := false}) only [↓reduceIte, ↓bT_eq, ↓cT_eq, ↓oT_eq, bT_ok, cT_ok, oT_some, call1, ev_non, ev_bl, ev_int, ev_str, ev_gl, ev_var, ev_bop, ev_neg, ev_cmp, ev_cmp2, ev_band, ev_bor, ev_bnot, ev_ife, ev_tup, ev_lst, ev_dct, ev_idx, ev_slc, ev_call, ev_bi, ev_isi, ev_mth, ev_lc, ev_lzip, evL_nil, evL_cons, evD_cons, evD_nil, evO_none, evO_some, evS_seq, evS_rng, evS_rng2, evS_enum, evS_zip, evS_zipS, tst_band, tst_bor, tst_bnot, tst_non, tst_bl, tst_int, tst_str, tst_gl, tst_var, tst_cmp, tst_cmp2, tst_idx, tst_call, tst_bi, tst_isi, tsts_nil, tsts_cons, ex_asg, ex_tasg, ex_par, ex_sidx, ex_aug, ex_drop, ex_ret, ex_retN, ex_ifs, ex_fors, ex_whl, ex_brk, ex_cont, ex_pass, ex_never, exs_nil, exs_cons, ofOpt_some, fix_pv, fix_lst, fix_dct, fixL_nil, fixL_cons, norm_same, norm_set, o_add, o_sub, o_mul, o_mod, o_fd, o_p18, a_add, a_sub, c_eq, c_ne, c_eqs, c_nes, c_lt, c_le, c_gt, c_ge, c_is, c_isnot, b_int, b_min, b_max, b_lent, b_lenl, b_tuple, i_tup, i_lst, t_bl, t_non, t_int, ty_ss, ty_st, ty_ts, ty_tt, q_tup, l_tup, l_lst, at0, at1, p_int, isNonR, List.length_cons, List.length_nil, List.map_cons, List.map_nil, List.cons_append, List.nil_append, List.replicate_succ, List.replicate_zero, List.getElem?_cons_zero, List.getElem?_cons_succ, List.getElem?_nil, List.set_cons_zero, List.set_cons_succ, List.set_nil, Nat.sub_self, Nat.reduceSub, Nat.reduceAdd, Nat.reduceMul, Nat.zero_add, Int.reduceLT, Int.reduceLE, Nat.reduceLeDiff, LINE, if_true, if_false, Bool.false_eq_true, Bool.true_eq_false, Bool.not_true, Bool.not_false, ite_self, eq_self, Prod.fst, Prod.snd, sgnS, hs, q, hr, b_lens hl0, q2, ei]
/-- what the loop promises -/
def ForP (P : List FDef) (G : List PV) (lv iF iZ iD dp : Nat) (S : Txt) : Prop := ∀ {h : MH} {d : Nat} {c sz l t : Int}, 1 ≤ sz → sz ≤ 1000000 → h[d]? = some (.dct (D l c t)) → 0 ≤ l → 0 ≤ t → t + 20 * 4 ^ (dp + 1) ≤ 800000000000000012 → Wh h →
  ∃ (fs : List Fm) (left l' t' : Int) (jv : Option PV), fs.length ≤ 3 ∧ (∀ f ∈ fs, Fm.Ok W6 S dp f) ∧ Fm.sizes fs + left = sz - 1 ∧ 0 ≤ left ∧ 0 ≤ l' ∧ t ≤ t' ∧ t' ≤ t + 20 * 4 ^ (dp + 1) - 16 ∧
    ex (run P G lv) G (forS iF iZ iD) [some (.ref d), some (.int ((dp : Int) + 1)), some (.int sz), some (.str S), none, some (.ref h.length), some (.int (sz - 1))] (h ++ [.lst []]) =
      .ok (.nx [some (.ref d), some (.int ((dp : Int) + 1)), some (.int sz), some (.str S), jv, some (.ref h.length), some (.int left)]) (h.set d (.dct (D l' c t')) ++ [.lst (Fm.pvs fs)])
theorem form_of (hF : P[iF]? = some (drawn_form iF iZ iW iD)) (hW : P[iW]? = some (drawn_word iD)) (hP : P[iD]? = some (digit iM)) (hM : P[iM]? = some mixed) {dp : Nat} (hfor : ∀ S : Txt, S.length ≤ 1000 → ForP P G (k + 3) iF iZ iD dp S) : FormP P G (k + 4) iF (dp + 1) := by
  intro sz S h d l c t hs1 hs2 hS e hl ht hb hw
  have p4 : (0 : Int) < 4 ^ dp := Int.pow_pos (by decide)
  have p5 : (4 : Int) ^ (dp + 1) = 4 * 4 ^ dp := by rw [Int.pow_succ]; omega
  obtain ⟨l1, t1, b1, b2, b3, hh⟩ := sign_step (k := k + 1) (G := G) hP hM (dd := (dp : Int) + 1) (sz := sz) hS e hl ht (by omega)
  have ed : (((dp + 1 : Nat) : Int)) = (dp : Int) + 1 := by omega
  have hll : sz - 1 ≤ 1000000 := by omega
  rcases hh with ⟨ch, hch, q⟩ | q
  · refine ⟨.v [ch], l1, t1, .v hch, by simp [Fm.size]; omega, b1, b2, by omega, ?_⟩
    rw [run_at hF, ed]; simp (config := {decide := false}) only [↓reduceIte, ↓bT_eq, ↓cT_eq, ↓oT_eq, bT_ok, cT_ok, oT_some, call1, ev_non, ev_bl, ev_int, ev_str, ev_gl, ev_var, ev_bop, ev_neg, ev_cmp, ev_cmp2, ev_band, ev_bor, ev_bnot, ev_ife, ev_tup, ev_lst, ev_dct, ev_idx, ev_slc, ev_call, ev_bi, ev_isi, ev_mth, ev_lc, ev_lzip, evL_nil, evL_cons, evD_cons, evD_nil, evO_none, evO_some, evS_seq, evS_rng, evS_rng2, evS_enum, evS_zip, evS_zipS, tst_band, tst_bor, tst_bnot, tst_non, tst_bl, tst_int, tst_str, tst_gl, tst_var, tst_cmp, tst_cmp2, tst_idx, tst_call, tst_bi, tst_isi, tsts_nil, tsts_cons, ex_asg, ex_tasg, ex_par, ex_sidx, ex_aug, ex_drop, ex_ret, ex_retN, ex_ifs, ex_fors, ex_whl, ex_brk, ex_cont, ex_pass, ex_never, exs_nil, exs_cons, ofOpt_some, fix_pv, fix_lst, fix_dct, fixL_nil, fixL_cons, norm_same, norm_set, o_add, o_sub, o_mul, o_mod, o_fd, o_p18, a_add, a_sub, c_eq, c_ne, c_eqs, c_nes, c_lt, c_le, c_gt, c_ge, c_is, c_isnot, b_int, b_min, b_max, b_lent, b_lenl, b_tuple, i_tup, i_lst, t_bl, t_non, t_int, ty_ss, ty_st, ty_ts, ty_tt, q_tup, l_tup, l_lst, at0, at1, p_int, isNonR, List.length_cons, List.length_nil, List.map_cons, List.map_nil, List.cons_append, List.nil_append, List.replicate_succ, List.replicate_zero, List.getElem?_cons_zero, List.getElem?_cons_succ, List.getElem?_nil, List.set_cons_zero, List.set_cons_succ, List.set_nil, Nat.sub_self, Nat.reduceSub, Nat.reduceAdd, Nat.reduceMul, Nat.zero_add, Int.reduceLT, Int.reduceLE, Nat.reduceLeDiff, LINE, if_true, if_false, Bool.false_eq_true, Bool.true_eq_false, Bool.not_true, Bool.not_false, ite_self, eq_self, Prod.fst, Prod.snd, drawn_form, q, Fm.pv]
  · obtain ⟨fs, left, l2, t2, jv, a1, a2, a3, a4, a5, a6, a7, q2⟩ := hfor S hS (h := h.set d (.dct (D l1 c t1))) (sz := sz) hs1 hs2 (set_get e) b1 (by omega) (by omega) (hw.set (D_lt _ _ _))
    rw [List.set_set, List.length_set] at q2
    have e2 := get_left (x := MO.lst (Fm.pvs fs)) (set_get (x := MO.dct (D l2 c t2)) e)
    obtain ⟨w, l3, t3, w0, w1, w2, w3, q3⟩ := run_word (k := k) (G := G) hW hP hM e2 a5 (by omega) (by omega)
    rw [set_left (by rw [List.length_set]; exact (List.getElem?_eq_some_iff.mp e).1), List.set_set] at q3
    refine ⟨.n w fs, l3, t3, .n w0 a1 a2, by simp [Fm.size]; omega, w1, by omega, by omega, ?_⟩
    have g := get_last (x := MO.lst (Fm.pvs fs)) (A := h.set d (.dct (D l3 c t3))) (m := h.length) (by rw [List.length_set])
    have nd := norm_drop (h := h) (A := h.set d (.dct (D l3 c t3))) (o := .lst (Fm.pvs fs)) (v := .tup [.str w, .tup (Fm.pvs fs)]) (by rw [List.length_set]) (by have := hw.set (d := d) (D_lt (n := h.length) l3 c t3); unfold Wh at this; rwa [List.length_set] at this) (fm_lt _ (.n w fs)) (fun n z => by cases z)
    rw [run_at hF, ed]; simp (config := {decide := false}) only [↓reduceIte, ↓bT_eq, ↓cT_eq, ↓oT_eq, bT_ok, cT_ok, oT_some, call1, ev_non, ev_bl, ev_int, ev_str, ev_gl, ev_var, ev_bop, ev_neg, ev_cmp, ev_cmp2, ev_band, ev_bor, ev_bnot, ev_ife, ev_tup, ev_lst, ev_dct, ev_idx, ev_slc, ev_call, ev_bi, ev_isi, ev_mth, ev_lc, ev_lzip, evL_nil, evL_cons, evD_cons, evD_nil, evO_none, evO_some, evS_seq, evS_rng, evS_rng2, evS_enum, evS_zip, evS_zipS, tst_band, tst_bor, tst_bnot, tst_non, tst_bl, tst_int, tst_str, tst_gl, tst_var, tst_cmp, tst_cmp2, tst_idx, tst_call, tst_bi, tst_isi, tsts_nil, tsts_cons, ex_asg, ex_tasg, ex_par, ex_sidx, ex_aug, ex_drop, ex_ret, ex_retN, ex_ifs, ex_fors, ex_whl, ex_brk, ex_cont, ex_pass, ex_never, exs_nil, exs_cons, ofOpt_some, fix_pv, fix_lst, fix_dct, fixL_nil, fixL_cons, norm_same, norm_set, o_add, o_sub, o_mul, o_mod, o_fd, o_p18, a_add, a_sub, c_eq, c_ne, c_eqs, c_nes, c_lt, c_le, c_gt, c_ge, c_is, c_isnot, b_int, b_min, b_max, b_lent, b_lenl, b_tuple, i_tup, i_lst, t_bl, t_non, t_int, ty_ss, ty_st, ty_ts, ty_tt, q_tup, l_tup, l_lst, at0, at1, p_int, isNonR, List.length_cons, List.length_nil, List.map_cons, List.map_nil, List.cons_append, List.nil_append, List.replicate_succ, List.replicate_zero, List.getElem?_cons_zero, List.getElem?_cons_succ, List.getElem?_nil, List.set_cons_zero, List.set_cons_succ, List.set_nil, Nat.sub_self, Nat.reduceSub, Nat.reduceAdd, Nat.reduceMul, Nat.zero_add, Int.reduceLT, Int.reduceLE, Nat.reduceLeDiff, LINE, if_true, if_false, Bool.false_eq_true, Bool.true_eq_false, Bool.not_true, Bool.not_false, ite_self, eq_self, Prod.fst, Prod.snd, drawn_form, q, q2, q3, b_tupr g, nd, Fm.pv, List.length_set]
theorem run_form (hF : P[iF]? = some (drawn_form iF iZ iW iD)) (hZ : P[iZ]? = some (size_of iZ)) (hW : P[iW]? = some (drawn_word iD)) (hP : P[iD]? = some (digit iM)) (hM : P[iM]? = some mixed) :
    ∀ (dp k : Nat), FormP P G (k + dp + 4) iF (dp + 1) := by
  intro dp
  induction dp with
  | zero =>
    intro k
    refine form_of hF hW hP hM fun S hS => ?_
    intro h d c sz l t hs1 hs2 e hl ht hb hw
    refine ⟨[], sz - 1, l, t, none, by simp, by simp, by simp [Fm.sizes], by omega, hl, Int.le_refl _, by omega, ?_⟩
    have g : ¬ (1 : Int) < (0 : Nat) + 1 := by decide
    have sm : smallR 0 = true := rfl
    rw [set_self e]
    simp (config := {decide := false}) only [↓reduceIte, ↓bT_eq, ↓cT_eq, ↓oT_eq, bT_ok, cT_ok, oT_some, call1, ev_non, ev_bl, ev_int, ev_str, ev_gl, ev_var, ev_bop, ev_neg, ev_cmp, ev_cmp2, ev_band, ev_bor, ev_bnot, ev_ife, ev_tup, ev_lst, ev_dct, ev_idx, ev_slc, ev_call, ev_bi, ev_isi, ev_mth, ev_lc, ev_lzip, evL_nil, evL_cons, evD_cons, evD_nil, evO_none, evO_some, evS_seq, evS_rng, evS_rng2, evS_enum, evS_zip, evS_zipS, tst_band, tst_bor, tst_bnot, tst_non, tst_bl, tst_int, tst_str, tst_gl, tst_var, tst_cmp, tst_cmp2, tst_idx, tst_call, tst_bi, tst_isi, tsts_nil, tsts_cons, ex_asg, ex_tasg, ex_par, ex_sidx, ex_aug, ex_drop, ex_ret, ex_retN, ex_ifs, ex_fors, ex_whl, ex_brk, ex_cont, ex_pass, ex_never, exs_nil, exs_cons, ofOpt_some, fix_pv, fix_lst, fix_dct, fixL_nil, fixL_cons, norm_same, norm_set, o_add, o_sub, o_mul, o_mod, o_fd, o_p18, a_add, a_sub, c_eq, c_ne, c_eqs, c_nes, c_lt, c_le, c_gt, c_ge, c_is, c_isnot, b_int, b_min, b_max, b_lent, b_lenl, b_tuple, i_tup, i_lst, t_bl, t_non, t_int, ty_ss, ty_st, ty_ts, ty_tt, q_tup, l_tup, l_lst, at0, at1, p_int, isNonR, List.length_cons, List.length_nil, List.map_cons, List.map_nil, List.cons_append, List.nil_append, List.replicate_succ, List.replicate_zero, List.getElem?_cons_zero, List.getElem?_cons_succ, List.getElem?_nil, List.set_cons_zero, List.set_cons_succ, List.set_nil, Nat.sub_self, Nat.reduceSub, Nat.reduceAdd, Nat.reduceMul, Nat.zero_add, Int.reduceLT, Int.reduceLE, Nat.reduceLeDiff, LINE, if_true, if_false, Bool.false_eq_true, Bool.true_eq_false, Bool.not_true, Bool.not_false, ite_self, eq_self, Prod.fst, Prod.snd, forS, g, decide_false, sm, rngL, forL, lockOk, Int.toNat_zero, Fm.pvs]
  | succ dp ih =>
    intro k
    refine form_of hF hW hP hM fun S hS => ?_
    intro h d c sz l t hs1 hs2 e hl ht hb hw
    have p4 : (0 : Int) < 4 ^ (dp + 1) := Int.pow_pos (by decide)
    have p5 : (4 : Int) ^ (dp + 1 + 1) = 4 * 4 ^ (dp + 1) := by rw [Int.pow_succ]; omega
    have g : (1 : Int) < ((dp + 1 : Nat) : Int) + 1 := by omega
    have e1 := get_left (x := MO.lst []) e
    obtain ⟨r, l1, t1, r0, r1, l0, t0, t2, q⟩ := run_digit (G := G) (k := k + dp + 1 + 1) hP hM e1 hl ht (by omega) (s := 4) (by decide) (by decide)
    rw [set_left (List.getElem?_eq_some_iff.mp e).1] at q
    have hk : FormP P G (k + (dp + 1) + 3) iF (dp + 1) := by
      rw [show k + (dp + 1) + 3 = k + dp + 4 by omega]; exact ih k
    have lp := form_loop (G := G) (lv := k + (dp + 1) + 3) (dp := dp + 1) hZ (by omega) hk hS (d := d) (c := c) (sz := sz) hw r.toNat 0 [] (sz - 1) l1 t1 none (h.set d (.dct (D l1 c t1))) (by rw [List.length_set]) (hw.set (D_lt _ _ _)) (set_get e) l0 (by omega) (by
      have : (r.toNat : Int) ≤ 3 := by omega
      have := Int.mul_le_mul_of_nonneg_right this (show (0 : Int) ≤ 20 * 4 ^ (dp + 1) by omega)
      omega) (by omega) (by omega) (by simp; omega) (by simp)
    obtain ⟨fs, left, l', t', jv, a1, a2, a3, a4, a5, a6, a7, a8⟩ := lp
    have rb : (r.toNat : Int) * (20 * 4 ^ (dp + 1)) ≤ 3 * (20 * 4 ^ (dp + 1)) := Int.mul_le_mul_of_nonneg_right (by omega) (by omega)
    refine ⟨fs, left, l', t', jv, a1, a2, by rw [a3]; simp [Fm.sizes], a4, a5, by omega, by omega, ?_⟩
    have sm : smallR r = true := by unfold smallR; simp only [decide_eq_true_eq]; omega
    rw [List.set_set] at a8
    simp only [Fm.pvs] at a8
    have lveq : k + (dp + 1) + 3 = k + dp + 1 + 1 + 2 := by omega
    simp (config := {decide := false}) only [↓reduceIte, ↓bT_eq, ↓cT_eq, ↓oT_eq, bT_ok, cT_ok, oT_some, call1, ev_non, ev_bl, ev_int, ev_str, ev_gl, ev_var, ev_bop, ev_neg, ev_cmp, ev_cmp2, ev_band, ev_bor, ev_bnot, ev_ife, ev_tup, ev_lst, ev_dct, ev_idx, ev_slc, ev_call, ev_bi, ev_isi, ev_mth, ev_lc, ev_lzip, evL_nil, evL_cons, evD_cons, evD_nil, evO_none, evO_some, evS_seq, evS_rng, evS_rng2, evS_enum, evS_zip, evS_zipS, tst_band, tst_bor, tst_bnot, tst_non, tst_bl, tst_int, tst_str, tst_gl, tst_var, tst_cmp, tst_cmp2, tst_idx, tst_call, tst_bi, tst_isi, tsts_nil, tsts_cons, ex_asg, ex_tasg, ex_par, ex_sidx, ex_aug, ex_drop, ex_ret, ex_retN, ex_ifs, ex_fors, ex_whl, ex_brk, ex_cont, ex_pass, ex_never, exs_nil, exs_cons, ofOpt_some, fix_pv, fix_lst, fix_dct, fixL_nil, fixL_cons, norm_same, norm_set, o_add, o_sub, o_mul, o_mod, o_fd, o_p18, a_add, a_sub, c_eq, c_ne, c_eqs, c_nes, c_lt, c_le, c_gt, c_ge, c_is, c_isnot, b_int, b_min, b_max, b_lent, b_lenl, b_tuple, i_tup, i_lst, t_bl, t_non, t_int, ty_ss, ty_st, ty_ts, ty_tt, q_tup, l_tup, l_lst, at0, at1, p_int, isNonR, List.length_cons, List.length_nil, List.map_cons, List.map_nil, List.cons_append, List.nil_append, List.replicate_succ, List.replicate_zero, List.getElem?_cons_zero, List.getElem?_cons_succ, List.getElem?_nil, List.set_cons_zero, List.set_cons_succ, List.set_nil, Nat.sub_self, Nat.reduceSub, Nat.reduceAdd, Nat.reduceMul, Nat.zero_add, Int.reduceLT, Int.reduceLE, Nat.reduceLeDiff, LINE, if_true, if_false, Bool.false_eq_true, Bool.true_eq_false, Bool.not_true, Bool.not_false, ite_self, eq_self, Prod.fst, Prod.snd, forS, g, decide_true, lveq, q, sm]
    rw [lveq] at a8
    exact a8
end
end Lib
end Pf
/-! PfPat: words, terms and patterns of the program. -/
namespace Pf
namespace Lib
variable {P : List FDef} {G : List PV} {k : Nat} {h : MH}
def SMALL : Txt := [97, 98, 99, 100, 101, 102, 103, 104, 105, 106, 107, 108, 109, 110, 111, 112, 113, 114, 115, 116, 117, 118, 119, 120, 121, 122]
def GREAT : Txt := [65, 66, 67, 68, 69, 70, 71, 72, 73, 74, 75, 76, 77, 78, 79, 80, 81, 82, 83, 84, 85, 86, 87, 88, 89, 90]
def WSIGNS : Txt := [97, 98, 99, 100, 101, 102, 103, 104, 105, 106, 107, 108, 109, 110, 111, 112, 113, 114, 115, 116, 117, 118, 119, 120, 121, 122, 48, 49, 50, 51, 52, 53, 54, 55, 56, 57, 95]
def is_word (jS jM jW : Nat) : FDef := ⟨1, 2, (.cons (.ifs (.bor (.bnot (.isi (.var 0) .tStr)) (.bor (.bnot (.cmp2 .LtE .LtE (.int 1) (.bi .len (.cons (.var 0) .nil)) (.gl jM))) (.cmp .NotIn (.idx (.var 0) (.int 0)) (.gl jS)))) (.cons (.ret (.bl false)) .nil) .nil) (.cons (.ret (.bi .all (.cons (.lc (.cmp .In (.var 1) (.gl jW)) (.nm 1) (.seq (.var 0)) .nil [1]) .nil))) .nil))⟩
def wordB (w : Txt) : Bool := match w.head? with
  | none => false
  | some c => decide (w.length ≤ 12) && (SMALL.contains c && w.all fun x => WSIGNS.contains x)
theorem c_in {s : Txt} {c : Nat} : cmpOp .In h (.pv (.str [c])) (.pv (.str s)) = some (s.contains c) := rfl
theorem c_notin {s : Txt} {c : Nat} : cmpOp .NotIn h (.pv (.str [c])) (.pv (.str s)) = some (!(s.contains c)) := rfl
theorem comp_txt {F : Nat → List PV → MH → Res RV} {elt : Env → MH → Res RV} {i : Nat} {e : Env} {g : Nat → PV} : ∀ {s : Txt} {acc : List PV}, (∀ c ∈ s, elt (e.set i (some (.str [c]))) h = .ok (.pv (g c)) h) → acc.length + s.length ≤ LINE →
    compL (tsts F G .nil) elt (.nm i) none e (s.map fun c => .str [c]) acc h = .ok (acc ++ s.map g) h
  | [], acc, _, _ => by simp [compL, lockOk]
  | x :: xs, acc, hx, hl => by
    simp only [List.length_cons] at hl
    have hl' : acc.length < LINE := by omega
    have h1 := hx x List.mem_cons_self
    simp only [compL, lockOk, if_true, Tgt.set, opt_some, tsts_nil, rc_ok, h1, fix_pv, hl', List.map_cons]
    rw [comp_txt (fun y hy => hx y (List.mem_cons_of_mem _ hy)) (by simp; omega)]
    simp
theorem bools_map (f : Nat → Bool) : ∀ s : Txt, boolsOf (s.map fun c => PV.bl (f c)) = some (s.map f)
  | [] => rfl
  | c :: s => by simp [boolsOf, bools_map f s]
theorem all_map (f : Nat → Bool) (s : Txt) : (s.map f).all id = s.all f := by simp
theorem head_at {w : Txt} {c : Nat} (e : w.head? = some c) : atI w 0 = some c ∧ 1 ≤ w.length := by
  cases w with
  | nil => cases e
  | cons x r =>
    cases e
    refine ⟨?_, by simp⟩
    unfold atI ixN
    have : (0 : Int) < ((c :: r).length : Int) := by simp only [List.length_cons]; omega
    rw [if_pos (by decide), if_pos this]; rfl
theorem run_isword {iO jS jM jW : Nat} (hP : P[iO]? = some (is_word jS jM jW)) (gS : G[jS]? = some (.str SMALL)) (gM : G[jM]? = some (.int 12)) (gW : G[jW]? = some (.str WSIGNS)) {w : Txt} (hw : w.length ≤ 1000) : run P G (k + 1) iO [.str w] h = .ok (.pv (.bl (wordB w))) h := by
  have hl : w.length ≤ LINE := by unfold LINE; omega
  cases hh : w.head? with
  | none =>
    have : w = [] := by simpa using hh
    subst this
    rw [run_at hP]
    have : ¬ (1 : Int) ≤ ((0 : Nat) : Int) := by decide
    simp (config := {decide := false}) only [↓reduceIte, ↓bT_eq, ↓cT_eq, ↓oT_eq, bT_ok, cT_ok, oT_some, call1, ev_non, ev_bl, ev_int, ev_str, ev_gl, ev_var, ev_bop, ev_neg, ev_cmp, ev_cmp2, ev_band, ev_bor, ev_bnot, ev_ife, ev_tup, ev_lst, ev_dct, ev_idx, ev_slc, ev_call, ev_bi, ev_isi, ev_mth, ev_lc, ev_lzip, evL_nil, evL_cons, evD_cons, evD_nil, evO_none, evO_some, evS_seq, evS_rng, evS_rng2, evS_enum, evS_zip, evS_zipS, tst_band, tst_bor, tst_bnot, tst_non, tst_bl, tst_int, tst_str, tst_gl, tst_var, tst_cmp, tst_cmp2, tst_idx, tst_call, tst_bi, tst_isi, tsts_nil, tsts_cons, ex_asg, ex_tasg, ex_par, ex_sidx, ex_aug, ex_drop, ex_ret, ex_retN, ex_ifs, ex_fors, ex_whl, ex_brk, ex_cont, ex_pass, ex_never, exs_nil, exs_cons, ofOpt_some, fix_pv, fix_lst, fix_dct, fixL_nil, fixL_cons, norm_same, norm_set, o_add, o_sub, o_mul, o_mod, o_fd, o_p18, a_add, a_sub, c_eq, c_ne, c_eqs, c_nes, c_lt, c_le, c_gt, c_ge, c_is, c_isnot, b_int, b_min, b_max, b_lent, b_lenl, b_tuple, i_tup, i_lst, t_bl, t_non, t_int, ty_ss, ty_st, ty_ts, ty_tt, q_tup, l_tup, l_lst, at0, at1, p_int, isNonR, List.length_cons, List.length_nil, List.map_cons, List.map_nil, List.cons_append, List.nil_append, List.replicate_succ, List.replicate_zero, List.getElem?_cons_zero, List.getElem?_cons_succ, List.getElem?_nil, List.set_cons_zero, List.set_cons_succ, List.set_nil, Nat.sub_self, Nat.reduceSub, Nat.reduceAdd, Nat.reduceMul, Nat.zero_add, Int.reduceLT, Int.reduceLE, Nat.reduceLeDiff, LINE, if_true, if_false, Bool.false_eq_true, Bool.true_eq_false, Bool.not_true, Bool.not_false, ite_self, eq_self, Prod.fst, Prod.snd, is_word, b_lens hl, gM, this, decide_false, wordB, List.head?_nil]
  | some c =>
    obtain ⟨a0, l1⟩ := head_at hh
    have h1 : (1 : Int) ≤ ((w.length : Nat) : Int) := by omega
    by_cases h2 : ((w.length : Nat) : Int) ≤ 12
    · have h2' : w.length ≤ 12 := by omega
      cases h3 : SMALL.contains c with
      | false =>
        rw [run_at hP]
        simp (config := {decide := false}) only [↓reduceIte, ↓bT_eq, ↓cT_eq, ↓oT_eq, bT_ok, cT_ok, oT_some, call1, ev_non, ev_bl, ev_int, ev_str, ev_gl, ev_var, ev_bop, ev_neg, ev_cmp, ev_cmp2, ev_band, ev_bor, ev_bnot, ev_ife, ev_tup, ev_lst, ev_dct, ev_idx, ev_slc, ev_call, ev_bi, ev_isi, ev_mth, ev_lc, ev_lzip, evL_nil, evL_cons, evD_cons, evD_nil, evO_none, evO_some, evS_seq, evS_rng, evS_rng2, evS_enum, evS_zip, evS_zipS, tst_band, tst_bor, tst_bnot, tst_non, tst_bl, tst_int, tst_str, tst_gl, tst_var, tst_cmp, tst_cmp2, tst_idx, tst_call, tst_bi, tst_isi, tsts_nil, tsts_cons, ex_asg, ex_tasg, ex_par, ex_sidx, ex_aug, ex_drop, ex_ret, ex_retN, ex_ifs, ex_fors, ex_whl, ex_brk, ex_cont, ex_pass, ex_never, exs_nil, exs_cons, ofOpt_some, fix_pv, fix_lst, fix_dct, fixL_nil, fixL_cons, norm_same, norm_set, o_add, o_sub, o_mul, o_mod, o_fd, o_p18, a_add, a_sub, c_eq, c_ne, c_eqs, c_nes, c_lt, c_le, c_gt, c_ge, c_is, c_isnot, b_int, b_min, b_max, b_lent, b_lenl, b_tuple, i_tup, i_lst, t_bl, t_non, t_int, ty_ss, ty_st, ty_ts, ty_tt, q_tup, l_tup, l_lst, at0, at1, p_int, isNonR, List.length_cons, List.length_nil, List.map_cons, List.map_nil, List.cons_append, List.nil_append, List.replicate_succ, List.replicate_zero, List.getElem?_cons_zero, List.getElem?_cons_succ, List.getElem?_nil, List.set_cons_zero, List.set_cons_succ, List.set_nil, Nat.sub_self, Nat.reduceSub, Nat.reduceAdd, Nat.reduceMul, Nat.zero_add, Int.reduceLT, Int.reduceLE, Nat.reduceLeDiff, LINE, if_true, if_false, Bool.false_eq_true, Bool.true_eq_false, Bool.not_true, Bool.not_false, ite_self, eq_self, Prod.fst, Prod.snd, is_word, b_lens hl, gM, gS, h1, h2, decide_true, i_str hl, a0, c_notin, h3, wordB, Option.map_some, hh, Bool.false_and, Bool.and_false]
      | true =>
        have cm := comp_txt (G := G) (F := run P G k) (h := h) (elt := ev (run P G k) G (.cmp .In (.var 1) (.gl jW))) (i := 1) (e := [some (.str w), none]) (g := fun x => .bl (WSIGNS.contains x)) (s := w) (acc := []) (fun x hx => by simp (config := {decide := false}) only [↓reduceIte, ↓bT_eq, ↓cT_eq, ↓oT_eq, bT_ok, cT_ok, oT_some, call1, ev_non, ev_bl, ev_int, ev_str, ev_gl, ev_var, ev_bop, ev_neg, ev_cmp, ev_cmp2, ev_band, ev_bor, ev_bnot, ev_ife, ev_tup, ev_lst, ev_dct, ev_idx, ev_slc, ev_call, ev_bi, ev_isi, ev_mth, ev_lc, ev_lzip, evL_nil, evL_cons, evD_cons, evD_nil, evO_none, evO_some, evS_seq, evS_rng, evS_rng2, evS_enum, evS_zip, evS_zipS, tst_band, tst_bor, tst_bnot, tst_non, tst_bl, tst_int, tst_str, tst_gl, tst_var, tst_cmp, tst_cmp2, tst_idx, tst_call, tst_bi, tst_isi, tsts_nil, tsts_cons, ex_asg, ex_tasg, ex_par, ex_sidx, ex_aug, ex_drop, ex_ret, ex_retN, ex_ifs, ex_fors, ex_whl, ex_brk, ex_cont, ex_pass, ex_never, exs_nil, exs_cons, ofOpt_some, fix_pv, fix_lst, fix_dct, fixL_nil, fixL_cons, norm_same, norm_set, o_add, o_sub, o_mul, o_mod, o_fd, o_p18, a_add, a_sub, c_eq, c_ne, c_eqs, c_nes, c_lt, c_le, c_gt, c_ge, c_is, c_isnot, b_int, b_min, b_max, b_lent, b_lenl, b_tuple, i_tup, i_lst, t_bl, t_non, t_int, ty_ss, ty_st, ty_ts, ty_tt, q_tup, l_tup, l_lst, at0, at1, p_int, isNonR, List.length_cons, List.length_nil, List.map_cons, List.map_nil, List.cons_append, List.nil_append, List.replicate_succ, List.replicate_zero, List.getElem?_cons_zero, List.getElem?_cons_succ, List.getElem?_nil, List.set_cons_zero, List.set_cons_succ, List.set_nil, Nat.sub_self, Nat.reduceSub, Nat.reduceAdd, Nat.reduceMul, Nat.zero_add, Int.reduceLT, Int.reduceLE, Nat.reduceLeDiff, LINE, if_true, if_false, Bool.false_eq_true, Bool.true_eq_false, Bool.not_true, Bool.not_false, ite_self, eq_self, Prod.fst, Prod.snd, gW, c_in]) (by unfold LINE; simp only [List.length_nil]; omega)
        rw [run_at hP]
        simp only [List.nil_append] at cm
        have bm := bools_map (fun x => WSIGNS.contains x) w
        simp (config := {decide := false}) only [↓reduceIte, ↓bT_eq, ↓cT_eq, ↓oT_eq, bT_ok, cT_ok, oT_some, call1, ev_non, ev_bl, ev_int, ev_str, ev_gl, ev_var, ev_bop, ev_neg, ev_cmp, ev_cmp2, ev_band, ev_bor, ev_bnot, ev_ife, ev_tup, ev_lst, ev_dct, ev_idx, ev_slc, ev_call, ev_bi, ev_isi, ev_mth, ev_lc, ev_lzip, evL_nil, evL_cons, evD_cons, evD_nil, evO_none, evO_some, evS_seq, evS_rng, evS_rng2, evS_enum, evS_zip, evS_zipS, tst_band, tst_bor, tst_bnot, tst_non, tst_bl, tst_int, tst_str, tst_gl, tst_var, tst_cmp, tst_cmp2, tst_idx, tst_call, tst_bi, tst_isi, tsts_nil, tsts_cons, ex_asg, ex_tasg, ex_par, ex_sidx, ex_aug, ex_drop, ex_ret, ex_retN, ex_ifs, ex_fors, ex_whl, ex_brk, ex_cont, ex_pass, ex_never, exs_nil, exs_cons, ofOpt_some, fix_pv, fix_lst, fix_dct, fixL_nil, fixL_cons, norm_same, norm_set, o_add, o_sub, o_mul, o_mod, o_fd, o_p18, a_add, a_sub, c_eq, c_ne, c_eqs, c_nes, c_lt, c_le, c_gt, c_ge, c_is, c_isnot, b_int, b_min, b_max, b_lent, b_lenl, b_tuple, i_tup, i_lst, t_bl, t_non, t_int, ty_ss, ty_st, ty_ts, ty_tt, q_tup, l_tup, l_lst, at0, at1, p_int, isNonR, List.length_cons, List.length_nil, List.map_cons, List.map_nil, List.cons_append, List.nil_append, List.replicate_succ, List.replicate_zero, List.getElem?_cons_zero, List.getElem?_cons_succ, List.getElem?_nil, List.set_cons_zero, List.set_cons_succ, List.set_nil, Nat.sub_self, Nat.reduceSub, Nat.reduceAdd, Nat.reduceMul, Nat.zero_add, Int.reduceLT, Int.reduceLE, Nat.reduceLeDiff, LINE, if_true, if_false, Bool.false_eq_true, Bool.true_eq_false, Bool.not_true, Bool.not_false, ite_self, eq_self, Prod.fst, Prod.snd, is_word, b_lens hl, gM, gS, h1, h2, h2', decide_true, i_str hl, a0, c_notin, h3, Option.map_some, wipeE, cm, b_all bm, all_map, wordB, hh, Bool.true_and]
    · have h2' : ¬ w.length ≤ 12 := by omega
      rw [run_at hP]
      simp (config := {decide := false}) only [↓reduceIte, ↓bT_eq, ↓cT_eq, ↓oT_eq, bT_ok, cT_ok, oT_some, call1, ev_non, ev_bl, ev_int, ev_str, ev_gl, ev_var, ev_bop, ev_neg, ev_cmp, ev_cmp2, ev_band, ev_bor, ev_bnot, ev_ife, ev_tup, ev_lst, ev_dct, ev_idx, ev_slc, ev_call, ev_bi, ev_isi, ev_mth, ev_lc, ev_lzip, evL_nil, evL_cons, evD_cons, evD_nil, evO_none, evO_some, evS_seq, evS_rng, evS_rng2, evS_enum, evS_zip, evS_zipS, tst_band, tst_bor, tst_bnot, tst_non, tst_bl, tst_int, tst_str, tst_gl, tst_var, tst_cmp, tst_cmp2, tst_idx, tst_call, tst_bi, tst_isi, tsts_nil, tsts_cons, ex_asg, ex_tasg, ex_par, ex_sidx, ex_aug, ex_drop, ex_ret, ex_retN, ex_ifs, ex_fors, ex_whl, ex_brk, ex_cont, ex_pass, ex_never, exs_nil, exs_cons, ofOpt_some, fix_pv, fix_lst, fix_dct, fixL_nil, fixL_cons, norm_same, norm_set, o_add, o_sub, o_mul, o_mod, o_fd, o_p18, a_add, a_sub, c_eq, c_ne, c_eqs, c_nes, c_lt, c_le, c_gt, c_ge, c_is, c_isnot, b_int, b_min, b_max, b_lent, b_lenl, b_tuple, i_tup, i_lst, t_bl, t_non, t_int, ty_ss, ty_st, ty_ts, ty_tt, q_tup, l_tup, l_lst, at0, at1, p_int, isNonR, List.length_cons, List.length_nil, List.map_cons, List.map_nil, List.cons_append, List.nil_append, List.replicate_succ, List.replicate_zero, List.getElem?_cons_zero, List.getElem?_cons_succ, List.getElem?_nil, List.set_cons_zero, List.set_cons_succ, List.set_nil, Nat.sub_self, Nat.reduceSub, Nat.reduceAdd, Nat.reduceMul, Nat.zero_add, Int.reduceLT, Int.reduceLE, Nat.reduceLeDiff, LINE, if_true, if_false, Bool.false_eq_true, Bool.true_eq_false, Bool.not_true, Bool.not_false, ite_self, eq_self, Prod.fst, Prod.snd, is_word, b_lens hl, gM, h1, h2, h2', decide_true, decide_false, wordB, hh, Bool.false_and]
/-! ### weight -/
def is_variable (jG : Nat) : FDef := ⟨1, 1, (.cons (.ret (.band (.isi (.var 0) .tStr) (.band (.cmp .Eq (.bi .len (.cons (.var 0) .nil)) (.int 1)) (.cmp .In (.var 0) (.gl jG))))) .nil)⟩
def isVar (s : Txt) : Bool := match s with
  | [c] => GREAT.contains c
  | _ => false
theorem run_isvar {iV jG : Nat} (hP : P[iV]? = some (is_variable jG)) (gG : G[jG]? = some (.str GREAT)) (f : Fm) (hf : ∀ s, f = .v s → s.length ≤ 1000) : run P G (k + 1) iV [f.pv] h = .ok (.pv (.bl (match f with | .v s => isVar s | _ => false))) h := by
  cases f with
  | n w ps => rw [run_at hP]; simp (config := {decide := false}) only [↓reduceIte, ↓bT_eq, ↓cT_eq, ↓oT_eq, bT_ok, cT_ok, oT_some, call1, ev_non, ev_bl, ev_int, ev_str, ev_gl, ev_var, ev_bop, ev_neg, ev_cmp, ev_cmp2, ev_band, ev_bor, ev_bnot, ev_ife, ev_tup, ev_lst, ev_dct, ev_idx, ev_slc, ev_call, ev_bi, ev_isi, ev_mth, ev_lc, ev_lzip, evL_nil, evL_cons, evD_cons, evD_nil, evO_none, evO_some, evS_seq, evS_rng, evS_rng2, evS_enum, evS_zip, evS_zipS, tst_band, tst_bor, tst_bnot, tst_non, tst_bl, tst_int, tst_str, tst_gl, tst_var, tst_cmp, tst_cmp2, tst_idx, tst_call, tst_bi, tst_isi, tsts_nil, tsts_cons, ex_asg, ex_tasg, ex_par, ex_sidx, ex_aug, ex_drop, ex_ret, ex_retN, ex_ifs, ex_fors, ex_whl, ex_brk, ex_cont, ex_pass, ex_never, exs_nil, exs_cons, ofOpt_some, fix_pv, fix_lst, fix_dct, fixL_nil, fixL_cons, norm_same, norm_set, o_add, o_sub, o_mul, o_mod, o_fd, o_p18, a_add, a_sub, c_eq, c_ne, c_eqs, c_nes, c_lt, c_le, c_gt, c_ge, c_is, c_isnot, b_int, b_min, b_max, b_lent, b_lenl, b_tuple, i_tup, i_lst, t_bl, t_non, t_int, ty_ss, ty_st, ty_ts, ty_tt, q_tup, l_tup, l_lst, at0, at1, p_int, isNonR, List.length_cons, List.length_nil, List.map_cons, List.map_nil, List.cons_append, List.nil_append, List.replicate_succ, List.replicate_zero, List.getElem?_cons_zero, List.getElem?_cons_succ, List.getElem?_nil, List.set_cons_zero, List.set_cons_succ, List.set_nil, Nat.sub_self, Nat.reduceSub, Nat.reduceAdd, Nat.reduceMul, Nat.zero_add, Int.reduceLT, Int.reduceLE, Nat.reduceLeDiff, LINE, if_true, if_false, Bool.false_eq_true, Bool.true_eq_false, Bool.not_true, Bool.not_false, ite_self, eq_self, Prod.fst, Prod.snd, is_variable, Fm.pv]
  | v s =>
    have hl : s.length ≤ LINE := by have := hf s rfl; unfold LINE; omega
    match s, hl with
    | [], hl =>
      have z : (((0 : Nat) : Int) == 1) = false := rfl
      rw [run_at hP]; simp (config := {decide := false}) only [↓reduceIte, ↓bT_eq, ↓cT_eq, ↓oT_eq, bT_ok, cT_ok, oT_some, call1, ev_non, ev_bl, ev_int, ev_str, ev_gl, ev_var, ev_bop, ev_neg, ev_cmp, ev_cmp2, ev_band, ev_bor, ev_bnot, ev_ife, ev_tup, ev_lst, ev_dct, ev_idx, ev_slc, ev_call, ev_bi, ev_isi, ev_mth, ev_lc, ev_lzip, evL_nil, evL_cons, evD_cons, evD_nil, evO_none, evO_some, evS_seq, evS_rng, evS_rng2, evS_enum, evS_zip, evS_zipS, tst_band, tst_bor, tst_bnot, tst_non, tst_bl, tst_int, tst_str, tst_gl, tst_var, tst_cmp, tst_cmp2, tst_idx, tst_call, tst_bi, tst_isi, tsts_nil, tsts_cons, ex_asg, ex_tasg, ex_par, ex_sidx, ex_aug, ex_drop, ex_ret, ex_retN, ex_ifs, ex_fors, ex_whl, ex_brk, ex_cont, ex_pass, ex_never, exs_nil, exs_cons, ofOpt_some, fix_pv, fix_lst, fix_dct, fixL_nil, fixL_cons, norm_same, norm_set, o_add, o_sub, o_mul, o_mod, o_fd, o_p18, a_add, a_sub, c_eq, c_ne, c_eqs, c_nes, c_lt, c_le, c_gt, c_ge, c_is, c_isnot, b_int, b_min, b_max, b_lent, b_lenl, b_tuple, i_tup, i_lst, t_bl, t_non, t_int, ty_ss, ty_st, ty_ts, ty_tt, q_tup, l_tup, l_lst, at0, at1, p_int, isNonR, List.length_cons, List.length_nil, List.map_cons, List.map_nil, List.cons_append, List.nil_append, List.replicate_succ, List.replicate_zero, List.getElem?_cons_zero, List.getElem?_cons_succ, List.getElem?_nil, List.set_cons_zero, List.set_cons_succ, List.set_nil, Nat.sub_self, Nat.reduceSub, Nat.reduceAdd, Nat.reduceMul, Nat.zero_add, Int.reduceLT, Int.reduceLE, Nat.reduceLeDiff, LINE, if_true, if_false, Bool.false_eq_true, Bool.true_eq_false, Bool.not_true, Bool.not_false, ite_self, eq_self, Prod.fst, Prod.snd, is_variable, Fm.pv, b_lens hl, z]; rfl
    | [c], hl =>
      have z : (((1 : Nat) : Int) == 1) = true := rfl
      rw [run_at hP]; simp (config := {decide := false}) only [↓reduceIte, ↓bT_eq, ↓cT_eq, ↓oT_eq, bT_ok, cT_ok, oT_some, call1, ev_non, ev_bl, ev_int, ev_str, ev_gl, ev_var, ev_bop, ev_neg, ev_cmp, ev_cmp2, ev_band, ev_bor, ev_bnot, ev_ife, ev_tup, ev_lst, ev_dct, ev_idx, ev_slc, ev_call, ev_bi, ev_isi, ev_mth, ev_lc, ev_lzip, evL_nil, evL_cons, evD_cons, evD_nil, evO_none, evO_some, evS_seq, evS_rng, evS_rng2, evS_enum, evS_zip, evS_zipS, tst_band, tst_bor, tst_bnot, tst_non, tst_bl, tst_int, tst_str, tst_gl, tst_var, tst_cmp, tst_cmp2, tst_idx, tst_call, tst_bi, tst_isi, tsts_nil, tsts_cons, ex_asg, ex_tasg, ex_par, ex_sidx, ex_aug, ex_drop, ex_ret, ex_retN, ex_ifs, ex_fors, ex_whl, ex_brk, ex_cont, ex_pass, ex_never, exs_nil, exs_cons, ofOpt_some, fix_pv, fix_lst, fix_dct, fixL_nil, fixL_cons, norm_same, norm_set, o_add, o_sub, o_mul, o_mod, o_fd, o_p18, a_add, a_sub, c_eq, c_ne, c_eqs, c_nes, c_lt, c_le, c_gt, c_ge, c_is, c_isnot, b_int, b_min, b_max, b_lent, b_lenl, b_tuple, i_tup, i_lst, t_bl, t_non, t_int, ty_ss, ty_st, ty_ts, ty_tt, q_tup, l_tup, l_lst, at0, at1, p_int, isNonR, List.length_cons, List.length_nil, List.map_cons, List.map_nil, List.cons_append, List.nil_append, List.replicate_succ, List.replicate_zero, List.getElem?_cons_zero, List.getElem?_cons_succ, List.getElem?_nil, List.set_cons_zero, List.set_cons_succ, List.set_nil, Nat.sub_self, Nat.reduceSub, Nat.reduceAdd, Nat.reduceMul, Nat.zero_add, Int.reduceLT, Int.reduceLE, Nat.reduceLeDiff, LINE, if_true, if_false, Bool.false_eq_true, Bool.true_eq_false, Bool.not_true, Bool.not_false, ite_self, eq_self, Prod.fst, Prod.snd, is_variable, Fm.pv, b_lens hl, c_in, z, gG]; rfl
    | c :: c2 :: r, hl =>
      have : ((((c :: c2 :: r).length : Nat) : Int) == 1) = false := by simp; omega
      rw [run_at hP]
      have e := b_lens (h := h) hl
      simp (config := {decide := false}) only [↓reduceIte, ↓bT_eq, ↓cT_eq, ↓oT_eq, bT_ok, cT_ok, oT_some, call1, ev_non, ev_bl, ev_int, ev_str, ev_gl, ev_var, ev_bop, ev_neg, ev_cmp, ev_cmp2, ev_band, ev_bor, ev_bnot, ev_ife, ev_tup, ev_lst, ev_dct, ev_idx, ev_slc, ev_call, ev_bi, ev_isi, ev_mth, ev_lc, ev_lzip, evL_nil, evL_cons, evD_cons, evD_nil, evO_none, evO_some, evS_seq, evS_rng, evS_rng2, evS_enum, evS_zip, evS_zipS, tst_band, tst_bor, tst_bnot, tst_non, tst_bl, tst_int, tst_str, tst_gl, tst_var, tst_cmp, tst_cmp2, tst_idx, tst_call, tst_bi, tst_isi, tsts_nil, tsts_cons, ex_asg, ex_tasg, ex_par, ex_sidx, ex_aug, ex_drop, ex_ret, ex_retN, ex_ifs, ex_fors, ex_whl, ex_brk, ex_cont, ex_pass, ex_never, exs_nil, exs_cons, ofOpt_some, fix_pv, fix_lst, fix_dct, fixL_nil, fixL_cons, norm_same, norm_set, o_add, o_sub, o_mul, o_mod, o_fd, o_p18, a_add, a_sub, c_eq, c_ne, c_eqs, c_nes, c_lt, c_le, c_gt, c_ge, c_is, c_isnot, b_int, b_min, b_max, b_lent, b_lenl, b_tuple, i_tup, i_lst, t_bl, t_non, t_int, ty_ss, ty_st, ty_ts, ty_tt, q_tup, l_tup, l_lst, at0, at1, p_int, isNonR, List.length_cons, List.length_nil, List.map_cons, List.map_nil, List.cons_append, List.nil_append, List.replicate_succ, List.replicate_zero, List.getElem?_cons_zero, List.getElem?_cons_succ, List.getElem?_nil, List.set_cons_zero, List.set_cons_succ, List.set_nil, Nat.sub_self, Nat.reduceSub, Nat.reduceAdd, Nat.reduceMul, Nat.zero_add, Int.reduceLT, Int.reduceLE, Nat.reduceLeDiff, LINE, if_true, if_false, Bool.false_eq_true, Bool.true_eq_false, Bool.not_true, Bool.not_false, ite_self, eq_self, Prod.fst, Prod.snd, is_variable, Fm.pv, e]
      simp only [List.length_cons] at this
      simp (config := {decide := false}) only [↓reduceIte, ↓bT_eq, ↓cT_eq, ↓oT_eq, bT_ok, cT_ok, oT_some, call1, ev_non, ev_bl, ev_int, ev_str, ev_gl, ev_var, ev_bop, ev_neg, ev_cmp, ev_cmp2, ev_band, ev_bor, ev_bnot, ev_ife, ev_tup, ev_lst, ev_dct, ev_idx, ev_slc, ev_call, ev_bi, ev_isi, ev_mth, ev_lc, ev_lzip, evL_nil, evL_cons, evD_cons, evD_nil, evO_none, evO_some, evS_seq, evS_rng, evS_rng2, evS_enum, evS_zip, evS_zipS, tst_band, tst_bor, tst_bnot, tst_non, tst_bl, tst_int, tst_str, tst_gl, tst_var, tst_cmp, tst_cmp2, tst_idx, tst_call, tst_bi, tst_isi, tsts_nil, tsts_cons, ex_asg, ex_tasg, ex_par, ex_sidx, ex_aug, ex_drop, ex_ret, ex_retN, ex_ifs, ex_fors, ex_whl, ex_brk, ex_cont, ex_pass, ex_never, exs_nil, exs_cons, ofOpt_some, fix_pv, fix_lst, fix_dct, fixL_nil, fixL_cons, norm_same, norm_set, o_add, o_sub, o_mul, o_mod, o_fd, o_p18, a_add, a_sub, c_eq, c_ne, c_eqs, c_nes, c_lt, c_le, c_gt, c_ge, c_is, c_isnot, b_int, b_min, b_max, b_lent, b_lenl, b_tuple, i_tup, i_lst, t_bl, t_non, t_int, ty_ss, ty_st, ty_ts, ty_tt, q_tup, l_tup, l_lst, at0, at1, p_int, isNonR, List.length_cons, List.length_nil, List.map_cons, List.map_nil, List.cons_append, List.nil_append, List.replicate_succ, List.replicate_zero, List.getElem?_cons_zero, List.getElem?_cons_succ, List.getElem?_nil, List.set_cons_zero, List.set_cons_succ, List.set_nil, Nat.sub_self, Nat.reduceSub, Nat.reduceAdd, Nat.reduceMul, Nat.zero_add, Int.reduceLT, Int.reduceLE, Nat.reduceLeDiff, LINE, if_true, if_false, Bool.false_eq_true, Bool.true_eq_false, Bool.not_true, Bool.not_false, ite_self, eq_self, Prod.fst, Prod.snd, this]
      rfl
def wbody (iWt : Nat) (jZ : Nat) : CSL := (.cons (.asg 5 (.call iWt (.cons (.var 4) (.cons (.bop .Sub (.var 1) (.int 1)) (.cons (.var 2) .nil))))) (.cons (.aug 3 .Add (.var 5)) (.cons (.ifs (.bor (.cmp .Eq (.var 5) (.int 0)) (.cmp .Gt (.var 3) (.gl jZ))) (.cons (.ret (.int 0)) .nil) .nil) .nil)))
def weight (iWt iV iO jP jZ : Nat) : FDef := ⟨3, 6, (.cons (.ifs (.band (.var 2) (.call iV (.cons (.var 0) .nil))) (.cons (.ret (.bi .min (.cons (.var 1) (.cons (.int 1) .nil)))) .nil) .nil) (.cons (.ifs (.bor (.cmp .Eq (.var 1) (.int 0)) (.bor (.bnot (.isi (.var 0) .tTuple)) (.bor (.cmp .NotEq (.bi .len (.cons (.var 0) .nil)) (.int 2)) (.bnot (.call iO (.cons (.idx (.var 0) (.int 0)) .nil)))))) (.cons (.ret (.int 0)) .nil) .nil) (.cons (.ifs (.bor (.bnot (.isi (.idx (.var 0) (.int 1)) .tTuple)) (.cmp .Gt (.bi .len (.cons (.idx (.var 0) (.int 1)) .nil)) (.gl jP))) (.cons (.ret (.int 0)) .nil) .nil) (.cons (.asg 3 (.int 1)) (.cons (.fors (.nm 4) (.seq (.idx (.var 0) (.int 1))) (wbody iWt jZ)) (.cons (.ret (.var 3)) .nil))))))⟩
mutual
def wt (hv : Bool) : Fm → Nat → Int
  | .v s, dp => if hv && isVar s then (if (1 : Int) < dp then 1 else dp) else 0
  | .n w ps, dp => match dp with
    | 0 => 0
    | d + 1 => if wordB w then (if ps.length ≤ 3 then wtL hv ps d 1 else 0) else 0
def wtL (hv : Bool) : List Fm → Nat → Int → Int
  | [], _, t => t
  | p :: ps, d, t => if wt hv p d == 0 then 0 else if 12 < t + wt hv p d then 0 else wtL hv ps d (t + wt hv p d)
end
/-- bounds that the interpreter wants -/
inductive Fmb : Nat → Fm → Prop where
  | v {d : Nat} {s : Txt} (h : s.length ≤ 1000) : Fmb (d + 1) (.v s)
  | n {d : Nat} {w : Txt} {ps : List Fm} (h : w.length ≤ 1000) (l : ps.length ≤ 1000) (q : ∀ p ∈ ps, Fmb d p) : Fmb (d + 1) (.n w ps)
structure WtG (P : List FDef) (G : List PV) (iWt iV iO jS jM jW jG jP jZ : Nat) : Prop where
  wt : P[iWt]? = some (weight iWt iV iO jP jZ)
  v : P[iV]? = some (is_variable jG)
  o : P[iO]? = some (is_word jS jM jW)
  gS : G[jS]? = some (.str SMALL)
  gM : G[jM]? = some (.int 12)
  gW : G[jW]? = some (.str WSIGNS)
  gG : G[jG]? = some (.str GREAT)
  gP : G[jP]? = some (.int 3)
  gZ : G[jZ]? = some (.int 12)
section
variable {iWt iV iO jS jM jW jG jP jZ : Nat}
theorem wt_loop (W : WtG P G iWt iV iO jS jM jW jG jP jZ) {lv d : Nat} {hv : Bool} {x : PV} : ∀ {ps : List Fm} {t : Int} {o4 o5 : Option PV}, (∀ p ∈ ps, ∀ h, run P G lv iWt [p.pv, .int d, .bl hv] h = .ok (.pv (.int (Lib.wt hv p d))) h) →
    ∃ f : Fl, forL (exs (run P G lv) G (wbody iWt jZ)) (.nm 4) none (Fm.pvs ps) [some x, some (.int ((d : Int) + 1)), some (.bl hv), some (.int t), o4, o5] h = .ok f h ∧ ((f = .ret (.pv (.int 0)) ∧ wtL hv ps d t = 0) ∨ ∃ a b, f = .nx [some x, some (.int ((d : Int) + 1)), some (.bl hv), some (.int (wtL hv ps d t)), a, b])
  | [], t, o4, o5, _ => ⟨_, by simp only [Fm.pvs, forL, lockOk, if_true]; rfl, .inr ⟨o4, o5, rfl⟩⟩
  | p :: ps, t, o4, o5, hp => by
    have q := hp p List.mem_cons_self
    have ee : ((d : Int) + 1) - 1 = d := by omega
    simp only [Fm.pvs, forL, lockOk, if_true, Tgt.set, opt_some]
    cases h0 : (Lib.wt hv p d == 0) with
    | true =>
      refine ⟨_, ?_, .inl ⟨rfl, by simp only [wtL, h0, if_true]⟩⟩
      simp (config := {decide := false}) only [↓reduceIte, ↓bT_eq, ↓cT_eq, ↓oT_eq, bT_ok, cT_ok, oT_some, call1, ev_non, ev_bl, ev_int, ev_str, ev_gl, ev_var, ev_bop, ev_neg, ev_cmp, ev_cmp2, ev_band, ev_bor, ev_bnot, ev_ife, ev_tup, ev_lst, ev_dct, ev_idx, ev_slc, ev_call, ev_bi, ev_isi, ev_mth, ev_lc, ev_lzip, evL_nil, evL_cons, evD_cons, evD_nil, evO_none, evO_some, evS_seq, evS_rng, evS_rng2, evS_enum, evS_zip, evS_zipS, tst_band, tst_bor, tst_bnot, tst_non, tst_bl, tst_int, tst_str, tst_gl, tst_var, tst_cmp, tst_cmp2, tst_idx, tst_call, tst_bi, tst_isi, tsts_nil, tsts_cons, ex_asg, ex_tasg, ex_par, ex_sidx, ex_aug, ex_drop, ex_ret, ex_retN, ex_ifs, ex_fors, ex_whl, ex_brk, ex_cont, ex_pass, ex_never, exs_nil, exs_cons, ofOpt_some, fix_pv, fix_lst, fix_dct, fixL_nil, fixL_cons, norm_same, norm_set, o_add, o_sub, o_mul, o_mod, o_fd, o_p18, a_add, a_sub, c_eq, c_ne, c_eqs, c_nes, c_lt, c_le, c_gt, c_ge, c_is, c_isnot, b_int, b_min, b_max, b_lent, b_lenl, b_tuple, i_tup, i_lst, t_bl, t_non, t_int, ty_ss, ty_st, ty_ts, ty_tt, q_tup, l_tup, l_lst, at0, at1, p_int, isNonR, List.length_cons, List.length_nil, List.map_cons, List.map_nil, List.cons_append, List.nil_append, List.replicate_succ, List.replicate_zero, List.getElem?_cons_zero, List.getElem?_cons_succ, List.getElem?_nil, List.set_cons_zero, List.set_cons_succ, List.set_nil, Nat.sub_self, Nat.reduceSub, Nat.reduceAdd, Nat.reduceMul, Nat.zero_add, Int.reduceLT, Int.reduceLE, Nat.reduceLeDiff, LINE, if_true, if_false, Bool.false_eq_true, Bool.true_eq_false, Bool.not_true, Bool.not_false, ite_self, eq_self, Prod.fst, Prod.snd, wbody, ee, q, h0]
    | false =>
      by_cases h1 : 12 < t + Lib.wt hv p d
      · refine ⟨_, ?_, .inl ⟨rfl, by simp only [wtL, h0, Bool.false_eq_true, if_false, h1, if_true]⟩⟩
        simp (config := {decide := false}) only [↓reduceIte, ↓bT_eq, ↓cT_eq, ↓oT_eq, bT_ok, cT_ok, oT_some, call1, ev_non, ev_bl, ev_int, ev_str, ev_gl, ev_var, ev_bop, ev_neg, ev_cmp, ev_cmp2, ev_band, ev_bor, ev_bnot, ev_ife, ev_tup, ev_lst, ev_dct, ev_idx, ev_slc, ev_call, ev_bi, ev_isi, ev_mth, ev_lc, ev_lzip, evL_nil, evL_cons, evD_cons, evD_nil, evO_none, evO_some, evS_seq, evS_rng, evS_rng2, evS_enum, evS_zip, evS_zipS, tst_band, tst_bor, tst_bnot, tst_non, tst_bl, tst_int, tst_str, tst_gl, tst_var, tst_cmp, tst_cmp2, tst_idx, tst_call, tst_bi, tst_isi, tsts_nil, tsts_cons, ex_asg, ex_tasg, ex_par, ex_sidx, ex_aug, ex_drop, ex_ret, ex_retN, ex_ifs, ex_fors, ex_whl, ex_brk, ex_cont, ex_pass, ex_never, exs_nil, exs_cons, ofOpt_some, fix_pv, fix_lst, fix_dct, fixL_nil, fixL_cons, norm_same, norm_set, o_add, o_sub, o_mul, o_mod, o_fd, o_p18, a_add, a_sub, c_eq, c_ne, c_eqs, c_nes, c_lt, c_le, c_gt, c_ge, c_is, c_isnot, b_int, b_min, b_max, b_lent, b_lenl, b_tuple, i_tup, i_lst, t_bl, t_non, t_int, ty_ss, ty_st, ty_ts, ty_tt, q_tup, l_tup, l_lst, at0, at1, p_int, isNonR, List.length_cons, List.length_nil, List.map_cons, List.map_nil, List.cons_append, List.nil_append, List.replicate_succ, List.replicate_zero, List.getElem?_cons_zero, List.getElem?_cons_succ, List.getElem?_nil, List.set_cons_zero, List.set_cons_succ, List.set_nil, Nat.sub_self, Nat.reduceSub, Nat.reduceAdd, Nat.reduceMul, Nat.zero_add, Int.reduceLT, Int.reduceLE, Nat.reduceLeDiff, LINE, if_true, if_false, Bool.false_eq_true, Bool.true_eq_false, Bool.not_true, Bool.not_false, ite_self, eq_self, Prod.fst, Prod.snd, wbody, ee, q, h0, W.gZ, h1, decide_true]
      · obtain ⟨f, e1, e2⟩ := wt_loop W (lv := lv) (d := d) (hv := hv) (x := x) (ps := ps) (t := t + Lib.wt hv p d) (o4 := some p.pv) (o5 := some (.int (Lib.wt hv p d))) fun y hy => hp y (List.mem_cons_of_mem _ hy)
        refine ⟨f, ?_, by simpa only [wtL, h0, Bool.false_eq_true, if_false, h1] using e2⟩
        rw [← e1]
        simp (config := {decide := false}) only [↓reduceIte, ↓bT_eq, ↓cT_eq, ↓oT_eq, bT_ok, cT_ok, oT_some, call1, ev_non, ev_bl, ev_int, ev_str, ev_gl, ev_var, ev_bop, ev_neg, ev_cmp, ev_cmp2, ev_band, ev_bor, ev_bnot, ev_ife, ev_tup, ev_lst, ev_dct, ev_idx, ev_slc, ev_call, ev_bi, ev_isi, ev_mth, ev_lc, ev_lzip, evL_nil, evL_cons, evD_cons, evD_nil, evO_none, evO_some, evS_seq, evS_rng, evS_rng2, evS_enum, evS_zip, evS_zipS, tst_band, tst_bor, tst_bnot, tst_non, tst_bl, tst_int, tst_str, tst_gl, tst_var, tst_cmp, tst_cmp2, tst_idx, tst_call, tst_bi, tst_isi, tsts_nil, tsts_cons, ex_asg, ex_tasg, ex_par, ex_sidx, ex_aug, ex_drop, ex_ret, ex_retN, ex_ifs, ex_fors, ex_whl, ex_brk, ex_cont, ex_pass, ex_never, exs_nil, exs_cons, ofOpt_some, fix_pv, fix_lst, fix_dct, fixL_nil, fixL_cons, norm_same, norm_set, o_add, o_sub, o_mul, o_mod, o_fd, o_p18, a_add, a_sub, c_eq, c_ne, c_eqs, c_nes, c_lt, c_le, c_gt, c_ge, c_is, c_isnot, b_int, b_min, b_max, b_lent, b_lenl, b_tuple, i_tup, i_lst, t_bl, t_non, t_int, ty_ss, ty_st, ty_ts, ty_tt, q_tup, l_tup, l_lst, at0, at1, p_int, isNonR, List.length_cons, List.length_nil, List.map_cons, List.map_nil, List.cons_append, List.nil_append, List.replicate_succ, List.replicate_zero, List.getElem?_cons_zero, List.getElem?_cons_succ, List.getElem?_nil, List.set_cons_zero, List.set_cons_succ, List.set_nil, Nat.sub_self, Nat.reduceSub, Nat.reduceAdd, Nat.reduceMul, Nat.zero_add, Int.reduceLT, Int.reduceLE, Nat.reduceLeDiff, LINE, if_true, if_false, Bool.false_eq_true, Bool.true_eq_false, Bool.not_true, Bool.not_false, ite_self, eq_self, Prod.fst, Prod.snd, wbody, ee, q, h0, W.gZ, h1, decide_false]
theorem run_weight (W : WtG P G iWt iV iO jS jM jW jG jP jZ) {hv : Bool} : ∀ {b : Nat} {f : Fm} {dp : Nat} {h : MH} {k : Nat}, Fmb b f → run P G (k + b + 1) iWt [f.pv, .int dp, .bl hv] h = .ok (.pv (.int (wt hv f dp))) h := by
  intro b
  induction b with
  | zero => intro f dp h k hf; cases hf
  | succ b ih =>
    intro f dp h k hf
    cases hf with
    | @v _ s hs =>
      have iv := fun h => run_isvar (G := G) (k := k + b) (h := h) W.v W.gG (.v s) (fun s' e => by cases e; exact hs)
      simp only [Fm.pv] at iv
      show run P G ((k + (b + 1)) + 1) iWt [_, _, _] h = _
      have lv : k + (b + 1) = k + b + 1 := by omega
      cases hv with
      | false =>
        rw [run_at W.wt]
        cases h0 : (((dp : Nat) : Int) == 0) <;> simp (config := {decide := false}) only [↓reduceIte, ↓bT_eq, ↓cT_eq, ↓oT_eq, bT_ok, cT_ok, oT_some, call1, ev_non, ev_bl, ev_int, ev_str, ev_gl, ev_var, ev_bop, ev_neg, ev_cmp, ev_cmp2, ev_band, ev_bor, ev_bnot, ev_ife, ev_tup, ev_lst, ev_dct, ev_idx, ev_slc, ev_call, ev_bi, ev_isi, ev_mth, ev_lc, ev_lzip, evL_nil, evL_cons, evD_cons, evD_nil, evO_none, evO_some, evS_seq, evS_rng, evS_rng2, evS_enum, evS_zip, evS_zipS, tst_band, tst_bor, tst_bnot, tst_non, tst_bl, tst_int, tst_str, tst_gl, tst_var, tst_cmp, tst_cmp2, tst_idx, tst_call, tst_bi, tst_isi, tsts_nil, tsts_cons, ex_asg, ex_tasg, ex_par, ex_sidx, ex_aug, ex_drop, ex_ret, ex_retN, ex_ifs, ex_fors, ex_whl, ex_brk, ex_cont, ex_pass, ex_never, exs_nil, exs_cons, ofOpt_some, fix_pv, fix_lst, fix_dct, fixL_nil, fixL_cons, norm_same, norm_set, o_add, o_sub, o_mul, o_mod, o_fd, o_p18, a_add, a_sub, c_eq, c_ne, c_eqs, c_nes, c_lt, c_le, c_gt, c_ge, c_is, c_isnot, b_int, b_min, b_max, b_lent, b_lenl, b_tuple, i_tup, i_lst, t_bl, t_non, t_int, ty_ss, ty_st, ty_ts, ty_tt, q_tup, l_tup, l_lst, at0, at1, p_int, isNonR, List.length_cons, List.length_nil, List.map_cons, List.map_nil, List.cons_append, List.nil_append, List.replicate_succ, List.replicate_zero, List.getElem?_cons_zero, List.getElem?_cons_succ, List.getElem?_nil, List.set_cons_zero, List.set_cons_succ, List.set_nil, Nat.sub_self, Nat.reduceSub, Nat.reduceAdd, Nat.reduceMul, Nat.zero_add, Int.reduceLT, Int.reduceLE, Nat.reduceLeDiff, LINE, if_true, if_false, Bool.false_eq_true, Bool.true_eq_false, Bool.not_true, Bool.not_false, ite_self, eq_self, Prod.fst, Prod.snd, weight, Fm.pv, h0, Lib.wt, Bool.false_and]
      | true =>
        cases hi : isVar s with
        | true =>
          rw [run_at W.wt]; simp (config := {decide := false}) only [↓reduceIte, ↓bT_eq, ↓cT_eq, ↓oT_eq, bT_ok, cT_ok, oT_some, call1, ev_non, ev_bl, ev_int, ev_str, ev_gl, ev_var, ev_bop, ev_neg, ev_cmp, ev_cmp2, ev_band, ev_bor, ev_bnot, ev_ife, ev_tup, ev_lst, ev_dct, ev_idx, ev_slc, ev_call, ev_bi, ev_isi, ev_mth, ev_lc, ev_lzip, evL_nil, evL_cons, evD_cons, evD_nil, evO_none, evO_some, evS_seq, evS_rng, evS_rng2, evS_enum, evS_zip, evS_zipS, tst_band, tst_bor, tst_bnot, tst_non, tst_bl, tst_int, tst_str, tst_gl, tst_var, tst_cmp, tst_cmp2, tst_idx, tst_call, tst_bi, tst_isi, tsts_nil, tsts_cons, ex_asg, ex_tasg, ex_par, ex_sidx, ex_aug, ex_drop, ex_ret, ex_retN, ex_ifs, ex_fors, ex_whl, ex_brk, ex_cont, ex_pass, ex_never, exs_nil, exs_cons, ofOpt_some, fix_pv, fix_lst, fix_dct, fixL_nil, fixL_cons, norm_same, norm_set, o_add, o_sub, o_mul, o_mod, o_fd, o_p18, a_add, a_sub, c_eq, c_ne, c_eqs, c_nes, c_lt, c_le, c_gt, c_ge, c_is, c_isnot, b_int, b_min, b_max, b_lent, b_lenl, b_tuple, i_tup, i_lst, t_bl, t_non, t_int, ty_ss, ty_st, ty_ts, ty_tt, q_tup, l_tup, l_lst, at0, at1, p_int, isNonR, List.length_cons, List.length_nil, List.map_cons, List.map_nil, List.cons_append, List.nil_append, List.replicate_succ, List.replicate_zero, List.getElem?_cons_zero, List.getElem?_cons_succ, List.getElem?_nil, List.set_cons_zero, List.set_cons_succ, List.set_nil, Nat.sub_self, Nat.reduceSub, Nat.reduceAdd, Nat.reduceMul, Nat.zero_add, Int.reduceLT, Int.reduceLE, Nat.reduceLeDiff, LINE, if_true, if_false, Bool.false_eq_true, Bool.true_eq_false, Bool.not_true, Bool.not_false, ite_self, eq_self, Prod.fst, Prod.snd, weight, Fm.pv, lv, iv, hi, Lib.wt, Bool.and_self]
        | false =>
          rw [run_at W.wt]
          cases h0 : (((dp : Nat) : Int) == 0) <;> simp (config := {decide := false}) only [↓reduceIte, ↓bT_eq, ↓cT_eq, ↓oT_eq, bT_ok, cT_ok, oT_some, call1, ev_non, ev_bl, ev_int, ev_str, ev_gl, ev_var, ev_bop, ev_neg, ev_cmp, ev_cmp2, ev_band, ev_bor, ev_bnot, ev_ife, ev_tup, ev_lst, ev_dct, ev_idx, ev_slc, ev_call, ev_bi, ev_isi, ev_mth, ev_lc, ev_lzip, evL_nil, evL_cons, evD_cons, evD_nil, evO_none, evO_some, evS_seq, evS_rng, evS_rng2, evS_enum, evS_zip, evS_zipS, tst_band, tst_bor, tst_bnot, tst_non, tst_bl, tst_int, tst_str, tst_gl, tst_var, tst_cmp, tst_cmp2, tst_idx, tst_call, tst_bi, tst_isi, tsts_nil, tsts_cons, ex_asg, ex_tasg, ex_par, ex_sidx, ex_aug, ex_drop, ex_ret, ex_retN, ex_ifs, ex_fors, ex_whl, ex_brk, ex_cont, ex_pass, ex_never, exs_nil, exs_cons, ofOpt_some, fix_pv, fix_lst, fix_dct, fixL_nil, fixL_cons, norm_same, norm_set, o_add, o_sub, o_mul, o_mod, o_fd, o_p18, a_add, a_sub, c_eq, c_ne, c_eqs, c_nes, c_lt, c_le, c_gt, c_ge, c_is, c_isnot, b_int, b_min, b_max, b_lent, b_lenl, b_tuple, i_tup, i_lst, t_bl, t_non, t_int, ty_ss, ty_st, ty_ts, ty_tt, q_tup, l_tup, l_lst, at0, at1, p_int, isNonR, List.length_cons, List.length_nil, List.map_cons, List.map_nil, List.cons_append, List.nil_append, List.replicate_succ, List.replicate_zero, List.getElem?_cons_zero, List.getElem?_cons_succ, List.getElem?_nil, List.set_cons_zero, List.set_cons_succ, List.set_nil, Nat.sub_self, Nat.reduceSub, Nat.reduceAdd, Nat.reduceMul, Nat.zero_add, Int.reduceLT, Int.reduceLE, Nat.reduceLeDiff, LINE, if_true, if_false, Bool.false_eq_true, Bool.true_eq_false, Bool.not_true, Bool.not_false, ite_self, eq_self, Prod.fst, Prod.snd, weight, Fm.pv, lv, iv, hi, h0, Lib.wt, Bool.and_false]
    | @n _ w ps hw l q =>
      have iv := fun h => run_isvar (G := G) (k := k + b) (h := h) W.v W.gG (.n w ps) (fun s' e => by cases e)
      have iw := fun h => run_isword (G := G) (k := k + b) (h := h) W.o W.gS W.gM W.gW hw
      simp only [Fm.pv] at iv
      have lv : k + (b + 1) = k + b + 1 := by omega
      show run P G ((k + (b + 1)) + 1) iWt [_, _, _] h = _
      have z2 : (((2 : Nat) : Int) == 2) = true := rfl
      cases dp with
      | zero =>
        have z0 : (((0 : Nat) : Int) == 0) = true := rfl
        rw [run_at W.wt]
        cases hv <;> simp (config := {decide := false}) only [↓reduceIte, ↓bT_eq, ↓cT_eq, ↓oT_eq, bT_ok, cT_ok, oT_some, call1, ev_non, ev_bl, ev_int, ev_str, ev_gl, ev_var, ev_bop, ev_neg, ev_cmp, ev_cmp2, ev_band, ev_bor, ev_bnot, ev_ife, ev_tup, ev_lst, ev_dct, ev_idx, ev_slc, ev_call, ev_bi, ev_isi, ev_mth, ev_lc, ev_lzip, evL_nil, evL_cons, evD_cons, evD_nil, evO_none, evO_some, evS_seq, evS_rng, evS_rng2, evS_enum, evS_zip, evS_zipS, tst_band, tst_bor, tst_bnot, tst_non, tst_bl, tst_int, tst_str, tst_gl, tst_var, tst_cmp, tst_cmp2, tst_idx, tst_call, tst_bi, tst_isi, tsts_nil, tsts_cons, ex_asg, ex_tasg, ex_par, ex_sidx, ex_aug, ex_drop, ex_ret, ex_retN, ex_ifs, ex_fors, ex_whl, ex_brk, ex_cont, ex_pass, ex_never, exs_nil, exs_cons, ofOpt_some, fix_pv, fix_lst, fix_dct, fixL_nil, fixL_cons, norm_same, norm_set, o_add, o_sub, o_mul, o_mod, o_fd, o_p18, a_add, a_sub, c_eq, c_ne, c_eqs, c_nes, c_lt, c_le, c_gt, c_ge, c_is, c_isnot, b_int, b_min, b_max, b_lent, b_lenl, b_tuple, i_tup, i_lst, t_bl, t_non, t_int, ty_ss, ty_st, ty_ts, ty_tt, q_tup, l_tup, l_lst, at0, at1, p_int, isNonR, List.length_cons, List.length_nil, List.map_cons, List.map_nil, List.cons_append, List.nil_append, List.replicate_succ, List.replicate_zero, List.getElem?_cons_zero, List.getElem?_cons_succ, List.getElem?_nil, List.set_cons_zero, List.set_cons_succ, List.set_nil, Nat.sub_self, Nat.reduceSub, Nat.reduceAdd, Nat.reduceMul, Nat.zero_add, Int.reduceLT, Int.reduceLE, Nat.reduceLeDiff, LINE, if_true, if_false, Bool.false_eq_true, Bool.true_eq_false, Bool.not_true, Bool.not_false, ite_self, eq_self, Prod.fst, Prod.snd, weight, Fm.pv, lv, iv, z0, Lib.wt]
      | succ d =>
        have z0 : (((d + 1 : Nat) : Int) == 0) = false := by simp; omega
        have ed : ((d + 1 : Nat) : Int) = (d : Int) + 1 := by omega
        cases hb : wordB w with
        | false =>
          rw [run_at W.wt]
          cases hv <;> simp (config := {decide := false}) only [↓reduceIte, ↓bT_eq, ↓cT_eq, ↓oT_eq, bT_ok, cT_ok, oT_some, call1, ev_non, ev_bl, ev_int, ev_str, ev_gl, ev_var, ev_bop, ev_neg, ev_cmp, ev_cmp2, ev_band, ev_bor, ev_bnot, ev_ife, ev_tup, ev_lst, ev_dct, ev_idx, ev_slc, ev_call, ev_bi, ev_isi, ev_mth, ev_lc, ev_lzip, evL_nil, evL_cons, evD_cons, evD_nil, evO_none, evO_some, evS_seq, evS_rng, evS_rng2, evS_enum, evS_zip, evS_zipS, tst_band, tst_bor, tst_bnot, tst_non, tst_bl, tst_int, tst_str, tst_gl, tst_var, tst_cmp, tst_cmp2, tst_idx, tst_call, tst_bi, tst_isi, tsts_nil, tsts_cons, ex_asg, ex_tasg, ex_par, ex_sidx, ex_aug, ex_drop, ex_ret, ex_retN, ex_ifs, ex_fors, ex_whl, ex_brk, ex_cont, ex_pass, ex_never, exs_nil, exs_cons, ofOpt_some, fix_pv, fix_lst, fix_dct, fixL_nil, fixL_cons, norm_same, norm_set, o_add, o_sub, o_mul, o_mod, o_fd, o_p18, a_add, a_sub, c_eq, c_ne, c_eqs, c_nes, c_lt, c_le, c_gt, c_ge, c_is, c_isnot, b_int, b_min, b_max, b_lent, b_lenl, b_tuple, i_tup, i_lst, t_bl, t_non, t_int, ty_ss, ty_st, ty_ts, ty_tt, q_tup, l_tup, l_lst, at0, at1, p_int, isNonR, List.length_cons, List.length_nil, List.map_cons, List.map_nil, List.cons_append, List.nil_append, List.replicate_succ, List.replicate_zero, List.getElem?_cons_zero, List.getElem?_cons_succ, List.getElem?_nil, List.set_cons_zero, List.set_cons_succ, List.set_nil, Nat.sub_self, Nat.reduceSub, Nat.reduceAdd, Nat.reduceMul, Nat.zero_add, Int.reduceLT, Int.reduceLE, Nat.reduceLeDiff, LINE, if_true, if_false, Bool.false_eq_true, Bool.true_eq_false, Bool.not_true, Bool.not_false, ite_self, eq_self, Prod.fst, Prod.snd, weight, Fm.pv, lv, iv, z0, z2, iw, hb, Lib.wt]
        | true =>
          by_cases h3 : (3 : Int) < ps.length
          · have h3' : ¬ ps.length ≤ 3 := by omega
            have pl : (3 : Int) < ((Fm.pvs ps).length : Nat) := by rw [Fm.pvs_len]; exact h3
            rw [run_at W.wt]
            cases hv <;> simp (config := {decide := false}) only [↓reduceIte, ↓bT_eq, ↓cT_eq, ↓oT_eq, bT_ok, cT_ok, oT_some, call1, ev_non, ev_bl, ev_int, ev_str, ev_gl, ev_var, ev_bop, ev_neg, ev_cmp, ev_cmp2, ev_band, ev_bor, ev_bnot, ev_ife, ev_tup, ev_lst, ev_dct, ev_idx, ev_slc, ev_call, ev_bi, ev_isi, ev_mth, ev_lc, ev_lzip, evL_nil, evL_cons, evD_cons, evD_nil, evO_none, evO_some, evS_seq, evS_rng, evS_rng2, evS_enum, evS_zip, evS_zipS, tst_band, tst_bor, tst_bnot, tst_non, tst_bl, tst_int, tst_str, tst_gl, tst_var, tst_cmp, tst_cmp2, tst_idx, tst_call, tst_bi, tst_isi, tsts_nil, tsts_cons, ex_asg, ex_tasg, ex_par, ex_sidx, ex_aug, ex_drop, ex_ret, ex_retN, ex_ifs, ex_fors, ex_whl, ex_brk, ex_cont, ex_pass, ex_never, exs_nil, exs_cons, ofOpt_some, fix_pv, fix_lst, fix_dct, fixL_nil, fixL_cons, norm_same, norm_set, o_add, o_sub, o_mul, o_mod, o_fd, o_p18, a_add, a_sub, c_eq, c_ne, c_eqs, c_nes, c_lt, c_le, c_gt, c_ge, c_is, c_isnot, b_int, b_min, b_max, b_lent, b_lenl, b_tuple, i_tup, i_lst, t_bl, t_non, t_int, ty_ss, ty_st, ty_ts, ty_tt, q_tup, l_tup, l_lst, at0, at1, p_int, isNonR, List.length_cons, List.length_nil, List.map_cons, List.map_nil, List.cons_append, List.nil_append, List.replicate_succ, List.replicate_zero, List.getElem?_cons_zero, List.getElem?_cons_succ, List.getElem?_nil, List.set_cons_zero, List.set_cons_succ, List.set_nil, Nat.sub_self, Nat.reduceSub, Nat.reduceAdd, Nat.reduceMul, Nat.zero_add, Int.reduceLT, Int.reduceLE, Nat.reduceLeDiff, LINE, if_true, if_false, Bool.false_eq_true, Bool.true_eq_false, Bool.not_true, Bool.not_false, ite_self, eq_self, Prod.fst, Prod.snd, weight, Fm.pv, lv, iv, z0, z2, iw, hb, Lib.wt, W.gP, pl, decide_true, h3']
          · have h3' : ps.length ≤ 3 := by omega
            have pl : ¬ (3 : Int) < ((Fm.pvs ps).length : Nat) := by rw [Fm.pvs_len]; exact h3
            obtain ⟨f, e1, e2⟩ := wt_loop (h := h) W (lv := k + b + 1) (d := d) (hv := hv) (x := .tup [.str w, .tup (Fm.pvs ps)]) (ps := ps) (t := 1) (o4 := none) (o5 := none) (fun p hp h => ih (q p hp))
            rw [ed] at z0 ⊢
            rcases e2 with ⟨rfl, e2⟩ | ⟨o, o', rfl⟩
            · rw [run_at W.wt]
              cases hv <;> simp (config := {decide := false}) only [↓reduceIte, ↓bT_eq, ↓cT_eq, ↓oT_eq, bT_ok, cT_ok, oT_some, call1, ev_non, ev_bl, ev_int, ev_str, ev_gl, ev_var, ev_bop, ev_neg, ev_cmp, ev_cmp2, ev_band, ev_bor, ev_bnot, ev_ife, ev_tup, ev_lst, ev_dct, ev_idx, ev_slc, ev_call, ev_bi, ev_isi, ev_mth, ev_lc, ev_lzip, evL_nil, evL_cons, evD_cons, evD_nil, evO_none, evO_some, evS_seq, evS_rng, evS_rng2, evS_enum, evS_zip, evS_zipS, tst_band, tst_bor, tst_bnot, tst_non, tst_bl, tst_int, tst_str, tst_gl, tst_var, tst_cmp, tst_cmp2, tst_idx, tst_call, tst_bi, tst_isi, tsts_nil, tsts_cons, ex_asg, ex_tasg, ex_par, ex_sidx, ex_aug, ex_drop, ex_ret, ex_retN, ex_ifs, ex_fors, ex_whl, ex_brk, ex_cont, ex_pass, ex_never, exs_nil, exs_cons, ofOpt_some, fix_pv, fix_lst, fix_dct, fixL_nil, fixL_cons, norm_same, norm_set, o_add, o_sub, o_mul, o_mod, o_fd, o_p18, a_add, a_sub, c_eq, c_ne, c_eqs, c_nes, c_lt, c_le, c_gt, c_ge, c_is, c_isnot, b_int, b_min, b_max, b_lent, b_lenl, b_tuple, i_tup, i_lst, t_bl, t_non, t_int, ty_ss, ty_st, ty_ts, ty_tt, q_tup, l_tup, l_lst, at0, at1, p_int, isNonR, List.length_cons, List.length_nil, List.map_cons, List.map_nil, List.cons_append, List.nil_append, List.replicate_succ, List.replicate_zero, List.getElem?_cons_zero, List.getElem?_cons_succ, List.getElem?_nil, List.set_cons_zero, List.set_cons_succ, List.set_nil, Nat.sub_self, Nat.reduceSub, Nat.reduceAdd, Nat.reduceMul, Nat.zero_add, Int.reduceLT, Int.reduceLE, Nat.reduceLeDiff, LINE, if_true, if_false, Bool.false_eq_true, Bool.true_eq_false, Bool.not_true, Bool.not_false, ite_self, eq_self, Prod.fst, Prod.snd, weight, Fm.pv, lv, iv, z0, z2, iw, hb, Lib.wt, W.gP, pl, decide_false, h3', e1, e2]
            · rw [run_at W.wt]
              cases hv <;> simp (config := {decide := false}) only [↓reduceIte, ↓bT_eq, ↓cT_eq, ↓oT_eq, bT_ok, cT_ok, oT_some, call1, ev_non, ev_bl, ev_int, ev_str, ev_gl, ev_var, ev_bop, ev_neg, ev_cmp, ev_cmp2, ev_band, ev_bor, ev_bnot, ev_ife, ev_tup, ev_lst, ev_dct, ev_idx, ev_slc, ev_call, ev_bi, ev_isi, ev_mth, ev_lc, ev_lzip, evL_nil, evL_cons, evD_cons, evD_nil, evO_none, evO_some, evS_seq, evS_rng, evS_rng2, evS_enum, evS_zip, evS_zipS, tst_band, tst_bor, tst_bnot, tst_non, tst_bl, tst_int, tst_str, tst_gl, tst_var, tst_cmp, tst_cmp2, tst_idx, tst_call, tst_bi, tst_isi, tsts_nil, tsts_cons, ex_asg, ex_tasg, ex_par, ex_sidx, ex_aug, ex_drop, ex_ret, ex_retN, ex_ifs, ex_fors, ex_whl, ex_brk, ex_cont, ex_pass, ex_never, exs_nil, exs_cons, ofOpt_some, fix_pv, fix_lst, fix_dct, fixL_nil, fixL_cons, norm_same, norm_set, o_add, o_sub, o_mul, o_mod, o_fd, o_p18, a_add, a_sub, c_eq, c_ne, c_eqs, c_nes, c_lt, c_le, c_gt, c_ge, c_is, c_isnot, b_int, b_min, b_max, b_lent, b_lenl, b_tuple, i_tup, i_lst, t_bl, t_non, t_int, ty_ss, ty_st, ty_ts, ty_tt, q_tup, l_tup, l_lst, at0, at1, p_int, isNonR, List.length_cons, List.length_nil, List.map_cons, List.map_nil, List.cons_append, List.nil_append, List.replicate_succ, List.replicate_zero, List.getElem?_cons_zero, List.getElem?_cons_succ, List.getElem?_nil, List.set_cons_zero, List.set_cons_succ, List.set_nil, Nat.sub_self, Nat.reduceSub, Nat.reduceAdd, Nat.reduceMul, Nat.zero_add, Int.reduceLT, Int.reduceLE, Nat.reduceLeDiff, LINE, if_true, if_false, Bool.false_eq_true, Bool.true_eq_false, Bool.not_true, Bool.not_false, ite_self, eq_self, Prod.fst, Prod.snd, weight, Fm.pv, lv, iv, z0, z2, iw, hb, Lib.wt, W.gP, pl, decide_false, h3', e1]
/-! ### forms, terms, patterns -/
def is_form (iWt jD : Nat) : FDef := ⟨2, 2, (.cons (.ret (.cmp .Gt (.call iWt (.cons (.var 0) (.cons (.gl jD) (.cons (.var 1) .nil)))) (.int 0))) .nil)⟩
def is_term (iFm : Nat) : FDef := ⟨1, 1, (.cons (.ret (.call iFm (.cons (.var 0) (.cons (.bl false) .nil)))) .nil)⟩
def is_pattern (iFm : Nat) : FDef := ⟨1, 1, (.cons (.ret (.call iFm (.cons (.var 0) (.cons (.bl true) .nil)))) .nil)⟩
def need (iX : Nat) : FDef := ⟨1, 1, (.cons (.ifs (.bnot (.call iX (.cons (.var 0) .nil))) (.cons .never .nil) .nil) .nil)⟩
theorem run_isform {iFm jD : Nat} (hF : P[iFm]? = some (is_form iWt jD)) (gD : G[jD]? = some (.int 4)) (W : WtG P G iWt iV iO jS jM jW jG jP jZ) {hv : Bool} {b : Nat} {f : Fm} (hf : Fmb b f) : run P G (k + b + 2) iFm [f.pv, .bl hv] h = .ok (.pv (.bl (decide (0 < wt hv f 4)))) h := by
  have q := run_weight (h := h) (k := k) W (hv := hv) (dp := 4) hf
  have e4 : ((4 : Nat) : Int) = 4 := rfl
  rw [e4] at q
  rw [run_at hF]; simp (config := {decide := false}) only [↓reduceIte, ↓bT_eq, ↓cT_eq, ↓oT_eq, bT_ok, cT_ok, oT_some, call1, ev_non, ev_bl, ev_int, ev_str, ev_gl, ev_var, ev_bop, ev_neg, ev_cmp, ev_cmp2, ev_band, ev_bor, ev_bnot, ev_ife, ev_tup, ev_lst, ev_dct, ev_idx, ev_slc, ev_call, ev_bi, ev_isi, ev_mth, ev_lc, ev_lzip, evL_nil, evL_cons, evD_cons, evD_nil, evO_none, evO_some, evS_seq, evS_rng, evS_rng2, evS_enum, evS_zip, evS_zipS, tst_band, tst_bor, tst_bnot, tst_non, tst_bl, tst_int, tst_str, tst_gl, tst_var, tst_cmp, tst_cmp2, tst_idx, tst_call, tst_bi, tst_isi, tsts_nil, tsts_cons, ex_asg, ex_tasg, ex_par, ex_sidx, ex_aug, ex_drop, ex_ret, ex_retN, ex_ifs, ex_fors, ex_whl, ex_brk, ex_cont, ex_pass, ex_never, exs_nil, exs_cons, ofOpt_some, fix_pv, fix_lst, fix_dct, fixL_nil, fixL_cons, norm_same, norm_set, o_add, o_sub, o_mul, o_mod, o_fd, o_p18, a_add, a_sub, c_eq, c_ne, c_eqs, c_nes, c_lt, c_le, c_gt, c_ge, c_is, c_isnot, b_int, b_min, b_max, b_lent, b_lenl, b_tuple, i_tup, i_lst, t_bl, t_non, t_int, ty_ss, ty_st, ty_ts, ty_tt, q_tup, l_tup, l_lst, at0, at1, p_int, isNonR, List.length_cons, List.length_nil, List.map_cons, List.map_nil, List.cons_append, List.nil_append, List.replicate_succ, List.replicate_zero, List.getElem?_cons_zero, List.getElem?_cons_succ, List.getElem?_nil, List.set_cons_zero, List.set_cons_succ, List.set_nil, Nat.sub_self, Nat.reduceSub, Nat.reduceAdd, Nat.reduceMul, Nat.zero_add, Int.reduceLT, Int.reduceLE, Nat.reduceLeDiff, LINE, if_true, if_false, Bool.false_eq_true, Bool.true_eq_false, Bool.not_true, Bool.not_false, ite_self, eq_self, Prod.fst, Prod.snd, is_form, gD, q]
theorem run_isterm {iFm iT jD : Nat} (hT : P[iT]? = some (is_term iFm)) (hF : P[iFm]? = some (is_form iWt jD)) (gD : G[jD]? = some (.int 4)) (W : WtG P G iWt iV iO jS jM jW jG jP jZ) {b : Nat} {f : Fm} (hf : Fmb b f) : run P G (k + b + 3) iT [f.pv] h = .ok (.pv (.bl (decide (0 < wt false f 4)))) h := by
  have q := run_isform (h := h) (k := k) hF gD W (hv := false) hf
  rw [run_at hT]; simp (config := {decide := false}) only [↓reduceIte, ↓bT_eq, ↓cT_eq, ↓oT_eq, bT_ok, cT_ok, oT_some, call1, ev_non, ev_bl, ev_int, ev_str, ev_gl, ev_var, ev_bop, ev_neg, ev_cmp, ev_cmp2, ev_band, ev_bor, ev_bnot, ev_ife, ev_tup, ev_lst, ev_dct, ev_idx, ev_slc, ev_call, ev_bi, ev_isi, ev_mth, ev_lc, ev_lzip, evL_nil, evL_cons, evD_cons, evD_nil, evO_none, evO_some, evS_seq, evS_rng, evS_rng2, evS_enum, evS_zip, evS_zipS, tst_band, tst_bor, tst_bnot, tst_non, tst_bl, tst_int, tst_str, tst_gl, tst_var, tst_cmp, tst_cmp2, tst_idx, tst_call, tst_bi, tst_isi, tsts_nil, tsts_cons, ex_asg, ex_tasg, ex_par, ex_sidx, ex_aug, ex_drop, ex_ret, ex_retN, ex_ifs, ex_fors, ex_whl, ex_brk, ex_cont, ex_pass, ex_never, exs_nil, exs_cons, ofOpt_some, fix_pv, fix_lst, fix_dct, fixL_nil, fixL_cons, norm_same, norm_set, o_add, o_sub, o_mul, o_mod, o_fd, o_p18, a_add, a_sub, c_eq, c_ne, c_eqs, c_nes, c_lt, c_le, c_gt, c_ge, c_is, c_isnot, b_int, b_min, b_max, b_lent, b_lenl, b_tuple, i_tup, i_lst, t_bl, t_non, t_int, ty_ss, ty_st, ty_ts, ty_tt, q_tup, l_tup, l_lst, at0, at1, p_int, isNonR, List.length_cons, List.length_nil, List.map_cons, List.map_nil, List.cons_append, List.nil_append, List.replicate_succ, List.replicate_zero, List.getElem?_cons_zero, List.getElem?_cons_succ, List.getElem?_nil, List.set_cons_zero, List.set_cons_succ, List.set_nil, Nat.sub_self, Nat.reduceSub, Nat.reduceAdd, Nat.reduceMul, Nat.zero_add, Int.reduceLT, Int.reduceLE, Nat.reduceLeDiff, LINE, if_true, if_false, Bool.false_eq_true, Bool.true_eq_false, Bool.not_true, Bool.not_false, ite_self, eq_self, Prod.fst, Prod.snd, is_term, q]
theorem run_ispat {iFm iT jD : Nat} (hT : P[iT]? = some (is_pattern iFm)) (hF : P[iFm]? = some (is_form iWt jD)) (gD : G[jD]? = some (.int 4)) (W : WtG P G iWt iV iO jS jM jW jG jP jZ) {b : Nat} {f : Fm} (hf : Fmb b f) : run P G (k + b + 3) iT [f.pv] h = .ok (.pv (.bl (decide (0 < wt true f 4)))) h := by
  have q := run_isform (h := h) (k := k) hF gD W (hv := true) hf
  rw [run_at hT]; simp (config := {decide := false}) only [↓reduceIte, ↓bT_eq, ↓cT_eq, ↓oT_eq, bT_ok, cT_ok, oT_some, call1, ev_non, ev_bl, ev_int, ev_str, ev_gl, ev_var, ev_bop, ev_neg, ev_cmp, ev_cmp2, ev_band, ev_bor, ev_bnot, ev_ife, ev_tup, ev_lst, ev_dct, ev_idx, ev_slc, ev_call, ev_bi, ev_isi, ev_mth, ev_lc, ev_lzip, evL_nil, evL_cons, evD_cons, evD_nil, evO_none, evO_some, evS_seq, evS_rng, evS_rng2, evS_enum, evS_zip, evS_zipS, tst_band, tst_bor, tst_bnot, tst_non, tst_bl, tst_int, tst_str, tst_gl, tst_var, tst_cmp, tst_cmp2, tst_idx, tst_call, tst_bi, tst_isi, tsts_nil, tsts_cons, ex_asg, ex_tasg, ex_par, ex_sidx, ex_aug, ex_drop, ex_ret, ex_retN, ex_ifs, ex_fors, ex_whl, ex_brk, ex_cont, ex_pass, ex_never, exs_nil, exs_cons, ofOpt_some, fix_pv, fix_lst, fix_dct, fixL_nil, fixL_cons, norm_same, norm_set, o_add, o_sub, o_mul, o_mod, o_fd, o_p18, a_add, a_sub, c_eq, c_ne, c_eqs, c_nes, c_lt, c_le, c_gt, c_ge, c_is, c_isnot, b_int, b_min, b_max, b_lent, b_lenl, b_tuple, i_tup, i_lst, t_bl, t_non, t_int, ty_ss, ty_st, ty_ts, ty_tt, q_tup, l_tup, l_lst, at0, at1, p_int, isNonR, List.length_cons, List.length_nil, List.map_cons, List.map_nil, List.cons_append, List.nil_append, List.replicate_succ, List.replicate_zero, List.getElem?_cons_zero, List.getElem?_cons_succ, List.getElem?_nil, List.set_cons_zero, List.set_cons_succ, List.set_nil, Nat.sub_self, Nat.reduceSub, Nat.reduceAdd, Nat.reduceMul, Nat.zero_add, Int.reduceLT, Int.reduceLE, Nat.reduceLeDiff, LINE, if_true, if_false, Bool.false_eq_true, Bool.true_eq_false, Bool.not_true, Bool.not_false, ite_self, eq_self, Prod.fst, Prod.snd, is_pattern, q]
theorem run_need {iX iN : Nat} {lv : Nat} {v : PV} (hN : P[iN]? = some (need iX)) (q : run P G lv iX [v] h = .ok (.pv (.bl true)) h) : run P G (lv + 1) iN [v] h = .ok (.pv .non) h := by
  rw [run_at hN]; simp (config := {decide := false}) only [↓reduceIte, ↓bT_eq, ↓cT_eq, ↓oT_eq, bT_ok, cT_ok, oT_some, call1, ev_non, ev_bl, ev_int, ev_str, ev_gl, ev_var, ev_bop, ev_neg, ev_cmp, ev_cmp2, ev_band, ev_bor, ev_bnot, ev_ife, ev_tup, ev_lst, ev_dct, ev_idx, ev_slc, ev_call, ev_bi, ev_isi, ev_mth, ev_lc, ev_lzip, evL_nil, evL_cons, evD_cons, evD_nil, evO_none, evO_some, evS_seq, evS_rng, evS_rng2, evS_enum, evS_zip, evS_zipS, tst_band, tst_bor, tst_bnot, tst_non, tst_bl, tst_int, tst_str, tst_gl, tst_var, tst_cmp, tst_cmp2, tst_idx, tst_call, tst_bi, tst_isi, tsts_nil, tsts_cons, ex_asg, ex_tasg, ex_par, ex_sidx, ex_aug, ex_drop, ex_ret, ex_retN, ex_ifs, ex_fors, ex_whl, ex_brk, ex_cont, ex_pass, ex_never, exs_nil, exs_cons, ofOpt_some, fix_pv, fix_lst, fix_dct, fixL_nil, fixL_cons, norm_same, norm_set, o_add, o_sub, o_mul, o_mod, o_fd, o_p18, a_add, a_sub, c_eq, c_ne, c_eqs, c_nes, c_lt, c_le, c_gt, c_ge, c_is, c_isnot, b_int, b_min, b_max, b_lent, b_lenl, b_tuple, i_tup, i_lst, t_bl, t_non, t_int, ty_ss, ty_st, ty_ts, ty_tt, q_tup, l_tup, l_lst, at0, at1, p_int, isNonR, List.length_cons, List.length_nil, List.map_cons, List.map_nil, List.cons_append, List.nil_append, List.replicate_succ, List.replicate_zero, List.getElem?_cons_zero, List.getElem?_cons_succ, List.getElem?_nil, List.set_cons_zero, List.set_cons_succ, List.set_nil, Nat.sub_self, Nat.reduceSub, Nat.reduceAdd, Nat.reduceMul, Nat.zero_add, Int.reduceLT, Int.reduceLE, Nat.reduceLeDiff, LINE, if_true, if_false, Bool.false_eq_true, Bool.true_eq_false, Bool.not_true, Bool.not_false, ite_self, eq_self, Prod.fst, Prod.snd, need, q]
end
/-! ### what weight tells -/
theorem w6_len {w : Txt} (h : w ∈ W6) : w.length ≤ 12 := by
  have : ∀ w ∈ W6, w.length ≤ 12 := by decide
  exact this w h
theorem w6_word {w : Txt} (h : w ∈ W6) : wordB w = true := by
  have : ∀ w ∈ W6, wordB w = true := by decide
  exact this w h
theorem Ok.fmb {W : List Txt} (hW : ∀ w ∈ W, w.length ≤ 12) {S : Txt} {d : Nat} {f : Fm} (h : Fm.Ok W S d f) : Fmb d f := by
  induction h with
  | v h => exact .v (by simp)
  | n h l q ih => exact .n (by have := hW _ h; omega) (by omega) ih
mutual
/-- what is drawn is small enough -/
theorem wt_ok {W : List Txt} (hW : ∀ w ∈ W, wordB w = true) {S : Txt} (hS : ∀ c ∈ S, GREAT.contains c = true) : ∀ {f : Fm} {d : Nat}, Fm.Ok W S d f → f.size ≤ 12 → wt true f d = f.size
  | .v s, d, h, _ => by
    cases h with
    | @v d' c hc =>
      have := hS _ hc
      simp only [wt, isVar, this, Bool.and_self, if_true, Fm.size]
      split <;> omega
  | .n w ps, d, h, hs => by
    cases h with
    | @n d' _ _ hw l q =>
      simp only [Fm.size] at hs
      simp only [wt, hW _ hw, if_true, if_pos l, Fm.size]
      exact wtL_ok hW hS q (by omega) (by omega)
theorem wtL_ok {W : List Txt} (hW : ∀ w ∈ W, wordB w = true) {S : Txt} (hS : ∀ c ∈ S, GREAT.contains c = true) : ∀ {ps : List Fm} {d : Nat} {t : Int}, (∀ p ∈ ps, Fm.Ok W S d p) → 0 ≤ t → t + Fm.sizes ps ≤ 12 → wtL true ps d t = t + Fm.sizes ps
  | [], _, _, _, _, _ => by simp [wtL, Fm.sizes]
  | p :: ps, d, t, h, ht, hs => by
    simp only [Fm.sizes] at hs ⊢
    have h1 := Fm.size_pos p
    have h2 := Fm.sizes_nn ps
    have e := wt_ok hW hS (h p List.mem_cons_self) (by omega)
    have n0 : (p.size == 0) = false := by
      have : p.size ≠ 0 := by omega
      simpa using this
    simp only [wtL, e, n0, Bool.false_eq_true, if_false]
    rw [if_neg (by omega), wtL_ok hW hS (fun q hq => h q (List.mem_cons_of_mem _ hq)) (by omega) (by omega)]
    omega
end
mutual
theorem wt_nn {hv : Bool} : ∀ (f : Fm) (d : Nat), 0 ≤ wt hv f d
  | .v s, d => by simp only [wt]; split <;> (try split) <;> omega
  | .n w ps, d => by
    cases d with
    | zero => simp [wt]
    | succ d =>
      simp only [wt]
      split
      · split
        · exact wtL_nn ps d 1 (by decide)
        · omega
      · omega
theorem wtL_nn {hv : Bool} : ∀ (ps : List Fm) (d : Nat) (t : Int), 0 ≤ t → 0 ≤ wtL hv ps d t
  | [], _, _, h => by simpa [wtL] using h
  | p :: ps, d, t, h => by
    simp only [wtL]
    split
    · omega
    · split
      · omega
      · exact wtL_nn ps d _ (by have := wt_nn (hv := hv) p d; omega)
end
/-- a term: no variables -/
inductive Tm : Nat → Fm → Prop where
  | n {d : Nat} {w : Txt} {ps : List Fm} (l : ps.length ≤ 3) (q : ∀ p ∈ ps, Tm d p) : Tm (d + 1) (.n w ps)
mutual
theorem tm_of : ∀ {f : Fm} {d : Nat}, 0 < wt false f d → Tm d f
  | .v s, d, h => by simp [wt] at h
  | .n w ps, d, h => by
    cases d with
    | zero => simp [wt] at h
    | succ d =>
      simp only [wt] at h
      split at h
      · split at h
        · exact .n (by assumption) (tms_of (t := 1) (by decide) h)
        · omega
      · omega
theorem tms_of : ∀ {ps : List Fm} {d : Nat} {t : Int}, 0 ≤ t → 0 < wtL false ps d t → ∀ p ∈ ps, Tm d p
  | [], _, _, _, _ => by simp
  | p :: ps, d, t, h0, h => by
    simp only [wtL] at h
    have n := wt_nn (hv := false) p d
    split at h
    · omega
    · rename_i h1
      split at h
      · omega
      · intro q hq
        rcases List.mem_cons.mp hq with e | hq
        · have : wt false p d ≠ 0 := by simpa using h1
          have hp : Tm d p := tm_of (by omega)
          rw [e]; exact hp
        · exact tms_of (by omega) h q hq
end
end Lib
end Pf
/-! PfMatch: putting in, matching. -/
namespace Pf
namespace Lib
variable {P : List FDef} {G : List PV} {k : Nat} {h : MH}
theorem txt_beq (s t : Txt) : (s == t) = decide (s = t) := by by_cases e : s = t <;> simp [e]
/-! ### equality of forms -/
def feq (f g : Fm) : Bool := decide (f.pv = g.pv)
theorem pvs_inj_len : ∀ {ps qs : List Fm}, Fm.pvs ps = Fm.pvs qs → ps.length = qs.length := fun {ps qs} h => by
  rw [← Fm.pvs_len ps, ← Fm.pvs_len qs, h]
mutual
theorem pv_inj : ∀ {f g : Fm}, f.pv = g.pv → f = g
  | .v s, .v t, h => by simp only [Fm.pv, PV.str.injEq] at h; rw [h]
  | .v s, .n _ _, h => by simp [Fm.pv] at h
  | .n _ _, .v _, h => by simp [Fm.pv] at h
  | .n w ps, .n x qs, h => by
    simp only [Fm.pv, PV.tup.injEq, List.cons.injEq, PV.str.injEq, and_true] at h
    rw [h.1, pvs_inj h.2]
theorem pvs_inj : ∀ {f g : List Fm}, Fm.pvs f = Fm.pvs g → f = g
  | [], [], _ => rfl
  | [], _ :: _, h => by simp [Fm.pvs] at h
  | _ :: _, [], h => by simp [Fm.pvs] at h
  | p :: ps, q :: qs, h => by
    simp only [Fm.pvs, List.cons.injEq] at h
    rw [pv_inj h.1, pvs_inj h.2]
end
theorem feq_iff {f g : Fm} : feq f g = true ↔ f = g := by
  unfold feq
  rw [decide_eq_true_eq]
  exact ⟨pv_inj, fun e => by rw [e]⟩
theorem eqvL_dec {F : PV → PV → Option Bool} : ∀ {xs ys : List PV}, (∀ x ∈ xs, ∀ y ∈ ys, F x y = some (decide (x = y))) → eqvL F xs ys = some (decide (xs = ys))
  | [], [], _ => by simp [eqvL]
  | [], _ :: _, _ => by simp [eqvL]
  | _ :: _, [], _ => by simp [eqvL]
  | x :: xs, y :: ys, h => by
    have h1 := h x List.mem_cons_self y List.mem_cons_self
    have h2 := eqvL_dec (xs := xs) (ys := ys) fun a ha b hb => h a (List.mem_cons_of_mem _ ha) b (List.mem_cons_of_mem _ hb)
    simp only [eqvL, h1, h2, List.cons.injEq, Bool.decide_and]
theorem mem_pvs {ps : List Fm} {x : PV} (h : x ∈ Fm.pvs ps) : ∃ p ∈ ps, x = p.pv := by
  rw [Fm.pvs_map] at h
  obtain ⟨p, hp, e⟩ := List.mem_map.mp h
  exact ⟨p, hp, e.symm⟩
theorem eqv_fm {b : Nat} : ∀ {f : Fm}, Fmb b f → ∀ (g : Fm) (n : Nat), 2 * b ≤ n → eqv h n f.pv g.pv = some (decide (f.pv = g.pv)) := by
  induction b with
  | zero => intro f hf; cases hf
  | succ b ih =>
    intro f hf g n hn
    obtain ⟨n, rfl⟩ : ∃ m, n = m + 2 := ⟨n - 2, by omega⟩
    cases hf with
    | v hs =>
      cases g with
      | v t => simp [Fm.pv, eqv, txt_beq]
      | n w qs => simp [Fm.pv, eqv]
    | @n _ w ps hw l q =>
      cases g with
      | v t => simp [Fm.pv, eqv]
      | n x qs =>
        have e1 : eqv h (n + 1) (.str w) (.str x) = some (decide (w = x)) := by simp only [eqv, txt_beq]
        have e2 : eqv h (n + 1) (.tup (Fm.pvs ps)) (.tup (Fm.pvs qs)) = some (decide (Fm.pvs ps = Fm.pvs qs)) := by
          simp only [eqv]
          refine eqvL_dec fun x hx y hy => ?_
          obtain ⟨p, hp, rfl⟩ := mem_pvs hx
          obtain ⟨r, hr, rfl⟩ := mem_pvs hy
          exact ih (q p hp) r n (by omega)
        show eqvL (eqv h (n + 1)) [.str w, .tup (Fm.pvs ps)] [.str x, .tup (Fm.pvs qs)] = _
        simp only [eqvL, e1, e2, Fm.pv, PV.tup.injEq, List.cons.injEq, PV.str.injEq, and_true, Bool.decide_and, Bool.and_true]
theorem c_eqf {f g : Fm} (hf : Fmb 15 f) : cmpOp .Eq h (.pv f.pv) (.pv g.pv) = some (feq f g) := by
  have := eqv_fm (h := h) hf g 41 (by omega)
  cases f <;> exact this
theorem c_nef {f g : Fm} (hf : Fmb 15 f) : cmpOp .NotEq h (.pv f.pv) (.pv g.pv) = some (!(feq f g)) := by
  have := c_eqf (h := h) (g := g) hf
  show (cmpOp .Eq h (.pv f.pv) (.pv g.pv)).map (!·) = _
  rw [this]; rfl
/-! ### substitutions -/
abbrev Sub := List (Txt × Fm)
def asc (σ : Sub) : List (PV × PV) := σ.map fun p => (.str p.1, p.2.pv)
def slook : Sub → Txt → Option Fm
  | [], _ => none
  | (x, f) :: r, s => if x = s then some f else slook r s
def sput : Sub → Txt → Fm → Sub
  | [], s, g => [(s, g)]
  | (x, f) :: r, s, g => if x = s then (x, g) :: r else (x, f) :: sput r s g
theorem dget_asc : ∀ (σ : Sub) (s : Txt), dget (asc σ) (.str s) = (slook σ s).map Fm.pv
  | [], _ => rfl
  | (x, f) :: r, s => by
    simp only [asc, List.map_cons, dget, slook, PV.str.injEq]
    by_cases e : x = s
    · simp [e]
    · simp only [e, if_false]; exact dget_asc r s
theorem dput_asc : ∀ (σ : Sub) (s : Txt) (g : Fm), dput (asc σ) (.str s) g.pv = asc (sput σ s g)
  | [], _, _ => rfl
  | (x, f) :: r, s, g => by
    simp only [asc, List.map_cons, dput, sput, PV.str.injEq]
    by_cases e : x = s
    · simp [e]
    · simp only [e, if_false, List.map_cons]
      rw [← asc, dput_asc r s g]; rfl
theorem sput_len (σ : Sub) (s : Txt) (g : Fm) : (sput σ s g).length ≤ σ.length + 1 := by
  induction σ with
  | nil => simp [sput]
  | cons p r ih =>
    obtain ⟨x, f⟩ := p
    simp only [sput]
    split <;> simp <;> omega
theorem slook_sput {σ : Sub} {s t : Txt} {g : Fm} : slook (sput σ s g) t = if s = t then some g else slook σ t := by
  induction σ with
  | nil => simp [sput, slook]
  | cons p r ih =>
    obtain ⟨x, f⟩ := p
    by_cases e : x = s
    · subst e
      simp only [sput, if_true, slook]
      split <;> rfl
    · simp only [sput, e, if_false, slook, ih]
      by_cases e2 : x = t
      · subst e2
        have : ¬ s = x := fun z => e z.symm
        simp [this]
      · simp [e2]
theorem s_asc {m : Nat} {σ : Sub} {s : Txt} {g : Fm} (e : h[m]? = some (.dct (asc σ))) (l : σ.length ≤ 1000000) : setIx h (.pv (.ref m)) (.pv (.str s)) g.pv = some (h.set m (.dct (asc (sput σ s g)))) := by
  have : Nat.blt (asc σ).length LINE = true := by rw [Nat.blt_eq]; unfold LINE asc; simp; omega
  simp [setIx, e, isKey, this, dput_asc]
theorem i_asc {m : Nat} {σ : Sub} {s : Txt} (e : h[m]? = some (.dct (asc σ))) : getIx h (.pv (.ref m)) (.pv (.str s)) = (slook σ s).map Fm.pv := by
  rw [i_dct e, dget_asc]
theorem in_asc {m : Nat} {σ : Sub} {s : Txt} (e : h[m]? = some (.dct (asc σ))) : cmpOp .NotIn h (.pv (.str s)) (.pv (.ref m)) = some (!(slook σ s).isSome) := by
  simp [cmpOp, isIn, seqOf, tupOf, lstOf, dctOf, e, isKey, dget_asc]
theorem get_asc {m : Nat} {σ : Sub} {s : Txt} {d : PV} (e : h[m]? = some (.dct (asc σ))) : callM .get h (.pv (.ref m)) [.pv (.str s), .pv d] = some (.pv (((slook σ s).map Fm.pv).getD d), h) := by
  simp only [callM, mGet, dctOf, e, isKey, if_true, dget_asc]
  cases slook σ s <;> rfl
theorem rec_asc {m : Nat} {σ : Sub} (e : h[m]? = some (.dct (asc σ))) : recvOk .get h (.pv (.ref m)) = true := by
  simp [recvOk, dctOf, e]
/-! ### put -/
def put (iP : Nat) : FDef := ⟨2, 3, (.cons (.ifs (.isi (.var 0) .tStr) (.cons (.ret (.mth .get (.var 1) (.cons (.var 0) (.cons (.var 0) .nil)))) .nil) .nil) (.cons (.ret (.tup (.cons (.idx (.var 0) (.int 0)) (.cons (.bi .tuple (.cons (.lc (.call iP (.cons (.var 2) (.cons (.var 1) .nil))) (.nm 2) (.seq (.idx (.var 0) (.int 1))) .nil [2]) .nil)) .nil)))) .nil))⟩
mutual
def pt (σ : Sub) : Fm → Fm
  | .v s => (slook σ s).getD (.v s)
  | .n w ps => .n w (pts σ ps)
def pts (σ : Sub) : List Fm → List Fm
  | [] => []
  | p :: ps => pt σ p :: pts σ ps
end
theorem pts_map (σ : Sub) : ∀ ps, pts σ ps = ps.map (pt σ)
  | [] => rfl
  | p :: ps => by simp [pts, pts_map σ ps]
theorem run_put {iP : Nat} (hP : P[iP]? = some (put iP)) {m : Nat} {σ : Sub} (e : h[m]? = some (.dct (asc σ))) : ∀ {b : Nat} {f : Fm} {k : Nat}, Fmb b f → run P G (k + b) iP [f.pv, .ref m] h = .ok (.pv (pt σ f).pv) h := by
  intro b
  induction b with
  | zero => intro f k hf; cases hf
  | succ b ih =>
    intro f k hf
    show run P G ((k + b) + 1) iP _ _ = _
    cases hf with
    | @v _ s hs =>
      rw [run_at hP]
      have : (((slook σ s).map Fm.pv).getD (PV.str s)) = (pt σ (.v s)).pv := by
        simp only [pt]
        cases slook σ s <;> rfl
      simp (config := {decide := false}) only [↓reduceIte, ↓bT_eq, ↓cT_eq, ↓oT_eq, bT_ok, cT_ok, oT_some, call1, ev_non, ev_bl, ev_int, ev_str, ev_gl, ev_var, ev_bop, ev_neg, ev_cmp, ev_cmp2, ev_band, ev_bor, ev_bnot, ev_ife, ev_tup, ev_lst, ev_dct, ev_idx, ev_slc, ev_call, ev_bi, ev_isi, ev_mth, ev_lc, ev_lzip, evL_nil, evL_cons, evD_cons, evD_nil, evO_none, evO_some, evS_seq, evS_rng, evS_rng2, evS_enum, evS_zip, evS_zipS, tst_band, tst_bor, tst_bnot, tst_non, tst_bl, tst_int, tst_str, tst_gl, tst_var, tst_cmp, tst_cmp2, tst_idx, tst_call, tst_bi, tst_isi, tsts_nil, tsts_cons, ex_asg, ex_tasg, ex_par, ex_sidx, ex_aug, ex_drop, ex_ret, ex_retN, ex_ifs, ex_fors, ex_whl, ex_brk, ex_cont, ex_pass, ex_never, exs_nil, exs_cons, ofOpt_some, fix_pv, fix_lst, fix_dct, fixL_nil, fixL_cons, norm_same, norm_set, o_add, o_sub, o_mul, o_mod, o_fd, o_p18, a_add, a_sub, c_eq, c_ne, c_eqs, c_nes, c_lt, c_le, c_gt, c_ge, c_is, c_isnot, b_int, b_min, b_max, b_lent, b_lenl, b_tuple, i_tup, i_lst, t_bl, t_non, t_int, ty_ss, ty_st, ty_ts, ty_tt, q_tup, l_tup, l_lst, at0, at1, p_int, isNonR, List.length_cons, List.length_nil, List.map_cons, List.map_nil, List.cons_append, List.nil_append, List.replicate_succ, List.replicate_zero, List.getElem?_cons_zero, List.getElem?_cons_succ, List.getElem?_nil, List.set_cons_zero, List.set_cons_succ, List.set_nil, Nat.sub_self, Nat.reduceSub, Nat.reduceAdd, Nat.reduceMul, Nat.zero_add, Int.reduceLT, Int.reduceLE, Nat.reduceLeDiff, LINE, if_true, if_false, Bool.false_eq_true, Bool.true_eq_false, Bool.not_true, Bool.not_false, ite_self, eq_self, Prod.fst, Prod.snd, put, Fm.pv, rec_asc e, get_asc e, this]
    | @n _ w ps hw l q =>
      have c := comp_fm (G := G) (F := run P G (k + b)) (h := h) (elt := ev (run P G (k + b)) G (.call iP (.cons (.var 2) (.cons (.var 1) .nil)))) (i := 2) (e := [some (Fm.pv (.n w ps)), some (.ref m), none]) (g := fun p => (pt σ p).pv) (ps := ps) (acc := []) (fun p hp => by simp (config := {decide := false}) only [↓reduceIte, ↓bT_eq, ↓cT_eq, ↓oT_eq, bT_ok, cT_ok, oT_some, call1, ev_non, ev_bl, ev_int, ev_str, ev_gl, ev_var, ev_bop, ev_neg, ev_cmp, ev_cmp2, ev_band, ev_bor, ev_bnot, ev_ife, ev_tup, ev_lst, ev_dct, ev_idx, ev_slc, ev_call, ev_bi, ev_isi, ev_mth, ev_lc, ev_lzip, evL_nil, evL_cons, evD_cons, evD_nil, evO_none, evO_some, evS_seq, evS_rng, evS_rng2, evS_enum, evS_zip, evS_zipS, tst_band, tst_bor, tst_bnot, tst_non, tst_bl, tst_int, tst_str, tst_gl, tst_var, tst_cmp, tst_cmp2, tst_idx, tst_call, tst_bi, tst_isi, tsts_nil, tsts_cons, ex_asg, ex_tasg, ex_par, ex_sidx, ex_aug, ex_drop, ex_ret, ex_retN, ex_ifs, ex_fors, ex_whl, ex_brk, ex_cont, ex_pass, ex_never, exs_nil, exs_cons, ofOpt_some, fix_pv, fix_lst, fix_dct, fixL_nil, fixL_cons, norm_same, norm_set, o_add, o_sub, o_mul, o_mod, o_fd, o_p18, a_add, a_sub, c_eq, c_ne, c_eqs, c_nes, c_lt, c_le, c_gt, c_ge, c_is, c_isnot, b_int, b_min, b_max, b_lent, b_lenl, b_tuple, i_tup, i_lst, t_bl, t_non, t_int, ty_ss, ty_st, ty_ts, ty_tt, q_tup, l_tup, l_lst, at0, at1, p_int, isNonR, List.length_cons, List.length_nil, List.map_cons, List.map_nil, List.cons_append, List.nil_append, List.replicate_succ, List.replicate_zero, List.getElem?_cons_zero, List.getElem?_cons_succ, List.getElem?_nil, List.set_cons_zero, List.set_cons_succ, List.set_nil, Nat.sub_self, Nat.reduceSub, Nat.reduceAdd, Nat.reduceMul, Nat.zero_add, Int.reduceLT, Int.reduceLE, Nat.reduceLeDiff, LINE, if_true, if_false, Bool.false_eq_true, Bool.true_eq_false, Bool.not_true, Bool.not_false, ite_self, eq_self, Prod.fst, Prod.snd, ih (q p hp)]) (by unfold LINE; simp; omega)
      have ee : ps.map (fun p => (pt σ p).pv) = Fm.pvs (pts σ ps) := by rw [pts_map, Fm.pvs_map, List.map_map]; rfl
      rw [ee] at c
      simp only [Fm.pv, List.nil_append] at c
      rw [run_at hP]
      simp (config := {decide := false}) only [↓reduceIte, ↓bT_eq, ↓cT_eq, ↓oT_eq, bT_ok, cT_ok, oT_some, call1, ev_non, ev_bl, ev_int, ev_str, ev_gl, ev_var, ev_bop, ev_neg, ev_cmp, ev_cmp2, ev_band, ev_bor, ev_bnot, ev_ife, ev_tup, ev_lst, ev_dct, ev_idx, ev_slc, ev_call, ev_bi, ev_isi, ev_mth, ev_lc, ev_lzip, evL_nil, evL_cons, evD_cons, evD_nil, evO_none, evO_some, evS_seq, evS_rng, evS_rng2, evS_enum, evS_zip, evS_zipS, tst_band, tst_bor, tst_bnot, tst_non, tst_bl, tst_int, tst_str, tst_gl, tst_var, tst_cmp, tst_cmp2, tst_idx, tst_call, tst_bi, tst_isi, tsts_nil, tsts_cons, ex_asg, ex_tasg, ex_par, ex_sidx, ex_aug, ex_drop, ex_ret, ex_retN, ex_ifs, ex_fors, ex_whl, ex_brk, ex_cont, ex_pass, ex_never, exs_nil, exs_cons, ofOpt_some, fix_pv, fix_lst, fix_dct, fixL_nil, fixL_cons, norm_same, norm_set, o_add, o_sub, o_mul, o_mod, o_fd, o_p18, a_add, a_sub, c_eq, c_ne, c_eqs, c_nes, c_lt, c_le, c_gt, c_ge, c_is, c_isnot, b_int, b_min, b_max, b_lent, b_lenl, b_tuple, i_tup, i_lst, t_bl, t_non, t_int, ty_ss, ty_st, ty_ts, ty_tt, q_tup, l_tup, l_lst, at0, at1, p_int, isNonR, List.length_cons, List.length_nil, List.map_cons, List.map_nil, List.cons_append, List.nil_append, List.replicate_succ, List.replicate_zero, List.getElem?_cons_zero, List.getElem?_cons_succ, List.getElem?_nil, List.set_cons_zero, List.set_cons_succ, List.set_nil, Nat.sub_self, Nat.reduceSub, Nat.reduceAdd, Nat.reduceMul, Nat.zero_add, Int.reduceLT, Int.reduceLE, Nat.reduceLeDiff, LINE, if_true, if_false, Bool.false_eq_true, Bool.true_eq_false, Bool.not_true, Bool.not_false, ite_self, eq_self, Prod.fst, Prod.snd, put, Fm.pv, wipeE, c, pt]
/-! ### matching -/
mutual
def mt : Fm → Fm → Sub → Bool × Sub
  | .v s, g, σ => (decide ((slook (if (slook σ s).isSome then σ else sput σ s g) s).map Fm.pv = some g.pv), if (slook σ s).isSome then σ else sput σ s g)
  | .n w ps, g, σ => match g with
    | .v _ => (false, σ)
    | .n x qs => if w = x then (if ps.length = qs.length then mtL ps qs σ else (false, σ)) else (false, σ)
def mtL : List Fm → List Fm → Sub → Bool × Sub
  | p :: ps, q :: qs, σ => ((mt p q σ).1 && (mtL ps qs (mt p q σ).2).1, (mtL ps qs (mt p q σ).2).2)
  | _, _, σ => (true, σ)
end
def matched (iMt : Nat) : FDef := ⟨3, 5, (.cons (.ifs (.isi (.var 0) .tStr) (.cons (.ifs (.cmp .NotIn (.var 0) (.var 2)) (.cons (.sidx (.var 2) (.var 0) (.var 1)) .nil) .nil) (.cons (.ret (.cmp .Eq (.idx (.var 2) (.var 0)) (.var 1))) .nil)) .nil) (.cons (.ifs (.bor (.isi (.var 1) .tStr) (.bor (.cmp .NotEq (.idx (.var 0) (.int 0)) (.idx (.var 1) (.int 0))) (.cmp .NotEq (.bi .len (.cons (.idx (.var 0) (.int 1)) .nil)) (.bi .len (.cons (.idx (.var 1) (.int 1)) .nil))))) (.cons (.ret (.bl false)) .nil) .nil) (.cons (.ret (.bi .all (.cons (.lc (.call iMt (.cons (.var 3) (.cons (.var 4) (.cons (.var 2) .nil)))) (.tp [3, 4]) (.zipS (.idx (.var 0) (.int 1)) (.idx (.var 1) (.int 1))) .nil [3, 4]) .nil))) .nil)))⟩
mutual
theorem mt_len : ∀ (f g : Fm) (σ : Sub), ((mt f g σ).2.length : Int) ≤ σ.length + f.size
  | .v s, g, σ => by
    simp only [mt, Fm.size]
    split
    · omega
    · have := sput_len σ s g; omega
  | .n w ps, .v _, σ => by
    have := Fm.sizes_nn ps
    simp only [mt, Fm.size]; omega
  | .n w ps, .n x qs, σ => by
    have := Fm.sizes_nn ps
    simp only [mt, Fm.size]
    split
    · split
      · have := mtL_len ps qs σ; omega
      · simp only; omega
    · simp only; omega
theorem mtL_len : ∀ (ps qs : List Fm) (σ : Sub), ((mtL ps qs σ).2.length : Int) ≤ σ.length + Fm.sizes ps
  | [], qs, σ => by cases qs <;> simp [mtL, Fm.sizes]
  | p :: ps, [], σ => by
    have := Fm.sizes_nn (p :: ps)
    simp only [mtL]; omega
  | p :: ps, q :: qs, σ => by
    simp only [mtL, Fm.sizes]
    have := mt_len p q σ
    have := mtL_len ps qs (mt p q σ).2
    omega
end
/-- the entries are small -/
def Sm (σ : Sub) : Prop := ∀ s f, slook σ s = some f → Fmb 15 f
theorem Sm.put {σ : Sub} (h : Sm σ) {s : Txt} {g : Fm} (hg : Fmb 15 g) : Sm (sput σ s g) := fun t f e => by
  rw [slook_sput] at e
  split at e
  · cases e; exact hg
  · exact h t f e
theorem Fmb.mono {d e : Nat} {f : Fm} (h : Fmb d f) (le : d ≤ e) : Fmb e f := by
  induction h generalizing e with
  | v h =>
    cases e with
    | zero => omega
    | succ e => exact .v h
  | n h l q ih =>
    cases e with
    | zero => omega
    | succ e => exact .n h l fun p hp => ih p hp (by omega)
theorem fmb_parts {d : Nat} {w : Txt} {ps : List Fm} (h : Fmb d (.n w ps)) : ∀ p ∈ ps, Fmb d p := by
  cases h with
  | n a b c => exact fun p hp => (c p hp).mono (by omega)
/-- the parts, pair by pair -/
theorem comp_pairs {F : Nat → List PV → MH → Res RV} {iMt m : Nat} {a b : Option PV} :
    ∀ {ps qs : List Fm} {σ : Sub} {h : MH} {acc : List PV}, (∀ p ∈ ps, ∀ (q : Fm) (σ : Sub) (h : MH), q ∈ qs → Sm σ → (σ.length : Int) + p.size ≤ 900000 → h[m]? = some (.dct (asc σ)) → F iMt [p.pv, q.pv, .ref m] h = .ok (.pv (.bl (mt p q σ).1)) (h.set m (.dct (asc (mt p q σ).2))) ∧ Sm (mt p q σ).2) →
      ps.length = qs.length → Sm σ → (σ.length : Int) + Fm.sizes ps ≤ 900000 → h[m]? = some (.dct (asc σ)) → acc.length + ps.length ≤ 1000000 →
      ∃ bs : List Bool, bs.all id = (mtL ps qs σ).1 ∧ Sm (mtL ps qs σ).2 ∧ compL (tsts F G .nil) (ev F G (.call iMt (.cons (.var 3) (.cons (.var 4) (.cons (.var 2) .nil))))) (.tp [3, 4]) none [a, b, some (.ref m), none, none] (zipL (Fm.pvs ps) (Fm.pvs qs)) acc h = .ok (acc ++ bs.map PV.bl) (h.set m (.dct (asc (mtL ps qs σ).2)))
  | [], [], σ, h, acc, _, _, hs, _, e, _ => ⟨[], by simp [mtL], by simpa [mtL] using hs, by simp only [Fm.pvs, zipL, compL, lockOk, if_true, mtL, List.map_nil, List.append_nil, set_self e]⟩
  | [], _ :: _, _, _, _, _, hl, _, _, _, _ => by simp at hl
  | _ :: _, [], _, _, _, _, hl, _, _, _, _ => by simp at hl
  | p :: ps, q :: qs, σ, h, acc, hp, hl, hs, hz, e, ha => by
    simp only [Fm.sizes] at hz
    have n1 := Fm.size_pos p
    have n2 := Fm.sizes_nn ps
    obtain ⟨c1, c2⟩ := hp p List.mem_cons_self q σ h List.mem_cons_self hs (by omega) e
    have ln := mt_len p q σ
    simp only [List.length_cons] at ha hl
    obtain ⟨bs, d1, d2, d3⟩ := comp_pairs (F := F) (iMt := iMt) (m := m) (a := a) (b := b) (ps := ps) (qs := qs) (σ := (mt p q σ).2) (h := h.set m (.dct (asc (mt p q σ).2))) (acc := acc ++ [.bl (mt p q σ).1])
      (fun p' hp' q' σ' h' hq' => hp p' (List.mem_cons_of_mem _ hp') q' σ' h' (List.mem_cons_of_mem _ hq')) (by omega) c2 (by omega) (set_get e) (by simp; omega)
    refine ⟨(mt p q σ).1 :: bs, by simp [mtL, d1], d2, ?_⟩
    have hacc : acc.length < LINE := by unfold LINE; omega
    rw [List.set_set] at d3
    have st : Tgt.set (.tp [3, 4]) (.tup [p.pv, q.pv]) [a, b, some (.ref m), none, none] = some [a, b, some (.ref m), some p.pv, some q.pv] := rfl
    simp only [Fm.pvs, zipL, compL, lockOk, if_true, st, opt_some, tsts_nil, rc_ok, hacc, List.map_cons]
    simp (config := {decide := false}) only [↓reduceIte, ↓bT_eq, ↓cT_eq, ↓oT_eq, bT_ok, cT_ok, oT_some, call1, ev_non, ev_bl, ev_int, ev_str, ev_gl, ev_var, ev_bop, ev_neg, ev_cmp, ev_cmp2, ev_band, ev_bor, ev_bnot, ev_ife, ev_tup, ev_lst, ev_dct, ev_idx, ev_slc, ev_call, ev_bi, ev_isi, ev_mth, ev_lc, ev_lzip, evL_nil, evL_cons, evD_cons, evD_nil, evO_none, evO_some, evS_seq, evS_rng, evS_rng2, evS_enum, evS_zip, evS_zipS, tst_band, tst_bor, tst_bnot, tst_non, tst_bl, tst_int, tst_str, tst_gl, tst_var, tst_cmp, tst_cmp2, tst_idx, tst_call, tst_bi, tst_isi, tsts_nil, tsts_cons, ex_asg, ex_tasg, ex_par, ex_sidx, ex_aug, ex_drop, ex_ret, ex_retN, ex_ifs, ex_fors, ex_whl, ex_brk, ex_cont, ex_pass, ex_never, exs_nil, exs_cons, ofOpt_some, fix_pv, fix_lst, fix_dct, fixL_nil, fixL_cons, norm_same, norm_set, o_add, o_sub, o_mul, o_mod, o_fd, o_p18, a_add, a_sub, c_eq, c_ne, c_eqs, c_nes, c_lt, c_le, c_gt, c_ge, c_is, c_isnot, b_int, b_min, b_max, b_lent, b_lenl, b_tuple, i_tup, i_lst, t_bl, t_non, t_int, ty_ss, ty_st, ty_ts, ty_tt, q_tup, l_tup, l_lst, at0, at1, p_int, isNonR, List.length_cons, List.length_nil, List.map_cons, List.map_nil, List.cons_append, List.nil_append, List.replicate_succ, List.replicate_zero, List.getElem?_cons_zero, List.getElem?_cons_succ, List.getElem?_nil, List.set_cons_zero, List.set_cons_succ, List.set_nil, Nat.sub_self, Nat.reduceSub, Nat.reduceAdd, Nat.reduceMul, Nat.zero_add, Int.reduceLT, Int.reduceLE, Nat.reduceLeDiff, LINE, if_true, if_false, Bool.false_eq_true, Bool.true_eq_false, Bool.not_true, Bool.not_false, ite_self, eq_self, Prod.fst, Prod.snd, c1, hacc]
    rw [d3]
    simp [mtL]
theorem run_matched {iMt : Nat} (hM : P[iMt]? = some (matched iMt)) : ∀ {b : Nat} {f g : Fm} {σ : Sub} {h : MH} {m k : Nat}, Fmb b f → Fmb 15 g → Sm σ → (σ.length : Int) + f.size ≤ 900000 → h[m]? = some (.dct (asc σ)) →
    run P G (k + b) iMt [f.pv, g.pv, .ref m] h = .ok (.pv (.bl (mt f g σ).1)) (h.set m (.dct (asc (mt f g σ).2))) ∧ Sm (mt f g σ).2 := by
  intro b
  induction b with
  | zero => intro f g σ h m k hf; cases hf
  | succ b ih =>
    intro f g σ h m k hf hg hs hz e
    show run P G ((k + b) + 1) iMt _ _ = _ ∧ _
    cases hf with
    | @v _ s hs' =>
      simp only [Fm.size] at hz
      cases hl : (slook σ s) with
      | some x =>
        have hx := hs s x hl
        refine ⟨?_, by simpa only [mt, hl, Option.isSome_some, if_true] using hs⟩
        have q := c_eqf (h := h) (g := g) hx
        have ee : (decide (some x.pv = some g.pv)) = feq x g := by unfold feq; simp
        rw [run_at hM]
        simp (config := {decide := false}) only [↓reduceIte, ↓bT_eq, ↓cT_eq, ↓oT_eq, bT_ok, cT_ok, oT_some, call1, ev_non, ev_bl, ev_int, ev_str, ev_gl, ev_var, ev_bop, ev_neg, ev_cmp, ev_cmp2, ev_band, ev_bor, ev_bnot, ev_ife, ev_tup, ev_lst, ev_dct, ev_idx, ev_slc, ev_call, ev_bi, ev_isi, ev_mth, ev_lc, ev_lzip, evL_nil, evL_cons, evD_cons, evD_nil, evO_none, evO_some, evS_seq, evS_rng, evS_rng2, evS_enum, evS_zip, evS_zipS, tst_band, tst_bor, tst_bnot, tst_non, tst_bl, tst_int, tst_str, tst_gl, tst_var, tst_cmp, tst_cmp2, tst_idx, tst_call, tst_bi, tst_isi, tsts_nil, tsts_cons, ex_asg, ex_tasg, ex_par, ex_sidx, ex_aug, ex_drop, ex_ret, ex_retN, ex_ifs, ex_fors, ex_whl, ex_brk, ex_cont, ex_pass, ex_never, exs_nil, exs_cons, ofOpt_some, fix_pv, fix_lst, fix_dct, fixL_nil, fixL_cons, norm_same, norm_set, o_add, o_sub, o_mul, o_mod, o_fd, o_p18, a_add, a_sub, c_eq, c_ne, c_eqs, c_nes, c_lt, c_le, c_gt, c_ge, c_is, c_isnot, b_int, b_min, b_max, b_lent, b_lenl, b_tuple, i_tup, i_lst, t_bl, t_non, t_int, ty_ss, ty_st, ty_ts, ty_tt, q_tup, l_tup, l_lst, at0, at1, p_int, isNonR, List.length_cons, List.length_nil, List.map_cons, List.map_nil, List.cons_append, List.nil_append, List.replicate_succ, List.replicate_zero, List.getElem?_cons_zero, List.getElem?_cons_succ, List.getElem?_nil, List.set_cons_zero, List.set_cons_succ, List.set_nil, Nat.sub_self, Nat.reduceSub, Nat.reduceAdd, Nat.reduceMul, Nat.zero_add, Int.reduceLT, Int.reduceLE, Nat.reduceLeDiff, LINE, if_true, if_false, Bool.false_eq_true, Bool.true_eq_false, Bool.not_true, Bool.not_false, ite_self, eq_self, Prod.fst, Prod.snd, matched, Fm.pv, in_asc e, hl, Option.isSome_some, i_asc e, Option.map_some, q, mt, ee, set_self e]
      | none =>
        have e1 := set_get (x := MO.dct (asc (sput σ s g))) e
        have l1 : slook (sput σ s g) s = some g := by rw [slook_sput, if_pos rfl]
        refine ⟨?_, by simpa only [mt, hl, Option.isSome_none, Bool.false_eq_true, if_false] using hs.put hg⟩
        have q := c_eqf (h := h.set m (.dct (asc (sput σ s g)))) (g := g) hg
        have fr : feq g g = true := feq_iff.mpr rfl
        rw [run_at hM]
        simp (config := {decide := false}) only [↓reduceIte, ↓bT_eq, ↓cT_eq, ↓oT_eq, bT_ok, cT_ok, oT_some, call1, ev_non, ev_bl, ev_int, ev_str, ev_gl, ev_var, ev_bop, ev_neg, ev_cmp, ev_cmp2, ev_band, ev_bor, ev_bnot, ev_ife, ev_tup, ev_lst, ev_dct, ev_idx, ev_slc, ev_call, ev_bi, ev_isi, ev_mth, ev_lc, ev_lzip, evL_nil, evL_cons, evD_cons, evD_nil, evO_none, evO_some, evS_seq, evS_rng, evS_rng2, evS_enum, evS_zip, evS_zipS, tst_band, tst_bor, tst_bnot, tst_non, tst_bl, tst_int, tst_str, tst_gl, tst_var, tst_cmp, tst_cmp2, tst_idx, tst_call, tst_bi, tst_isi, tsts_nil, tsts_cons, ex_asg, ex_tasg, ex_par, ex_sidx, ex_aug, ex_drop, ex_ret, ex_retN, ex_ifs, ex_fors, ex_whl, ex_brk, ex_cont, ex_pass, ex_never, exs_nil, exs_cons, ofOpt_some, fix_pv, fix_lst, fix_dct, fixL_nil, fixL_cons, norm_same, norm_set, o_add, o_sub, o_mul, o_mod, o_fd, o_p18, a_add, a_sub, c_eq, c_ne, c_eqs, c_nes, c_lt, c_le, c_gt, c_ge, c_is, c_isnot, b_int, b_min, b_max, b_lent, b_lenl, b_tuple, i_tup, i_lst, t_bl, t_non, t_int, ty_ss, ty_st, ty_ts, ty_tt, q_tup, l_tup, l_lst, at0, at1, p_int, isNonR, List.length_cons, List.length_nil, List.map_cons, List.map_nil, List.cons_append, List.nil_append, List.replicate_succ, List.replicate_zero, List.getElem?_cons_zero, List.getElem?_cons_succ, List.getElem?_nil, List.set_cons_zero, List.set_cons_succ, List.set_nil, Nat.sub_self, Nat.reduceSub, Nat.reduceAdd, Nat.reduceMul, Nat.zero_add, Int.reduceLT, Int.reduceLE, Nat.reduceLeDiff, LINE, if_true, if_false, Bool.false_eq_true, Bool.true_eq_false, Bool.not_true, Bool.not_false, ite_self, eq_self, Prod.fst, Prod.snd, matched, Fm.pv, in_asc e, hl, Option.isSome_none, s_asc e (by omega), i_asc e1, l1, Option.map_some, q, mt, fr, decide_true]
    | @n _ w ps hw l q =>
      simp only [Fm.size] at hz
      cases g with
      | v t =>
        refine ⟨?_, hs⟩
        rw [run_at hM]
        simp (config := {decide := false}) only [↓reduceIte, ↓bT_eq, ↓cT_eq, ↓oT_eq, bT_ok, cT_ok, oT_some, call1, ev_non, ev_bl, ev_int, ev_str, ev_gl, ev_var, ev_bop, ev_neg, ev_cmp, ev_cmp2, ev_band, ev_bor, ev_bnot, ev_ife, ev_tup, ev_lst, ev_dct, ev_idx, ev_slc, ev_call, ev_bi, ev_isi, ev_mth, ev_lc, ev_lzip, evL_nil, evL_cons, evD_cons, evD_nil, evO_none, evO_some, evS_seq, evS_rng, evS_rng2, evS_enum, evS_zip, evS_zipS, tst_band, tst_bor, tst_bnot, tst_non, tst_bl, tst_int, tst_str, tst_gl, tst_var, tst_cmp, tst_cmp2, tst_idx, tst_call, tst_bi, tst_isi, tsts_nil, tsts_cons, ex_asg, ex_tasg, ex_par, ex_sidx, ex_aug, ex_drop, ex_ret, ex_retN, ex_ifs, ex_fors, ex_whl, ex_brk, ex_cont, ex_pass, ex_never, exs_nil, exs_cons, ofOpt_some, fix_pv, fix_lst, fix_dct, fixL_nil, fixL_cons, norm_same, norm_set, o_add, o_sub, o_mul, o_mod, o_fd, o_p18, a_add, a_sub, c_eq, c_ne, c_eqs, c_nes, c_lt, c_le, c_gt, c_ge, c_is, c_isnot, b_int, b_min, b_max, b_lent, b_lenl, b_tuple, i_tup, i_lst, t_bl, t_non, t_int, ty_ss, ty_st, ty_ts, ty_tt, q_tup, l_tup, l_lst, at0, at1, p_int, isNonR, List.length_cons, List.length_nil, List.map_cons, List.map_nil, List.cons_append, List.nil_append, List.replicate_succ, List.replicate_zero, List.getElem?_cons_zero, List.getElem?_cons_succ, List.getElem?_nil, List.set_cons_zero, List.set_cons_succ, List.set_nil, Nat.sub_self, Nat.reduceSub, Nat.reduceAdd, Nat.reduceMul, Nat.zero_add, Int.reduceLT, Int.reduceLE, Nat.reduceLeDiff, LINE, if_true, if_false, Bool.false_eq_true, Bool.true_eq_false, Bool.not_true, Bool.not_false, ite_self, eq_self, Prod.fst, Prod.snd, matched, Fm.pv, mt, set_self e]
      | n x qs =>
        by_cases hwx : w = x
        · subst hwx
          by_cases hll : ps.length = qs.length
          · have z1 : ((w == w)) = true := by simp
            have z2 : ((((Fm.pvs ps).length : Nat) : Int) == ((Fm.pvs qs).length : Nat)) = true := by rw [Fm.pvs_len, Fm.pvs_len, hll]; simp
            have z3 : (Fm.pvs ps).length = (Fm.pvs qs).length := by rw [Fm.pvs_len, Fm.pvs_len, hll]
            obtain ⟨bs, d1, d2, d3⟩ := comp_pairs (F := run P G (k + b)) (G := G) (iMt := iMt) (m := m) (a := some (Fm.pv (.n w ps))) (b := some (Fm.pv (.n w qs))) (ps := ps) (qs := qs) (σ := σ) (h := h) (acc := [])
              (fun p hp q' σ' h' hq' hs' hz' e' => ih (q p hp) (fmb_parts hg q' hq') hs' hz' e') hll hs (by omega) e (by simp; omega)
            have bm : boolsOf (bs.map PV.bl) = some bs := by
              clear d1 d3
              induction bs with
              | nil => rfl
              | cons b bs ih => simp [boolsOf, ih]
            have t1 : tupOf (.pv (.tup (Fm.pvs ps))) = some (Fm.pvs ps) := rfl
            have t2 : tupOf (.pv (.tup (Fm.pvs qs))) = some (Fm.pvs qs) := rfl
            refine ⟨?_, by simpa only [mt, if_true, hll] using d2⟩
            simp only [Fm.pv, List.nil_append] at d3
            rw [run_at hM]
            simp (config := {decide := false}) only [↓reduceIte, ↓bT_eq, ↓cT_eq, ↓oT_eq, bT_ok, cT_ok, oT_some, call1, ev_non, ev_bl, ev_int, ev_str, ev_gl, ev_var, ev_bop, ev_neg, ev_cmp, ev_cmp2, ev_band, ev_bor, ev_bnot, ev_ife, ev_tup, ev_lst, ev_dct, ev_idx, ev_slc, ev_call, ev_bi, ev_isi, ev_mth, ev_lc, ev_lzip, evL_nil, evL_cons, evD_cons, evD_nil, evO_none, evO_some, evS_seq, evS_rng, evS_rng2, evS_enum, evS_zip, evS_zipS, tst_band, tst_bor, tst_bnot, tst_non, tst_bl, tst_int, tst_str, tst_gl, tst_var, tst_cmp, tst_cmp2, tst_idx, tst_call, tst_bi, tst_isi, tsts_nil, tsts_cons, ex_asg, ex_tasg, ex_par, ex_sidx, ex_aug, ex_drop, ex_ret, ex_retN, ex_ifs, ex_fors, ex_whl, ex_brk, ex_cont, ex_pass, ex_never, exs_nil, exs_cons, ofOpt_some, fix_pv, fix_lst, fix_dct, fixL_nil, fixL_cons, norm_same, norm_set, o_add, o_sub, o_mul, o_mod, o_fd, o_p18, a_add, a_sub, c_eq, c_ne, c_eqs, c_nes, c_lt, c_le, c_gt, c_ge, c_is, c_isnot, b_int, b_min, b_max, b_lent, b_lenl, b_tuple, i_tup, i_lst, t_bl, t_non, t_int, ty_ss, ty_st, ty_ts, ty_tt, q_tup, l_tup, l_lst, at0, at1, p_int, isNonR, List.length_cons, List.length_nil, List.map_cons, List.map_nil, List.cons_append, List.nil_append, List.replicate_succ, List.replicate_zero, List.getElem?_cons_zero, List.getElem?_cons_succ, List.getElem?_nil, List.set_cons_zero, List.set_cons_succ, List.set_nil, Nat.sub_self, Nat.reduceSub, Nat.reduceAdd, Nat.reduceMul, Nat.zero_add, Int.reduceLT, Int.reduceLE, Nat.reduceLeDiff, LINE, if_true, if_false, Bool.false_eq_true, Bool.true_eq_false, Bool.not_true, Bool.not_false, ite_self, eq_self, Prod.fst, Prod.snd, matched, Fm.pv, z1, z2, t1, t2, if_pos z3, wipeE, d3, b_all bm, d1, mt, hll]
          · have z1 : ((w == w)) = true := by simp
            have z2 : ((((Fm.pvs ps).length : Nat) : Int) == ((Fm.pvs qs).length : Nat)) = false := by
              rw [Fm.pvs_len, Fm.pvs_len]
              have : ((ps.length : Int)) ≠ (qs.length : Int) := by omega
              simpa using this
            refine ⟨?_, by simpa only [mt, if_true, hll, if_false] using hs⟩
            rw [run_at hM]
            simp (config := {decide := false}) only [↓reduceIte, ↓bT_eq, ↓cT_eq, ↓oT_eq, bT_ok, cT_ok, oT_some, call1, ev_non, ev_bl, ev_int, ev_str, ev_gl, ev_var, ev_bop, ev_neg, ev_cmp, ev_cmp2, ev_band, ev_bor, ev_bnot, ev_ife, ev_tup, ev_lst, ev_dct, ev_idx, ev_slc, ev_call, ev_bi, ev_isi, ev_mth, ev_lc, ev_lzip, evL_nil, evL_cons, evD_cons, evD_nil, evO_none, evO_some, evS_seq, evS_rng, evS_rng2, evS_enum, evS_zip, evS_zipS, tst_band, tst_bor, tst_bnot, tst_non, tst_bl, tst_int, tst_str, tst_gl, tst_var, tst_cmp, tst_cmp2, tst_idx, tst_call, tst_bi, tst_isi, tsts_nil, tsts_cons, ex_asg, ex_tasg, ex_par, ex_sidx, ex_aug, ex_drop, ex_ret, ex_retN, ex_ifs, ex_fors, ex_whl, ex_brk, ex_cont, ex_pass, ex_never, exs_nil, exs_cons, ofOpt_some, fix_pv, fix_lst, fix_dct, fixL_nil, fixL_cons, norm_same, norm_set, o_add, o_sub, o_mul, o_mod, o_fd, o_p18, a_add, a_sub, c_eq, c_ne, c_eqs, c_nes, c_lt, c_le, c_gt, c_ge, c_is, c_isnot, b_int, b_min, b_max, b_lent, b_lenl, b_tuple, i_tup, i_lst, t_bl, t_non, t_int, ty_ss, ty_st, ty_ts, ty_tt, q_tup, l_tup, l_lst, at0, at1, p_int, isNonR, List.length_cons, List.length_nil, List.map_cons, List.map_nil, List.cons_append, List.nil_append, List.replicate_succ, List.replicate_zero, List.getElem?_cons_zero, List.getElem?_cons_succ, List.getElem?_nil, List.set_cons_zero, List.set_cons_succ, List.set_nil, Nat.sub_self, Nat.reduceSub, Nat.reduceAdd, Nat.reduceMul, Nat.zero_add, Int.reduceLT, Int.reduceLE, Nat.reduceLeDiff, LINE, if_true, if_false, Bool.false_eq_true, Bool.true_eq_false, Bool.not_true, Bool.not_false, ite_self, eq_self, Prod.fst, Prod.snd, matched, Fm.pv, mt, z1, z2, hll, set_self e]
        · have z1 : (w == x) = false := by simpa using hwx
          refine ⟨?_, by simpa only [mt, hwx, if_false] using hs⟩
          rw [run_at hM]
          simp (config := {decide := false}) only [↓reduceIte, ↓bT_eq, ↓cT_eq, ↓oT_eq, bT_ok, cT_ok, oT_some, call1, ev_non, ev_bl, ev_int, ev_str, ev_gl, ev_var, ev_bop, ev_neg, ev_cmp, ev_cmp2, ev_band, ev_bor, ev_bnot, ev_ife, ev_tup, ev_lst, ev_dct, ev_idx, ev_slc, ev_call, ev_bi, ev_isi, ev_mth, ev_lc, ev_lzip, evL_nil, evL_cons, evD_cons, evD_nil, evO_none, evO_some, evS_seq, evS_rng, evS_rng2, evS_enum, evS_zip, evS_zipS, tst_band, tst_bor, tst_bnot, tst_non, tst_bl, tst_int, tst_str, tst_gl, tst_var, tst_cmp, tst_cmp2, tst_idx, tst_call, tst_bi, tst_isi, tsts_nil, tsts_cons, ex_asg, ex_tasg, ex_par, ex_sidx, ex_aug, ex_drop, ex_ret, ex_retN, ex_ifs, ex_fors, ex_whl, ex_brk, ex_cont, ex_pass, ex_never, exs_nil, exs_cons, ofOpt_some, fix_pv, fix_lst, fix_dct, fixL_nil, fixL_cons, norm_same, norm_set, o_add, o_sub, o_mul, o_mod, o_fd, o_p18, a_add, a_sub, c_eq, c_ne, c_eqs, c_nes, c_lt, c_le, c_gt, c_ge, c_is, c_isnot, b_int, b_min, b_max, b_lent, b_lenl, b_tuple, i_tup, i_lst, t_bl, t_non, t_int, ty_ss, ty_st, ty_ts, ty_tt, q_tup, l_tup, l_lst, at0, at1, p_int, isNonR, List.length_cons, List.length_nil, List.map_cons, List.map_nil, List.cons_append, List.nil_append, List.replicate_succ, List.replicate_zero, List.getElem?_cons_zero, List.getElem?_cons_succ, List.getElem?_nil, List.set_cons_zero, List.set_cons_succ, List.set_nil, Nat.sub_self, Nat.reduceSub, Nat.reduceAdd, Nat.reduceMul, Nat.zero_add, Int.reduceLT, Int.reduceLE, Nat.reduceLeDiff, LINE, if_true, if_false, Bool.false_eq_true, Bool.true_eq_false, Bool.not_true, Bool.not_false, ite_self, eq_self, Prod.fst, Prod.snd, matched, Fm.pv, mt, z1, hwx, set_self e]
end Lib
end Pf
/-! PfDue: match, and the law's own going through both together. -/
namespace Pf
namespace Lib
variable {P : List FDef} {G : List PV} {k : Nat} {h : MH}
theorem asc_lt (n : Nat) : ∀ σ : Sub, ltK n (asc σ) = true
  | [] => rfl
  | (s, f) :: r => by
    have := asc_lt n r
    simp only [asc, List.map_cons, ltK, Bool.and_eq_true] at this ⊢
    exact ⟨⟨rfl, fm_lt n f⟩, this⟩
/-- what stands ahead of a call stays: its own dict is the answer -/
theorem norm_dct {H : MH} {kvs : List (PV × PV)} (hl : h.length < H.length) (ht : H.take h.length = h) (e : H[h.length]? = some (.dct kvs)) (lk : ltK h.length kvs = true) : norm h (.pv (.ref h.length)) H = .ok (.dct kvs) h := by
  unfold norm
  rw [if_neg (by omega), ht]
  have nb : Nat.blt h.length h.length = false := by
    rw [Bool.eq_false_iff]
    intro z
    exact Nat.lt_irrefl _ (Nat.blt_eq.mp z)
  simp only [decide_true, Bool.true_or, if_true, e, lk, nb, Bool.false_eq_true, if_false]
theorem norm_non {H : MH} (hl : h.length < H.length) (ht : H.take h.length = h) : norm h (.pv .non) H = .ok (.pv .non) h := by
  unfold norm
  rw [if_neg (by omega), ht]
  simp [PV.lt]
def matchD (iNP iNT iMt : Nat) : FDef := ⟨2, 3, (.cons (.drop (.call iNP (.cons (.var 0) .nil))) (.cons (.drop (.call iNT (.cons (.var 1) .nil))) (.cons (.asg 2 (.dct .nil)) (.cons (.ret (.ife (.call iMt (.cons (.var 0) (.cons (.var 1) (.cons (.var 2) .nil)))) (.var 2) .non)) .nil))))⟩
theorem run_match {iX iNP iNT iMt lv : Nat} (hX : P[iX]? = some (matchD iNP iNT iMt)) (hM : P[iMt]? = some (matched iMt)) {b : Nat} {f g : Fm} (hb : b ≤ lv) (hf : Fmb b f) (hg : Fmb 15 g) (hz : f.size ≤ 800000)
    (np : ∀ h, run P G lv iNP [f.pv] h = .ok (.pv .non) h) (nt : ∀ h, run P G lv iNT [g.pv] h = .ok (.pv .non) h) :
    run P G (lv + 1) iX [f.pv, g.pv] h = .ok (if (mt f g []).1 then .dct (asc (mt f g []).2) else .pv .non) h := by
  have e0 : (h ++ [MO.dct []])[h.length]? = some (.dct (asc [])) := get_last rfl
  obtain ⟨m, rfl⟩ : ∃ m, lv = m + b := ⟨lv - b, by omega⟩
  obtain ⟨q, _⟩ := run_matched (G := G) hM (k := m) (m := h.length) (h := h ++ [.dct []]) (σ := []) hf hg (fun _ _ z => by cases z) (by simp; omega) e0
  rw [set_last rfl] at q
  have hl : h.length < (h ++ [MO.dct (asc (mt f g []).2)]).length := by simp
  have ht : (h ++ [MO.dct (asc (mt f g []).2)]).take h.length = h := by simp
  have e1 : (h ++ [MO.dct (asc (mt f g []).2)])[h.length]? = some (.dct (asc (mt f g []).2)) := get_last rfl
  cases hh : (mt f g []).1 with
  | true =>
    rw [hh] at q
    rw [run_at hX]; simp (config := {decide := false}) only [↓reduceIte, ↓bT_eq, ↓cT_eq, ↓oT_eq, bT_ok, cT_ok, oT_some, call1, ev_non, ev_bl, ev_int, ev_str, ev_gl, ev_var, ev_bop, ev_neg, ev_cmp, ev_cmp2, ev_band, ev_bor, ev_bnot, ev_ife, ev_tup, ev_lst, ev_dct, ev_idx, ev_slc, ev_call, ev_bi, ev_isi, ev_mth, ev_lc, ev_lzip, evL_nil, evL_cons, evD_cons, evD_nil, evO_none, evO_some, evS_seq, evS_rng, evS_rng2, evS_enum, evS_zip, evS_zipS, tst_band, tst_bor, tst_bnot, tst_non, tst_bl, tst_int, tst_str, tst_gl, tst_var, tst_cmp, tst_cmp2, tst_idx, tst_call, tst_bi, tst_isi, tsts_nil, tsts_cons, ex_asg, ex_tasg, ex_par, ex_sidx, ex_aug, ex_drop, ex_ret, ex_retN, ex_ifs, ex_fors, ex_whl, ex_brk, ex_cont, ex_pass, ex_never, exs_nil, exs_cons, ofOpt_some, fix_pv, fix_lst, fix_dct, fixL_nil, fixL_cons, norm_same, norm_set, o_add, o_sub, o_mul, o_mod, o_fd, o_p18, a_add, a_sub, c_eq, c_ne, c_eqs, c_nes, c_lt, c_le, c_gt, c_ge, c_is, c_isnot, b_int, b_min, b_max, b_lent, b_lenl, b_tuple, i_tup, i_lst, t_bl, t_non, t_int, ty_ss, ty_st, ty_ts, ty_tt, q_tup, l_tup, l_lst, at0, at1, p_int, isNonR, List.length_cons, List.length_nil, List.map_cons, List.map_nil, List.cons_append, List.nil_append, List.replicate_succ, List.replicate_zero, List.getElem?_cons_zero, List.getElem?_cons_succ, List.getElem?_nil, List.set_cons_zero, List.set_cons_succ, List.set_nil, Nat.sub_self, Nat.reduceSub, Nat.reduceAdd, Nat.reduceMul, Nat.zero_add, Int.reduceLT, Int.reduceLE, Nat.reduceLeDiff, LINE, if_true, if_false, Bool.false_eq_true, Bool.true_eq_false, Bool.not_true, Bool.not_false, ite_self, eq_self, Prod.fst, Prod.snd, matchD, np, nt, List.foldl_nil, q, norm_dct hl ht e1 (asc_lt _ _)]
  | false =>
    rw [hh] at q
    rw [run_at hX]; simp (config := {decide := false}) only [↓reduceIte, ↓bT_eq, ↓cT_eq, ↓oT_eq, bT_ok, cT_ok, oT_some, call1, ev_non, ev_bl, ev_int, ev_str, ev_gl, ev_var, ev_bop, ev_neg, ev_cmp, ev_cmp2, ev_band, ev_bor, ev_bnot, ev_ife, ev_tup, ev_lst, ev_dct, ev_idx, ev_slc, ev_call, ev_bi, ev_isi, ev_mth, ev_lc, ev_lzip, evL_nil, evL_cons, evD_cons, evD_nil, evO_none, evO_some, evS_seq, evS_rng, evS_rng2, evS_enum, evS_zip, evS_zipS, tst_band, tst_bor, tst_bnot, tst_non, tst_bl, tst_int, tst_str, tst_gl, tst_var, tst_cmp, tst_cmp2, tst_idx, tst_call, tst_bi, tst_isi, tsts_nil, tsts_cons, ex_asg, ex_tasg, ex_par, ex_sidx, ex_aug, ex_drop, ex_ret, ex_retN, ex_ifs, ex_fors, ex_whl, ex_brk, ex_cont, ex_pass, ex_never, exs_nil, exs_cons, ofOpt_some, fix_pv, fix_lst, fix_dct, fixL_nil, fixL_cons, norm_same, norm_set, o_add, o_sub, o_mul, o_mod, o_fd, o_p18, a_add, a_sub, c_eq, c_ne, c_eqs, c_nes, c_lt, c_le, c_gt, c_ge, c_is, c_isnot, b_int, b_min, b_max, b_lent, b_lenl, b_tuple, i_tup, i_lst, t_bl, t_non, t_int, ty_ss, ty_st, ty_ts, ty_tt, q_tup, l_tup, l_lst, at0, at1, p_int, isNonR, List.length_cons, List.length_nil, List.map_cons, List.map_nil, List.cons_append, List.nil_append, List.replicate_succ, List.replicate_zero, List.getElem?_cons_zero, List.getElem?_cons_succ, List.getElem?_nil, List.set_cons_zero, List.set_cons_succ, List.set_nil, Nat.sub_self, Nat.reduceSub, Nat.reduceAdd, Nat.reduceMul, Nat.zero_add, Int.reduceLT, Int.reduceLE, Nat.reduceLeDiff, LINE, if_true, if_false, Bool.false_eq_true, Bool.true_eq_false, Bool.not_true, Bool.not_false, ite_self, eq_self, Prod.fst, Prod.snd, matchD, np, nt, List.foldl_nil, q, norm_non hl ht]
/-! ### the law's own way -/
def pr (x : Fm × Fm) : PV := .tup [x.1.pv, x.2.pv]
/-- the stack, its top first -/
def prs (r : List (Fm × Fm)) : List PV := (r.map pr).reverse
theorem prs_cons (x : Fm × Fm) (r : List (Fm × Fm)) : prs (x :: r) = prs r ++ [pr x] := by simp [prs]
theorem prs_app (a r : List (Fm × Fm)) : prs (a.reverse ++ r) = prs r ++ a.map pr := by simp [prs]
theorem prs_len (r : List (Fm × Fm)) : (prs r).length = r.length := by simp [prs]
theorem zip_pr : ∀ ps qs : List Fm, zipL (Fm.pvs ps) (Fm.pvs qs) = (ps.zip qs).map pr
  | [], qs => by simp [Fm.pvs, zipL]
  | p :: ps, [] => by simp [Fm.pvs, zipL]
  | p :: ps, q :: qs => by simp [Fm.pvs, zipL, pr, zip_pr ps qs]
def tsz : List (Fm × Fm) → Nat
  | [] => 0
  | x :: r => x.1.size.toNat + tsz r
theorem tsz_app : ∀ a r : List (Fm × Fm), tsz (a ++ r) = tsz a + tsz r
  | [], r => by simp [tsz]
  | x :: a, r => by simp [tsz, tsz_app a r]; omega
theorem tsz_rev : ∀ a : List (Fm × Fm), tsz a.reverse = tsz a
  | [] => rfl
  | x :: a => by simp [tsz_app, tsz, tsz_rev a]; omega
theorem tsz_zip : ∀ ps qs : List Fm, tsz (ps.zip qs) ≤ (Fm.sizes ps).toNat
  | [], _ => by simp [tsz]
  | p :: ps, [] => by simp [tsz]
  | p :: ps, q :: qs => by
    have := tsz_zip ps qs
    have := Fm.size_pos p
    have := Fm.sizes_nn ps
    simp only [List.zip_cons_cons, tsz, Fm.sizes]; omega
theorem len_tsz : ∀ r : List (Fm × Fm), r.length ≤ tsz r
  | [] => by simp
  | x :: r => by
    have := len_tsz r
    have := Fm.size_pos x.1
    simp only [List.length_cons, tsz]; omega
def du : Nat → List (Fm × Fm) → Sub → Option Sub
  | 0, _, _ => none
  | _ + 1, [], σ => some σ
  | n + 1, (.v s, g) :: r, σ => if feq ((slook σ s).getD g) g then du n r (sput σ s g) else none
  | n + 1, (.n w ps, .n x qs) :: r, σ => if w = x then (if ps.length = qs.length then du n ((ps.zip qs).reverse ++ r) σ else none) else none
  | _ + 1, (.n _ _, .v _) :: _, _ => none
def dueB : CSL := (.cons (.tasg [4, 5] (.mth .pop (.var 3) .nil)) (.cons (.ifs (.isi (.var 4) .tStr) (.cons (.ifs (.cmp .NotEq (.mth .get (.var 2) (.cons (.var 4) (.cons (.var 5) .nil))) (.var 5)) (.cons (.ret .non) .nil) .nil) (.cons (.sidx (.var 2) (.var 4) (.var 5)) .nil)) (.cons (.ifs (.bor (.cmp .NotEq (.idx (.var 4) (.int 0)) (.idx (.var 5) (.int 0))) (.cmp .NotEq (.bi .len (.cons (.idx (.var 4) (.int 1)) .nil)) (.bi .len (.cons (.idx (.var 5) (.int 1)) .nil)))) (.cons (.ret .non) .nil) (.cons (.asg 3 (.bop .Add (.var 3) (.lzip (.idx (.var 4) (.int 1)) (.idx (.var 5) (.int 1))))) .nil)) .nil)) .nil))
def due : FDef := ⟨2, 6, (.cons (.par 2 3 (.dct .nil) (.lst (.cons (.tup (.cons (.var 0) (.cons (.var 1) .nil))) .nil))) (.cons (.whl (.cmp .NotEq (.var 3) (.lst .nil)) dueB) (.cons (.ret (.var 2)) .nil)))⟩
theorem c_nel {m : Nat} {xs : List PV} (e : h[m]? = some (.lst xs)) : cmpOp .NotEq h (.pv (.ref m)) (.lst []) = some (!xs.isEmpty) := by
  have e1 := get_left (x := MO.lst []) e
  have e2 : (h ++ [MO.lst []])[h.length]? = some (.lst []) := get_last rfl
  simp only [cmpOp, eqvR, fix_pv, fix_lst, e1, e2]
  cases xs with
  | nil => simp [eqvL]
  | cons x xs => simp
theorem m_pop {m : Nat} {xs : List PV} {v : PV} (e : h[m]? = some (.lst (xs ++ [v]))) : callM .pop h (.pv (.ref m)) [] = some (.pv v, h.set m (.lst xs)) := by
  simp [callM, mPop, e]
theorem o_addr {m : Nat} {xs ys : List PV} (e : h[m]? = some (.lst xs)) (l : xs.length + ys.length ≤ LINE) : binOp .Add h (.pv (.ref m)) (.lst ys) = some (.lst (xs ++ ys)) := by
  simp [binOp, lstW, e, l]
/-- a form without variables (as far as it goes) -/
inductive Gr : Fm → Prop where
  | n {w : Txt} {ps : List Fm} (l : ps.length ≤ 1000) (q : ∀ p ∈ ps, Gr p) : Gr (.n w ps)
theorem zip_mem {ps qs : List Fm} {x : Fm × Fm} (h : x ∈ ps.zip qs) : x.1 ∈ ps ∧ x.2 ∈ qs := ⟨(List.of_mem_zip h).1, (List.of_mem_zip h).2⟩
theorem take_set {n m : Nat} {A : MH} {x : MO} (h : n ≤ m) : (A.set m x).take n = A.take n := by
  refine List.ext_getElem? fun i => ?_
  simp only [List.getElem?_take]
  split
  · rw [set_oth (by omega)]
  · rfl
theorem take_app {n : Nat} {A : MH} {x : MO} (h : n ≤ A.length) : (A ++ [x]).take n = A.take n := by
  rw [List.take_append_of_le_length h]
theorem due_loop {F : Nat → List PV → MH → Res RV} {a b : Option PV} {h0 : MH} {fm : Nat} (hfm : fm = h0.length) :
    ∀ (n : Nat) (r : List (Fm × Fm)) (σ : Sub) (H : MH) (wm : Nat) (o4 o5 : Option PV), tsz r < n → (σ.length : Int) + tsz r ≤ 800000 → Sm σ → (∀ x ∈ r, Fmb 15 x.1 ∧ Fmb 15 x.2 ∧ Gr x.2) →
      fm < wm → wm < H.length → H.take h0.length = h0 → H[fm]? = some (.dct (asc σ)) → H[wm]? = some (.lst (prs r)) →
      ∃ (f : Fl) (H' : MH), whlL (tst F G (.cmp .NotEq (.var 3) (.lst .nil))) (exs F G dueB) n [a, b, some (.ref fm), some (.ref wm), o4, o5] H = .ok f H' ∧ h0.length < H'.length ∧ H'.take h0.length = h0 ∧
        ((f = .ret (.pv .non) ∧ du n r σ = none) ∨ ∃ (σ' : Sub) (x y z : Option PV), f = .nx [a, b, some (.ref fm), x, y, z] ∧ H'[fm]? = some (.dct (asc σ')) ∧ du n r σ = some σ') := by
  intro n
  induction n with
  | zero => intro r σ H wm o4 o5 h; omega
  | succ n ih =>
    intro r σ H wm o4 o5 hn hz hs hr hfw hwl ht ef ew
    subst hfm
    cases r with
    | nil =>
      have cn := c_nel ew
      refine ⟨_, H, ?_, by omega, ht, .inr ⟨σ, some (.ref wm), o4, o5, rfl, ef, rfl⟩⟩
      simp only [whlL]
      simp (config := {decide := false}) only [↓reduceIte, ↓bT_eq, ↓cT_eq, ↓oT_eq, bT_ok, cT_ok, oT_some, call1, ev_non, ev_bl, ev_int, ev_str, ev_gl, ev_var, ev_bop, ev_neg, ev_cmp, ev_cmp2, ev_band, ev_bor, ev_bnot, ev_ife, ev_tup, ev_lst, ev_dct, ev_idx, ev_slc, ev_call, ev_bi, ev_isi, ev_mth, ev_lc, ev_lzip, evL_nil, evL_cons, evD_cons, evD_nil, evO_none, evO_some, evS_seq, evS_rng, evS_rng2, evS_enum, evS_zip, evS_zipS, tst_band, tst_bor, tst_bnot, tst_non, tst_bl, tst_int, tst_str, tst_gl, tst_var, tst_cmp, tst_cmp2, tst_idx, tst_call, tst_bi, tst_isi, tsts_nil, tsts_cons, ex_asg, ex_tasg, ex_par, ex_sidx, ex_aug, ex_drop, ex_ret, ex_retN, ex_ifs, ex_fors, ex_whl, ex_brk, ex_cont, ex_pass, ex_never, exs_nil, exs_cons, ofOpt_some, fix_pv, fix_lst, fix_dct, fixL_nil, fixL_cons, norm_same, norm_set, o_add, o_sub, o_mul, o_mod, o_fd, o_p18, a_add, a_sub, c_eq, c_ne, c_eqs, c_nes, c_lt, c_le, c_gt, c_ge, c_is, c_isnot, b_int, b_min, b_max, b_lent, b_lenl, b_tuple, i_tup, i_lst, t_bl, t_non, t_int, ty_ss, ty_st, ty_ts, ty_tt, q_tup, l_tup, l_lst, at0, at1, p_int, isNonR, List.length_cons, List.length_nil, List.map_cons, List.map_nil, List.cons_append, List.nil_append, List.replicate_succ, List.replicate_zero, List.getElem?_cons_zero, List.getElem?_cons_succ, List.getElem?_nil, List.set_cons_zero, List.set_cons_succ, List.set_nil, Nat.sub_self, Nat.reduceSub, Nat.reduceAdd, Nat.reduceMul, Nat.zero_add, Int.reduceLT, Int.reduceLE, Nat.reduceLeDiff, LINE, if_true, if_false, Bool.false_eq_true, Bool.true_eq_false, Bool.not_true, Bool.not_false, ite_self, eq_self, Prod.fst, Prod.snd, cn, prs, List.reverse_nil, List.isEmpty_nil]
    | cons x r =>
      obtain ⟨p, g⟩ := x
      obtain ⟨hp, hg, hgr⟩ := hr (p, g) List.mem_cons_self
      have hr' : ∀ x ∈ r, Fmb 15 x.1 ∧ Fmb 15 x.2 ∧ Gr x.2 := fun x hx => hr x (List.mem_cons_of_mem _ hx)
      have hp : Fmb 15 p := hp
      have hg : Fmb 15 g := hg
      simp only [tsz] at hn hz
      have cn := c_nel ew
      rw [prs_cons] at ew cn
      have ne : (prs r ++ [pr (p, g)]).isEmpty = false := by simp
      rw [ne] at cn
      have pop := m_pop ew
      have e1 : (H.set wm (.lst (prs r)))[h0.length]? = some (.dct (asc σ)) := by rw [set_oth (by omega)]; exact ef
      have e2 : (H.set wm (.lst (prs r)))[wm]? = some (.lst (prs r)) := set_get ew
      have t1 : (H.set wm (.lst (prs r))).take h0.length = h0 := by rw [take_set (by omega)]; exact ht
      have rl : recvOk .pop H (.pv (.ref wm)) = true := by simp [recvOk, lstOf, ew]
      have sa : ∀ e : Env, setAll [4, 5] [p.pv, g.pv] [a, b, some (.ref h0.length), some (.ref wm), o4, o5] = some [a, b, some (.ref h0.length), some (.ref wm), some p.pv, some g.pv] := fun _ => rfl
      have prd : pr (p, g) = .tup [p.pv, g.pv] := rfl
      cases p with
      | v s =>
        have gx : (((slook σ s).map Fm.pv).getD g.pv) = ((slook σ s).getD g).pv := by cases slook σ s <;> rfl
        have sx : Fmb 15 ((slook σ s).getD g) := by
          cases hl : slook σ s with
          | none => exact hg
          | some x => exact hs s x hl
        have cq := c_nef (h := H.set wm (.lst (prs r))) (g := g) sx
        simp only [Fm.size] at hn hz
        cases hfe : feq ((slook σ s).getD g) g with
        | false =>
          rw [hfe] at cq
          refine ⟨_, H.set wm (.lst (prs r)), ?_, by rw [List.length_set]; omega, t1, .inl ⟨rfl, by simp only [du, hfe, Bool.false_eq_true, if_false]⟩⟩
          simp only [whlL]
          simp only [Fm.pv] at sa
          simp (config := {decide := false}) only [↓reduceIte, ↓bT_eq, ↓cT_eq, ↓oT_eq, bT_ok, cT_ok, oT_some, call1, ev_non, ev_bl, ev_int, ev_str, ev_gl, ev_var, ev_bop, ev_neg, ev_cmp, ev_cmp2, ev_band, ev_bor, ev_bnot, ev_ife, ev_tup, ev_lst, ev_dct, ev_idx, ev_slc, ev_call, ev_bi, ev_isi, ev_mth, ev_lc, ev_lzip, evL_nil, evL_cons, evD_cons, evD_nil, evO_none, evO_some, evS_seq, evS_rng, evS_rng2, evS_enum, evS_zip, evS_zipS, tst_band, tst_bor, tst_bnot, tst_non, tst_bl, tst_int, tst_str, tst_gl, tst_var, tst_cmp, tst_cmp2, tst_idx, tst_call, tst_bi, tst_isi, tsts_nil, tsts_cons, ex_asg, ex_tasg, ex_par, ex_sidx, ex_aug, ex_drop, ex_ret, ex_retN, ex_ifs, ex_fors, ex_whl, ex_brk, ex_cont, ex_pass, ex_never, exs_nil, exs_cons, ofOpt_some, fix_pv, fix_lst, fix_dct, fixL_nil, fixL_cons, norm_same, norm_set, o_add, o_sub, o_mul, o_mod, o_fd, o_p18, a_add, a_sub, c_eq, c_ne, c_eqs, c_nes, c_lt, c_le, c_gt, c_ge, c_is, c_isnot, b_int, b_min, b_max, b_lent, b_lenl, b_tuple, i_tup, i_lst, t_bl, t_non, t_int, ty_ss, ty_st, ty_ts, ty_tt, q_tup, l_tup, l_lst, at0, at1, p_int, isNonR, List.length_cons, List.length_nil, List.map_cons, List.map_nil, List.cons_append, List.nil_append, List.replicate_succ, List.replicate_zero, List.getElem?_cons_zero, List.getElem?_cons_succ, List.getElem?_nil, List.set_cons_zero, List.set_cons_succ, List.set_nil, Nat.sub_self, Nat.reduceSub, Nat.reduceAdd, Nat.reduceMul, Nat.zero_add, Int.reduceLT, Int.reduceLE, Nat.reduceLeDiff, LINE, if_true, if_false, Bool.false_eq_true, Bool.true_eq_false, Bool.not_true, Bool.not_false, ite_self, eq_self, Prod.fst, Prod.snd, cn, dueB, rl, pop, prd, sa [], Fm.pv, rec_asc e1, get_asc e1, gx, cq]
        | true =>
          rw [hfe] at cq
          have st := s_asc (g := g) (s := s) e1 (by omega)
          have sl := sput_len σ s g
          obtain ⟨f, H', q1, q2, q3, q4⟩ := ih r (sput σ s g) ((H.set wm (.lst (prs r))).set h0.length (.dct (asc (sput σ s g)))) wm (some (.str s)) (some g.pv) (by omega) (by omega) (hs.put hg) hr' hfw (by simp; omega) (by rw [take_set (by omega)]; exact t1) (set_get e1) (by rw [set_oth (by omega)]; exact e2)
          refine ⟨f, H', ?_, q2, q3, by simpa only [du, hfe, if_true] using q4⟩
          rw [← q1]
          simp only [whlL]
          simp only [Fm.pv] at sa
          simp (config := {decide := false}) only [↓reduceIte, ↓bT_eq, ↓cT_eq, ↓oT_eq, bT_ok, cT_ok, oT_some, call1, ev_non, ev_bl, ev_int, ev_str, ev_gl, ev_var, ev_bop, ev_neg, ev_cmp, ev_cmp2, ev_band, ev_bor, ev_bnot, ev_ife, ev_tup, ev_lst, ev_dct, ev_idx, ev_slc, ev_call, ev_bi, ev_isi, ev_mth, ev_lc, ev_lzip, evL_nil, evL_cons, evD_cons, evD_nil, evO_none, evO_some, evS_seq, evS_rng, evS_rng2, evS_enum, evS_zip, evS_zipS, tst_band, tst_bor, tst_bnot, tst_non, tst_bl, tst_int, tst_str, tst_gl, tst_var, tst_cmp, tst_cmp2, tst_idx, tst_call, tst_bi, tst_isi, tsts_nil, tsts_cons, ex_asg, ex_tasg, ex_par, ex_sidx, ex_aug, ex_drop, ex_ret, ex_retN, ex_ifs, ex_fors, ex_whl, ex_brk, ex_cont, ex_pass, ex_never, exs_nil, exs_cons, ofOpt_some, fix_pv, fix_lst, fix_dct, fixL_nil, fixL_cons, norm_same, norm_set, o_add, o_sub, o_mul, o_mod, o_fd, o_p18, a_add, a_sub, c_eq, c_ne, c_eqs, c_nes, c_lt, c_le, c_gt, c_ge, c_is, c_isnot, b_int, b_min, b_max, b_lent, b_lenl, b_tuple, i_tup, i_lst, t_bl, t_non, t_int, ty_ss, ty_st, ty_ts, ty_tt, q_tup, l_tup, l_lst, at0, at1, p_int, isNonR, List.length_cons, List.length_nil, List.map_cons, List.map_nil, List.cons_append, List.nil_append, List.replicate_succ, List.replicate_zero, List.getElem?_cons_zero, List.getElem?_cons_succ, List.getElem?_nil, List.set_cons_zero, List.set_cons_succ, List.set_nil, Nat.sub_self, Nat.reduceSub, Nat.reduceAdd, Nat.reduceMul, Nat.zero_add, Int.reduceLT, Int.reduceLE, Nat.reduceLeDiff, LINE, if_true, if_false, Bool.false_eq_true, Bool.true_eq_false, Bool.not_true, Bool.not_false, ite_self, eq_self, Prod.fst, Prod.snd, cn, dueB, rl, pop, prd, sa [], Fm.pv, rec_asc e1, get_asc e1, gx, cq, st]
      | n w ps =>
        cases hgr with
        | @n x qs lq gq =>
          have n1 := Fm.sizes_nn ps
          simp only [Fm.size] at hn hz
          by_cases hwx : w = x
          · subst hwx
            have z1 : ((w == w)) = true := by simp
            by_cases hll : ps.length = qs.length
            · have z2 : ((((Fm.pvs ps).length : Nat) : Int) == ((Fm.pvs qs).length : Nat)) = true := by rw [Fm.pvs_len, Fm.pvs_len, hll]; simp
              have t5 : tupOf (.pv (.tup (Fm.pvs ps))) = some (Fm.pvs ps) := rfl
              have t6 : tupOf (.pv (.tup (Fm.pvs qs))) = some (Fm.pvs qs) := rfl
              have tz := tsz_zip ps qs
              have lz := len_tsz r
              have lz2 := len_tsz (ps.zip qs)
              have oa := o_addr (h := H.set wm (.lst (prs r))) (ys := zipL (Fm.pvs ps) (Fm.pvs qs)) e2 (by rw [zip_pr, prs_len, List.length_map]; unfold LINE; omega)
              rw [zip_pr, ← prs_app] at oa
              have zz : zipL (Fm.pvs ps) (Fm.pvs qs) = (ps.zip qs).map pr := zip_pr ps qs
              have tt : tsz ((ps.zip qs).reverse ++ r) = tsz (ps.zip qs) + tsz r := by rw [tsz_app, tsz_rev]
              have hlen : (H.set wm (.lst (prs r))).length = H.length := List.length_set
              obtain ⟨f, H', q1, q2, q3, q4⟩ := ih ((ps.zip qs).reverse ++ r) σ (H.set wm (.lst (prs r)) ++ [.lst (prs ((ps.zip qs).reverse ++ r))]) H.length (some (Fm.pv (.n w ps))) (some (Fm.pv (.n w qs))) (by omega) (by omega) hs (fun y hy => by
                  rcases List.mem_append.mp hy with hy | hy
                  · obtain ⟨m1, m2⟩ := zip_mem (List.mem_reverse.mp hy)
                    exact ⟨fmb_parts hp _ m1, fmb_parts hg _ m2, gq _ m2⟩
                  · exact hr' y hy) (by omega) (by simp) (by rw [take_app (by rw [hlen]; omega)]; exact t1) (get_left e1) (get_last hlen)
              refine ⟨f, H', ?_, q2, q3, by simpa only [du, if_true, hll] using q4⟩
              rw [← q1]
              simp only [whlL]
              simp only [Fm.pv] at sa
              simp (config := {decide := false}) only [↓reduceIte, ↓bT_eq, ↓cT_eq, ↓oT_eq, bT_ok, cT_ok, oT_some, call1, ev_non, ev_bl, ev_int, ev_str, ev_gl, ev_var, ev_bop, ev_neg, ev_cmp, ev_cmp2, ev_band, ev_bor, ev_bnot, ev_ife, ev_tup, ev_lst, ev_dct, ev_idx, ev_slc, ev_call, ev_bi, ev_isi, ev_mth, ev_lc, ev_lzip, evL_nil, evL_cons, evD_cons, evD_nil, evO_none, evO_some, evS_seq, evS_rng, evS_rng2, evS_enum, evS_zip, evS_zipS, tst_band, tst_bor, tst_bnot, tst_non, tst_bl, tst_int, tst_str, tst_gl, tst_var, tst_cmp, tst_cmp2, tst_idx, tst_call, tst_bi, tst_isi, tsts_nil, tsts_cons, ex_asg, ex_tasg, ex_par, ex_sidx, ex_aug, ex_drop, ex_ret, ex_retN, ex_ifs, ex_fors, ex_whl, ex_brk, ex_cont, ex_pass, ex_never, exs_nil, exs_cons, ofOpt_some, fix_pv, fix_lst, fix_dct, fixL_nil, fixL_cons, norm_same, norm_set, o_add, o_sub, o_mul, o_mod, o_fd, o_p18, a_add, a_sub, c_eq, c_ne, c_eqs, c_nes, c_lt, c_le, c_gt, c_ge, c_is, c_isnot, b_int, b_min, b_max, b_lent, b_lenl, b_tuple, i_tup, i_lst, t_bl, t_non, t_int, ty_ss, ty_st, ty_ts, ty_tt, q_tup, l_tup, l_lst, at0, at1, p_int, isNonR, List.length_cons, List.length_nil, List.map_cons, List.map_nil, List.cons_append, List.nil_append, List.replicate_succ, List.replicate_zero, List.getElem?_cons_zero, List.getElem?_cons_succ, List.getElem?_nil, List.set_cons_zero, List.set_cons_succ, List.set_nil, Nat.sub_self, Nat.reduceSub, Nat.reduceAdd, Nat.reduceMul, Nat.zero_add, Int.reduceLT, Int.reduceLE, Nat.reduceLeDiff, LINE, if_true, if_false, Bool.false_eq_true, Bool.true_eq_false, Bool.not_true, Bool.not_false, ite_self, eq_self, Prod.fst, Prod.snd, cn, dueB, rl, pop, prd, sa [], Fm.pv, z1, z2, t5, t6, zz, oa, hlen]
            · have z2 : ((((Fm.pvs ps).length : Nat) : Int) == ((Fm.pvs qs).length : Nat)) = false := by
                rw [Fm.pvs_len, Fm.pvs_len]
                have : ((ps.length : Int)) ≠ (qs.length : Int) := by omega
                simpa using this
              refine ⟨_, H.set wm (.lst (prs r)), ?_, by rw [List.length_set]; omega, t1, .inl ⟨rfl, by simp only [du, if_true, hll, if_false]⟩⟩
              simp only [whlL]
              simp only [Fm.pv] at sa
              simp (config := {decide := false}) only [↓reduceIte, ↓bT_eq, ↓cT_eq, ↓oT_eq, bT_ok, cT_ok, oT_some, call1, ev_non, ev_bl, ev_int, ev_str, ev_gl, ev_var, ev_bop, ev_neg, ev_cmp, ev_cmp2, ev_band, ev_bor, ev_bnot, ev_ife, ev_tup, ev_lst, ev_dct, ev_idx, ev_slc, ev_call, ev_bi, ev_isi, ev_mth, ev_lc, ev_lzip, evL_nil, evL_cons, evD_cons, evD_nil, evO_none, evO_some, evS_seq, evS_rng, evS_rng2, evS_enum, evS_zip, evS_zipS, tst_band, tst_bor, tst_bnot, tst_non, tst_bl, tst_int, tst_str, tst_gl, tst_var, tst_cmp, tst_cmp2, tst_idx, tst_call, tst_bi, tst_isi, tsts_nil, tsts_cons, ex_asg, ex_tasg, ex_par, ex_sidx, ex_aug, ex_drop, ex_ret, ex_retN, ex_ifs, ex_fors, ex_whl, ex_brk, ex_cont, ex_pass, ex_never, exs_nil, exs_cons, ofOpt_some, fix_pv, fix_lst, fix_dct, fixL_nil, fixL_cons, norm_same, norm_set, o_add, o_sub, o_mul, o_mod, o_fd, o_p18, a_add, a_sub, c_eq, c_ne, c_eqs, c_nes, c_lt, c_le, c_gt, c_ge, c_is, c_isnot, b_int, b_min, b_max, b_lent, b_lenl, b_tuple, i_tup, i_lst, t_bl, t_non, t_int, ty_ss, ty_st, ty_ts, ty_tt, q_tup, l_tup, l_lst, at0, at1, p_int, isNonR, List.length_cons, List.length_nil, List.map_cons, List.map_nil, List.cons_append, List.nil_append, List.replicate_succ, List.replicate_zero, List.getElem?_cons_zero, List.getElem?_cons_succ, List.getElem?_nil, List.set_cons_zero, List.set_cons_succ, List.set_nil, Nat.sub_self, Nat.reduceSub, Nat.reduceAdd, Nat.reduceMul, Nat.zero_add, Int.reduceLT, Int.reduceLE, Nat.reduceLeDiff, LINE, if_true, if_false, Bool.false_eq_true, Bool.true_eq_false, Bool.not_true, Bool.not_false, ite_self, eq_self, Prod.fst, Prod.snd, cn, dueB, rl, pop, prd, sa [], Fm.pv, z1, z2]
          · have z1 : (w == x) = false := by simpa using hwx
            refine ⟨_, H.set wm (.lst (prs r)), ?_, by rw [List.length_set]; omega, t1, .inl ⟨rfl, by simp only [du, hwx, if_false]⟩⟩
            simp only [whlL]
            simp only [Fm.pv] at sa
            simp (config := {decide := false}) only [↓reduceIte, ↓bT_eq, ↓cT_eq, ↓oT_eq, bT_ok, cT_ok, oT_some, call1, ev_non, ev_bl, ev_int, ev_str, ev_gl, ev_var, ev_bop, ev_neg, ev_cmp, ev_cmp2, ev_band, ev_bor, ev_bnot, ev_ife, ev_tup, ev_lst, ev_dct, ev_idx, ev_slc, ev_call, ev_bi, ev_isi, ev_mth, ev_lc, ev_lzip, evL_nil, evL_cons, evD_cons, evD_nil, evO_none, evO_some, evS_seq, evS_rng, evS_rng2, evS_enum, evS_zip, evS_zipS, tst_band, tst_bor, tst_bnot, tst_non, tst_bl, tst_int, tst_str, tst_gl, tst_var, tst_cmp, tst_cmp2, tst_idx, tst_call, tst_bi, tst_isi, tsts_nil, tsts_cons, ex_asg, ex_tasg, ex_par, ex_sidx, ex_aug, ex_drop, ex_ret, ex_retN, ex_ifs, ex_fors, ex_whl, ex_brk, ex_cont, ex_pass, ex_never, exs_nil, exs_cons, ofOpt_some, fix_pv, fix_lst, fix_dct, fixL_nil, fixL_cons, norm_same, norm_set, o_add, o_sub, o_mul, o_mod, o_fd, o_p18, a_add, a_sub, c_eq, c_ne, c_eqs, c_nes, c_lt, c_le, c_gt, c_ge, c_is, c_isnot, b_int, b_min, b_max, b_lent, b_lenl, b_tuple, i_tup, i_lst, t_bl, t_non, t_int, ty_ss, ty_st, ty_ts, ty_tt, q_tup, l_tup, l_lst, at0, at1, p_int, isNonR, List.length_cons, List.length_nil, List.map_cons, List.map_nil, List.cons_append, List.nil_append, List.replicate_succ, List.replicate_zero, List.getElem?_cons_zero, List.getElem?_cons_succ, List.getElem?_nil, List.set_cons_zero, List.set_cons_succ, List.set_nil, Nat.sub_self, Nat.reduceSub, Nat.reduceAdd, Nat.reduceMul, Nat.zero_add, Int.reduceLT, Int.reduceLE, Nat.reduceLeDiff, LINE, if_true, if_false, Bool.false_eq_true, Bool.true_eq_false, Bool.not_true, Bool.not_false, ite_self, eq_self, Prod.fst, Prod.snd, cn, dueB, rl, pop, prd, sa [], Fm.pv, z1]
theorem run_due {iU : Nat} (hU : P[iU]? = some due) {f g : Fm} (hf : Fmb 15 f) (hg : Fmb 15 g) (hr : Gr g) (hz : f.size ≤ 700000) :
    run P G (k + 1) iU [f.pv, g.pv] h = .ok (match du TURNS [(f, g)] [] with | some σ => .dct (asc σ) | none => .pv .non) h := by
  have tz : tsz [(f, g)] = f.size.toNat := by simp [tsz]
  have e1 : (h ++ [MO.dct []] ++ [MO.lst [PV.tup [f.pv, g.pv]]])[h.length]? = some (.dct (asc [])) := get_left (get_last rfl)
  have e2 : (h ++ [MO.dct []] ++ [MO.lst [PV.tup [f.pv, g.pv]]])[h.length + 1]? = some (.lst (prs [(f, g)])) := get_last (by simp)
  obtain ⟨fl, H', q1, q2, q3, q4⟩ := due_loop (F := run P G k) (G := G) (a := some f.pv) (b := some g.pv) (h0 := h) rfl TURNS [(f, g)] [] (h ++ [MO.dct []] ++ [MO.lst [PV.tup [f.pv, g.pv]]]) (h.length + 1) none none (by rw [tz]; unfold TURNS; omega) (by rw [tz]; simp; omega) (fun _ _ z => by cases z) (fun x hx => by
    have : x = (f, g) := by simpa using hx
    subst this; exact ⟨hf, hg, hr⟩) (by omega) (by simp) (by simp) e1 e2
  have hlen : (h ++ [MO.dct []]).length = h.length + 1 := by simp
  rcases q4 with ⟨rfl, d⟩ | ⟨σ', x, y, z, rfl, e3, d⟩
  · rw [d, run_at hU]
    simp (config := {decide := false}) only [↓reduceIte, ↓bT_eq, ↓cT_eq, ↓oT_eq, bT_ok, cT_ok, oT_some, call1, ev_non, ev_bl, ev_int, ev_str, ev_gl, ev_var, ev_bop, ev_neg, ev_cmp, ev_cmp2, ev_band, ev_bor, ev_bnot, ev_ife, ev_tup, ev_lst, ev_dct, ev_idx, ev_slc, ev_call, ev_bi, ev_isi, ev_mth, ev_lc, ev_lzip, evL_nil, evL_cons, evD_cons, evD_nil, evO_none, evO_some, evS_seq, evS_rng, evS_rng2, evS_enum, evS_zip, evS_zipS, tst_band, tst_bor, tst_bnot, tst_non, tst_bl, tst_int, tst_str, tst_gl, tst_var, tst_cmp, tst_cmp2, tst_idx, tst_call, tst_bi, tst_isi, tsts_nil, tsts_cons, ex_asg, ex_tasg, ex_par, ex_sidx, ex_aug, ex_drop, ex_ret, ex_retN, ex_ifs, ex_fors, ex_whl, ex_brk, ex_cont, ex_pass, ex_never, exs_nil, exs_cons, ofOpt_some, fix_pv, fix_lst, fix_dct, fixL_nil, fixL_cons, norm_same, norm_set, o_add, o_sub, o_mul, o_mod, o_fd, o_p18, a_add, a_sub, c_eq, c_ne, c_eqs, c_nes, c_lt, c_le, c_gt, c_ge, c_is, c_isnot, b_int, b_min, b_max, b_lent, b_lenl, b_tuple, i_tup, i_lst, t_bl, t_non, t_int, ty_ss, ty_st, ty_ts, ty_tt, q_tup, l_tup, l_lst, at0, at1, p_int, isNonR, List.length_cons, List.length_nil, List.map_cons, List.map_nil, List.cons_append, List.nil_append, List.replicate_succ, List.replicate_zero, List.getElem?_cons_zero, List.getElem?_cons_succ, List.getElem?_nil, List.set_cons_zero, List.set_cons_succ, List.set_nil, Nat.sub_self, Nat.reduceSub, Nat.reduceAdd, Nat.reduceMul, Nat.zero_add, Int.reduceLT, Int.reduceLE, Nat.reduceLeDiff, LINE, if_true, if_false, Bool.false_eq_true, Bool.true_eq_false, Bool.not_true, Bool.not_false, ite_self, eq_self, Prod.fst, Prod.snd, due, List.foldl_nil, hlen, q1, norm_non q2 q3]
  · rw [d, run_at hU]
    simp (config := {decide := false}) only [↓reduceIte, ↓bT_eq, ↓cT_eq, ↓oT_eq, bT_ok, cT_ok, oT_some, call1, ev_non, ev_bl, ev_int, ev_str, ev_gl, ev_var, ev_bop, ev_neg, ev_cmp, ev_cmp2, ev_band, ev_bor, ev_bnot, ev_ife, ev_tup, ev_lst, ev_dct, ev_idx, ev_slc, ev_call, ev_bi, ev_isi, ev_mth, ev_lc, ev_lzip, evL_nil, evL_cons, evD_cons, evD_nil, evO_none, evO_some, evS_seq, evS_rng, evS_rng2, evS_enum, evS_zip, evS_zipS, tst_band, tst_bor, tst_bnot, tst_non, tst_bl, tst_int, tst_str, tst_gl, tst_var, tst_cmp, tst_cmp2, tst_idx, tst_call, tst_bi, tst_isi, tsts_nil, tsts_cons, ex_asg, ex_tasg, ex_par, ex_sidx, ex_aug, ex_drop, ex_ret, ex_retN, ex_ifs, ex_fors, ex_whl, ex_brk, ex_cont, ex_pass, ex_never, exs_nil, exs_cons, ofOpt_some, fix_pv, fix_lst, fix_dct, fixL_nil, fixL_cons, norm_same, norm_set, o_add, o_sub, o_mul, o_mod, o_fd, o_p18, a_add, a_sub, c_eq, c_ne, c_eqs, c_nes, c_lt, c_le, c_gt, c_ge, c_is, c_isnot, b_int, b_min, b_max, b_lent, b_lenl, b_tuple, i_tup, i_lst, t_bl, t_non, t_int, ty_ss, ty_st, ty_ts, ty_tt, q_tup, l_tup, l_lst, at0, at1, p_int, isNonR, List.length_cons, List.length_nil, List.map_cons, List.map_nil, List.cons_append, List.nil_append, List.replicate_succ, List.replicate_zero, List.getElem?_cons_zero, List.getElem?_cons_succ, List.getElem?_nil, List.set_cons_zero, List.set_cons_succ, List.set_nil, Nat.sub_self, Nat.reduceSub, Nat.reduceAdd, Nat.reduceMul, Nat.zero_add, Int.reduceLT, Int.reduceLE, Nat.reduceLeDiff, LINE, if_true, if_false, Bool.false_eq_true, Bool.true_eq_false, Bool.not_true, Bool.not_false, ite_self, eq_self, Prod.fst, Prod.snd, due, List.foldl_nil, hlen, q1, norm_dct q2 q3 e3 (asc_lt _ _)]
end Lib
end Pf
/-! PfMatchLaw: match is the law's own way; what is matched is put in. -/
namespace Pf
namespace Lib
/-! ### what goes to what -/
mutual
def bd : Fm → Fm → Option Sub
  | .v s, g => some [(s, g)]
  | .n w ps, g => match g with
    | .v _ => none
    | .n x qs => if w = x then (if ps.length = qs.length then bdL ps qs else none) else none
def bdL : List Fm → List Fm → Option Sub
  | p :: ps, q :: qs => match bd p q, bdL ps qs with
    | some a, some b => some (a ++ b)
    | _, _ => none
  | _, _ => some []
end
def Fits (σ : Sub) (L : Sub) : Prop := ∀ s x, (s, x) ∈ L → slook σ s = some x
mutual
theorem mt_ext : ∀ (f g : Fm) (σ : Sub) (s : Txt) (x : Fm), slook σ s = some x → slook (mt f g σ).2 s = some x
  | .v t, g, σ, s, x, h => by
    simp only [mt]
    cases hl : slook σ t with
    | some y => simpa [hl] using h
    | none =>
      simp only [Option.isSome_none, Bool.false_eq_true, if_false, slook_sput]
      rw [if_neg]; exact h
      intro e; subst e; rw [hl] at h; cases h
  | .n w ps, .v _, σ, s, x, h => by simpa only [mt] using h
  | .n w ps, .n y qs, σ, s, x, h => by
    simp only [mt]
    split
    · split
      · exact mtL_ext ps qs σ s x h
      · exact h
    · exact h
theorem mtL_ext : ∀ (ps qs : List Fm) (σ : Sub) (s : Txt) (x : Fm), slook σ s = some x → slook (mtL ps qs σ).2 s = some x
  | [], qs, σ, s, x, h => by cases qs <;> simpa only [mtL] using h
  | p :: ps, [], σ, s, x, h => by simpa only [mtL] using h
  | p :: ps, q :: qs, σ, s, x, h => by
    simp only [mtL]
    exact mtL_ext ps qs _ s x (mt_ext p q σ s x h)
end
mutual
theorem mt_true : ∀ (f g : Fm) (σ : Sub), (mt f g σ).1 = true → ∃ L, bd f g = some L ∧ Fits (mt f g σ).2 L
  | .v t, g, σ, h => by
    refine ⟨[(t, g)], by simp only [bd], fun s x hx => ?_⟩
    have e : (s, x) = (t, g) := by simpa using hx
    cases e
    simp only [mt, decide_eq_true_eq] at h ⊢
    cases hh : slook (if (slook σ t).isSome then σ else sput σ t g) t with
    | none => rw [hh] at h; cases h
    | some y =>
      rw [hh] at h
      simp only [Option.map_some, Option.some.injEq] at h
      rw [pv_inj h]
  | .n w ps, .v _, σ, h => by simp [mt] at h
  | .n w ps, .n y qs, σ, h => by
    simp only [mt] at h ⊢
    simp only [bd]
    split at h
    · rename_i e
      split at h
      · rename_i e2
        obtain ⟨L, a, b⟩ := mtL_true ps qs σ e2 h
        refine ⟨L, by rw [if_pos e, if_pos e2]; exact a, ?_⟩
        rw [if_pos e, if_pos e2]; exact b
      · cases h
    · cases h
theorem mtL_true : ∀ (ps qs : List Fm) (σ : Sub), ps.length = qs.length → (mtL ps qs σ).1 = true → ∃ L, bdL ps qs = some L ∧ Fits (mtL ps qs σ).2 L
  | [], qs, σ, _, h => ⟨[], by cases qs <;> simp only [bdL], fun _ _ hx => by cases hx⟩
  | p :: ps, [], σ, hl, h => by simp at hl
  | p :: ps, q :: qs, σ, hl, h => by
    simp only [mtL, Bool.and_eq_true] at h ⊢
    obtain ⟨L, a, b⟩ := mt_true p q σ h.1
    obtain ⟨M, c, d⟩ := mtL_true ps qs _ (by simpa using hl) h.2
    refine ⟨L ++ M, by simp only [bdL, a, c], fun s x hx => ?_⟩
    rcases List.mem_append.mp hx with hx | hx
    · exact mtL_ext ps qs _ s x (b s x hx)
    · exact d s x hx
end
mutual
theorem mt_only : ∀ (f g : Fm) (σ : Sub) (L : Sub), bd f g = some L → ∀ s x, slook (mt f g σ).2 s = some x → slook σ s = some x ∨ (s, x) ∈ L
  | .v t, g, σ, L, hb, s, x, h => by
    simp only [bd, Option.some.injEq] at hb
    subst hb
    simp only [mt] at h
    cases hl : slook σ t with
    | some y => rw [hl] at h; exact .inl (by simpa using h)
    | none =>
      rw [hl] at h
      simp only [Option.isSome_none, Bool.false_eq_true, if_false, slook_sput] at h
      split at h
      · rename_i e
        cases h; subst e; exact .inr (by simp)
      · exact .inl h
  | .n w ps, .v _, σ, L, hb, s, x, h => by simp [bd] at hb
  | .n w ps, .n y qs, σ, L, hb, s, x, h => by
    simp only [bd] at hb
    simp only [mt] at h
    split at hb
    · rename_i e
      split at hb
      · rename_i e2
        rw [if_pos e, if_pos e2] at h
        exact mtL_only ps qs σ L hb s x h
      · cases hb
    · cases hb
theorem mtL_only : ∀ (ps qs : List Fm) (σ : Sub) (L : Sub), bdL ps qs = some L → ∀ s x, slook (mtL ps qs σ).2 s = some x → slook σ s = some x ∨ (s, x) ∈ L
  | [], qs, σ, L, hb, s, x, h => by cases qs <;> exact .inl (by simpa only [mtL] using h)
  | p :: ps, [], σ, L, hb, s, x, h => .inl (by simpa only [mtL] using h)
  | p :: ps, q :: qs, σ, L, hb, s, x, h => by
    simp only [bdL] at hb
    simp only [mtL] at h
    split at hb
    · rename_i a b h1 h2
      cases hb
      rcases mtL_only ps qs _ b h2 s x h with h | h
      · rcases mt_only p q σ a h1 s x h with h | h
        · exact .inl h
        · exact .inr (List.mem_append_left _ h)
      · exact .inr (List.mem_append_right _ h)
    · cases hb
end
mutual
/-- where nothing is at odds, it is told -/
theorem mt_of : ∀ (f g : Fm) (σ : Sub) (L : Sub), bd f g = some L → (∀ s x y, (s, x) ∈ L → slook (mt f g σ).2 s = some y → y = x) → (mt f g σ).1 = true
  | .v t, g, σ, L, hb, h => by
    simp only [bd, Option.some.injEq] at hb
    subst hb
    have h := h t g
    simp only [mt, decide_eq_true_eq] at h ⊢
    cases hl : slook σ t with
    | some y =>
      simp only [hl, Option.isSome_some, if_true] at h ⊢
      rw [h y (by simp) rfl]; rfl
    | none =>
      simp only [Option.isSome_none, Bool.false_eq_true, if_false, slook_sput, if_true]; rfl
  | .n w ps, .v _, σ, L, hb, h => by simp [bd] at hb
  | .n w ps, .n y qs, σ, L, hb, h => by
    simp only [bd] at hb
    simp only [mt] at h ⊢
    split at hb
    · rename_i e
      split at hb
      · rename_i e2
        rw [if_pos e, if_pos e2] at h ⊢
        exact mtL_of ps qs σ L hb h
      · cases hb
    · cases hb
theorem mtL_of : ∀ (ps qs : List Fm) (σ : Sub) (L : Sub), bdL ps qs = some L → (∀ s x y, (s, x) ∈ L → slook (mtL ps qs σ).2 s = some y → y = x) → (mtL ps qs σ).1 = true
  | [], qs, σ, L, hb, h => by cases qs <;> simp only [mtL]
  | p :: ps, [], σ, L, hb, h => by simp only [mtL]
  | p :: ps, q :: qs, σ, L, hb, h => by
    simp only [bdL] at hb
    simp only [mtL, Bool.and_eq_true] at h ⊢
    split at hb
    · rename_i a b h1 h2
      cases hb
      exact ⟨mt_of p q σ a h1 fun s x y hx hy => h s x y (List.mem_append_left _ hx) (mtL_ext ps qs _ s y hy), mtL_of ps qs _ b h2 fun s x y hx hy => h s x y (List.mem_append_right _ hx) hy⟩
    · cases hb
end
/-! ### pairs of a stack -/
def AllB (r : List (Fm × Fm)) : Prop := ∀ x ∈ r, ∃ L, bd x.1 x.2 = some L
def InB (r : List (Fm × Fm)) (s : Txt) (y : Fm) : Prop := ∃ x ∈ r, ∃ L, bd x.1 x.2 = some L ∧ (s, y) ∈ L
theorem bdL_zip : ∀ {ps qs : List Fm}, ps.length = qs.length → ((∃ L, bdL ps qs = some L) ↔ AllB (ps.zip qs)) ∧ ∀ L, bdL ps qs = some L → ∀ s y, (s, y) ∈ L ↔ InB (ps.zip qs) s y
  | [], [], _ => ⟨⟨fun _ x hx => by simp at hx, fun _ => ⟨[], by simp only [bdL]⟩⟩, fun L h s y => by
      simp only [bdL, Option.some.injEq] at h
      subst h
      exact ⟨fun z => (by cases z), fun ⟨x, hx, _⟩ => (by simp at hx)⟩⟩
  | [], _ :: _, h => by simp at h
  | _ :: _, [], h => by simp at h
  | p :: ps, q :: qs, h => by
    obtain ⟨i1, i2⟩ := bdL_zip (ps := ps) (qs := qs) (by simpa using h)
    refine ⟨⟨fun ⟨L, hL⟩ x hx => ?_, fun ha => ?_⟩, fun L hL s y => ?_⟩
    · simp only [bdL] at hL
      split at hL
      · rename_i a b h1 h2
        rw [List.zip_cons_cons] at hx
        rcases List.mem_cons.mp hx with e | hx
        · subst e; exact ⟨a, h1⟩
        · exact i1.mp ⟨b, h2⟩ x hx
      · cases hL
    · rw [List.zip_cons_cons] at ha
      obtain ⟨a, h1⟩ := ha (p, q) List.mem_cons_self
      obtain ⟨b, h2⟩ := i1.mpr fun x hx => ha x (List.mem_cons_of_mem _ hx)
      have h1 : bd p q = some a := h1
      exact ⟨a ++ b, by simp only [bdL, h1, h2]⟩
    · simp only [bdL] at hL
      split at hL
      · rename_i a b h1 h2
        cases hL
        rw [List.zip_cons_cons, List.mem_append]
        constructor
        · rintro (z | z)
          · exact ⟨(p, q), List.mem_cons_self, a, h1, z⟩
          · obtain ⟨x, hx, M, hM, hz⟩ := (i2 b h2 s y).mp z
            exact ⟨x, List.mem_cons_of_mem _ hx, M, hM, hz⟩
        · rintro ⟨x, hx, M, hM, hz⟩
          rcases List.mem_cons.mp hx with e | hx
          · subst e
            have hM : bd p q = some M := hM
            rw [h1] at hM; cases hM; exact .inl hz
          · exact .inr ((i2 b h2 s y).mpr ⟨x, hx, M, hM, hz⟩)
      · cases hL
theorem allB_app {a r : List (Fm × Fm)} : AllB (a.reverse ++ r) ↔ AllB a ∧ AllB r := by
  constructor
  · exact fun h => ⟨fun x hx => h x (by simp [hx]), fun x hx => h x (by simp [hx])⟩
  · rintro ⟨h1, h2⟩ x hx
    rcases List.mem_append.mp hx with hx | hx
    · exact h1 x (List.mem_reverse.mp hx)
    · exact h2 x hx
theorem inB_app {a r : List (Fm × Fm)} {s : Txt} {y : Fm} : InB (a.reverse ++ r) s y ↔ InB a s y ∨ InB r s y := by
  constructor
  · rintro ⟨x, hx, q⟩
    rcases List.mem_append.mp hx with hx | hx
    · exact .inl ⟨x, List.mem_reverse.mp hx, q⟩
    · exact .inr ⟨x, hx, q⟩
  · rintro (⟨x, hx, q⟩ | ⟨x, hx, q⟩)
    · exact ⟨x, by simp [hx], q⟩
    · exact ⟨x, by simp [hx], q⟩
theorem allB_cons {x : Fm × Fm} {r : List (Fm × Fm)} : AllB (x :: r) ↔ (∃ L, bd x.1 x.2 = some L) ∧ AllB r := by
  constructor
  · exact fun h => ⟨h x List.mem_cons_self, fun y hy => h y (List.mem_cons_of_mem _ hy)⟩
  · rintro ⟨h1, h2⟩ y hy
    rcases List.mem_cons.mp hy with e | hy
    · subst e; exact h1
    · exact h2 y hy
theorem inB_cons {x : Fm × Fm} {r : List (Fm × Fm)} {s : Txt} {y : Fm} : InB (x :: r) s y ↔ (∃ L, bd x.1 x.2 = some L ∧ (s, y) ∈ L) ∨ InB r s y := by
  constructor
  · rintro ⟨z, hz, q⟩
    rcases List.mem_cons.mp hz with e | hz
    · subst e; exact .inl q
    · exact .inr ⟨z, hz, q⟩
  · rintro (q | ⟨z, hz, q⟩)
    · exact ⟨x, List.mem_cons_self, q⟩
    · exact ⟨z, List.mem_cons_of_mem _ hz, q⟩
theorem du_some : ∀ (n : Nat) (r : List (Fm × Fm)) (σ σ' : Sub), du n r σ = some σ' → AllB r ∧ ∀ s x, slook σ' s = some x ↔ slook σ s = some x ∨ InB r s x := by
  intro n
  induction n with
  | zero => intro r σ σ' h; simp [du] at h
  | succ n ih =>
    intro r σ σ' h
    match r, h with
    | [], h =>
      simp only [du, Option.some.injEq] at h
      subst h
      refine ⟨fun x hx => by simp at hx, fun s x => ⟨fun z => .inl z, fun z => ?_⟩⟩
      rcases z with z | ⟨y, hy, _⟩
      · exact z
      · simp at hy
    | (.v t, g) :: r, h =>
      simp only [du] at h
      split at h
      · rename_i hf
        obtain ⟨a, b⟩ := ih r _ _ h
        rw [feq_iff] at hf
        refine ⟨allB_cons.mpr ⟨⟨[(t, g)], by simp only [bd]⟩, a⟩, fun s x => ?_⟩
        rw [b s x, inB_cons, slook_sput]
        have e : (∃ L, bd (Fm.v t) g = some L ∧ (s, x) ∈ L) ↔ (s, x) = (t, g) := by
          simp only [bd, Option.some.injEq]
          exact ⟨fun ⟨L, h1, h2⟩ => by subst h1; simpa using h2, fun h => ⟨[(t, g)], rfl, by simpa using h⟩⟩
        rw [e]
        constructor
        · rintro (z | z)
          · split at z
            · rename_i e2
              subst e2; cases z; exact .inr (.inl rfl)
            · exact .inl z
          · exact .inr (.inr z)
        · rintro (z | z | z)
          · left
            split
            · rename_i e2
              subst e2
              rw [z] at hf
              simp at hf
              rw [hf]
            · exact z
          · cases z
            left; simp
          · exact .inr z
      · cases h
    | (.n w ps, .v _) :: r, h => simp [du] at h
    | (.n w ps, .n y qs) :: r, h =>
      simp only [du] at h
      split at h
      · rename_i e
        split at h
        · rename_i e2
          obtain ⟨a, b⟩ := ih _ _ _ h
          obtain ⟨i1, i2⟩ := bdL_zip e2
          have hb : bd (Fm.n w ps) (Fm.n y qs) = bdL ps qs := by simp only [bd, if_pos e, if_pos e2]
          obtain ⟨a1, a2⟩ := allB_app.mp a
          obtain ⟨L, hL⟩ := i1.mpr a1
          refine ⟨allB_cons.mpr ⟨⟨L, hb.trans hL⟩, a2⟩, fun s x => ?_⟩
          rw [b s x, inB_cons, inB_app]
          have e3 : (∃ L, bd (Fm.n w ps) (Fm.n y qs) = some L ∧ (s, x) ∈ L) ↔ InB (ps.zip qs) s x := by
            rw [hb]
            exact ⟨fun ⟨M, h1, h2⟩ => (i2 M h1 s x).mp h2, fun h => ⟨L, hL, (i2 L hL s x).mpr h⟩⟩
          rw [e3]
        · cases h
      · cases h
theorem du_none : ∀ (n : Nat) (r : List (Fm × Fm)) (σ : Sub) (τ : Txt → Option Fm), tsz r < n → (∀ s x, slook σ s = some x → τ s = some x) → (∀ s x, InB r s x → τ s = some x) → AllB r → ∃ σ', du n r σ = some σ' := by
  intro n
  induction n with
  | zero => intro r σ τ h; omega
  | succ n ih =>
    intro r σ τ hn hs hi ha
    match r, hn, hi, ha with
    | [], _, _, _ => exact ⟨σ, by simp only [du]⟩
    | (.v t, g) :: r, hn, hi, ha =>
      simp only [tsz, Fm.size] at hn
      have hg : τ t = some g := hi t g (inB_cons.mpr (.inl ⟨[(t, g)], by simp only [bd], by simp⟩))
      have hf : feq ((slook σ t).getD g) g = true := by
        rw [feq_iff]
        cases hl : slook σ t with
        | none => rfl
        | some x =>
          have := hs t x hl
          rw [hg] at this; cases this; rfl
      obtain ⟨σ', e⟩ := ih r (sput σ t g) τ (by omega) (fun s x h => by
        rw [slook_sput] at h
        split at h
        · rename_i e; cases h; rw [← e]; exact hg
        · exact hs s x h) (fun s x h => hi s x (inB_cons.mpr (.inr h))) (allB_cons.mp ha).2
      exact ⟨σ', by simp only [du, hf, if_true, e]⟩
    | (.n w ps, .v _) :: r, _, _, ha =>
      obtain ⟨L, h⟩ := (allB_cons.mp ha).1
      simp [bd] at h
    | (.n w ps, .n y qs) :: r, hn, hi, ha =>
      obtain ⟨⟨L, h⟩, ha2⟩ := allB_cons.mp ha
      have h0 : bd (Fm.n w ps) (Fm.n y qs) = some L := h
      simp only [bd] at h
      split at h
      · rename_i e
        split at h
        · rename_i e2
          obtain ⟨i1, i2⟩ := bdL_zip e2
          have tz := tsz_zip ps qs
          have nn := Fm.sizes_nn ps
          simp only [tsz, Fm.size] at hn
          obtain ⟨σ', q⟩ := ih ((ps.zip qs).reverse ++ r) σ τ (by rw [tsz_app, tsz_rev]; omega) hs (fun s x hx => by
            rcases inB_app.mp hx with hx | hx
            · exact hi s x (inB_cons.mpr (.inl ⟨L, h0, (i2 L h s x).mpr hx⟩))
            · exact hi s x (inB_cons.mpr (.inr hx))) (allB_app.mpr ⟨i1.mp ⟨L, h⟩, ha2⟩)
          exact ⟨σ', by simp only [du, if_pos e, if_pos e2, q]⟩
        · cases h
      · cases h
/-- both ways tell the same -/
theorem same (f g : Fm) (hz : f.size < 900000) :
    match du TURNS [(f, g)] [] with
    | some σ => (mt f g []).1 = true ∧ (∀ s, slook σ s = slook (mt f g []).2 s) ∧ ∃ L, bd f g = some L ∧ Fits (mt f g []).2 L
    | none => (mt f g []).1 = false := by
  have ab : ∀ L, bd f g = some L → AllB [(f, g)] := fun L h => allB_cons.mpr ⟨⟨L, h⟩, fun x hx => by simp at hx⟩
  have ib : ∀ L, bd f g = some L → ∀ s x, InB [(f, g)] s x ↔ (s, x) ∈ L := fun L h s x => by
    rw [inB_cons]
    constructor
    · rintro (⟨M, h1, h2⟩ | ⟨y, hy, _⟩)
      · have h1 : bd f g = some M := h1
        rw [h] at h1; cases h1; exact h2
      · simp at hy
    · exact fun z => .inl ⟨L, h, z⟩
  have only : ∀ L, bd f g = some L → ∀ s x, slook (mt f g []).2 s = some x → (s, x) ∈ L := fun L h s x hx => by
    rcases mt_only f g [] L h s x hx with z | z
    · cases z
    · exact z
  cases hd : du TURNS [(f, g)] [] with
  | some σ =>
    obtain ⟨a, b⟩ := du_some _ _ _ _ hd
    obtain ⟨L, hL⟩ := (allB_cons.mp a).1
    have hL : bd f g = some L := hL
    have bσ : ∀ s x, slook σ s = some x ↔ (s, x) ∈ L := fun s x => by
      rw [b s x, ib L hL s x]
      exact ⟨fun z => z.elim (fun z => by cases z) id, .inr⟩
    have ht : (mt f g []).1 = true := mt_of f g [] L hL fun s x y hx hy => by
      have h1 := (bσ s y).mpr (only L hL s y hy)
      have h2 := (bσ s x).mpr hx
      rw [h1] at h2; exact Option.some.inj h2
    obtain ⟨M, hM, fits⟩ := mt_true f g [] ht
    rw [hL] at hM; cases hM
    refine ⟨ht, fun s => ?_, L, hL, fits⟩
    cases h1 : slook σ s with
    | some x => exact (fits s x ((bσ s x).mp h1)).symm
    | none =>
      cases h2 : slook (mt f g []).2 s with
      | none => rfl
      | some x => rw [(bσ s x).mpr (only L hL s x h2)] at h1; cases h1
  | none =>
    show (mt f g []).1 = false
    cases ht : (mt f g []).1 with
    | false => rfl
    | true =>
      obtain ⟨L, hL, fits⟩ := mt_true f g [] ht
      obtain ⟨σ', e⟩ := du_none TURNS [(f, g)] [] (slook (mt f g []).2) (by simp only [tsz]; unfold TURNS; omega) (fun s x z => by cases z) (fun s x hx => fits s x ((ib L hL s x).mp hx)) (ab L hL)
      rw [hd] at e; cases e
mutual
theorem pt_fits : ∀ (f g : Fm) (σ L : Sub), bd f g = some L → Fits σ L → pt σ f = g
  | .v s, g, σ, L, h, k => by
    simp only [bd, Option.some.injEq] at h
    subst h
    simp only [pt, k s g (by simp)]; rfl
  | .n w ps, .v _, σ, L, h, _ => by simp [bd] at h
  | .n w ps, .n x qs, σ, L, h, k => by
    simp only [bd] at h
    split at h
    · rename_i e
      split at h
      · rename_i e2
        simp only [pt, e, pts_fits ps qs σ L e2 h k]
      · cases h
    · cases h
theorem pts_fits : ∀ (ps qs : List Fm) (σ L : Sub), ps.length = qs.length → bdL ps qs = some L → Fits σ L → pts σ ps = qs
  | [], [], _, _, _, _, _ => rfl
  | [], _ :: _, _, _, h, _, _ => by simp at h
  | _ :: _, [], _, _, h, _, _ => by simp at h
  | p :: ps, q :: qs, σ, L, hl, h, k => by
    simp only [bdL] at h
    split at h
    · rename_i a b h1 h2
      cases h
      simp only [pts, pt_fits p q σ a h1 fun s x hx => k s x (List.mem_append_left _ hx), pts_fits ps qs σ b (by simpa using hl) h2 fun s x hx => k s x (List.mem_append_right _ hx)]
    · cases h
end
end Lib
end Pf
/-! PfDueB: the walk through two patterns that answers yes or no. -/
namespace Pf
namespace Lib
variable {P : List FDef} {G : List PV} {k : Nat} {h : MH}
def duebB : CSL := (.cons (.tasg [4, 5] (.mth .pop (.var 3) .nil)) (.cons (.ifs (.isi (.var 4) .tStr) (.cons (.ifs (.cmp .NotEq (.mth .get (.var 2) (.cons (.var 4) (.cons (.var 5) .nil))) (.var 5)) (.cons (.ret (.bl false)) .nil) .nil) (.cons (.sidx (.var 2) (.var 4) (.var 5)) .nil)) (.cons (.ifs (.bor (.isi (.var 5) .tStr) (.bor (.cmp .NotEq (.idx (.var 4) (.int 0)) (.idx (.var 5) (.int 0))) (.cmp .NotEq (.bi .len (.cons (.idx (.var 4) (.int 1)) .nil)) (.bi .len (.cons (.idx (.var 5) (.int 1)) .nil))))) (.cons (.ret (.bl false)) .nil) (.cons (.asg 3 (.bop .Add (.var 3) (.lzip (.idx (.var 4) (.int 1)) (.idx (.var 5) (.int 1))))) .nil)) .nil)) .nil))
def dueb : FDef := ⟨2, 6, (.cons (.par 2 3 (.dct .nil) (.lst (.cons (.tup (.cons (.var 1) (.cons (.var 0) .nil))) .nil))) (.cons (.whl (.cmp .NotEq (.var 3) (.lst .nil)) duebB) (.cons (.ret (.bl true)) .nil)))⟩
theorem norm_bl {H : MH} {b : Bool} (hl : h.length < H.length) (ht : H.take h.length = h) : norm h (.pv (.bl b)) H = .ok (.pv (.bl b)) h := by
  unfold norm
  rw [if_neg (by omega), ht]
  simp [PV.lt]
theorem dueb_loop {F : Nat → List PV → MH → Res RV} {a b : Option PV} {h0 : MH} {fm : Nat} (hfm : fm = h0.length) :
    ∀ (n : Nat) (r : List (Fm × Fm)) (σ : Sub) (H : MH) (wm : Nat) (o4 o5 : Option PV), tsz r < n → (σ.length : Int) + tsz r ≤ 800000 → Sm σ → (∀ x ∈ r, Fmb 15 x.1 ∧ Fmb 15 x.2) →
      fm < wm → wm < H.length → H.take h0.length = h0 → H[fm]? = some (.dct (asc σ)) → H[wm]? = some (.lst (prs r)) →
      ∃ (f : Fl) (H' : MH), whlL (tst F G (.cmp .NotEq (.var 3) (.lst .nil))) (exs F G duebB) n [a, b, some (.ref fm), some (.ref wm), o4, o5] H = .ok f H' ∧ h0.length < H'.length ∧ H'.take h0.length = h0 ∧
        ((f = .ret (.pv (.bl false)) ∧ du n r σ = none) ∨ ∃ (σ' : Sub) (x y z : Option PV), f = .nx [a, b, some (.ref fm), x, y, z] ∧ H'[fm]? = some (.dct (asc σ')) ∧ du n r σ = some σ') := by
  intro n
  induction n with
  | zero => intro r σ H wm o4 o5 h; omega
  | succ n ih =>
    intro r σ H wm o4 o5 hn hz hs hr hfw hwl ht ef ew
    subst hfm
    cases r with
    | nil =>
      have cn := c_nel ew
      refine ⟨_, H, ?_, by omega, ht, .inr ⟨σ, some (.ref wm), o4, o5, rfl, ef, rfl⟩⟩
      simp only [whlL]
      simp (config := {decide := false}) only [↓reduceIte, ↓bT_eq, ↓cT_eq, ↓oT_eq, bT_ok, cT_ok, oT_some, call1, ev_non, ev_bl, ev_int, ev_str, ev_gl, ev_var, ev_bop, ev_neg, ev_cmp, ev_cmp2, ev_band, ev_bor, ev_bnot, ev_ife, ev_tup, ev_lst, ev_dct, ev_idx, ev_slc, ev_call, ev_bi, ev_isi, ev_mth, ev_lc, ev_lzip, evL_nil, evL_cons, evD_cons, evD_nil, evO_none, evO_some, evS_seq, evS_rng, evS_rng2, evS_enum, evS_zip, evS_zipS, tst_band, tst_bor, tst_bnot, tst_non, tst_bl, tst_int, tst_str, tst_gl, tst_var, tst_cmp, tst_cmp2, tst_idx, tst_call, tst_bi, tst_isi, tsts_nil, tsts_cons, ex_asg, ex_tasg, ex_par, ex_sidx, ex_aug, ex_drop, ex_ret, ex_retN, ex_ifs, ex_fors, ex_whl, ex_brk, ex_cont, ex_pass, ex_never, exs_nil, exs_cons, ofOpt_some, fix_pv, fix_lst, fix_dct, fixL_nil, fixL_cons, norm_same, norm_set, o_add, o_sub, o_mul, o_mod, o_fd, o_p18, a_add, a_sub, c_eq, c_ne, c_eqs, c_nes, c_lt, c_le, c_gt, c_ge, c_is, c_isnot, b_int, b_min, b_max, b_lent, b_lenl, b_tuple, i_tup, i_lst, t_bl, t_non, t_int, ty_ss, ty_st, ty_ts, ty_tt, q_tup, l_tup, l_lst, at0, at1, p_int, isNonR, List.length_cons, List.length_nil, List.map_cons, List.map_nil, List.cons_append, List.nil_append, List.replicate_succ, List.replicate_zero, List.getElem?_cons_zero, List.getElem?_cons_succ, List.getElem?_nil, List.set_cons_zero, List.set_cons_succ, List.set_nil, Nat.sub_self, Nat.reduceSub, Nat.reduceAdd, Nat.reduceMul, Nat.zero_add, Int.reduceLT, Int.reduceLE, Nat.reduceLeDiff, LINE, if_true, if_false, Bool.false_eq_true, Bool.true_eq_false, Bool.not_true, Bool.not_false, ite_self, eq_self, Prod.fst, Prod.snd, cn, prs, List.reverse_nil, List.isEmpty_nil]
    | cons x r =>
      obtain ⟨p, g⟩ := x
      obtain ⟨hp, hg⟩ := hr (p, g) List.mem_cons_self
      have hr' : ∀ x ∈ r, Fmb 15 x.1 ∧ Fmb 15 x.2 := fun x hx => hr x (List.mem_cons_of_mem _ hx)
      have hp : Fmb 15 p := hp
      have hg : Fmb 15 g := hg
      simp only [tsz] at hn hz
      have cn := c_nel ew
      rw [prs_cons] at ew cn
      have ne : (prs r ++ [pr (p, g)]).isEmpty = false := by simp
      rw [ne] at cn
      have pop := m_pop ew
      have e1 : (H.set wm (.lst (prs r)))[h0.length]? = some (.dct (asc σ)) := by rw [set_oth (by omega)]; exact ef
      have e2 : (H.set wm (.lst (prs r)))[wm]? = some (.lst (prs r)) := set_get ew
      have t1 : (H.set wm (.lst (prs r))).take h0.length = h0 := by rw [take_set (by omega)]; exact ht
      have rl : recvOk .pop H (.pv (.ref wm)) = true := by simp [recvOk, lstOf, ew]
      have sa : ∀ e : Env, setAll [4, 5] [p.pv, g.pv] [a, b, some (.ref h0.length), some (.ref wm), o4, o5] = some [a, b, some (.ref h0.length), some (.ref wm), some p.pv, some g.pv] := fun _ => rfl
      have prd : pr (p, g) = .tup [p.pv, g.pv] := rfl
      cases p with
      | v s =>
        have gx : (((slook σ s).map Fm.pv).getD g.pv) = ((slook σ s).getD g).pv := by cases slook σ s <;> rfl
        have sx : Fmb 15 ((slook σ s).getD g) := by
          cases hl : slook σ s with
          | none => exact hg
          | some x => exact hs s x hl
        have cq := c_nef (h := H.set wm (.lst (prs r))) (g := g) sx
        simp only [Fm.size] at hn hz
        cases hfe : feq ((slook σ s).getD g) g with
        | false =>
          rw [hfe] at cq
          refine ⟨_, H.set wm (.lst (prs r)), ?_, by rw [List.length_set]; omega, t1, .inl ⟨rfl, by simp only [du, hfe, Bool.false_eq_true, if_false]⟩⟩
          simp only [whlL]
          simp only [Fm.pv] at sa
          simp (config := {decide := false}) only [↓reduceIte, ↓bT_eq, ↓cT_eq, ↓oT_eq, bT_ok, cT_ok, oT_some, call1, ev_non, ev_bl, ev_int, ev_str, ev_gl, ev_var, ev_bop, ev_neg, ev_cmp, ev_cmp2, ev_band, ev_bor, ev_bnot, ev_ife, ev_tup, ev_lst, ev_dct, ev_idx, ev_slc, ev_call, ev_bi, ev_isi, ev_mth, ev_lc, ev_lzip, evL_nil, evL_cons, evD_cons, evD_nil, evO_none, evO_some, evS_seq, evS_rng, evS_rng2, evS_enum, evS_zip, evS_zipS, tst_band, tst_bor, tst_bnot, tst_non, tst_bl, tst_int, tst_str, tst_gl, tst_var, tst_cmp, tst_cmp2, tst_idx, tst_call, tst_bi, tst_isi, tsts_nil, tsts_cons, ex_asg, ex_tasg, ex_par, ex_sidx, ex_aug, ex_drop, ex_ret, ex_retN, ex_ifs, ex_fors, ex_whl, ex_brk, ex_cont, ex_pass, ex_never, exs_nil, exs_cons, ofOpt_some, fix_pv, fix_lst, fix_dct, fixL_nil, fixL_cons, norm_same, norm_set, o_add, o_sub, o_mul, o_mod, o_fd, o_p18, a_add, a_sub, c_eq, c_ne, c_eqs, c_nes, c_lt, c_le, c_gt, c_ge, c_is, c_isnot, b_int, b_min, b_max, b_lent, b_lenl, b_tuple, i_tup, i_lst, t_bl, t_non, t_int, ty_ss, ty_st, ty_ts, ty_tt, q_tup, l_tup, l_lst, at0, at1, p_int, isNonR, List.length_cons, List.length_nil, List.map_cons, List.map_nil, List.cons_append, List.nil_append, List.replicate_succ, List.replicate_zero, List.getElem?_cons_zero, List.getElem?_cons_succ, List.getElem?_nil, List.set_cons_zero, List.set_cons_succ, List.set_nil, Nat.sub_self, Nat.reduceSub, Nat.reduceAdd, Nat.reduceMul, Nat.zero_add, Int.reduceLT, Int.reduceLE, Nat.reduceLeDiff, LINE, if_true, if_false, Bool.false_eq_true, Bool.true_eq_false, Bool.not_true, Bool.not_false, ite_self, eq_self, Prod.fst, Prod.snd, cn, duebB, rl, pop, prd, sa [], Fm.pv, rec_asc e1, get_asc e1, gx, cq]
        | true =>
          rw [hfe] at cq
          have st := s_asc (g := g) (s := s) e1 (by omega)
          have sl := sput_len σ s g
          obtain ⟨f, H', q1, q2, q3, q4⟩ := ih r (sput σ s g) ((H.set wm (.lst (prs r))).set h0.length (.dct (asc (sput σ s g)))) wm (some (.str s)) (some g.pv) (by omega) (by omega) (hs.put hg) hr' hfw (by simp; omega) (by rw [take_set (by omega)]; exact t1) (set_get e1) (by rw [set_oth (by omega)]; exact e2)
          refine ⟨f, H', ?_, q2, q3, by simpa only [du, hfe, if_true] using q4⟩
          rw [← q1]
          simp only [whlL]
          simp only [Fm.pv] at sa
          simp (config := {decide := false}) only [↓reduceIte, ↓bT_eq, ↓cT_eq, ↓oT_eq, bT_ok, cT_ok, oT_some, call1, ev_non, ev_bl, ev_int, ev_str, ev_gl, ev_var, ev_bop, ev_neg, ev_cmp, ev_cmp2, ev_band, ev_bor, ev_bnot, ev_ife, ev_tup, ev_lst, ev_dct, ev_idx, ev_slc, ev_call, ev_bi, ev_isi, ev_mth, ev_lc, ev_lzip, evL_nil, evL_cons, evD_cons, evD_nil, evO_none, evO_some, evS_seq, evS_rng, evS_rng2, evS_enum, evS_zip, evS_zipS, tst_band, tst_bor, tst_bnot, tst_non, tst_bl, tst_int, tst_str, tst_gl, tst_var, tst_cmp, tst_cmp2, tst_idx, tst_call, tst_bi, tst_isi, tsts_nil, tsts_cons, ex_asg, ex_tasg, ex_par, ex_sidx, ex_aug, ex_drop, ex_ret, ex_retN, ex_ifs, ex_fors, ex_whl, ex_brk, ex_cont, ex_pass, ex_never, exs_nil, exs_cons, ofOpt_some, fix_pv, fix_lst, fix_dct, fixL_nil, fixL_cons, norm_same, norm_set, o_add, o_sub, o_mul, o_mod, o_fd, o_p18, a_add, a_sub, c_eq, c_ne, c_eqs, c_nes, c_lt, c_le, c_gt, c_ge, c_is, c_isnot, b_int, b_min, b_max, b_lent, b_lenl, b_tuple, i_tup, i_lst, t_bl, t_non, t_int, ty_ss, ty_st, ty_ts, ty_tt, q_tup, l_tup, l_lst, at0, at1, p_int, isNonR, List.length_cons, List.length_nil, List.map_cons, List.map_nil, List.cons_append, List.nil_append, List.replicate_succ, List.replicate_zero, List.getElem?_cons_zero, List.getElem?_cons_succ, List.getElem?_nil, List.set_cons_zero, List.set_cons_succ, List.set_nil, Nat.sub_self, Nat.reduceSub, Nat.reduceAdd, Nat.reduceMul, Nat.zero_add, Int.reduceLT, Int.reduceLE, Nat.reduceLeDiff, LINE, if_true, if_false, Bool.false_eq_true, Bool.true_eq_false, Bool.not_true, Bool.not_false, ite_self, eq_self, Prod.fst, Prod.snd, cn, duebB, rl, pop, prd, sa [], Fm.pv, rec_asc e1, get_asc e1, gx, cq, st]
      | n w ps =>
        cases g with
        | v z =>
          refine ⟨_, H.set wm (.lst (prs r)), ?_, by rw [List.length_set]; omega, t1, .inl ⟨rfl, by simp only [du]⟩⟩
          simp only [whlL]
          simp only [Fm.pv] at sa
          simp (config := {decide := false}) only [↓reduceIte, ↓bT_eq, ↓cT_eq, ↓oT_eq, bT_ok, cT_ok, oT_some, call1, ev_non, ev_bl, ev_int, ev_str, ev_gl, ev_var, ev_bop, ev_neg, ev_cmp, ev_cmp2, ev_band, ev_bor, ev_bnot, ev_ife, ev_tup, ev_lst, ev_dct, ev_idx, ev_slc, ev_call, ev_bi, ev_isi, ev_mth, ev_lc, ev_lzip, evL_nil, evL_cons, evD_cons, evD_nil, evO_none, evO_some, evS_seq, evS_rng, evS_rng2, evS_enum, evS_zip, evS_zipS, tst_band, tst_bor, tst_bnot, tst_non, tst_bl, tst_int, tst_str, tst_gl, tst_var, tst_cmp, tst_cmp2, tst_idx, tst_call, tst_bi, tst_isi, tsts_nil, tsts_cons, ex_asg, ex_tasg, ex_par, ex_sidx, ex_aug, ex_drop, ex_ret, ex_retN, ex_ifs, ex_fors, ex_whl, ex_brk, ex_cont, ex_pass, ex_never, exs_nil, exs_cons, ofOpt_some, fix_pv, fix_lst, fix_dct, fixL_nil, fixL_cons, norm_same, norm_set, o_add, o_sub, o_mul, o_mod, o_fd, o_p18, a_add, a_sub, c_eq, c_ne, c_eqs, c_nes, c_lt, c_le, c_gt, c_ge, c_is, c_isnot, b_int, b_min, b_max, b_lent, b_lenl, b_tuple, i_tup, i_lst, t_bl, t_non, t_int, ty_ss, ty_st, ty_ts, ty_tt, q_tup, l_tup, l_lst, at0, at1, p_int, isNonR, List.length_cons, List.length_nil, List.map_cons, List.map_nil, List.cons_append, List.nil_append, List.replicate_succ, List.replicate_zero, List.getElem?_cons_zero, List.getElem?_cons_succ, List.getElem?_nil, List.set_cons_zero, List.set_cons_succ, List.set_nil, Nat.sub_self, Nat.reduceSub, Nat.reduceAdd, Nat.reduceMul, Nat.zero_add, Int.reduceLT, Int.reduceLE, Nat.reduceLeDiff, LINE, if_true, if_false, Bool.false_eq_true, Bool.true_eq_false, Bool.not_true, Bool.not_false, ite_self, eq_self, Prod.fst, Prod.snd, cn, duebB, rl, pop, prd, sa [], Fm.pv]
        | n x qs =>
          have n1 := Fm.sizes_nn ps
          simp only [Fm.size] at hn hz
          by_cases hwx : w = x
          · subst hwx
            have z1 : ((w == w)) = true := by simp
            by_cases hll : ps.length = qs.length
            · have z2 : ((((Fm.pvs ps).length : Nat) : Int) == ((Fm.pvs qs).length : Nat)) = true := by rw [Fm.pvs_len, Fm.pvs_len, hll]; simp
              have t5 : tupOf (.pv (.tup (Fm.pvs ps))) = some (Fm.pvs ps) := rfl
              have t6 : tupOf (.pv (.tup (Fm.pvs qs))) = some (Fm.pvs qs) := rfl
              have tz := tsz_zip ps qs
              have lz := len_tsz r
              have lz2 := len_tsz (ps.zip qs)
              have oa := o_addr (h := H.set wm (.lst (prs r))) (ys := zipL (Fm.pvs ps) (Fm.pvs qs)) e2 (by rw [zip_pr, prs_len, List.length_map]; unfold LINE; omega)
              rw [zip_pr, ← prs_app] at oa
              have zz : zipL (Fm.pvs ps) (Fm.pvs qs) = (ps.zip qs).map pr := zip_pr ps qs
              have tt : tsz ((ps.zip qs).reverse ++ r) = tsz (ps.zip qs) + tsz r := by rw [tsz_app, tsz_rev]
              have hlen : (H.set wm (.lst (prs r))).length = H.length := List.length_set
              obtain ⟨f, H', q1, q2, q3, q4⟩ := ih ((ps.zip qs).reverse ++ r) σ (H.set wm (.lst (prs r)) ++ [.lst (prs ((ps.zip qs).reverse ++ r))]) H.length (some (Fm.pv (.n w ps))) (some (Fm.pv (.n w qs))) (by omega) (by omega) hs (fun y hy => by
                  rcases List.mem_append.mp hy with hy | hy
                  · obtain ⟨m1, m2⟩ := zip_mem (List.mem_reverse.mp hy)
                    exact ⟨fmb_parts hp _ m1, fmb_parts hg _ m2⟩
                  · exact hr' y hy) (by omega) (by simp) (by rw [take_app (by rw [hlen]; omega)]; exact t1) (get_left e1) (get_last hlen)
              refine ⟨f, H', ?_, q2, q3, by simpa only [du, if_true, hll] using q4⟩
              rw [← q1]
              simp only [whlL]
              simp only [Fm.pv] at sa
              simp (config := {decide := false}) only [↓reduceIte, ↓bT_eq, ↓cT_eq, ↓oT_eq, bT_ok, cT_ok, oT_some, call1, ev_non, ev_bl, ev_int, ev_str, ev_gl, ev_var, ev_bop, ev_neg, ev_cmp, ev_cmp2, ev_band, ev_bor, ev_bnot, ev_ife, ev_tup, ev_lst, ev_dct, ev_idx, ev_slc, ev_call, ev_bi, ev_isi, ev_mth, ev_lc, ev_lzip, evL_nil, evL_cons, evD_cons, evD_nil, evO_none, evO_some, evS_seq, evS_rng, evS_rng2, evS_enum, evS_zip, evS_zipS, tst_band, tst_bor, tst_bnot, tst_non, tst_bl, tst_int, tst_str, tst_gl, tst_var, tst_cmp, tst_cmp2, tst_idx, tst_call, tst_bi, tst_isi, tsts_nil, tsts_cons, ex_asg, ex_tasg, ex_par, ex_sidx, ex_aug, ex_drop, ex_ret, ex_retN, ex_ifs, ex_fors, ex_whl, ex_brk, ex_cont, ex_pass, ex_never, exs_nil, exs_cons, ofOpt_some, fix_pv, fix_lst, fix_dct, fixL_nil, fixL_cons, norm_same, norm_set, o_add, o_sub, o_mul, o_mod, o_fd, o_p18, a_add, a_sub, c_eq, c_ne, c_eqs, c_nes, c_lt, c_le, c_gt, c_ge, c_is, c_isnot, b_int, b_min, b_max, b_lent, b_lenl, b_tuple, i_tup, i_lst, t_bl, t_non, t_int, ty_ss, ty_st, ty_ts, ty_tt, q_tup, l_tup, l_lst, at0, at1, p_int, isNonR, List.length_cons, List.length_nil, List.map_cons, List.map_nil, List.cons_append, List.nil_append, List.replicate_succ, List.replicate_zero, List.getElem?_cons_zero, List.getElem?_cons_succ, List.getElem?_nil, List.set_cons_zero, List.set_cons_succ, List.set_nil, Nat.sub_self, Nat.reduceSub, Nat.reduceAdd, Nat.reduceMul, Nat.zero_add, Int.reduceLT, Int.reduceLE, Nat.reduceLeDiff, LINE, if_true, if_false, Bool.false_eq_true, Bool.true_eq_false, Bool.not_true, Bool.not_false, ite_self, eq_self, Prod.fst, Prod.snd, cn, duebB, rl, pop, prd, sa [], Fm.pv, z1, z2, t5, t6, zz, oa, hlen]
            · have z2 : ((((Fm.pvs ps).length : Nat) : Int) == ((Fm.pvs qs).length : Nat)) = false := by
                rw [Fm.pvs_len, Fm.pvs_len]
                have : ((ps.length : Int)) ≠ (qs.length : Int) := by omega
                simpa using this
              refine ⟨_, H.set wm (.lst (prs r)), ?_, by rw [List.length_set]; omega, t1, .inl ⟨rfl, by simp only [du, if_true, hll, if_false]⟩⟩
              simp only [whlL]
              simp only [Fm.pv] at sa
              simp (config := {decide := false}) only [↓reduceIte, ↓bT_eq, ↓cT_eq, ↓oT_eq, bT_ok, cT_ok, oT_some, call1, ev_non, ev_bl, ev_int, ev_str, ev_gl, ev_var, ev_bop, ev_neg, ev_cmp, ev_cmp2, ev_band, ev_bor, ev_bnot, ev_ife, ev_tup, ev_lst, ev_dct, ev_idx, ev_slc, ev_call, ev_bi, ev_isi, ev_mth, ev_lc, ev_lzip, evL_nil, evL_cons, evD_cons, evD_nil, evO_none, evO_some, evS_seq, evS_rng, evS_rng2, evS_enum, evS_zip, evS_zipS, tst_band, tst_bor, tst_bnot, tst_non, tst_bl, tst_int, tst_str, tst_gl, tst_var, tst_cmp, tst_cmp2, tst_idx, tst_call, tst_bi, tst_isi, tsts_nil, tsts_cons, ex_asg, ex_tasg, ex_par, ex_sidx, ex_aug, ex_drop, ex_ret, ex_retN, ex_ifs, ex_fors, ex_whl, ex_brk, ex_cont, ex_pass, ex_never, exs_nil, exs_cons, ofOpt_some, fix_pv, fix_lst, fix_dct, fixL_nil, fixL_cons, norm_same, norm_set, o_add, o_sub, o_mul, o_mod, o_fd, o_p18, a_add, a_sub, c_eq, c_ne, c_eqs, c_nes, c_lt, c_le, c_gt, c_ge, c_is, c_isnot, b_int, b_min, b_max, b_lent, b_lenl, b_tuple, i_tup, i_lst, t_bl, t_non, t_int, ty_ss, ty_st, ty_ts, ty_tt, q_tup, l_tup, l_lst, at0, at1, p_int, isNonR, List.length_cons, List.length_nil, List.map_cons, List.map_nil, List.cons_append, List.nil_append, List.replicate_succ, List.replicate_zero, List.getElem?_cons_zero, List.getElem?_cons_succ, List.getElem?_nil, List.set_cons_zero, List.set_cons_succ, List.set_nil, Nat.sub_self, Nat.reduceSub, Nat.reduceAdd, Nat.reduceMul, Nat.zero_add, Int.reduceLT, Int.reduceLE, Nat.reduceLeDiff, LINE, if_true, if_false, Bool.false_eq_true, Bool.true_eq_false, Bool.not_true, Bool.not_false, ite_self, eq_self, Prod.fst, Prod.snd, cn, duebB, rl, pop, prd, sa [], Fm.pv, z1, z2]
          · have z1 : (w == x) = false := by simpa using hwx
            refine ⟨_, H.set wm (.lst (prs r)), ?_, by rw [List.length_set]; omega, t1, .inl ⟨rfl, by simp only [du, hwx, if_false]⟩⟩
            simp only [whlL]
            simp only [Fm.pv] at sa
            simp (config := {decide := false}) only [↓reduceIte, ↓bT_eq, ↓cT_eq, ↓oT_eq, bT_ok, cT_ok, oT_some, call1, ev_non, ev_bl, ev_int, ev_str, ev_gl, ev_var, ev_bop, ev_neg, ev_cmp, ev_cmp2, ev_band, ev_bor, ev_bnot, ev_ife, ev_tup, ev_lst, ev_dct, ev_idx, ev_slc, ev_call, ev_bi, ev_isi, ev_mth, ev_lc, ev_lzip, evL_nil, evL_cons, evD_cons, evD_nil, evO_none, evO_some, evS_seq, evS_rng, evS_rng2, evS_enum, evS_zip, evS_zipS, tst_band, tst_bor, tst_bnot, tst_non, tst_bl, tst_int, tst_str, tst_gl, tst_var, tst_cmp, tst_cmp2, tst_idx, tst_call, tst_bi, tst_isi, tsts_nil, tsts_cons, ex_asg, ex_tasg, ex_par, ex_sidx, ex_aug, ex_drop, ex_ret, ex_retN, ex_ifs, ex_fors, ex_whl, ex_brk, ex_cont, ex_pass, ex_never, exs_nil, exs_cons, ofOpt_some, fix_pv, fix_lst, fix_dct, fixL_nil, fixL_cons, norm_same, norm_set, o_add, o_sub, o_mul, o_mod, o_fd, o_p18, a_add, a_sub, c_eq, c_ne, c_eqs, c_nes, c_lt, c_le, c_gt, c_ge, c_is, c_isnot, b_int, b_min, b_max, b_lent, b_lenl, b_tuple, i_tup, i_lst, t_bl, t_non, t_int, ty_ss, ty_st, ty_ts, ty_tt, q_tup, l_tup, l_lst, at0, at1, p_int, isNonR, List.length_cons, List.length_nil, List.map_cons, List.map_nil, List.cons_append, List.nil_append, List.replicate_succ, List.replicate_zero, List.getElem?_cons_zero, List.getElem?_cons_succ, List.getElem?_nil, List.set_cons_zero, List.set_cons_succ, List.set_nil, Nat.sub_self, Nat.reduceSub, Nat.reduceAdd, Nat.reduceMul, Nat.zero_add, Int.reduceLT, Int.reduceLE, Nat.reduceLeDiff, LINE, if_true, if_false, Bool.false_eq_true, Bool.true_eq_false, Bool.not_true, Bool.not_false, ite_self, eq_self, Prod.fst, Prod.snd, cn, duebB, rl, pop, prd, sa [], Fm.pv, z1]
theorem run_dueb {iU : Nat} (hU : P[iU]? = some dueb) {f g : Fm} (hf : Fmb 15 f) (hg : Fmb 15 g) (hz : f.size ≤ 700000) :
    run P G (k + 1) iU [g.pv, f.pv] h = .ok (.pv (.bl (du TURNS [(f, g)] []).isSome)) h := by
  have tz : tsz [(f, g)] = f.size.toNat := by simp [tsz]
  have e1 : (h ++ [MO.dct []] ++ [MO.lst [PV.tup [f.pv, g.pv]]])[h.length]? = some (.dct (asc [])) := get_left (get_last rfl)
  have e2 : (h ++ [MO.dct []] ++ [MO.lst [PV.tup [f.pv, g.pv]]])[h.length + 1]? = some (.lst (prs [(f, g)])) := get_last (by simp)
  obtain ⟨fl, H', q1, q2, q3, q4⟩ := dueb_loop (F := run P G k) (G := G) (a := some g.pv) (b := some f.pv) (h0 := h) rfl TURNS [(f, g)] [] (h ++ [MO.dct []] ++ [MO.lst [PV.tup [f.pv, g.pv]]]) (h.length + 1) none none (by rw [tz]; unfold TURNS; omega) (by rw [tz]; simp; omega) (fun _ _ z => by cases z) (fun x hx => by
    have : x = (f, g) := by simpa using hx
    subst this; exact ⟨hf, hg⟩) (by omega) (by simp) (by simp) e1 e2
  have hlen : (h ++ [MO.dct []]).length = h.length + 1 := by simp
  rcases q4 with ⟨rfl, d⟩ | ⟨σ', x, y, z, rfl, e3, d⟩
  · rw [d, run_at hU]
    simp (config := {decide := false}) only [↓reduceIte, ↓bT_eq, ↓cT_eq, ↓oT_eq, bT_ok, cT_ok, oT_some, call1, ev_non, ev_bl, ev_int, ev_str, ev_gl, ev_var, ev_bop, ev_neg, ev_cmp, ev_cmp2, ev_band, ev_bor, ev_bnot, ev_ife, ev_tup, ev_lst, ev_dct, ev_idx, ev_slc, ev_call, ev_bi, ev_isi, ev_mth, ev_lc, ev_lzip, evL_nil, evL_cons, evD_cons, evD_nil, evO_none, evO_some, evS_seq, evS_rng, evS_rng2, evS_enum, evS_zip, evS_zipS, tst_band, tst_bor, tst_bnot, tst_non, tst_bl, tst_int, tst_str, tst_gl, tst_var, tst_cmp, tst_cmp2, tst_idx, tst_call, tst_bi, tst_isi, tsts_nil, tsts_cons, ex_asg, ex_tasg, ex_par, ex_sidx, ex_aug, ex_drop, ex_ret, ex_retN, ex_ifs, ex_fors, ex_whl, ex_brk, ex_cont, ex_pass, ex_never, exs_nil, exs_cons, ofOpt_some, fix_pv, fix_lst, fix_dct, fixL_nil, fixL_cons, norm_same, norm_set, o_add, o_sub, o_mul, o_mod, o_fd, o_p18, a_add, a_sub, c_eq, c_ne, c_eqs, c_nes, c_lt, c_le, c_gt, c_ge, c_is, c_isnot, b_int, b_min, b_max, b_lent, b_lenl, b_tuple, i_tup, i_lst, t_bl, t_non, t_int, ty_ss, ty_st, ty_ts, ty_tt, q_tup, l_tup, l_lst, at0, at1, p_int, isNonR, List.length_cons, List.length_nil, List.map_cons, List.map_nil, List.cons_append, List.nil_append, List.replicate_succ, List.replicate_zero, List.getElem?_cons_zero, List.getElem?_cons_succ, List.getElem?_nil, List.set_cons_zero, List.set_cons_succ, List.set_nil, Nat.sub_self, Nat.reduceSub, Nat.reduceAdd, Nat.reduceMul, Nat.zero_add, Int.reduceLT, Int.reduceLE, Nat.reduceLeDiff, LINE, if_true, if_false, Bool.false_eq_true, Bool.true_eq_false, Bool.not_true, Bool.not_false, ite_self, eq_self, Prod.fst, Prod.snd, dueb, List.foldl_nil, hlen, q1, Option.isSome, norm_bl q2 q3]
  · rw [d, run_at hU]
    simp (config := {decide := false}) only [↓reduceIte, ↓bT_eq, ↓cT_eq, ↓oT_eq, bT_ok, cT_ok, oT_some, call1, ev_non, ev_bl, ev_int, ev_str, ev_gl, ev_var, ev_bop, ev_neg, ev_cmp, ev_cmp2, ev_band, ev_bor, ev_bnot, ev_ife, ev_tup, ev_lst, ev_dct, ev_idx, ev_slc, ev_call, ev_bi, ev_isi, ev_mth, ev_lc, ev_lzip, evL_nil, evL_cons, evD_cons, evD_nil, evO_none, evO_some, evS_seq, evS_rng, evS_rng2, evS_enum, evS_zip, evS_zipS, tst_band, tst_bor, tst_bnot, tst_non, tst_bl, tst_int, tst_str, tst_gl, tst_var, tst_cmp, tst_cmp2, tst_idx, tst_call, tst_bi, tst_isi, tsts_nil, tsts_cons, ex_asg, ex_tasg, ex_par, ex_sidx, ex_aug, ex_drop, ex_ret, ex_retN, ex_ifs, ex_fors, ex_whl, ex_brk, ex_cont, ex_pass, ex_never, exs_nil, exs_cons, ofOpt_some, fix_pv, fix_lst, fix_dct, fixL_nil, fixL_cons, norm_same, norm_set, o_add, o_sub, o_mul, o_mod, o_fd, o_p18, a_add, a_sub, c_eq, c_ne, c_eqs, c_nes, c_lt, c_le, c_gt, c_ge, c_is, c_isnot, b_int, b_min, b_max, b_lent, b_lenl, b_tuple, i_tup, i_lst, t_bl, t_non, t_int, ty_ss, ty_st, ty_ts, ty_tt, q_tup, l_tup, l_lst, at0, at1, p_int, isNonR, List.length_cons, List.length_nil, List.map_cons, List.map_nil, List.cons_append, List.nil_append, List.replicate_succ, List.replicate_zero, List.getElem?_cons_zero, List.getElem?_cons_succ, List.getElem?_nil, List.set_cons_zero, List.set_cons_succ, List.set_nil, Nat.sub_self, Nat.reduceSub, Nat.reduceAdd, Nat.reduceMul, Nat.zero_add, Int.reduceLT, Int.reduceLE, Nat.reduceLeDiff, LINE, if_true, if_false, Bool.false_eq_true, Bool.true_eq_false, Bool.not_true, Bool.not_false, ite_self, eq_self, Prod.fst, Prod.snd, dueb, List.foldl_nil, hlen, q1, Option.isSome, norm_bl q2 q3]
end Lib
end Pf
/-! PfFroz: a pattern's variables held fast; one pattern as a special case of the other. -/
namespace Pf
namespace Lib
variable {P : List FDef} {G : List PV} {k : Nat} {h : MH}
def frozen (iF : Nat) : FDef := ⟨1, 2, (.cons (.ifs (.isi (.var 0) .tStr) (.cons (.ret (.tup (.cons (.bop .Add (.str [63]) (.var 0)) (.cons (.tup .nil) .nil)))) .nil) .nil) (.cons (.ret (.tup (.cons (.idx (.var 0) (.int 0)) (.cons (.bi .tuple (.cons (.lc (.call iF (.cons (.var 1) .nil)) (.nm 1) (.seq (.idx (.var 0) (.int 1))) .nil [1]) .nil)) .nil)))) .nil))⟩
def special (iMt iF : Nat) : FDef := ⟨2, 2, (.cons (.ret (.call iMt (.cons (.var 1) (.cons (.call iF (.cons (.var 0) .nil)) (.cons (.dct .nil) .nil))))) .nil)⟩
def isas (iN iS : Nat) : FDef := ⟨2, 2, (.cons (.drop (.call iN (.cons (.var 0) .nil))) (.cons (.drop (.call iN (.cons (.var 1) .nil))) (.cons (.ret (.call iS (.cons (.var 0) (.cons (.var 1) .nil)))) .nil)))⟩
def alike (iN iS : Nat) : FDef := ⟨2, 2, (.cons (.drop (.call iN (.cons (.var 0) .nil))) (.cons (.drop (.call iN (.cons (.var 1) .nil))) (.cons (.ret (.band (.call iS (.cons (.var 0) (.cons (.var 1) .nil))) (.call iS (.cons (.var 1) (.cons (.var 0) .nil))))) .nil)))⟩
mutual
def fz : Fm → Fm
  | .v s => .n (63 :: s) []
  | .n w ps => .n w (fzs ps)
def fzs : List Fm → List Fm
  | [] => []
  | p :: ps => fz p :: fzs ps
end
theorem fzs_map : ∀ ps, fzs ps = ps.map fz
  | [] => rfl
  | p :: ps => by simp [fzs, fzs_map ps]
theorem run_frozen {iF : Nat} (hF : P[iF]? = some (frozen iF)) : ∀ {b : Nat} {f : Fm} {k : Nat}, Fmb b f → run P G (k + b) iF [f.pv] h = .ok (.pv (fz f).pv) h := by
  intro b
  induction b with
  | zero => intro f k hf; cases hf
  | succ b ih =>
    intro f k hf
    show run P G ((k + b) + 1) iF _ _ = _
    cases hf with
    | @v _ s hs =>
      rw [run_at hF]
      have l : s.length + 1 ≤ LINE := by unfold LINE; omega
      have o : binOp .Add h (.pv (.str [63])) (.pv (.str s)) = some (.pv (.str (63 :: s))) := by simp [binOp]; unfold LINE; omega
      simp (config := {decide := false}) only [↓reduceIte, ↓bT_eq, ↓cT_eq, ↓oT_eq, bT_ok, cT_ok, oT_some, call1, ev_non, ev_bl, ev_int, ev_str, ev_gl, ev_var, ev_bop, ev_neg, ev_cmp, ev_cmp2, ev_band, ev_bor, ev_bnot, ev_ife, ev_tup, ev_lst, ev_dct, ev_idx, ev_slc, ev_call, ev_bi, ev_isi, ev_mth, ev_lc, ev_lzip, evL_nil, evL_cons, evD_cons, evD_nil, evO_none, evO_some, evS_seq, evS_rng, evS_rng2, evS_enum, evS_zip, evS_zipS, tst_band, tst_bor, tst_bnot, tst_non, tst_bl, tst_int, tst_str, tst_gl, tst_var, tst_cmp, tst_cmp2, tst_idx, tst_call, tst_bi, tst_isi, tsts_nil, tsts_cons, ex_asg, ex_tasg, ex_par, ex_sidx, ex_aug, ex_drop, ex_ret, ex_retN, ex_ifs, ex_fors, ex_whl, ex_brk, ex_cont, ex_pass, ex_never, exs_nil, exs_cons, ofOpt_some, fix_pv, fix_lst, fix_dct, fixL_nil, fixL_cons, norm_same, norm_set, o_add, o_sub, o_mul, o_mod, o_fd, o_p18, a_add, a_sub, c_eq, c_ne, c_eqs, c_nes, c_lt, c_le, c_gt, c_ge, c_is, c_isnot, b_int, b_min, b_max, b_lent, b_lenl, b_tuple, i_tup, i_lst, t_bl, t_non, t_int, ty_ss, ty_st, ty_ts, ty_tt, q_tup, l_tup, l_lst, at0, at1, p_int, isNonR, List.length_cons, List.length_nil, List.map_cons, List.map_nil, List.cons_append, List.nil_append, List.replicate_succ, List.replicate_zero, List.getElem?_cons_zero, List.getElem?_cons_succ, List.getElem?_nil, List.set_cons_zero, List.set_cons_succ, List.set_nil, Nat.sub_self, Nat.reduceSub, Nat.reduceAdd, Nat.reduceMul, Nat.zero_add, Int.reduceLT, Int.reduceLE, Nat.reduceLeDiff, LINE, if_true, if_false, Bool.false_eq_true, Bool.true_eq_false, Bool.not_true, Bool.not_false, ite_self, eq_self, Prod.fst, Prod.snd, frozen, Fm.pv, Fm.pvs, o, fz]
    | @n _ w ps hw l q =>
      have c := comp_fm (G := G) (F := run P G (k + b)) (h := h) (elt := ev (run P G (k + b)) G (.call iF (.cons (.var 1) .nil))) (i := 1) (e := [some (Fm.pv (.n w ps)), none]) (g := fun p => (fz p).pv) (ps := ps) (acc := []) (fun p hp => by simp (config := {decide := false}) only [↓reduceIte, ↓bT_eq, ↓cT_eq, ↓oT_eq, bT_ok, cT_ok, oT_some, call1, ev_non, ev_bl, ev_int, ev_str, ev_gl, ev_var, ev_bop, ev_neg, ev_cmp, ev_cmp2, ev_band, ev_bor, ev_bnot, ev_ife, ev_tup, ev_lst, ev_dct, ev_idx, ev_slc, ev_call, ev_bi, ev_isi, ev_mth, ev_lc, ev_lzip, evL_nil, evL_cons, evD_cons, evD_nil, evO_none, evO_some, evS_seq, evS_rng, evS_rng2, evS_enum, evS_zip, evS_zipS, tst_band, tst_bor, tst_bnot, tst_non, tst_bl, tst_int, tst_str, tst_gl, tst_var, tst_cmp, tst_cmp2, tst_idx, tst_call, tst_bi, tst_isi, tsts_nil, tsts_cons, ex_asg, ex_tasg, ex_par, ex_sidx, ex_aug, ex_drop, ex_ret, ex_retN, ex_ifs, ex_fors, ex_whl, ex_brk, ex_cont, ex_pass, ex_never, exs_nil, exs_cons, ofOpt_some, fix_pv, fix_lst, fix_dct, fixL_nil, fixL_cons, norm_same, norm_set, o_add, o_sub, o_mul, o_mod, o_fd, o_p18, a_add, a_sub, c_eq, c_ne, c_eqs, c_nes, c_lt, c_le, c_gt, c_ge, c_is, c_isnot, b_int, b_min, b_max, b_lent, b_lenl, b_tuple, i_tup, i_lst, t_bl, t_non, t_int, ty_ss, ty_st, ty_ts, ty_tt, q_tup, l_tup, l_lst, at0, at1, p_int, isNonR, List.length_cons, List.length_nil, List.map_cons, List.map_nil, List.cons_append, List.nil_append, List.replicate_succ, List.replicate_zero, List.getElem?_cons_zero, List.getElem?_cons_succ, List.getElem?_nil, List.set_cons_zero, List.set_cons_succ, List.set_nil, Nat.sub_self, Nat.reduceSub, Nat.reduceAdd, Nat.reduceMul, Nat.zero_add, Int.reduceLT, Int.reduceLE, Nat.reduceLeDiff, LINE, if_true, if_false, Bool.false_eq_true, Bool.true_eq_false, Bool.not_true, Bool.not_false, ite_self, eq_self, Prod.fst, Prod.snd, ih (q p hp)]) (by simp; unfold LINE; omega)
      have ee : ps.map (fun p => (fz p).pv) = Fm.pvs (fzs ps) := by rw [fzs_map, Fm.pvs_map, List.map_map]; rfl
      rw [ee] at c
      simp only [Fm.pv, List.nil_append] at c
      rw [run_at hF]
      simp (config := {decide := false}) only [↓reduceIte, ↓bT_eq, ↓cT_eq, ↓oT_eq, bT_ok, cT_ok, oT_some, call1, ev_non, ev_bl, ev_int, ev_str, ev_gl, ev_var, ev_bop, ev_neg, ev_cmp, ev_cmp2, ev_band, ev_bor, ev_bnot, ev_ife, ev_tup, ev_lst, ev_dct, ev_idx, ev_slc, ev_call, ev_bi, ev_isi, ev_mth, ev_lc, ev_lzip, evL_nil, evL_cons, evD_cons, evD_nil, evO_none, evO_some, evS_seq, evS_rng, evS_rng2, evS_enum, evS_zip, evS_zipS, tst_band, tst_bor, tst_bnot, tst_non, tst_bl, tst_int, tst_str, tst_gl, tst_var, tst_cmp, tst_cmp2, tst_idx, tst_call, tst_bi, tst_isi, tsts_nil, tsts_cons, ex_asg, ex_tasg, ex_par, ex_sidx, ex_aug, ex_drop, ex_ret, ex_retN, ex_ifs, ex_fors, ex_whl, ex_brk, ex_cont, ex_pass, ex_never, exs_nil, exs_cons, ofOpt_some, fix_pv, fix_lst, fix_dct, fixL_nil, fixL_cons, norm_same, norm_set, o_add, o_sub, o_mul, o_mod, o_fd, o_p18, a_add, a_sub, c_eq, c_ne, c_eqs, c_nes, c_lt, c_le, c_gt, c_ge, c_is, c_isnot, b_int, b_min, b_max, b_lent, b_lenl, b_tuple, i_tup, i_lst, t_bl, t_non, t_int, ty_ss, ty_st, ty_ts, ty_tt, q_tup, l_tup, l_lst, at0, at1, p_int, isNonR, List.length_cons, List.length_nil, List.map_cons, List.map_nil, List.cons_append, List.nil_append, List.replicate_succ, List.replicate_zero, List.getElem?_cons_zero, List.getElem?_cons_succ, List.getElem?_nil, List.set_cons_zero, List.set_cons_succ, List.set_nil, Nat.sub_self, Nat.reduceSub, Nat.reduceAdd, Nat.reduceMul, Nat.zero_add, Int.reduceLT, Int.reduceLE, Nat.reduceLeDiff, LINE, if_true, if_false, Bool.false_eq_true, Bool.true_eq_false, Bool.not_true, Bool.not_false, ite_self, eq_self, Prod.fst, Prod.snd, frozen, Fm.pv, wipeE, c, fz]
/-- variables of one sign -/
inductive Vs : Fm → Prop where
  | v {c : Nat} : Vs (.v [c])
  | n {w : Txt} {ps : List Fm} (hw : ∀ x, w ≠ 63 :: x) (q : ∀ p ∈ ps, Vs p) : Vs (.n w ps)
theorem fz_fmb {b : Nat} : ∀ {f : Fm}, Vs f → Fmb b f → Fmb b (fz f) := by
  induction b with
  | zero => intro f _ h; cases h
  | succ b ih =>
    intro f v h
    cases h with
    | v hl =>
      cases v
      simp only [fz]
      exact .n (by simp) (by simp) fun p hp => by cases hp
    | n hw l q =>
      cases v with
      | n hv qv =>
        simp only [fz]
        refine .n hw (by rw [fzs_map, List.length_map]; exact l) fun p hp => ?_
        rw [fzs_map] at hp
        obtain ⟨r, hr, rfl⟩ := List.mem_map.mp hp
        exact ih (qv r hr) (q r hr)
mutual
theorem fz_inj : ∀ {f g : Fm}, Vs f → Vs g → fz f = fz g → f = g
  | .v s, .v t, _, _, e => by
    simp only [fz, Fm.n.injEq, List.cons.injEq, true_and, and_true] at e
    rw [e]
  | .v s, .n w ps, _, hg, e => by
    simp only [fz, Fm.n.injEq] at e
    cases hg with
    | n hw _ => exact absurd e.1.symm (hw s)
  | .n w ps, .v s, hf, _, e => by
    simp only [fz, Fm.n.injEq] at e
    cases hf with
    | n hw _ => exact absurd e.1 (hw s)
  | .n w ps, .n x qs, hf, hg, e => by
    simp only [fz, Fm.n.injEq] at e
    cases hf with
    | n _ h1 =>
      cases hg with
      | n _ h2 => rw [e.1, fzs_inj h1 h2 e.2]
theorem fzs_inj : ∀ {ps qs : List Fm}, (∀ p ∈ ps, Vs p) → (∀ q ∈ qs, Vs q) → fzs ps = fzs qs → ps = qs
  | [], [], _, _, _ => rfl
  | [], _ :: _, _, _, e => by simp [fzs] at e
  | _ :: _, [], _, _, e => by simp [fzs] at e
  | p :: ps, q :: qs, h1, h2, e => by
    simp only [fzs, List.cons.injEq] at e
    rw [fz_inj (h1 p List.mem_cons_self) (h2 q List.mem_cons_self) e.1, fzs_inj (fun x hx => h1 x (List.mem_cons_of_mem _ hx)) (fun x hx => h2 x (List.mem_cons_of_mem _ hx)) e.2]
end
def fzp (x : Fm × Fm) : Fm × Fm := (x.1, fz x.2)
def fzk (x : Txt × Fm) : Txt × Fm := (x.1, fz x.2)
theorem slook_fz : ∀ (σ : Sub) (s : Txt), slook (σ.map fzk) s = (slook σ s).map fz
  | [], s => rfl
  | (t, g) :: σ, s => by
    simp only [List.map_cons, fzk, slook]
    split
    · rfl
    · exact slook_fz σ s
theorem sput_fz : ∀ (σ : Sub) (s : Txt) (g : Fm), sput (σ.map fzk) s (fz g) = (sput σ s g).map fzk
  | [], s, g => rfl
  | (t, x) :: σ, s, g => by
    simp only [List.map_cons, fzk, sput]
    split
    · rfl
    · simp only [List.map_cons, fzk]
      rw [← sput_fz σ s g]
theorem feq_fz {x g : Fm} (hx : Vs x) (hg : Vs g) : feq (fz x) (fz g) = feq x g := by
  cases e : feq x g with
  | true => rw [feq_iff.mp e]; exact feq_iff.mpr rfl
  | false =>
    cases e2 : feq (fz x) (fz g) with
    | false => rfl
    | true =>
      rw [fz_inj hx hg (feq_iff.mp e2)] at e
      exact (Bool.noConfusion ((feq_iff.mpr rfl).symm.trans e))
theorem sput_vs {σ : Sub} {s : Txt} {g : Fm} (h : ∀ s y, slook σ s = some y → Vs y) (hg : Vs g) : ∀ t y, slook (sput σ s g) t = some y → Vs y := fun t y e => by
  rw [slook_sput] at e
  split at e
  · cases e; exact hg
  · exact h t y e
theorem zip_fz : ∀ ps qs : List Fm, ps.zip (fzs qs) = (ps.zip qs).map fzp
  | [], qs => by cases qs <;> rfl
  | _ :: _, [] => rfl
  | p :: ps, q :: qs => by simp only [fzs, List.zip_cons_cons, List.map_cons, zip_fz ps qs, fzp]
theorem du_fz : ∀ (n : Nat) (r : List (Fm × Fm)) (σ : Sub), (∀ x ∈ r, Vs x.1 ∧ Vs x.2) → (∀ s y, slook σ s = some y → Vs y) → (du n (r.map fzp) (σ.map fzk)).isSome = (du n r σ).isSome
  | 0, _, _, _, _ => rfl
  | n + 1, [], _, _, _ => rfl
  | n + 1, (.v s, g) :: r, σ, hr, hs => by
    have hg := (hr _ List.mem_cons_self).2
    have hg : Vs g := hg
    have gx : ((slook (σ.map fzk) s).getD (fz g)) = fz ((slook σ s).getD g) := by rw [slook_fz]; cases slook σ s <;> rfl
    have vx : Vs ((slook σ s).getD g) := by
      cases e : slook σ s with
      | none => exact hg
      | some y => exact hs s y e
    simp only [List.map_cons, fzp, du, gx, feq_fz vx hg]
    split
    · rw [sput_fz]
      exact du_fz n r _ (fun x hx => hr x (List.mem_cons_of_mem _ hx)) (sput_vs hs hg)
    · rfl
  | n + 1, (.n w ps, .n x qs) :: r, σ, hr, hs => by
    simp only [List.map_cons, fzp, fz, du]
    have l : (fzs qs).length = qs.length := by rw [fzs_map, List.length_map]
    rw [l]
    split
    · split
      · have e : (ps.zip (fzs qs)).reverse ++ r.map fzp = ((ps.zip qs).reverse ++ r).map fzp := by rw [zip_fz, List.map_append, List.map_reverse]
        have e : (ps.zip (fzs qs)).reverse ++ List.map (fun x => (x.1, fz x.2)) r = ((ps.zip qs).reverse ++ r).map fzp := e
        rw [show (List.map fzp r) = List.map (fun x => (x.1, fz x.2)) r from rfl, e]
        have h0 := hr _ List.mem_cons_self
        refine du_fz n _ σ (fun y hy => ?_) hs
        rcases List.mem_append.mp hy with hy | hy
        · obtain ⟨m1, m2⟩ := zip_mem (List.mem_reverse.mp hy)
          obtain ⟨v1, v2⟩ := h0
          cases v1 with
          | n _ q1 =>
            cases v2 with
            | n _ q2 => exact ⟨q1 _ m1, q2 _ m2⟩
        · exact hr y (List.mem_cons_of_mem _ hy)
      · rfl
    · rfl
  | n + 1, (.n w ps, .v s) :: r, σ, hr, hs => by
    have h0 := (hr _ List.mem_cons_self).1
    have ne : w ≠ 63 :: s := by
      cases h0 with
      | n hw _ => exact hw s
    simp only [List.map_cons, fzp, fz, du, ne, if_false]
end Lib
end Pf
/-! PfSpec: is_as_special and are_alike answer as the law's walk. -/
namespace Pf
namespace Lib
variable {P : List FDef} {G : List PV} {k : Nat} {h : MH}
/-- other can be brought to one -/
def asp (f g : Fm) : Bool := (du TURNS [(g, f)] []).isSome
theorem mt_asp {f g : Fm} (hf : Vs f) (hg : Vs g) (hz : g.size < 900000) : (mt g (fz f) []).1 = asp f g := by
  have s := same g (fz f) hz
  have d : (du TURNS [(g, fz f)] []).isSome = asp f g := du_fz TURNS [(g, f)] [] (fun x hx => by
    have : x = (g, f) := by simpa using hx
    subst this; exact ⟨hg, hf⟩) (fun _ _ z => by cases z)
  rw [← d]
  cases e : du TURNS [(g, fz f)] [] with
  | none => rw [e] at s; simpa using s
  | some σ => rw [e] at s; simpa using s.1
theorem run_special {iS iMt iF lv : Nat} (hS : P[iS]? = some (special iMt iF)) (hM : P[iMt]? = some (matched iMt)) (hF : P[iF]? = some (frozen iF)) {b c : Nat} {f g : Fm} (hb : b ≤ lv) (hc : c ≤ lv) (hg : Fmb b g) (hf : Fmb c f) (hc2 : c ≤ 15) (vf : Vs f) (vg : Vs g) (hz : g.size ≤ 800000) :
    run P G (lv + 1) iS [f.pv, g.pv] h = .ok (.pv (.bl (asp f g))) h := by
  have e0 : (h ++ [MO.dct []])[h.length]? = some (.dct (asc [])) := get_last rfl
  obtain ⟨m, e1⟩ : ∃ m, lv = m + b := ⟨lv - b, by omega⟩
  obtain ⟨n, e2⟩ : ∃ n, lv = n + c := ⟨lv - c, by omega⟩
  obtain ⟨q, _⟩ := run_matched (G := G) hM (k := m) (m := h.length) (h := h ++ [.dct []]) (σ := []) hg ((fz_fmb vf hf).mono hc2) (fun _ _ z => by cases z) (by simp; omega) e0
  rw [← e1] at q
  rw [set_last rfl, mt_asp vf vg (by omega)] at q
  have q2 := run_frozen (G := G) (h := h) (k := n) hF hf
  rw [← e2] at q2
  have hl : h.length < (h ++ [MO.dct (asc (mt g (fz f) []).2)]).length := by simp
  have ht : (h ++ [MO.dct (asc (mt g (fz f) []).2)]).take h.length = h := by simp
  rw [run_at hS]; simp (config := {decide := false}) only [↓reduceIte, ↓bT_eq, ↓cT_eq, ↓oT_eq, bT_ok, cT_ok, oT_some, call1, ev_non, ev_bl, ev_int, ev_str, ev_gl, ev_var, ev_bop, ev_neg, ev_cmp, ev_cmp2, ev_band, ev_bor, ev_bnot, ev_ife, ev_tup, ev_lst, ev_dct, ev_idx, ev_slc, ev_call, ev_bi, ev_isi, ev_mth, ev_lc, ev_lzip, evL_nil, evL_cons, evD_cons, evD_nil, evO_none, evO_some, evS_seq, evS_rng, evS_rng2, evS_enum, evS_zip, evS_zipS, tst_band, tst_bor, tst_bnot, tst_non, tst_bl, tst_int, tst_str, tst_gl, tst_var, tst_cmp, tst_cmp2, tst_idx, tst_call, tst_bi, tst_isi, tsts_nil, tsts_cons, ex_asg, ex_tasg, ex_par, ex_sidx, ex_aug, ex_drop, ex_ret, ex_retN, ex_ifs, ex_fors, ex_whl, ex_brk, ex_cont, ex_pass, ex_never, exs_nil, exs_cons, ofOpt_some, fix_pv, fix_lst, fix_dct, fixL_nil, fixL_cons, norm_same, norm_set, o_add, o_sub, o_mul, o_mod, o_fd, o_p18, a_add, a_sub, c_eq, c_ne, c_eqs, c_nes, c_lt, c_le, c_gt, c_ge, c_is, c_isnot, b_int, b_min, b_max, b_lent, b_lenl, b_tuple, i_tup, i_lst, t_bl, t_non, t_int, ty_ss, ty_st, ty_ts, ty_tt, q_tup, l_tup, l_lst, at0, at1, p_int, isNonR, List.length_cons, List.length_nil, List.map_cons, List.map_nil, List.cons_append, List.nil_append, List.replicate_succ, List.replicate_zero, List.getElem?_cons_zero, List.getElem?_cons_succ, List.getElem?_nil, List.set_cons_zero, List.set_cons_succ, List.set_nil, Nat.sub_self, Nat.reduceSub, Nat.reduceAdd, Nat.reduceMul, Nat.zero_add, Int.reduceLT, Int.reduceLE, Nat.reduceLeDiff, LINE, if_true, if_false, Bool.false_eq_true, Bool.true_eq_false, Bool.not_true, Bool.not_false, ite_self, eq_self, Prod.fst, Prod.snd, special, q2, List.foldl_nil, q, norm_bl hl ht]
theorem run_isas {iX iN iS lv : Nat} (hX : P[iX]? = some (isas iN iS)) {f g : Fm} (n1 : ∀ h, run P G lv iN [f.pv] h = .ok (.pv .non) h) (n2 : ∀ h, run P G lv iN [g.pv] h = .ok (.pv .non) h) (q : ∀ h, run P G lv iS [f.pv, g.pv] h = .ok (.pv (.bl (asp f g))) h) :
    run P G (lv + 1) iX [f.pv, g.pv] h = .ok (.pv (.bl (asp f g))) h := by
  rw [run_at hX]; simp (config := {decide := false}) only [↓reduceIte, ↓bT_eq, ↓cT_eq, ↓oT_eq, bT_ok, cT_ok, oT_some, call1, ev_non, ev_bl, ev_int, ev_str, ev_gl, ev_var, ev_bop, ev_neg, ev_cmp, ev_cmp2, ev_band, ev_bor, ev_bnot, ev_ife, ev_tup, ev_lst, ev_dct, ev_idx, ev_slc, ev_call, ev_bi, ev_isi, ev_mth, ev_lc, ev_lzip, evL_nil, evL_cons, evD_cons, evD_nil, evO_none, evO_some, evS_seq, evS_rng, evS_rng2, evS_enum, evS_zip, evS_zipS, tst_band, tst_bor, tst_bnot, tst_non, tst_bl, tst_int, tst_str, tst_gl, tst_var, tst_cmp, tst_cmp2, tst_idx, tst_call, tst_bi, tst_isi, tsts_nil, tsts_cons, ex_asg, ex_tasg, ex_par, ex_sidx, ex_aug, ex_drop, ex_ret, ex_retN, ex_ifs, ex_fors, ex_whl, ex_brk, ex_cont, ex_pass, ex_never, exs_nil, exs_cons, ofOpt_some, fix_pv, fix_lst, fix_dct, fixL_nil, fixL_cons, norm_same, norm_set, o_add, o_sub, o_mul, o_mod, o_fd, o_p18, a_add, a_sub, c_eq, c_ne, c_eqs, c_nes, c_lt, c_le, c_gt, c_ge, c_is, c_isnot, b_int, b_min, b_max, b_lent, b_lenl, b_tuple, i_tup, i_lst, t_bl, t_non, t_int, ty_ss, ty_st, ty_ts, ty_tt, q_tup, l_tup, l_lst, at0, at1, p_int, isNonR, List.length_cons, List.length_nil, List.map_cons, List.map_nil, List.cons_append, List.nil_append, List.replicate_succ, List.replicate_zero, List.getElem?_cons_zero, List.getElem?_cons_succ, List.getElem?_nil, List.set_cons_zero, List.set_cons_succ, List.set_nil, Nat.sub_self, Nat.reduceSub, Nat.reduceAdd, Nat.reduceMul, Nat.zero_add, Int.reduceLT, Int.reduceLE, Nat.reduceLeDiff, LINE, if_true, if_false, Bool.false_eq_true, Bool.true_eq_false, Bool.not_true, Bool.not_false, ite_self, eq_self, Prod.fst, Prod.snd, isas, n1, n2, q]
theorem run_alike {iX iN iS lv : Nat} (hX : P[iX]? = some (alike iN iS)) {f g : Fm} (n1 : ∀ h, run P G lv iN [f.pv] h = .ok (.pv .non) h) (n2 : ∀ h, run P G lv iN [g.pv] h = .ok (.pv .non) h) (q : ∀ h, run P G lv iS [f.pv, g.pv] h = .ok (.pv (.bl (asp f g))) h) (q2 : ∀ h, run P G lv iS [g.pv, f.pv] h = .ok (.pv (.bl (asp g f))) h) :
    run P G (lv + 1) iX [f.pv, g.pv] h = .ok (.pv (.bl (asp f g && asp g f))) h := by
  rw [run_at hX]
  cases e : asp f g <;> simp only [e] at q <;> simp (config := {decide := false}) only [↓reduceIte, ↓bT_eq, ↓cT_eq, ↓oT_eq, bT_ok, cT_ok, oT_some, call1, ev_non, ev_bl, ev_int, ev_str, ev_gl, ev_var, ev_bop, ev_neg, ev_cmp, ev_cmp2, ev_band, ev_bor, ev_bnot, ev_ife, ev_tup, ev_lst, ev_dct, ev_idx, ev_slc, ev_call, ev_bi, ev_isi, ev_mth, ev_lc, ev_lzip, evL_nil, evL_cons, evD_cons, evD_nil, evO_none, evO_some, evS_seq, evS_rng, evS_rng2, evS_enum, evS_zip, evS_zipS, tst_band, tst_bor, tst_bnot, tst_non, tst_bl, tst_int, tst_str, tst_gl, tst_var, tst_cmp, tst_cmp2, tst_idx, tst_call, tst_bi, tst_isi, tsts_nil, tsts_cons, ex_asg, ex_tasg, ex_par, ex_sidx, ex_aug, ex_drop, ex_ret, ex_retN, ex_ifs, ex_fors, ex_whl, ex_brk, ex_cont, ex_pass, ex_never, exs_nil, exs_cons, ofOpt_some, fix_pv, fix_lst, fix_dct, fixL_nil, fixL_cons, norm_same, norm_set, o_add, o_sub, o_mul, o_mod, o_fd, o_p18, a_add, a_sub, c_eq, c_ne, c_eqs, c_nes, c_lt, c_le, c_gt, c_ge, c_is, c_isnot, b_int, b_min, b_max, b_lent, b_lenl, b_tuple, i_tup, i_lst, t_bl, t_non, t_int, ty_ss, ty_st, ty_ts, ty_tt, q_tup, l_tup, l_lst, at0, at1, p_int, isNonR, List.length_cons, List.length_nil, List.map_cons, List.map_nil, List.cons_append, List.nil_append, List.replicate_succ, List.replicate_zero, List.getElem?_cons_zero, List.getElem?_cons_succ, List.getElem?_nil, List.set_cons_zero, List.set_cons_succ, List.set_nil, Nat.sub_self, Nat.reduceSub, Nat.reduceAdd, Nat.reduceMul, Nat.zero_add, Int.reduceLT, Int.reduceLE, Nat.reduceLeDiff, LINE, if_true, if_false, Bool.false_eq_true, Bool.true_eq_false, Bool.not_true, Bool.not_false, ite_self, eq_self, Prod.fst, Prod.snd, alike, n1, n2, q, q2, Bool.false_and, Bool.true_and]
theorem du_refl : ∀ (n : Nat) (r : List (Fm × Fm)) (σ : Sub), tsz r < n → (∀ x ∈ r, x.2 = x.1) → (∀ s y, slook σ s = some y → y = .v s) → (du n r σ).isSome = true
  | 0, _, _, h, _, _ => by omega
  | n + 1, [], _, _, _, _ => rfl
  | n + 1, (.v s, g) :: r, σ, h, hr, hs => by
    have e : g = .v s := hr _ List.mem_cons_self
    subst e
    have gx : (slook σ s).getD (.v s) = .v s := by
      cases e : slook σ s with
      | none => rfl
      | some y => exact hs s y e
    have f1 : feq (.v s) (.v s) = true := feq_iff.mpr rfl
    simp only [du, gx, f1, if_true]
    simp only [tsz, Fm.size] at h
    refine du_refl n r _ (by omega) (fun x hx => hr x (List.mem_cons_of_mem _ hx)) fun t y e => ?_
    rw [slook_sput] at e
    split at e
    · rename_i q
      cases e; rw [q]
    · exact hs t y e
  | n + 1, (.n w ps, g) :: r, σ, h, hr, hs => by
    have e : g = .n w ps := hr _ List.mem_cons_self
    subst e
    simp only [du, if_true]
    have n1 := Fm.sizes_nn ps
    have tz := tsz_zip ps ps
    simp only [tsz, Fm.size] at h
    refine du_refl n _ σ (by rw [tsz_app, tsz_rev]; omega) (fun y hy => ?_) hs
    rcases List.mem_append.mp hy with hy | hy
    · have : ∀ (l : List Fm) (y : Fm × Fm), y ∈ l.zip l → y.2 = y.1 := by
        intro l
        induction l with
        | nil => intro y hy; cases hy
        | cons a l ih =>
          intro y hy
          rcases List.mem_cons.mp hy with rfl | hy
          · rfl
          · exact ih y hy
      exact this ps y (List.mem_reverse.mp hy)
    · exact hr y (List.mem_cons_of_mem _ hy)
theorem asp_refl {f : Fm} (hz : f.size < 900000) : asp f f = true := by
  refine du_refl TURNS _ _ ?_ (fun x hx => ?_) fun _ _ z => by cases z
  · simp only [tsz]; unfold TURNS; omega
  · have : x = (f, f) := by simpa using hx
    subst this; rfl
end Lib
end Pf
/-! PfBent: a form bent at a drawn place; dicts that are equal. -/
namespace Pf
namespace Lib
variable {P : List FDef} {G : List PV} {k : Nat} {h : MH}
def bent (iB iD : Nat) : FDef := ⟨2, 3, (.cons (.ifs (.bor (.isi (.var 1) .tStr) (.bor (.cmp .Eq (.idx (.var 1) (.int 1)) (.tup .nil)) (.cmp .Eq (.call iD (.cons (.var 0) (.cons (.int 3) .nil))) (.int 0)))) (.cons (.ret (.ife (.bnot (.isi (.var 1) .tStr)) (.tup (.cons (.str [111, 116, 104, 101, 114]) (.cons (.idx (.var 1) (.int 1)) .nil))) (.var 1))) .nil) .nil) (.cons (.asg 2 (.call iD (.cons (.var 0) (.cons (.bop .Add (.bi .len (.cons (.idx (.var 1) (.int 1)) .nil)) (.int 1)) .nil)))) (.cons (.ifs (.cmp .Eq (.var 2) (.bi .len (.cons (.idx (.var 1) (.int 1)) .nil))) (.cons (.ret (.tup (.cons (.idx (.var 1) (.int 0)) (.cons (.slc (.idx (.var 1) (.int 1)) .none (.some (.neg (.int 1)))) .nil)))) .nil) .nil) (.cons (.ret (.tup (.cons (.idx (.var 1) (.int 0)) (.cons (.bop .Add (.bop .Add (.slc (.idx (.var 1) (.int 1)) .none (.some (.var 2))) (.tup (.cons (.call iB (.cons (.var 0) (.cons (.idx (.idx (.var 1) (.int 1)) (.var 2)) .nil))) .nil))) (.slc (.idx (.var 1) (.int 1)) (.some (.bop .Add (.var 2) (.int 1))) .none)) .nil)))) .nil))))⟩
theorem c_eqnil {xs : List PV} : cmpOp .Eq h (.pv (.tup xs)) (.pv (.tup [])) = some xs.isEmpty := by
  cases xs <;> rfl
theorem g_cut {xs : List PV} {lo hi : Option Int} : getCut h (.pv (.tup xs)) lo hi = some (.pv (.tup (cut xs lo hi))) := rfl
theorem cut_to {xs : List PV} {a : Nat} (ha : a ≤ xs.length) : cut xs none (some (a : Int)) = xs.take a := by
  unfold cut sIx
  have : ¬ ((a : Int) < 0) := by omega
  simp only [this, if_false, List.drop_zero, Nat.sub_zero, Int.toNat_natCast]
  rw [Nat.min_eq_left ha]
theorem cut_from {xs : List PV} {a : Nat} (ha : a ≤ xs.length) : cut xs (some (a : Int)) none = xs.drop a := by
  unfold cut sIx
  have : ¬ ((a : Int) < 0) := by omega
  simp only [this, if_false, Int.toNat_natCast]
  rw [Nat.min_eq_left ha]
  exact List.take_of_length_le (by simp)
theorem cut_m1 {xs : List PV} (ha : 0 < xs.length) : cut xs none (some (-1)) = xs.take (xs.length - 1) := by
  unfold cut sIx
  simp only [show (-1 : Int) < 0 by decide, if_true, List.drop_zero, Nat.sub_zero]
  congr 1; omega
theorem pvs_take (ps : List Fm) (n : Nat) : (Fm.pvs ps).take n = Fm.pvs (ps.take n) := by rw [Fm.pvs_map, Fm.pvs_map, List.map_take]
theorem pvs_drop (ps : List Fm) (n : Nat) : (Fm.pvs ps).drop n = Fm.pvs (ps.drop n) := by rw [Fm.pvs_map, Fm.pvs_map, List.map_drop]
theorem at_pvs {ps : List Fm} {a : Nat} (ha : a < ps.length) : atI (Fm.pvs ps) (a : Int) = some (ps[a].pv) := by
  unfold atI ixN
  have h1 : (0 : Int) ≤ a := by omega
  have h2 : (a : Int) < ((Fm.pvs ps).length : Nat) := by rw [Fm.pvs_len]; omega
  rw [if_pos h1, if_pos h2]
  simp only [Option.bind_some, Int.toNat_natCast]
  rw [Fm.pvs_map, List.getElem?_map, List.getElem?_eq_getElem ha]; rfl
theorem run_bent {iB iD iM : Nat} (hB : P[iB]? = some (bent iB iD)) (hP : P[iD]? = some (digit iM)) (hM : P[iM]? = some mixed) : ∀ {b : Nat} {f : Fm} {h : MH} {k d : Nat} {l c t : Int}, Fmb b f → h[d]? = some (.dct (D l c t)) → 0 ≤ l → 0 ≤ t → t + 8 * b ≤ 800000000000000000 →
    ∃ (f' : Fm) (l' t' : Int), Fmb b f' ∧ 0 ≤ l' ∧ t ≤ t' ∧ t' ≤ t + 8 * b ∧ run P G (k + b + 2) iB [.ref d, f.pv] h = .ok (.pv f'.pv) (h.set d (.dct (D l' c t'))) := by
  intro b
  induction b with
  | zero => intro f h k d l c t hf; cases hf
  | succ b ih =>
    intro f h k d l c t hf e hl ht hb
    show ∃ (f' : Fm) (l' t' : Int), _ ∧ _ ∧ _ ∧ _ ∧ run P G ((k + (b + 1) + 1) + 1) iB _ _ = _
    cases hf with
    | @v _ s hs =>
      refine ⟨.v s, l, t, .v hs, hl, Int.le_refl _, by omega, ?_⟩
      rw [run_at hB, set_self e]; simp (config := {decide := false}) only [↓reduceIte, ↓bT_eq, ↓cT_eq, ↓oT_eq, bT_ok, cT_ok, oT_some, call1, ev_non, ev_bl, ev_int, ev_str, ev_gl, ev_var, ev_bop, ev_neg, ev_cmp, ev_cmp2, ev_band, ev_bor, ev_bnot, ev_ife, ev_tup, ev_lst, ev_dct, ev_idx, ev_slc, ev_call, ev_bi, ev_isi, ev_mth, ev_lc, ev_lzip, evL_nil, evL_cons, evD_cons, evD_nil, evO_none, evO_some, evS_seq, evS_rng, evS_rng2, evS_enum, evS_zip, evS_zipS, tst_band, tst_bor, tst_bnot, tst_non, tst_bl, tst_int, tst_str, tst_gl, tst_var, tst_cmp, tst_cmp2, tst_idx, tst_call, tst_bi, tst_isi, tsts_nil, tsts_cons, ex_asg, ex_tasg, ex_par, ex_sidx, ex_aug, ex_drop, ex_ret, ex_retN, ex_ifs, ex_fors, ex_whl, ex_brk, ex_cont, ex_pass, ex_never, exs_nil, exs_cons, ofOpt_some, fix_pv, fix_lst, fix_dct, fixL_nil, fixL_cons, norm_same, norm_set, o_add, o_sub, o_mul, o_mod, o_fd, o_p18, a_add, a_sub, c_eq, c_ne, c_eqs, c_nes, c_lt, c_le, c_gt, c_ge, c_is, c_isnot, b_int, b_min, b_max, b_lent, b_lenl, b_tuple, i_tup, i_lst, t_bl, t_non, t_int, ty_ss, ty_st, ty_ts, ty_tt, q_tup, l_tup, l_lst, at0, at1, p_int, isNonR, List.length_cons, List.length_nil, List.map_cons, List.map_nil, List.cons_append, List.nil_append, List.replicate_succ, List.replicate_zero, List.getElem?_cons_zero, List.getElem?_cons_succ, List.getElem?_nil, List.set_cons_zero, List.set_cons_succ, List.set_nil, Nat.sub_self, Nat.reduceSub, Nat.reduceAdd, Nat.reduceMul, Nat.zero_add, Int.reduceLT, Int.reduceLE, Nat.reduceLeDiff, LINE, if_true, if_false, Bool.false_eq_true, Bool.true_eq_false, Bool.not_true, Bool.not_false, ite_self, eq_self, Prod.fst, Prod.snd, bent, Fm.pv]
    | @n _ w ps hw lp q =>
      cases hn : (Fm.pvs ps).isEmpty with
      | true =>
        refine ⟨.n [111, 116, 104, 101, 114] ps, l, t, .n (by decide) lp q, hl, Int.le_refl _, by omega, ?_⟩
        rw [run_at hB, set_self e]; simp (config := {decide := false}) only [↓reduceIte, ↓bT_eq, ↓cT_eq, ↓oT_eq, bT_ok, cT_ok, oT_some, call1, ev_non, ev_bl, ev_int, ev_str, ev_gl, ev_var, ev_bop, ev_neg, ev_cmp, ev_cmp2, ev_band, ev_bor, ev_bnot, ev_ife, ev_tup, ev_lst, ev_dct, ev_idx, ev_slc, ev_call, ev_bi, ev_isi, ev_mth, ev_lc, ev_lzip, evL_nil, evL_cons, evD_cons, evD_nil, evO_none, evO_some, evS_seq, evS_rng, evS_rng2, evS_enum, evS_zip, evS_zipS, tst_band, tst_bor, tst_bnot, tst_non, tst_bl, tst_int, tst_str, tst_gl, tst_var, tst_cmp, tst_cmp2, tst_idx, tst_call, tst_bi, tst_isi, tsts_nil, tsts_cons, ex_asg, ex_tasg, ex_par, ex_sidx, ex_aug, ex_drop, ex_ret, ex_retN, ex_ifs, ex_fors, ex_whl, ex_brk, ex_cont, ex_pass, ex_never, exs_nil, exs_cons, ofOpt_some, fix_pv, fix_lst, fix_dct, fixL_nil, fixL_cons, norm_same, norm_set, o_add, o_sub, o_mul, o_mod, o_fd, o_p18, a_add, a_sub, c_eq, c_ne, c_eqs, c_nes, c_lt, c_le, c_gt, c_ge, c_is, c_isnot, b_int, b_min, b_max, b_lent, b_lenl, b_tuple, i_tup, i_lst, t_bl, t_non, t_int, ty_ss, ty_st, ty_ts, ty_tt, q_tup, l_tup, l_lst, at0, at1, p_int, isNonR, List.length_cons, List.length_nil, List.map_cons, List.map_nil, List.cons_append, List.nil_append, List.replicate_succ, List.replicate_zero, List.getElem?_cons_zero, List.getElem?_cons_succ, List.getElem?_nil, List.set_cons_zero, List.set_cons_succ, List.set_nil, Nat.sub_self, Nat.reduceSub, Nat.reduceAdd, Nat.reduceMul, Nat.zero_add, Int.reduceLT, Int.reduceLE, Nat.reduceLeDiff, LINE, if_true, if_false, Bool.false_eq_true, Bool.true_eq_false, Bool.not_true, Bool.not_false, ite_self, eq_self, Prod.fst, Prod.snd, bent, Fm.pv, c_eqnil, hn]
      | false =>
        have hpos : 0 < ps.length := by
          cases ps with
          | nil => simp [Fm.pvs] at hn
          | cons => simp
        obtain ⟨r, l1, t1, r0, r1, l0, t0, t2, q1⟩ := run_digit (G := G) (k := k + b) hP hM e hl ht (by omega) (s := 3) (by decide) (by decide)
        have lv : k + (b + 1) + 1 = k + b + 2 := by omega
        cases hr : (r == 0) with
        | true =>
          refine ⟨.n [111, 116, 104, 101, 114] ps, l1, t1, .n (by decide) lp q, l0, t0, by omega, ?_⟩
          rw [run_at hB, lv]; simp (config := {decide := false}) only [↓reduceIte, ↓bT_eq, ↓cT_eq, ↓oT_eq, bT_ok, cT_ok, oT_some, call1, ev_non, ev_bl, ev_int, ev_str, ev_gl, ev_var, ev_bop, ev_neg, ev_cmp, ev_cmp2, ev_band, ev_bor, ev_bnot, ev_ife, ev_tup, ev_lst, ev_dct, ev_idx, ev_slc, ev_call, ev_bi, ev_isi, ev_mth, ev_lc, ev_lzip, evL_nil, evL_cons, evD_cons, evD_nil, evO_none, evO_some, evS_seq, evS_rng, evS_rng2, evS_enum, evS_zip, evS_zipS, tst_band, tst_bor, tst_bnot, tst_non, tst_bl, tst_int, tst_str, tst_gl, tst_var, tst_cmp, tst_cmp2, tst_idx, tst_call, tst_bi, tst_isi, tsts_nil, tsts_cons, ex_asg, ex_tasg, ex_par, ex_sidx, ex_aug, ex_drop, ex_ret, ex_retN, ex_ifs, ex_fors, ex_whl, ex_brk, ex_cont, ex_pass, ex_never, exs_nil, exs_cons, ofOpt_some, fix_pv, fix_lst, fix_dct, fixL_nil, fixL_cons, norm_same, norm_set, o_add, o_sub, o_mul, o_mod, o_fd, o_p18, a_add, a_sub, c_eq, c_ne, c_eqs, c_nes, c_lt, c_le, c_gt, c_ge, c_is, c_isnot, b_int, b_min, b_max, b_lent, b_lenl, b_tuple, i_tup, i_lst, t_bl, t_non, t_int, ty_ss, ty_st, ty_ts, ty_tt, q_tup, l_tup, l_lst, at0, at1, p_int, isNonR, List.length_cons, List.length_nil, List.map_cons, List.map_nil, List.cons_append, List.nil_append, List.replicate_succ, List.replicate_zero, List.getElem?_cons_zero, List.getElem?_cons_succ, List.getElem?_nil, List.set_cons_zero, List.set_cons_succ, List.set_nil, Nat.sub_self, Nat.reduceSub, Nat.reduceAdd, Nat.reduceMul, Nat.zero_add, Int.reduceLT, Int.reduceLE, Nat.reduceLeDiff, LINE, if_true, if_false, Bool.false_eq_true, Bool.true_eq_false, Bool.not_true, Bool.not_false, ite_self, eq_self, Prod.fst, Prod.snd, bent, Fm.pv, c_eqnil, hn, q1, hr]
        | false =>
          obtain ⟨a, l2, t2', a0, a1, l20, t20, t22, q2⟩ := run_digit (G := G) (k := k + b) hP hM (set_get (x := MO.dct (D l1 c t1)) e) l0 (by omega) (by omega) (s := (((Fm.pvs ps).length : Nat) : Int) + 1) (by omega) (by rw [Fm.pvs_len]; omega)
          rw [List.set_set] at q2
          obtain ⟨a, rfl⟩ : ∃ m : Nat, a = m := ⟨a.toNat, by omega⟩
          rw [Fm.pvs_len] at a1
          by_cases ha : a = ps.length
          · have z : ((a : Int) == (((Fm.pvs ps).length : Nat) : Int)) = true := by rw [Fm.pvs_len, ha]; simp
            have cu := cut_m1 (xs := Fm.pvs ps) (by rw [Fm.pvs_len]; exact hpos)
            rw [pvs_take] at cu
            refine ⟨.n w (ps.take ((Fm.pvs ps).length - 1)), l2, t2', .n hw (by simp; omega) (fun p hp => q p (List.mem_of_mem_take hp)), l20, by omega, by omega, ?_⟩
            rw [run_at hB, lv]; simp (config := {decide := false}) only [↓reduceIte, ↓bT_eq, ↓cT_eq, ↓oT_eq, bT_ok, cT_ok, oT_some, call1, ev_non, ev_bl, ev_int, ev_str, ev_gl, ev_var, ev_bop, ev_neg, ev_cmp, ev_cmp2, ev_band, ev_bor, ev_bnot, ev_ife, ev_tup, ev_lst, ev_dct, ev_idx, ev_slc, ev_call, ev_bi, ev_isi, ev_mth, ev_lc, ev_lzip, evL_nil, evL_cons, evD_cons, evD_nil, evO_none, evO_some, evS_seq, evS_rng, evS_rng2, evS_enum, evS_zip, evS_zipS, tst_band, tst_bor, tst_bnot, tst_non, tst_bl, tst_int, tst_str, tst_gl, tst_var, tst_cmp, tst_cmp2, tst_idx, tst_call, tst_bi, tst_isi, tsts_nil, tsts_cons, ex_asg, ex_tasg, ex_par, ex_sidx, ex_aug, ex_drop, ex_ret, ex_retN, ex_ifs, ex_fors, ex_whl, ex_brk, ex_cont, ex_pass, ex_never, exs_nil, exs_cons, ofOpt_some, fix_pv, fix_lst, fix_dct, fixL_nil, fixL_cons, norm_same, norm_set, o_add, o_sub, o_mul, o_mod, o_fd, o_p18, a_add, a_sub, c_eq, c_ne, c_eqs, c_nes, c_lt, c_le, c_gt, c_ge, c_is, c_isnot, b_int, b_min, b_max, b_lent, b_lenl, b_tuple, i_tup, i_lst, t_bl, t_non, t_int, ty_ss, ty_st, ty_ts, ty_tt, q_tup, l_tup, l_lst, at0, at1, p_int, isNonR, List.length_cons, List.length_nil, List.map_cons, List.map_nil, List.cons_append, List.nil_append, List.replicate_succ, List.replicate_zero, List.getElem?_cons_zero, List.getElem?_cons_succ, List.getElem?_nil, List.set_cons_zero, List.set_cons_succ, List.set_nil, Nat.sub_self, Nat.reduceSub, Nat.reduceAdd, Nat.reduceMul, Nat.zero_add, Int.reduceLT, Int.reduceLE, Nat.reduceLeDiff, LINE, if_true, if_false, Bool.false_eq_true, Bool.true_eq_false, Bool.not_true, Bool.not_false, ite_self, eq_self, Prod.fst, Prod.snd, bent, Fm.pv, c_eqnil, hn, q1, hr, q2, z, g_cut, cu, Int.reduceNeg]
          · have ha' : a < ps.length := by omega
            have z : ((a : Int) == (((Fm.pvs ps).length : Nat) : Int)) = false := by
              rw [Fm.pvs_len]
              have : (a : Int) ≠ (ps.length : Int) := by omega
              simpa using this
            obtain ⟨f', l3, t3, o3, l30, t30, t33, q3⟩ := ih (f := ps[a]) (h := h.set d (.dct (D l2 c t2'))) (k := k) (d := d) (l := l2) (c := c) (t := t2') (q _ (List.getElem_mem ha')) (set_get e) l20 (by omega) (by omega)
            rw [List.set_set] at q3
            have c1 := cut_to (xs := Fm.pvs ps) (a := a) (by rw [Fm.pvs_len]; omega)
            have c2 := cut_from (xs := Fm.pvs ps) (a := a + 1) (by rw [Fm.pvs_len]; omega)
            have ea : ((a + 1 : Nat) : Int) = (a : Int) + 1 := by omega
            rw [ea] at c2
            rw [pvs_take] at c1
            rw [pvs_drop] at c2
            have lt : (ps.take a).length ≤ 1000 := by simp; omega
            have ld : (ps.drop (a + 1)).length ≤ 1000 := by simp; omega
            have o1 := o_addt (h := h.set d (.dct (D l3 c t3))) (xs := Fm.pvs (ps.take a)) (ys := [f'.pv]) (by rw [Fm.pvs_len]; unfold LINE; simp only [List.length_cons, List.length_nil]; omega)
            have o2 := o_addt (h := h.set d (.dct (D l3 c t3))) (xs := Fm.pvs (ps.take a) ++ [f'.pv]) (ys := Fm.pvs (ps.drop (a + 1))) (by rw [List.length_append, Fm.pvs_len, Fm.pvs_len]; unfold LINE; simp only [List.length_cons, List.length_nil]; omega)
            have eq : Fm.pvs (ps.take a) ++ [f'.pv] ++ Fm.pvs (ps.drop (a + 1)) = Fm.pvs (ps.take a ++ [f'] ++ ps.drop (a + 1)) := by rw [Fm.pvs_append, Fm.pvs_append]; rfl
            rw [eq] at o2
            refine ⟨.n w (ps.take a ++ [f'] ++ ps.drop (a + 1)), l3, t3, .n hw (by simp; omega) (fun p hp => ?_), l30, by omega, by omega, ?_⟩
            · rcases List.mem_append.mp hp with hp | hp
              · rcases List.mem_append.mp hp with hp | hp
                · exact q p (List.mem_of_mem_take hp)
                · have : p = f' := by simpa using hp
                  subst this; exact o3
              · exact q p (List.mem_of_mem_drop hp)
            · rw [run_at hB, lv]; simp (config := {decide := false}) only [↓reduceIte, ↓bT_eq, ↓cT_eq, ↓oT_eq, bT_ok, cT_ok, oT_some, call1, ev_non, ev_bl, ev_int, ev_str, ev_gl, ev_var, ev_bop, ev_neg, ev_cmp, ev_cmp2, ev_band, ev_bor, ev_bnot, ev_ife, ev_tup, ev_lst, ev_dct, ev_idx, ev_slc, ev_call, ev_bi, ev_isi, ev_mth, ev_lc, ev_lzip, evL_nil, evL_cons, evD_cons, evD_nil, evO_none, evO_some, evS_seq, evS_rng, evS_rng2, evS_enum, evS_zip, evS_zipS, tst_band, tst_bor, tst_bnot, tst_non, tst_bl, tst_int, tst_str, tst_gl, tst_var, tst_cmp, tst_cmp2, tst_idx, tst_call, tst_bi, tst_isi, tsts_nil, tsts_cons, ex_asg, ex_tasg, ex_par, ex_sidx, ex_aug, ex_drop, ex_ret, ex_retN, ex_ifs, ex_fors, ex_whl, ex_brk, ex_cont, ex_pass, ex_never, exs_nil, exs_cons, ofOpt_some, fix_pv, fix_lst, fix_dct, fixL_nil, fixL_cons, norm_same, norm_set, o_add, o_sub, o_mul, o_mod, o_fd, o_p18, a_add, a_sub, c_eq, c_ne, c_eqs, c_nes, c_lt, c_le, c_gt, c_ge, c_is, c_isnot, b_int, b_min, b_max, b_lent, b_lenl, b_tuple, i_tup, i_lst, t_bl, t_non, t_int, ty_ss, ty_st, ty_ts, ty_tt, q_tup, l_tup, l_lst, at0, at1, p_int, isNonR, List.length_cons, List.length_nil, List.map_cons, List.map_nil, List.cons_append, List.nil_append, List.replicate_succ, List.replicate_zero, List.getElem?_cons_zero, List.getElem?_cons_succ, List.getElem?_nil, List.set_cons_zero, List.set_cons_succ, List.set_nil, Nat.sub_self, Nat.reduceSub, Nat.reduceAdd, Nat.reduceMul, Nat.zero_add, Int.reduceLT, Int.reduceLE, Nat.reduceLeDiff, LINE, if_true, if_false, Bool.false_eq_true, Bool.true_eq_false, Bool.not_true, Bool.not_false, ite_self, eq_self, Prod.fst, Prod.snd, bent, Fm.pv, c_eqnil, hn, q1, hr, q2, z, g_cut, c1, c2, at_pvs ha', q3, o1, o2]
/-! ### equal dicts -/
def Nd (σ : Sub) : Prop := (σ.map (·.1)).Nodup
theorem slook_mem {σ : Sub} {s : Txt} : (slook σ s).isSome = true ↔ s ∈ σ.map (·.1) := by
  induction σ with
  | nil => simp [slook]
  | cons p r ih =>
    obtain ⟨x, f⟩ := p
    simp only [slook, List.map_cons, List.mem_cons]
    by_cases e : x = s
    · subst e; simp
    · rw [if_neg e, ih]
      exact ⟨.inr, fun z => z.elim (fun z => absurd z.symm e) id⟩
theorem sput_keys (σ : Sub) (s : Txt) (g : Fm) : (sput σ s g).map (·.1) = if s ∈ σ.map (·.1) then σ.map (·.1) else σ.map (·.1) ++ [s] := by
  induction σ with
  | nil => simp [sput]
  | cons p r ih =>
    obtain ⟨x, f⟩ := p
    simp only [sput]
    by_cases e : x = s
    · subst e; simp
    · have e' : ¬ s = x := fun z => e z.symm
      simp only [e, if_false, List.map_cons, List.mem_cons, e', false_or, ih]
      split <;> simp
theorem Nd.put {σ : Sub} (h : Nd σ) (s : Txt) (g : Fm) : Nd (sput σ s g) := by
  unfold Nd at *
  rw [sput_keys]
  split
  · exact h
  · rename_i hs
    rw [List.nodup_append]
    refine ⟨h, by simp, fun x hx y hy e => hs ?_⟩
    have hy : y = s := by simpa using hy
    rw [← hy, ← e]; exact hx
mutual
theorem mt_nd : ∀ (f g : Fm) (σ : Sub), Nd σ → Nd (mt f g σ).2
  | .v s, g, σ, h => by
    simp only [mt]
    split
    · exact h
    · exact h.put s g
  | .n w ps, .v _, σ, h => by simpa only [mt] using h
  | .n w ps, .n x qs, σ, h => by
    simp only [mt]
    split
    · split
      · exact mtL_nd ps qs σ h
      · exact h
    · exact h
theorem mtL_nd : ∀ (ps qs : List Fm) (σ : Sub), Nd σ → Nd (mtL ps qs σ).2
  | [], qs, σ, h => by cases qs <;> simpa only [mtL] using h
  | p :: ps, [], σ, h => by simpa only [mtL] using h
  | p :: ps, q :: qs, σ, h => by
    simp only [mtL]
    exact mtL_nd ps qs _ (mt_nd p q σ h)
end
theorem du_nd : ∀ (n : Nat) (r : List (Fm × Fm)) (σ σ' : Sub), Nd σ → du n r σ = some σ' → Nd σ' := by
  intro n
  induction n with
  | zero => intro r σ σ' _ h; simp [du] at h
  | succ n ih =>
    intro r σ σ' hn h
    match r, h with
    | [], h => simp only [du, Option.some.injEq] at h; subst h; exact hn
    | (.v t, g) :: r, h =>
      simp only [du] at h
      split at h
      · exact ih r _ _ (hn.put t g) h
      · cases h
    | (.n w ps, .v _) :: r, h => simp [du] at h
    | (.n w ps, .n y qs) :: r, h =>
      simp only [du] at h
      split at h
      · split at h
        · exact ih _ _ _ hn h
        · cases h
      · cases h
theorem nodup_le : ∀ {l m : List Txt}, l.Nodup → (∀ x ∈ l, x ∈ m) → l.length ≤ m.length
  | [], _, _, _ => by simp
  | x :: l, m, h, k => by
    rw [List.nodup_cons] at h
    have hx := k x List.mem_cons_self
    have := nodup_le (l := l) (m := m.erase x) h.2 fun y hy => (List.mem_erase_of_ne fun e => h.1 (by rw [← e]; exact hy)).mpr (k y (List.mem_cons_of_mem _ hy))
    rw [List.length_erase_of_mem hx] at this
    have : 0 < m.length := List.length_pos_of_mem hx
    simp only [List.length_cons]; omega
theorem same_len {σ τ : Sub} (h1 : Nd σ) (h2 : Nd τ) (e : ∀ s, slook σ s = slook τ s) : σ.length = τ.length := by
  have a := nodup_le h1 (m := τ.map (·.1)) fun x hx => by rw [← slook_mem, ← e, slook_mem]; exact hx
  have b := nodup_le h2 (m := σ.map (·.1)) fun x hx => by rw [← slook_mem, e, slook_mem]; exact hx
  simp only [List.length_map] at a b
  omega
theorem eqvD_ok {F : PV → PV → Option Bool} {τ : Sub} : ∀ {σ : Sub}, (∀ p ∈ σ, slook τ p.1 = some p.2 ∧ F p.2.pv p.2.pv = some true) → eqvD F (asc τ) (asc σ) = some true
  | [], _ => rfl
  | (s, f) :: r, h => by
    obtain ⟨h1, h2⟩ := h (s, f) List.mem_cons_self
    have ih := eqvD_ok (τ := τ) (σ := r) fun p hp => h p (List.mem_cons_of_mem _ hp)
    have h1 : slook τ s = some f := h1
    have h2 : F f.pv f.pv = some true := h2
    simp only [asc, List.map_cons] at ih ⊢
    simp only [eqvD]
    rw [← asc, dget_asc, h1]
    rw [← asc] at ih
    simp only [Option.map_some, ih, h2, Bool.and_self]
theorem slook_in : ∀ {σ : Sub}, Nd σ → ∀ p ∈ σ, slook σ p.1 = some p.2
  | [], _, _, h => by cases h
  | (x, f) :: r, nd, p, h => by
    unfold Nd at nd
    rw [List.map_cons, List.nodup_cons] at nd
    rcases List.mem_cons.mp h with e | h
    · subst e; simp [slook]
    · have : ¬ x = p.1 := fun e => nd.1 (by rw [e]; exact List.mem_map.mpr ⟨p, h, rfl⟩)
      simp only [slook, this, if_false]
      exact slook_in nd.2 p h
theorem c_ned {i : Nat} {σ τ : Sub} (e : h[i]? = some (.dct (asc σ))) (n1 : Nd σ) (n2 : Nd τ) (sm : Sm σ) (q : ∀ s, slook σ s = slook τ s) : cmpOp .NotEq h (.pv (.ref i)) (.dct (asc τ)) = some false := by
  have e1 := get_left (x := MO.dct (asc τ)) e
  have e2 : (h ++ [MO.dct (asc τ)])[h.length]? = some (.dct (asc τ)) := get_last rfl
  have hl : (asc σ).length = (asc τ).length := by simp [asc, same_len n1 n2 q]
  have ed := eqvD_ok (F := eqv (h ++ [MO.dct (asc τ)]) EQN) (τ := τ) (σ := σ) fun p hp => by
    have := slook_in n1 p hp
    refine ⟨by rw [← q]; exact this, ?_⟩
    rw [eqv_fm (sm _ _ this) p.2 EQN (by unfold EQN; omega)]
    simp
  simp only [cmpOp, eqvR, fix_pv, fix_dct, e1, e2, hl, if_true, ed, Option.map_some, Bool.not_true]
theorem c_nenn : cmpOp .NotEq h (.pv .non) (.pv .non) = some false := rfl
end Lib
end Pf
open Pf
namespace K07
/-- _law_draw, statement 26 of the top: cell:0 k:1 -/
def d_law_draw : FDef := ⟨2, 2, (.cons (.ret (.dct (.cons (.str [108, 101, 102, 116]) (.ife (.cmp .GtE (.var 0) (.bop .Pow (.int 10) (.int 18))) (.var 0) (.int 0)) (.cons (.str [99, 101, 108, 108]) (.var 0) (.cons (.str [116, 117, 114, 110, 115]) (.bop .Mult (.int 1000) (.var 1)) .nil))))) .nil)⟩
/-- _law_mixed, statement 25 of the top: cell:0 k:1 one:2 -/
def d_law_mixed : FDef := ⟨2, 3, (.cons (.asg 2 (.bop .Add (.bop .Add (.bop .Mod (.bi .int (.cons (.var 0) .nil)) (.idx (.lst (.cons (.int 1000000007) (.cons (.int 998244353) (.cons (.int 2147483629) (.cons (.int 1000000009) .nil))))) (.bop .Mod (.bi .int (.cons (.var 1) .nil)) (.int 4)))) (.bop .Mult (.int 7919) (.var 1))) (.int 13))) (.cons (.ret (.bop .Mod (.bi .int (.cons (.bop .Mult (.bop .Mod (.bi .int (.cons (.bop .Mult (.var 2) (.var 2)) .nil)) (.int 2147483647)) (.int 48271)) .nil)) (.int 2147483647))) .nil))⟩
/-- _law_digit, statement 27 of the top: draw:0 span:1 found:2 j:3 -/
def d_law_digit : FDef := ⟨2, 4, (.cons (.ifs (.cmp .Eq (.idx (.var 0) (.str [108, 101, 102, 116])) (.int 0)) (.cons (.fors (.nm 3) (.rng (.int 4)) (.cons (.sidx (.var 0) (.str [116, 117, 114, 110, 115]) (.bop .Add (.idx (.var 0) (.str [116, 117, 114, 110, 115])) (.int 1))) (.cons (.sidx (.var 0) (.str [108, 101, 102, 116]) (.bop .Add (.bop .Mult (.idx (.var 0) (.str [108, 101, 102, 116])) (.int 2147483647)) (.call 1 (.cons (.idx (.var 0) (.str [99, 101, 108, 108])) (.cons (.idx (.var 0) (.str [116, 117, 114, 110, 115])) .nil))))) .nil))) .nil) .nil) (.cons (.asg 2 (.bop .Mod (.bi .int (.cons (.idx (.var 0) (.str [108, 101, 102, 116])) .nil)) (.var 1))) (.cons (.sidx (.var 0) (.str [108, 101, 102, 116]) (.bop .FloorDiv (.bi .int (.cons (.idx (.var 0) (.str [108, 101, 102, 116])) .nil)) (.var 1))) (.cons (.ret (.var 2)) .nil))))⟩
/-- _law_drawn_word, statement 28 of the top: draw:0 -/
def d_law_drawn_word : FDef := ⟨1, 1, (.cons (.ret (.idx (.lst (.cons (.str [97]) (.cons (.str [98]) (.cons (.str [108, 105, 115, 116]) (.cons (.str [109, 97, 112, 50]) (.cons (.str [120, 95, 121]) (.cons (.str [97, 98, 99, 100, 101, 102, 103, 104, 105, 106, 107, 108]) .nil))))))) (.call 2 (.cons (.var 0) (.cons (.int 6) .nil))))) .nil)⟩
/-- _law_size_of, statement 30 of the top: form:0 part:1 -/
def d_law_size_of : FDef := ⟨1, 2, (.cons (.ret (.ife (.isi (.var 0) .tStr) (.int 1) (.bop .Add (.int 1) (.bi .sum (.cons (.lc (.call 4 (.cons (.var 1) .nil)) (.nm 1) (.seq (.idx (.var 0) (.int 1))) .nil [1]) .nil))))) .nil)⟩
/-- _law_drawn_form, statement 29 of the top: draw:0 depth:1 size:2 signs:3 j:4 found:5 left:6 -/
def d_law_drawn_form : FDef := ⟨4, 7, (.cons (.ifs (.band (.cmp .NotEq (.var 3) (.str [])) (.cmp .Eq (.call 2 (.cons (.var 0) (.cons (.int 3) .nil))) (.int 0))) (.cons (.ret (.idx (.var 3) (.call 2 (.cons (.var 0) (.cons (.bi .len (.cons (.var 3) .nil)) .nil))))) .nil) .nil) (.cons (.par 5 6 (.lst .nil) (.bop .Sub (.var 2) (.int 1))) (.cons (.fors (.nm 4) (.rng (.ife (.cmp .Gt (.var 1) (.int 1)) (.call 2 (.cons (.var 0) (.cons (.int 4) .nil))) (.int 0))) (.cons (.ifs (.cmp .Gt (.var 6) (.int 0)) (.cons (.drop (.mth .append (.var 5) (.cons (.call 5 (.cons (.var 0) (.cons (.bop .Sub (.var 1) (.int 1)) (.cons (.bi .min (.cons (.var 6) (.cons (.int 4) .nil))) (.cons (.var 3) .nil))))) .nil))) (.cons (.asg 6 (.bop .Sub (.var 6) (.call 4 (.cons (.idx (.var 5) (.neg (.int 1))) .nil)))) .nil)) .nil) .nil)) (.cons (.ret (.tup (.cons (.call 3 (.cons (.var 0) .nil)) (.cons (.bi .tuple (.cons (.var 5) .nil)) .nil)))) .nil))))⟩
/-- _law_put, statement 33 of the top: form:0 values:1 part:2 -/
def d_law_put : FDef := ⟨2, 3, (.cons (.ifs (.isi (.var 0) .tStr) (.cons (.ret (.mth .get (.var 1) (.cons (.var 0) (.cons (.var 0) .nil)))) .nil) .nil) (.cons (.ret (.tup (.cons (.idx (.var 0) (.int 0)) (.cons (.bi .tuple (.cons (.lc (.call 6 (.cons (.var 2) (.cons (.var 1) .nil))) (.nm 2) (.seq (.idx (.var 0) (.int 1))) .nil [2]) .nil)) .nil)))) .nil))⟩
/-- _law_pair, statement 35 of the top: draw:0 one:1 way:2 -/
def d_law_pair : FDef := ⟨1, 3, (.cons (.asg 1 (.call 5 (.cons (.var 0) (.cons (.int 3) (.cons (.int 7) (.cons (.str [84, 88, 84]) .nil)))))) (.cons (.asg 2 (.call 2 (.cons (.var 0) (.cons (.int 6) .nil)))) (.cons (.ifs (.cmp .Eq (.var 2) (.int 0)) (.cons (.ret (.tup (.cons (.var 1) (.cons (.call 5 (.cons (.var 0) (.cons (.int 3) (.cons (.int 7) (.cons (.str [84, 88, 84]) .nil))))) .nil)))) .nil) .nil) (.cons (.ifs (.cmp .Eq (.var 2) (.int 1)) (.cons (.ret (.tup (.cons (.var 1) (.cons (.call 6 (.cons (.var 1) (.cons (.dct (.cons (.str [84]) (.str [88]) (.cons (.str [88]) (.str [84]) .nil))) .nil))) .nil)))) .nil) .nil) (.cons (.ifs (.cmp .Eq (.var 2) (.int 2)) (.cons (.ret (.tup (.cons (.var 1) (.cons (.call 6 (.cons (.var 1) (.cons (.dct (.cons (.str [84]) (.str [65]) (.cons (.str [88]) (.str [65]) .nil))) .nil))) .nil)))) .nil) .nil) (.cons (.ifs (.cmp .Eq (.var 2) (.int 3)) (.cons (.ret (.tup (.cons (.var 1) (.cons (.call 6 (.cons (.var 1) (.cons (.dct (.cons (.str [84]) (.call 5 (.cons (.var 0) (.cons (.int 2) (.cons (.int 3) (.cons (.str [84, 88, 90]) .nil))))) .nil)) .nil))) .nil)))) .nil) .nil) (.cons (.ifs (.cmp .Eq (.var 2) (.int 4)) (.cons (.ret (.tup (.cons (.call 6 (.cons (.var 1) (.cons (.dct (.cons (.str [88]) (.tup (.cons (.str [97]) (.cons (.tup (.cons (.str [88]) .nil)) .nil))) .nil)) .nil))) (.cons (.var 1) .nil)))) .nil) .nil) (.cons (.ret (.tup (.cons (.var 1) (.cons (.str [81]) .nil)))) .nil))))))))⟩
/-- s1_is_variable, statement 13 of the top: value:0 -/
def d_s1_is_variable : FDef := ⟨1, 1, (.cons (.ret (.band (.isi (.var 0) .tStr) (.band (.cmp .Eq (.bi .len (.cons (.var 0) .nil)) (.int 1)) (.cmp .In (.var 0) (.gl 0))))) .nil)⟩
/-- is_word, statement 8 of the top: value:0 sign:1 -/
def d_is_word : FDef := ⟨1, 2, (.cons (.ifs (.bor (.bnot (.isi (.var 0) .tStr)) (.bor (.bnot (.cmp2 .LtE .LtE (.int 1) (.bi .len (.cons (.var 0) .nil)) (.gl 2))) (.cmp .NotIn (.idx (.var 0) (.int 0)) (.gl 1)))) (.cons (.ret (.bl false)) .nil) .nil) (.cons (.ret (.bi .all (.cons (.lc (.cmp .In (.var 1) (.gl 3)) (.nm 1) (.seq (.var 0)) .nil [1]) .nil))) .nil))⟩
/-- s1_weight, statement 14 of the top: value:0 depth:1 has_variables:2 total:3 part:4 size:5 -/
def d_s1_weight : FDef := ⟨3, 6, (.cons (.ifs (.band (.var 2) (.call 8 (.cons (.var 0) .nil))) (.cons (.ret (.bi .min (.cons (.var 1) (.cons (.int 1) .nil)))) .nil) .nil) (.cons (.ifs (.bor (.cmp .Eq (.var 1) (.int 0)) (.bor (.bnot (.isi (.var 0) .tTuple)) (.bor (.cmp .NotEq (.bi .len (.cons (.var 0) .nil)) (.int 2)) (.bnot (.call 9 (.cons (.idx (.var 0) (.int 0)) .nil)))))) (.cons (.ret (.int 0)) .nil) .nil) (.cons (.ifs (.bor (.bnot (.isi (.idx (.var 0) (.int 1)) .tTuple)) (.cmp .Gt (.bi .len (.cons (.idx (.var 0) (.int 1)) .nil)) (.gl 4))) (.cons (.ret (.int 0)) .nil) .nil) (.cons (.asg 3 (.int 1)) (.cons (.fors (.nm 4) (.seq (.idx (.var 0) (.int 1))) (.cons (.asg 5 (.call 10 (.cons (.var 4) (.cons (.bop .Sub (.var 1) (.int 1)) (.cons (.var 2) .nil))))) (.cons (.aug 3 .Add (.var 5)) (.cons (.ifs (.bor (.cmp .Eq (.var 5) (.int 0)) (.cmp .Gt (.var 3) (.gl 5))) (.cons (.ret (.int 0)) .nil) .nil) .nil)))) (.cons (.ret (.var 3)) .nil))))))⟩
/-- s1_is_form, statement 15 of the top: value:0 has_variables:1 -/
def d_s1_is_form : FDef := ⟨2, 2, (.cons (.ret (.cmp .Gt (.call 10 (.cons (.var 0) (.cons (.gl 6) (.cons (.var 1) .nil)))) (.int 0))) .nil)⟩
/-- is_pattern, statement 17 of the top: value:0 -/
def d_is_pattern : FDef := ⟨1, 1, (.cons (.ret (.call 11 (.cons (.var 0) (.cons (.bl true) .nil)))) .nil)⟩
/-- need_pattern, statement 18 of the top: value:0 -/
def d_need_pattern : FDef := ⟨1, 1, (.cons (.ifs (.bnot (.call 12 (.cons (.var 0) .nil))) (.cons .never .nil) .nil) .nil)⟩
/-- s1_matched, statement 19 of the top: pattern:0 form:1 found:2 one:3 other:4 -/
def d_s1_matched : FDef := ⟨3, 5, (.cons (.ifs (.isi (.var 0) .tStr) (.cons (.ifs (.cmp .NotIn (.var 0) (.var 2)) (.cons (.sidx (.var 2) (.var 0) (.var 1)) .nil) .nil) (.cons (.ret (.cmp .Eq (.idx (.var 2) (.var 0)) (.var 1))) .nil)) .nil) (.cons (.ifs (.bor (.isi (.var 1) .tStr) (.bor (.cmp .NotEq (.idx (.var 0) (.int 0)) (.idx (.var 1) (.int 0))) (.cmp .NotEq (.bi .len (.cons (.idx (.var 0) (.int 1)) .nil)) (.bi .len (.cons (.idx (.var 1) (.int 1)) .nil))))) (.cons (.ret (.bl false)) .nil) .nil) (.cons (.ret (.bi .all (.cons (.lc (.call 14 (.cons (.var 3) (.cons (.var 4) (.cons (.var 2) .nil)))) (.tp [3, 4]) (.zipS (.idx (.var 0) (.int 1)) (.idx (.var 1) (.int 1))) .nil [3, 4]) .nil))) .nil)))⟩
/-- s1_frozen, statement 20 of the top: form:0 part:1 -/
def d_s1_frozen : FDef := ⟨1, 2, (.cons (.ifs (.isi (.var 0) .tStr) (.cons (.ret (.tup (.cons (.bop .Add (.str [63]) (.var 0)) (.cons (.tup .nil) .nil)))) .nil) .nil) (.cons (.ret (.tup (.cons (.idx (.var 0) (.int 0)) (.cons (.bi .tuple (.cons (.lc (.call 15 (.cons (.var 1) .nil)) (.nm 1) (.seq (.idx (.var 0) (.int 1))) .nil [1]) .nil)) .nil)))) .nil))⟩
/-- s1_is_as_special, statement 21 of the top: one:0 other:1 -/
def d_s1_is_as_special : FDef := ⟨2, 2, (.cons (.ret (.call 14 (.cons (.var 1) (.cons (.call 15 (.cons (.var 0) .nil)) (.cons (.dct .nil) .nil))))) .nil)⟩
/-- is_as_special, statement 22 of the top: one:0 other:1 -/
def d_is_as_special : FDef := ⟨2, 2, (.cons (.drop (.call 13 (.cons (.var 0) .nil))) (.cons (.drop (.call 13 (.cons (.var 1) .nil))) (.cons (.ret (.call 16 (.cons (.var 0) (.cons (.var 1) .nil)))) .nil)))⟩
/-- are_alike, statement 23 of the top: one:0 other:1 -/
def d_are_alike : FDef := ⟨2, 2, (.cons (.drop (.call 13 (.cons (.var 0) .nil))) (.cons (.drop (.call 13 (.cons (.var 1) .nil))) (.cons (.ret (.band (.call 16 (.cons (.var 0) (.cons (.var 1) .nil))) (.call 16 (.cons (.var 1) (.cons (.var 0) .nil))))) .nil)))⟩
/-- _law_due, statement 34 of the top: one:0 other:1 found:2 waiting:3 general:4 special:5 -/
def d_law_due : FDef := ⟨2, 6, (.cons (.par 2 3 (.dct .nil) (.lst (.cons (.tup (.cons (.var 1) (.cons (.var 0) .nil))) .nil))) (.cons (.whl (.cmp .NotEq (.var 3) (.lst .nil)) (.cons (.tasg [4, 5] (.mth .pop (.var 3) .nil)) (.cons (.ifs (.isi (.var 4) .tStr) (.cons (.ifs (.cmp .NotEq (.mth .get (.var 2) (.cons (.var 4) (.cons (.var 5) .nil))) (.var 5)) (.cons (.ret (.bl false)) .nil) .nil) (.cons (.sidx (.var 2) (.var 4) (.var 5)) .nil)) (.cons (.ifs (.bor (.isi (.var 5) .tStr) (.bor (.cmp .NotEq (.idx (.var 4) (.int 0)) (.idx (.var 5) (.int 0))) (.cmp .NotEq (.bi .len (.cons (.idx (.var 4) (.int 1)) .nil)) (.bi .len (.cons (.idx (.var 5) (.int 1)) .nil))))) (.cons (.ret (.bl false)) .nil) (.cons (.asg 3 (.bop .Add (.var 3) (.lzip (.idx (.var 4) (.int 1)) (.idx (.var 5) (.int 1))))) .nil)) .nil)) .nil))) (.cons (.ret (.bl true)) .nil)))⟩
/-- law, statement 36 of the top: script:0 k:1 amount:2 draw:3 turn:4 pair:5 left:6 one:7 other:8 due:9 -/
def d_law : FDef := ⟨1, 10, (.cons (.fors (.tp [1, 2]) (.enum (.bop .Add (.slc (.var 0) .none (.some (.int 6))) (.lst (.cons (.bi .sum (.cons (.var 0) .nil)) .nil)))) (.cons (.asg 3 (.call 0 (.cons (.var 2) (.cons (.var 1) .nil)))) (.cons (.fors (.nm 4) (.rng (.int 9)) (.cons (.tasg [7, 8] (.call 7 (.cons (.var 3) .nil))) (.cons (.ifs (.band (.call 12 (.cons (.var 7) .nil)) (.call 12 (.cons (.var 8) .nil))) (.cons (.asg 9 (.lst (.cons (.call 19 (.cons (.var 7) (.cons (.var 8) .nil))) (.cons (.call 19 (.cons (.var 8) (.cons (.var 7) .nil))) .nil)))) (.cons (.ifs (.cmp .NotEq (.bi .repr (.cons (.lst (.cons (.call 17 (.cons (.var 7) (.cons (.var 8) .nil))) (.cons (.call 17 (.cons (.var 8) (.cons (.var 7) .nil))) .nil))) .nil)) (.bi .repr (.cons (.var 9) .nil))) (.cons (.ret (.bl false)) .nil) .nil) (.cons (.ifs (.cmp .NotEq (.bi .repr (.cons (.call 18 (.cons (.var 7) (.cons (.var 8) .nil))) .nil)) (.bi .repr (.cons (.cmp .Eq (.var 9) (.lst (.cons (.bl true) (.cons (.bl true) .nil)))) .nil))) (.cons (.ret (.bl false)) .nil) .nil) (.cons (.ifs (.bor (.cmp .IsNot (.call 17 (.cons (.var 7) (.cons (.var 7) .nil))) (.bl true)) (.cmp .IsNot (.call 18 (.cons (.var 8) (.cons (.var 8) .nil))) (.bl true))) (.cons (.ret (.bl false)) .nil) .nil) .nil)))) .nil) .nil))) (.cons (.tasg [5, 6] (.tup (.cons (.tup (.cons (.str [112, 97, 105, 114]) (.cons (.tup (.cons (.str [84]) (.cons (.str [84]) .nil))) .nil))) (.cons (.tup (.cons (.str [112, 97, 105, 114]) (.cons (.tup (.cons (.tup (.cons (.str [97]) (.cons (.tup .nil) .nil))) (.cons (.str [84]) .nil))) .nil))) .nil)))) (.cons (.ifs (.bor (.call 17 (.cons (.var 5) (.cons (.var 6) .nil))) (.bor (.call 17 (.cons (.var 6) (.cons (.var 5) .nil))) (.bnot (.call 17 (.cons (.var 5) (.cons (.tup (.cons (.str [112, 97, 105, 114]) (.cons (.tup (.cons (.str [83]) (.cons (.str [84]) .nil))) .nil))) .nil)))))) (.cons (.ret (.bl false)) .nil) .nil) (.cons (.ifs (.bor (.call 17 (.cons (.tup (.cons (.str [112, 97, 105, 114]) (.cons (.tup (.cons (.str [83]) (.cons (.str [84]) .nil))) .nil))) (.cons (.var 5) .nil))) (.bnot (.call 18 (.cons (.tup (.cons (.str [112, 97, 105, 114]) (.cons (.tup (.cons (.str [83]) (.cons (.str [84]) .nil))) .nil))) (.cons (.tup (.cons (.str [112, 97, 105, 114]) (.cons (.tup (.cons (.str [84]) (.cons (.str [83]) .nil))) .nil))) .nil))))) (.cons (.ret (.bl false)) .nil) .nil) .nil)))))) (.cons (.ret (.bl true)) .nil))⟩
def P : List FDef := [d_law_draw, d_law_mixed, d_law_digit, d_law_drawn_word, d_law_size_of, d_law_drawn_form, d_law_put, d_law_pair, d_s1_is_variable, d_is_word, d_s1_weight, d_s1_is_form, d_is_pattern, d_need_pattern, d_s1_matched, d_s1_frozen, d_s1_is_as_special, d_is_as_special, d_are_alike, d_law_due, d_law]
def G : List PV := [(.str [65, 66, 67, 68, 69, 70, 71, 72, 73, 74, 75, 76, 77, 78, 79, 80, 81, 82, 83, 84, 85, 86, 87, 88, 89, 90]), (.str [97, 98, 99, 100, 101, 102, 103, 104, 105, 106, 107, 108, 109, 110, 111, 112, 113, 114, 115, 116, 117, 118, 119, 120, 121, 122]), (.int 12), (.str [97, 98, 99, 100, 101, 102, 103, 104, 105, 106, 107, 108, 109, 110, 111, 112, 113, 114, 115, 116, 117, 118, 119, 120, 121, 122, 48, 49, 50, 51, 52, 53, 54, 55, 56, 57, 95]), (.int 3), (.int 12), (.int 4)]

open PySem PySem.Spec PyProof.Rows L2
def top (i : Nat) : PySem.Stmt := PySem.Challenge.pw_wirebox_k07_special_and_alike.main.body.getD i (.Pass ⟨0, 0, 0, 0⟩)
def i0 : DefI := ⟨"_law_draw", "_law_draw", top 26, ["cell", "k"], 2⟩
def i1 : DefI := ⟨"_law_mixed", "_law_mixed", top 25, ["cell", "k", "one"], 2⟩
def i2 : DefI := ⟨"_law_digit", "_law_digit", top 27, ["draw", "span", "found", "j"], 2⟩
def i3 : DefI := ⟨"_law_drawn_word", "_law_drawn_word", top 28, ["draw"], 1⟩
def i4 : DefI := ⟨"_law_size_of", "_law_size_of", top 30, ["form", "part"], 1⟩
def i5 : DefI := ⟨"_law_drawn_form", "_law_drawn_form", top 29, ["draw", "depth", "size", "signs", "j", "found", "left"], 4⟩
def i6 : DefI := ⟨"_law_put", "_law_put", top 33, ["form", "values", "part"], 2⟩
def i7 : DefI := ⟨"_law_pair", "_law_pair", top 35, ["draw", "one", "way"], 1⟩
def i8 : DefI := ⟨"s1_is_variable", "s1_is_variable", top 13, ["value"], 1⟩
def i9 : DefI := ⟨"is_word", "is_word", top 8, ["value", "sign"], 1⟩
def i10 : DefI := ⟨"s1_weight", "s1_weight", top 14, ["value", "depth", "has_variables", "total", "part", "size"], 3⟩
def i11 : DefI := ⟨"s1_is_form", "s1_is_form", top 15, ["value", "has_variables"], 2⟩
def i12 : DefI := ⟨"is_pattern", "is_pattern", top 17, ["value"], 1⟩
def i13 : DefI := ⟨"need_pattern", "need_pattern", top 18, ["value"], 1⟩
def i14 : DefI := ⟨"s1_matched", "s1_matched", top 19, ["pattern", "form", "found", "one", "other"], 3⟩
def i15 : DefI := ⟨"s1_frozen", "s1_frozen", top 20, ["form", "part"], 1⟩
def i16 : DefI := ⟨"s1_is_as_special", "s1_is_as_special", top 21, ["one", "other"], 2⟩
def i17 : DefI := ⟨"is_as_special", "is_as_special", top 22, ["one", "other"], 2⟩
def i18 : DefI := ⟨"are_alike", "are_alike", top 23, ["one", "other"], 2⟩
def i19 : DefI := ⟨"_law_due", "_law_due", top 34, ["one", "other", "found", "waiting", "general", "special"], 2⟩
def i20 : DefI := ⟨"law", "law", top 36, ["script", "k", "amount", "draw", "turn", "pair", "left", "one", "other", "due"], 1⟩
def tab : List DefI := [i0, i1, i2, i3, i4, i5, i6, i7, i8, i9, i10, i11, i12, i13, i14, i15, i16, i17, i18, i19, i20]
def fn : List Str := ["_law_draw", "_law_mixed", "_law_digit", "_law_drawn_word", "_law_size_of", "_law_drawn_form", "_law_put", "_law_pair", "s1_is_variable", "is_word", "s1_weight", "s1_is_form", "is_pattern", "need_pattern", "s1_matched", "s1_frozen", "s1_is_as_special", "is_as_special", "are_alike", "_law_due", "law"]
def gn : List Str := ["GREAT", "SMALL", "MOST_WORD", "WORD_SIGNS", "MOST_PARTS", "MOST_SIZE", "MOST_DEPTH"]
theorem fn_eq : tab.map (·.name) = fn := rfl
theorem ok0 : defOk fn gn 40 i0 d_law_draw = true := by decide +kernel
theorem sc0 : FnScope i0.N (i0.N.take i0.np) (defScope i0.st) := ⟨rfl, rfl, rfl, by decide +kernel, rfl, by decide +kernel, by decide +kernel⟩
theorem ok1 : defOk fn gn 40 i1 d_law_mixed = true := by decide +kernel
theorem sc1 : FnScope i1.N (i1.N.take i1.np) (defScope i1.st) := ⟨rfl, rfl, rfl, by decide +kernel, rfl, by decide +kernel, by decide +kernel⟩
theorem ok2 : defOk fn gn 40 i2 d_law_digit = true := by decide +kernel
theorem sc2 : FnScope i2.N (i2.N.take i2.np) (defScope i2.st) := ⟨rfl, rfl, rfl, by decide +kernel, rfl, by decide +kernel, by decide +kernel⟩
theorem ok3 : defOk fn gn 40 i3 d_law_drawn_word = true := by decide +kernel
theorem sc3 : FnScope i3.N (i3.N.take i3.np) (defScope i3.st) := ⟨rfl, rfl, rfl, by decide +kernel, rfl, by decide +kernel, by decide +kernel⟩
theorem ok4 : defOk fn gn 40 i4 d_law_size_of = true := by decide +kernel
theorem sc4 : FnScope i4.N (i4.N.take i4.np) (defScope i4.st) := ⟨rfl, rfl, rfl, by decide +kernel, rfl, by decide +kernel, by decide +kernel⟩
theorem ok5 : defOk fn gn 40 i5 d_law_drawn_form = true := by decide +kernel
theorem sc5 : FnScope i5.N (i5.N.take i5.np) (defScope i5.st) := ⟨rfl, rfl, rfl, by decide +kernel, rfl, by decide +kernel, by decide +kernel⟩
theorem ok6 : defOk fn gn 40 i6 d_law_put = true := by decide +kernel
theorem sc6 : FnScope i6.N (i6.N.take i6.np) (defScope i6.st) := ⟨rfl, rfl, rfl, by decide +kernel, rfl, by decide +kernel, by decide +kernel⟩
theorem ok7 : defOk fn gn 40 i7 d_law_pair = true := by decide +kernel
theorem sc7 : FnScope i7.N (i7.N.take i7.np) (defScope i7.st) := ⟨rfl, rfl, rfl, by decide +kernel, rfl, by decide +kernel, by decide +kernel⟩
theorem ok8 : defOk fn gn 40 i8 d_s1_is_variable = true := by decide +kernel
theorem sc8 : FnScope i8.N (i8.N.take i8.np) (defScope i8.st) := ⟨rfl, rfl, rfl, by decide +kernel, rfl, by decide +kernel, by decide +kernel⟩
theorem ok9 : defOk fn gn 40 i9 d_is_word = true := by decide +kernel
theorem sc9 : FnScope i9.N (i9.N.take i9.np) (defScope i9.st) := ⟨rfl, rfl, rfl, by decide +kernel, rfl, by decide +kernel, by decide +kernel⟩
theorem ok10 : defOk fn gn 40 i10 d_s1_weight = true := by decide +kernel
theorem sc10 : FnScope i10.N (i10.N.take i10.np) (defScope i10.st) := ⟨rfl, rfl, rfl, by decide +kernel, rfl, by decide +kernel, by decide +kernel⟩
theorem ok11 : defOk fn gn 40 i11 d_s1_is_form = true := by decide +kernel
theorem sc11 : FnScope i11.N (i11.N.take i11.np) (defScope i11.st) := ⟨rfl, rfl, rfl, by decide +kernel, rfl, by decide +kernel, by decide +kernel⟩
theorem ok12 : defOk fn gn 40 i12 d_is_pattern = true := by decide +kernel
theorem sc12 : FnScope i12.N (i12.N.take i12.np) (defScope i12.st) := ⟨rfl, rfl, rfl, by decide +kernel, rfl, by decide +kernel, by decide +kernel⟩
theorem ok13 : defOk fn gn 40 i13 d_need_pattern = true := by decide +kernel
theorem sc13 : FnScope i13.N (i13.N.take i13.np) (defScope i13.st) := ⟨rfl, rfl, rfl, by decide +kernel, rfl, by decide +kernel, by decide +kernel⟩
theorem ok14 : defOk fn gn 40 i14 d_s1_matched = true := by decide +kernel
theorem sc14 : FnScope i14.N (i14.N.take i14.np) (defScope i14.st) := ⟨rfl, rfl, rfl, by decide +kernel, rfl, by decide +kernel, by decide +kernel⟩
theorem ok15 : defOk fn gn 40 i15 d_s1_frozen = true := by decide +kernel
theorem sc15 : FnScope i15.N (i15.N.take i15.np) (defScope i15.st) := ⟨rfl, rfl, rfl, by decide +kernel, rfl, by decide +kernel, by decide +kernel⟩
theorem ok16 : defOk fn gn 40 i16 d_s1_is_as_special = true := by decide +kernel
theorem sc16 : FnScope i16.N (i16.N.take i16.np) (defScope i16.st) := ⟨rfl, rfl, rfl, by decide +kernel, rfl, by decide +kernel, by decide +kernel⟩
theorem ok17 : defOk fn gn 40 i17 d_is_as_special = true := by decide +kernel
theorem sc17 : FnScope i17.N (i17.N.take i17.np) (defScope i17.st) := ⟨rfl, rfl, rfl, by decide +kernel, rfl, by decide +kernel, by decide +kernel⟩
theorem ok18 : defOk fn gn 40 i18 d_are_alike = true := by decide +kernel
theorem sc18 : FnScope i18.N (i18.N.take i18.np) (defScope i18.st) := ⟨rfl, rfl, rfl, by decide +kernel, rfl, by decide +kernel, by decide +kernel⟩
theorem ok19 : defOk fn gn 40 i19 d_law_due = true := by decide +kernel
theorem sc19 : FnScope i19.N (i19.N.take i19.np) (defScope i19.st) := ⟨rfl, rfl, rfl, by decide +kernel, rfl, by decide +kernel, by decide +kernel⟩
theorem ok20 : defOk fn gn 40 i20 d_law = true := by decide +kernel
theorem sc20 : FnScope i20.N (i20.N.take i20.np) (defScope i20.st) := ⟨rfl, rfl, rfl, by decide +kernel, rfl, by decide +kernel, by decide +kernel⟩
abbrev s0 : PySem.Stmt := top 26
abbrev s1 : PySem.Stmt := top 25
abbrev s2 : PySem.Stmt := top 27
abbrev s3 : PySem.Stmt := top 28
abbrev s4 : PySem.Stmt := top 30
abbrev s5 : PySem.Stmt := top 29
abbrev s6 : PySem.Stmt := top 33
abbrev s7 : PySem.Stmt := top 35
abbrev s8 : PySem.Stmt := top 13
abbrev s9 : PySem.Stmt := top 8
abbrev s10 : PySem.Stmt := top 14
abbrev s11 : PySem.Stmt := top 15
abbrev s12 : PySem.Stmt := top 17
abbrev s13 : PySem.Stmt := top 18
abbrev s14 : PySem.Stmt := top 19
abbrev s15 : PySem.Stmt := top 20
abbrev s16 : PySem.Stmt := top 21
abbrev s17 : PySem.Stmt := top 22
abbrev s18 : PySem.Stmt := top 23
abbrev s19 : PySem.Stmt := top 34
abbrev s20 : PySem.Stmt := top 36
section
variable {K : PySem.W.Frag} {mg : Str → Option Value} {h : Heap}
theorem df0 (X : K.In h) (g : h.Ns mainGlobals mg) (d : DK K i0) : DefF K mg fn gn i0 d_law_draw := .mk2 X g d sc0 ⟨40, ok0⟩ fun _ _ _ _ _ _ us hl => match us, hl with | [_, _], _ => rfl
theorem df1 (X : K.In h) (g : h.Ns mainGlobals mg) (d : DK K i1) : DefF K mg fn gn i1 d_law_mixed := .mk2 X g d sc1 ⟨40, ok1⟩ fun _ _ _ _ _ _ us hl => match us, hl with | [_, _], _ => rfl
theorem df2 (X : K.In h) (g : h.Ns mainGlobals mg) (d : DK K i2) : DefF K mg fn gn i2 d_law_digit := .mk2 X g d sc2 ⟨40, ok2⟩ fun _ _ _ _ _ _ us hl => match us, hl with | [_, _], _ => rfl
theorem df3 (X : K.In h) (g : h.Ns mainGlobals mg) (d : DK K i3) : DefF K mg fn gn i3 d_law_drawn_word := .mk2 X g d sc3 ⟨40, ok3⟩ fun _ _ _ _ _ _ us hl => match us, hl with | [_], _ => rfl
theorem df4 (X : K.In h) (g : h.Ns mainGlobals mg) (d : DK K i4) : DefF K mg fn gn i4 d_law_size_of := .mk2 X g d sc4 ⟨40, ok4⟩ fun _ _ _ _ _ _ us hl => match us, hl with | [_], _ => rfl
theorem df5 (X : K.In h) (g : h.Ns mainGlobals mg) (d : DK K i5) : DefF K mg fn gn i5 d_law_drawn_form := .mk2 X g d sc5 ⟨40, ok5⟩ fun _ _ _ _ _ _ us hl => match us, hl with | [_, _, _, _], _ => rfl
theorem df6 (X : K.In h) (g : h.Ns mainGlobals mg) (d : DK K i6) : DefF K mg fn gn i6 d_law_put := .mk2 X g d sc6 ⟨40, ok6⟩ fun _ _ _ _ _ _ us hl => match us, hl with | [_, _], _ => rfl
theorem df7 (X : K.In h) (g : h.Ns mainGlobals mg) (d : DK K i7) : DefF K mg fn gn i7 d_law_pair := .mk2 X g d sc7 ⟨40, ok7⟩ fun _ _ _ _ _ _ us hl => match us, hl with | [_], _ => rfl
theorem df8 (X : K.In h) (g : h.Ns mainGlobals mg) (d : DK K i8) : DefF K mg fn gn i8 d_s1_is_variable := .mk2 X g d sc8 ⟨40, ok8⟩ fun _ _ _ _ _ _ us hl => match us, hl with | [_], _ => rfl
theorem df9 (X : K.In h) (g : h.Ns mainGlobals mg) (d : DK K i9) : DefF K mg fn gn i9 d_is_word := .mk2 X g d sc9 ⟨40, ok9⟩ fun _ _ _ _ _ _ us hl => match us, hl with | [_], _ => rfl
theorem df10 (X : K.In h) (g : h.Ns mainGlobals mg) (d : DK K i10) : DefF K mg fn gn i10 d_s1_weight := .mk2 X g d sc10 ⟨40, ok10⟩ fun _ _ _ _ _ _ us hl => match us, hl with | [_, _, _], _ => rfl
theorem df11 (X : K.In h) (g : h.Ns mainGlobals mg) (d : DK K i11) : DefF K mg fn gn i11 d_s1_is_form := .mk2 X g d sc11 ⟨40, ok11⟩ fun _ _ _ _ _ _ us hl => match us, hl with | [_, _], _ => rfl
theorem df12 (X : K.In h) (g : h.Ns mainGlobals mg) (d : DK K i12) : DefF K mg fn gn i12 d_is_pattern := .mk2 X g d sc12 ⟨40, ok12⟩ fun _ _ _ _ _ _ us hl => match us, hl with | [_], _ => rfl
theorem df13 (X : K.In h) (g : h.Ns mainGlobals mg) (d : DK K i13) : DefF K mg fn gn i13 d_need_pattern := .mk2 X g d sc13 ⟨40, ok13⟩ fun _ _ _ _ _ _ us hl => match us, hl with | [_], _ => rfl
theorem df14 (X : K.In h) (g : h.Ns mainGlobals mg) (d : DK K i14) : DefF K mg fn gn i14 d_s1_matched := .mk2 X g d sc14 ⟨40, ok14⟩ fun _ _ _ _ _ _ us hl => match us, hl with | [_, _, _], _ => rfl
theorem df15 (X : K.In h) (g : h.Ns mainGlobals mg) (d : DK K i15) : DefF K mg fn gn i15 d_s1_frozen := .mk2 X g d sc15 ⟨40, ok15⟩ fun _ _ _ _ _ _ us hl => match us, hl with | [_], _ => rfl
theorem df16 (X : K.In h) (g : h.Ns mainGlobals mg) (d : DK K i16) : DefF K mg fn gn i16 d_s1_is_as_special := .mk2 X g d sc16 ⟨40, ok16⟩ fun _ _ _ _ _ _ us hl => match us, hl with | [_, _], _ => rfl
theorem df17 (X : K.In h) (g : h.Ns mainGlobals mg) (d : DK K i17) : DefF K mg fn gn i17 d_is_as_special := .mk2 X g d sc17 ⟨40, ok17⟩ fun _ _ _ _ _ _ us hl => match us, hl with | [_, _], _ => rfl
theorem df18 (X : K.In h) (g : h.Ns mainGlobals mg) (d : DK K i18) : DefF K mg fn gn i18 d_are_alike := .mk2 X g d sc18 ⟨40, ok18⟩ fun _ _ _ _ _ _ us hl => match us, hl with | [_, _], _ => rfl
theorem df19 (X : K.In h) (g : h.Ns mainGlobals mg) (d : DK K i19) : DefF K mg fn gn i19 d_law_due := .mk2 X g d sc19 ⟨40, ok19⟩ fun _ _ _ _ _ _ us hl => match us, hl with | [_, _], _ => rfl
theorem df20 (X : K.In h) (g : h.Ns mainGlobals mg) (d : DK K i20) : DefF K mg fn gn i20 d_law := .mk2 X g d sc20 ⟨40, ok20⟩ fun _ _ _ _ _ _ us hl => match us, hl with | [_], _ => rfl
end
theorem tabF {K : PySem.W.Frag} {mg : Str → Option Value} {h : Heap} (X : K.In h) (g : h.Ns mainGlobals mg) (e0 : DK K i0) (e1 : DK K i1) (e2 : DK K i2) (e3 : DK K i3) (e4 : DK K i4) (e5 : DK K i5) (e6 : DK K i6) (e7 : DK K i7) (e8 : DK K i8) (e9 : DK K i9) (e10 : DK K i10) (e11 : DK K i11) (e12 : DK K i12) (e13 : DK K i13) (e14 : DK K i14) (e15 : DK K i15) (e16 : DK K i16) (e17 : DK K i17) (e18 : DK K i18) (e19 : DK K i19) (e20 : DK K i20) (bl : ∀ x, x ∈ blNames → PySem.W.nsIn K mainGlobals x = some none) (gl : GlK K gn G) : TabF K mg tab P G gn :=
  ⟨rfl, AllD.get (by rw [fn_eq]; exact ⟨df0 X g e0, df1 X g e1, df2 X g e2, df3 X g e3, df4 X g e4, df5 X g e5, df6 X g e6, df7 X g e7, df8 X g e8, df9 X g e9, df10 X g e10, df11 X g e11, df12 X g e12, df13 X g e13, df14 X g e14, df15 X g e15, df16 X g e16, df17 X g e17, df18 X g e18, df19 X g e19, df20 X g e20, trivial⟩), fun x hx => PySem.W.mg_none_of X g (bl x hx), gl.get X g⟩
def spL (K : PySem.W.Frag) : Sp := spF K (fun _ => .none) (run P G 40) 20 1
theorem all_mk0 {l : PySem.W.OpenLaw} {w : World} {K : PySem.W.Frag} {h : Heap} {mg : Str → Option Value} {fa : Addr} (X : K.In h) (g : h.Ns mainGlobals mg) (hfa : mg "law" = some (.ref fa)) (e0 : DK K i0) (e1 : DK K i1) (e2 : DK K i2) (e3 : DK K i3) (e4 : DK K i4) (e5 : DK K i5) (e6 : DK K i6) (e7 : DK K i7) (e8 : DK K i8) (e9 : DK K i9) (e10 : DK K i10) (e11 : DK K i11) (e12 : DK K i12) (e13 : DK K i13) (e14 : DK K i14) (e15 : DK K i15) (e16 : DK K i16) (e17 : DK K i17) (e18 : DK K i18) (e19 : DK K i19) (e20 : DK K i20) (bl : ∀ x, x ∈ blNames → PySem.W.nsIn K mainGlobals x = some none) (gl : GlK K gn G) :
    ∃ fd : FuncData, (∀ (s : Shared) (v : Value), BindsTo s fd ⟨[v], []⟩ [("script", v)]) ∧ ∀ base : Heap, K.In base → base.Ns mainGlobals mg → FnG l.prog w K mg base (L2.CX l.prog w) 40 fa fd ["script"] (spL K) := by
  have T := tabF X g e0 e1 e2 e3 e4 e5 e6 e7 e8 e9 e10 e11 e12 e13 e14 e15 e16 e17 e18 e19 e20 bl gl
  obtain ⟨a, fd, F, hm, hb⟩ := (T.defs 20 i20 d_law rfl rfl).ex
  have e := hfa.symm.trans hm
  cases e
  refine ⟨fd, fun s v => ?_, fun base X' g' => ?_⟩
  · obtain ⟨oc, od, kV, doc, pm, an, cdv, ct, osl, rfl, lk, hcd⟩ := F.ex
    exact .of_eq rfl
  · exact fn_step (P := l.prog) (w := w) (base := base) (cv := fun _ => .none) T (callees T 39) rfl rfl F
theorem all_mk {l : PySem.W.OpenLaw} {w : World} {K : PySem.W.Frag} {h : Heap} {mg : Str → Option Value} {fa : Addr} (X : K.In h) (g : h.Ns mainGlobals mg) (hfa : mg "law" = some (.ref fa))
    {f0 : Addr} {od0 an0 : Option Addr} {sl0 : Array (Option Value)} {oc0 kV0 dc0 pm0 cd0 ct0 : Value}
    {f1 : Addr} {od1 an1 : Option Addr} {sl1 : Array (Option Value)} {oc1 kV1 dc1 pm1 cd1 ct1 : Value}
    {f2 : Addr} {od2 an2 : Option Addr} {sl2 : Array (Option Value)} {oc2 kV2 dc2 pm2 cd2 ct2 : Value}
    {f3 : Addr} {od3 an3 : Option Addr} {sl3 : Array (Option Value)} {oc3 kV3 dc3 pm3 cd3 ct3 : Value}
    {f4 : Addr} {od4 an4 : Option Addr} {sl4 : Array (Option Value)} {oc4 kV4 dc4 pm4 cd4 ct4 : Value}
    {f5 : Addr} {od5 an5 : Option Addr} {sl5 : Array (Option Value)} {oc5 kV5 dc5 pm5 cd5 ct5 : Value}
    {f6 : Addr} {od6 an6 : Option Addr} {sl6 : Array (Option Value)} {oc6 kV6 dc6 pm6 cd6 ct6 : Value}
    {f7 : Addr} {od7 an7 : Option Addr} {sl7 : Array (Option Value)} {oc7 kV7 dc7 pm7 cd7 ct7 : Value}
    {f8 : Addr} {od8 an8 : Option Addr} {sl8 : Array (Option Value)} {oc8 kV8 dc8 pm8 cd8 ct8 : Value}
    {f9 : Addr} {od9 an9 : Option Addr} {sl9 : Array (Option Value)} {oc9 kV9 dc9 pm9 cd9 ct9 : Value}
    {f10 : Addr} {od10 an10 : Option Addr} {sl10 : Array (Option Value)} {oc10 kV10 dc10 pm10 cd10 ct10 : Value}
    {f11 : Addr} {od11 an11 : Option Addr} {sl11 : Array (Option Value)} {oc11 kV11 dc11 pm11 cd11 ct11 : Value}
    {f12 : Addr} {od12 an12 : Option Addr} {sl12 : Array (Option Value)} {oc12 kV12 dc12 pm12 cd12 ct12 : Value}
    {f13 : Addr} {od13 an13 : Option Addr} {sl13 : Array (Option Value)} {oc13 kV13 dc13 pm13 cd13 ct13 : Value}
    {f14 : Addr} {od14 an14 : Option Addr} {sl14 : Array (Option Value)} {oc14 kV14 dc14 pm14 cd14 ct14 : Value}
    {f15 : Addr} {od15 an15 : Option Addr} {sl15 : Array (Option Value)} {oc15 kV15 dc15 pm15 cd15 ct15 : Value}
    {f16 : Addr} {od16 an16 : Option Addr} {sl16 : Array (Option Value)} {oc16 kV16 dc16 pm16 cd16 ct16 : Value}
    {f17 : Addr} {od17 an17 : Option Addr} {sl17 : Array (Option Value)} {oc17 kV17 dc17 pm17 cd17 ct17 : Value}
    {f18 : Addr} {od18 an18 : Option Addr} {sl18 : Array (Option Value)} {oc18 kV18 dc18 pm18 cd18 ct18 : Value}
    {f19 : Addr} {od19 an19 : Option Addr} {sl19 : Array (Option Value)} {oc19 kV19 dc19 pm19 cd19 ct19 : Value}
    {f20 : Addr} {od20 an20 : Option Addr} {sl20 : Array (Option Value)} {oc20 kV20 dc20 pm20 cd20 ct20 : Value} {u0 : Value} {u1 : Value} {u2 : Value} {u3 : Value} {u4 : Value} {u5 : Value} {u6 : Value}
    (a0 : PySem.W.nsIn K mainGlobals "_law_draw" = some (some (.ref f0))) (l0 : K.lookup f0 = some ⟨oc0, od0, .func (PySem.W.fnOf "_law_draw" "_law_draw" (defArgs s0) (defBody s0) (defScope s0) .none kV0 dc0 pm0 an0 cd0 ct0), sl0⟩) (c0 : PySem.W.codeIn K cd0 "_law_draw" = true) (k0 : PySem.W.keepIn K (.ref f0) = true)
    (a1 : PySem.W.nsIn K mainGlobals "_law_mixed" = some (some (.ref f1))) (l1 : K.lookup f1 = some ⟨oc1, od1, .func (PySem.W.fnOf "_law_mixed" "_law_mixed" (defArgs s1) (defBody s1) (defScope s1) .none kV1 dc1 pm1 an1 cd1 ct1), sl1⟩) (c1 : PySem.W.codeIn K cd1 "_law_mixed" = true) (k1 : PySem.W.keepIn K (.ref f1) = true)
    (a2 : PySem.W.nsIn K mainGlobals "_law_digit" = some (some (.ref f2))) (l2 : K.lookup f2 = some ⟨oc2, od2, .func (PySem.W.fnOf "_law_digit" "_law_digit" (defArgs s2) (defBody s2) (defScope s2) .none kV2 dc2 pm2 an2 cd2 ct2), sl2⟩) (c2 : PySem.W.codeIn K cd2 "_law_digit" = true) (k2 : PySem.W.keepIn K (.ref f2) = true)
    (a3 : PySem.W.nsIn K mainGlobals "_law_drawn_word" = some (some (.ref f3))) (l3 : K.lookup f3 = some ⟨oc3, od3, .func (PySem.W.fnOf "_law_drawn_word" "_law_drawn_word" (defArgs s3) (defBody s3) (defScope s3) .none kV3 dc3 pm3 an3 cd3 ct3), sl3⟩) (c3 : PySem.W.codeIn K cd3 "_law_drawn_word" = true) (k3 : PySem.W.keepIn K (.ref f3) = true)
    (a4 : PySem.W.nsIn K mainGlobals "_law_size_of" = some (some (.ref f4))) (l4 : K.lookup f4 = some ⟨oc4, od4, .func (PySem.W.fnOf "_law_size_of" "_law_size_of" (defArgs s4) (defBody s4) (defScope s4) .none kV4 dc4 pm4 an4 cd4 ct4), sl4⟩) (c4 : PySem.W.codeIn K cd4 "_law_size_of" = true) (k4 : PySem.W.keepIn K (.ref f4) = true)
    (a5 : PySem.W.nsIn K mainGlobals "_law_drawn_form" = some (some (.ref f5))) (l5 : K.lookup f5 = some ⟨oc5, od5, .func (PySem.W.fnOf "_law_drawn_form" "_law_drawn_form" (defArgs s5) (defBody s5) (defScope s5) .none kV5 dc5 pm5 an5 cd5 ct5), sl5⟩) (c5 : PySem.W.codeIn K cd5 "_law_drawn_form" = true) (k5 : PySem.W.keepIn K (.ref f5) = true)
    (a6 : PySem.W.nsIn K mainGlobals "_law_put" = some (some (.ref f6))) (l6 : K.lookup f6 = some ⟨oc6, od6, .func (PySem.W.fnOf "_law_put" "_law_put" (defArgs s6) (defBody s6) (defScope s6) .none kV6 dc6 pm6 an6 cd6 ct6), sl6⟩) (c6 : PySem.W.codeIn K cd6 "_law_put" = true) (k6 : PySem.W.keepIn K (.ref f6) = true)
    (a7 : PySem.W.nsIn K mainGlobals "_law_pair" = some (some (.ref f7))) (l7 : K.lookup f7 = some ⟨oc7, od7, .func (PySem.W.fnOf "_law_pair" "_law_pair" (defArgs s7) (defBody s7) (defScope s7) .none kV7 dc7 pm7 an7 cd7 ct7), sl7⟩) (c7 : PySem.W.codeIn K cd7 "_law_pair" = true) (k7 : PySem.W.keepIn K (.ref f7) = true)
    (a8 : PySem.W.nsIn K mainGlobals "s1_is_variable" = some (some (.ref f8))) (l8 : K.lookup f8 = some ⟨oc8, od8, .func (PySem.W.fnOf "s1_is_variable" "s1_is_variable" (defArgs s8) (defBody s8) (defScope s8) .none kV8 dc8 pm8 an8 cd8 ct8), sl8⟩) (c8 : PySem.W.codeIn K cd8 "s1_is_variable" = true) (k8 : PySem.W.keepIn K (.ref f8) = true)
    (a9 : PySem.W.nsIn K mainGlobals "is_word" = some (some (.ref f9))) (l9 : K.lookup f9 = some ⟨oc9, od9, .func (PySem.W.fnOf "is_word" "is_word" (defArgs s9) (defBody s9) (defScope s9) .none kV9 dc9 pm9 an9 cd9 ct9), sl9⟩) (c9 : PySem.W.codeIn K cd9 "is_word" = true) (k9 : PySem.W.keepIn K (.ref f9) = true)
    (a10 : PySem.W.nsIn K mainGlobals "s1_weight" = some (some (.ref f10))) (l10 : K.lookup f10 = some ⟨oc10, od10, .func (PySem.W.fnOf "s1_weight" "s1_weight" (defArgs s10) (defBody s10) (defScope s10) .none kV10 dc10 pm10 an10 cd10 ct10), sl10⟩) (c10 : PySem.W.codeIn K cd10 "s1_weight" = true) (k10 : PySem.W.keepIn K (.ref f10) = true)
    (a11 : PySem.W.nsIn K mainGlobals "s1_is_form" = some (some (.ref f11))) (l11 : K.lookup f11 = some ⟨oc11, od11, .func (PySem.W.fnOf "s1_is_form" "s1_is_form" (defArgs s11) (defBody s11) (defScope s11) .none kV11 dc11 pm11 an11 cd11 ct11), sl11⟩) (c11 : PySem.W.codeIn K cd11 "s1_is_form" = true) (k11 : PySem.W.keepIn K (.ref f11) = true)
    (a12 : PySem.W.nsIn K mainGlobals "is_pattern" = some (some (.ref f12))) (l12 : K.lookup f12 = some ⟨oc12, od12, .func (PySem.W.fnOf "is_pattern" "is_pattern" (defArgs s12) (defBody s12) (defScope s12) .none kV12 dc12 pm12 an12 cd12 ct12), sl12⟩) (c12 : PySem.W.codeIn K cd12 "is_pattern" = true) (k12 : PySem.W.keepIn K (.ref f12) = true)
    (a13 : PySem.W.nsIn K mainGlobals "need_pattern" = some (some (.ref f13))) (l13 : K.lookup f13 = some ⟨oc13, od13, .func (PySem.W.fnOf "need_pattern" "need_pattern" (defArgs s13) (defBody s13) (defScope s13) .none kV13 dc13 pm13 an13 cd13 ct13), sl13⟩) (c13 : PySem.W.codeIn K cd13 "need_pattern" = true) (k13 : PySem.W.keepIn K (.ref f13) = true)
    (a14 : PySem.W.nsIn K mainGlobals "s1_matched" = some (some (.ref f14))) (l14 : K.lookup f14 = some ⟨oc14, od14, .func (PySem.W.fnOf "s1_matched" "s1_matched" (defArgs s14) (defBody s14) (defScope s14) .none kV14 dc14 pm14 an14 cd14 ct14), sl14⟩) (c14 : PySem.W.codeIn K cd14 "s1_matched" = true) (k14 : PySem.W.keepIn K (.ref f14) = true)
    (a15 : PySem.W.nsIn K mainGlobals "s1_frozen" = some (some (.ref f15))) (l15 : K.lookup f15 = some ⟨oc15, od15, .func (PySem.W.fnOf "s1_frozen" "s1_frozen" (defArgs s15) (defBody s15) (defScope s15) .none kV15 dc15 pm15 an15 cd15 ct15), sl15⟩) (c15 : PySem.W.codeIn K cd15 "s1_frozen" = true) (k15 : PySem.W.keepIn K (.ref f15) = true)
    (a16 : PySem.W.nsIn K mainGlobals "s1_is_as_special" = some (some (.ref f16))) (l16 : K.lookup f16 = some ⟨oc16, od16, .func (PySem.W.fnOf "s1_is_as_special" "s1_is_as_special" (defArgs s16) (defBody s16) (defScope s16) .none kV16 dc16 pm16 an16 cd16 ct16), sl16⟩) (c16 : PySem.W.codeIn K cd16 "s1_is_as_special" = true) (k16 : PySem.W.keepIn K (.ref f16) = true)
    (a17 : PySem.W.nsIn K mainGlobals "is_as_special" = some (some (.ref f17))) (l17 : K.lookup f17 = some ⟨oc17, od17, .func (PySem.W.fnOf "is_as_special" "is_as_special" (defArgs s17) (defBody s17) (defScope s17) .none kV17 dc17 pm17 an17 cd17 ct17), sl17⟩) (c17 : PySem.W.codeIn K cd17 "is_as_special" = true) (k17 : PySem.W.keepIn K (.ref f17) = true)
    (a18 : PySem.W.nsIn K mainGlobals "are_alike" = some (some (.ref f18))) (l18 : K.lookup f18 = some ⟨oc18, od18, .func (PySem.W.fnOf "are_alike" "are_alike" (defArgs s18) (defBody s18) (defScope s18) .none kV18 dc18 pm18 an18 cd18 ct18), sl18⟩) (c18 : PySem.W.codeIn K cd18 "are_alike" = true) (k18 : PySem.W.keepIn K (.ref f18) = true)
    (a19 : PySem.W.nsIn K mainGlobals "_law_due" = some (some (.ref f19))) (l19 : K.lookup f19 = some ⟨oc19, od19, .func (PySem.W.fnOf "_law_due" "_law_due" (defArgs s19) (defBody s19) (defScope s19) .none kV19 dc19 pm19 an19 cd19 ct19), sl19⟩) (c19 : PySem.W.codeIn K cd19 "_law_due" = true) (k19 : PySem.W.keepIn K (.ref f19) = true)
    (a20 : PySem.W.nsIn K mainGlobals "law" = some (some (.ref f20))) (l20 : K.lookup f20 = some ⟨oc20, od20, .func (PySem.W.fnOf "law" "law" (defArgs s20) (defBody s20) (defScope s20) .none kV20 dc20 pm20 an20 cd20 ct20), sl20⟩) (c20 : PySem.W.codeIn K cd20 "law" = true) (k20 : PySem.W.keepIn K (.ref f20) = true)
    (z0 : PySem.W.nsIn K mainGlobals "len" = some none) (z1 : PySem.W.nsIn K mainGlobals "min" = some none) (z2 : PySem.W.nsIn K mainGlobals "max" = some none) (z3 : PySem.W.nsIn K mainGlobals "sum" = some none) (z4 : PySem.W.nsIn K mainGlobals "all" = some none) (z5 : PySem.W.nsIn K mainGlobals "any" = some none) (z6 : PySem.W.nsIn K mainGlobals "abs" = some none) (z7 : PySem.W.nsIn K mainGlobals "int" = some none) (z8 : PySem.W.nsIn K mainGlobals "tuple" = some none) (z9 : PySem.W.nsIn K mainGlobals "list" = some none) (z10 : PySem.W.nsIn K mainGlobals "isinstance" = some none) (z11 : PySem.W.nsIn K mainGlobals "str" = some none) (z12 : PySem.W.nsIn K mainGlobals "bool" = some none) (z13 : PySem.W.nsIn K mainGlobals "dict" = some none) (z14 : PySem.W.nsIn K mainGlobals "range" = some none) (z15 : PySem.W.nsIn K mainGlobals "enumerate" = some none) (z16 : PySem.W.nsIn K mainGlobals "zip" = some none) (z17 : PySem.W.nsIn K mainGlobals "repr" = some none)
    (pfg0 : PySem.W.nsIn K mainGlobals "GREAT" = some (some u0)) (pfr0 : ∃ w, RelV w u0 ∧ ∀ β H, VR K β H (G.getD 0 .non) w) (pfg1 : PySem.W.nsIn K mainGlobals "SMALL" = some (some u1)) (pfr1 : ∃ w, RelV w u1 ∧ ∀ β H, VR K β H (G.getD 1 .non) w) (pfg2 : PySem.W.nsIn K mainGlobals "MOST_WORD" = some (some u2)) (pfr2 : ∃ w, RelV w u2 ∧ ∀ β H, VR K β H (G.getD 2 .non) w) (pfg3 : PySem.W.nsIn K mainGlobals "WORD_SIGNS" = some (some u3)) (pfr3 : ∃ w, RelV w u3 ∧ ∀ β H, VR K β H (G.getD 3 .non) w) (pfg4 : PySem.W.nsIn K mainGlobals "MOST_PARTS" = some (some u4)) (pfr4 : ∃ w, RelV w u4 ∧ ∀ β H, VR K β H (G.getD 4 .non) w) (pfg5 : PySem.W.nsIn K mainGlobals "MOST_SIZE" = some (some u5)) (pfr5 : ∃ w, RelV w u5 ∧ ∀ β H, VR K β H (G.getD 5 .non) w) (pfg6 : PySem.W.nsIn K mainGlobals "MOST_DEPTH" = some (some u6)) (pfr6 : ∃ w, RelV w u6 ∧ ∀ β H, VR K β H (G.getD 6 .non) w) :
    ∃ fd : FuncData, (∀ (s : Shared) (v : Value), BindsTo s fd ⟨[v], []⟩ [("script", v)]) ∧ ∀ base : Heap, K.In base → base.Ns mainGlobals mg → FnG l.prog w K mg base (L2.CX l.prog w) 40 fa fd ["script"] (spL K) :=
  all_mk0 X g hfa ⟨⟨_, _, _, _, _, _, _, _, _, _, a0, l0, c0, k0⟩⟩ ⟨⟨_, _, _, _, _, _, _, _, _, _, a1, l1, c1, k1⟩⟩ ⟨⟨_, _, _, _, _, _, _, _, _, _, a2, l2, c2, k2⟩⟩ ⟨⟨_, _, _, _, _, _, _, _, _, _, a3, l3, c3, k3⟩⟩ ⟨⟨_, _, _, _, _, _, _, _, _, _, a4, l4, c4, k4⟩⟩ ⟨⟨_, _, _, _, _, _, _, _, _, _, a5, l5, c5, k5⟩⟩ ⟨⟨_, _, _, _, _, _, _, _, _, _, a6, l6, c6, k6⟩⟩ ⟨⟨_, _, _, _, _, _, _, _, _, _, a7, l7, c7, k7⟩⟩ ⟨⟨_, _, _, _, _, _, _, _, _, _, a8, l8, c8, k8⟩⟩ ⟨⟨_, _, _, _, _, _, _, _, _, _, a9, l9, c9, k9⟩⟩ ⟨⟨_, _, _, _, _, _, _, _, _, _, a10, l10, c10, k10⟩⟩ ⟨⟨_, _, _, _, _, _, _, _, _, _, a11, l11, c11, k11⟩⟩ ⟨⟨_, _, _, _, _, _, _, _, _, _, a12, l12, c12, k12⟩⟩ ⟨⟨_, _, _, _, _, _, _, _, _, _, a13, l13, c13, k13⟩⟩ ⟨⟨_, _, _, _, _, _, _, _, _, _, a14, l14, c14, k14⟩⟩ ⟨⟨_, _, _, _, _, _, _, _, _, _, a15, l15, c15, k15⟩⟩ ⟨⟨_, _, _, _, _, _, _, _, _, _, a16, l16, c16, k16⟩⟩ ⟨⟨_, _, _, _, _, _, _, _, _, _, a17, l17, c17, k17⟩⟩ ⟨⟨_, _, _, _, _, _, _, _, _, _, a18, l18, c18, k18⟩⟩ ⟨⟨_, _, _, _, _, _, _, _, _, _, a19, l19, c19, k19⟩⟩ ⟨⟨_, _, _, _, _, _, _, _, _, _, a20, l20, c20, k20⟩⟩ (bl_of z0 z1 z2 z3 z4 z5 z6 z7 z8 z9 z10 z11 z12 z13 z14 z15 z16 z17) ⟨⟨u0, pfr0.choose, pfg0, pfr0.choose_spec.1, pfr0.choose_spec.2⟩, ⟨u1, pfr1.choose, pfg1, pfr1.choose_spec.1, pfr1.choose_spec.2⟩, ⟨u2, pfr2.choose, pfg2, pfr2.choose_spec.1, pfr2.choose_spec.2⟩, ⟨u3, pfr3.choose, pfg3, pfr3.choose_spec.1, pfr3.choose_spec.2⟩, ⟨u4, pfr4.choose, pfg4, pfr4.choose_spec.1, pfr4.choose_spec.2⟩, ⟨u5, pfr5.choose, pfg5, pfr5.choose_spec.1, pfr5.choose_spec.2⟩, ⟨u6, pfr6.choose, pfg6, pfr6.choose_spec.1, pfr6.choose_spec.2⟩, trivial⟩
/-! ### the law -/
open Lib
def TXT : Txt := [84, 88, 84]
theorem pW : P[3]? = some (drawn_word 2) := rfl
theorem pD : P[2]? = some (digit 1) := rfl
theorem pM : P[1]? = some mixed := rfl
theorem pZ : P[4]? = some (size_of 4) := rfl
theorem pF : P[5]? = some (drawn_form 5 4 3 2) := rfl
theorem pP : P[6]? = some (put 6) := rfl
theorem pDr : P[0]? = some Lib.draw := rfl
theorem pPa : P[12]? = some (is_pattern 11) := rfl
theorem pFm : P[11]? = some (is_form 10 6) := rfl
theorem pNP : P[13]? = some (need 12) := rfl
theorem pMt : P[14]? = some (matched 14) := rfl
theorem pFr : P[15]? = some (frozen 15) := rfl
theorem pSp : P[16]? = some (special 14 15) := rfl
theorem pIs : P[17]? = some (isas 13 16) := rfl
theorem pAl : P[18]? = some (alike 13 16) := rfl
theorem pU : P[19]? = some dueb := rfl
theorem gD : G[6]? = some (.int 4) := rfl
theorem wtg : WtG P G 10 8 9 1 2 3 0 4 5 := ⟨rfl, rfl, rfl, rfl, rfl, rfl, rfl, rfl, rfl⟩
theorem form3 : FormP P G 38 5 3 := run_form pF pZ pW pD pM 2 32
theorem form2 : FormP P G 38 5 2 := run_form pF pZ pW pD pM 1 33
theorem w6_q : ∀ w ∈ W6, ∀ x : Txt, w ≠ 63 :: x := by
  intro w h x
  simp only [W6, List.mem_cons, List.not_mem_nil, or_false] at h
  rcases h with rfl | rfl | rfl | rfl | rfl | rfl <;> simp
theorem ok_vs {S : Txt} {d : Nat} {f : Fm} (h : Fm.Ok W6 S d f) : Vs f := by
  induction h with
  | v h => exact .v
  | n h l q ih => exact .n (w6_q _ h) ih
theorem pt_vs {σ : Sub} (hs : ∀ s x, slook σ s = some x → Vs x) {f : Fm} (h : Vs f) : Vs (pt σ f) := by
  induction h with
  | @v c =>
    simp only [pt]
    cases e : slook σ [c] with
    | none => exact .v
    | some x => exact hs _ x e
  | n hw q ih =>
    simp only [pt]
    exact .n hw fun p hp => by
      rw [pts_map] at hp
      obtain ⟨r, hr, rfl⟩ := List.mem_map.mp hp
      exact ih r hr
def tx2 (a b : Bool) : Txt := (reprOf [] (.lst [.bl a, .bl b])).getD []
def tx1 (a : Bool) : Txt := (reprOf [] (.pv (.bl a))).getD []
theorem tx1_is (h : MH) (a : Bool) : reprOf h (.pv (.bl a)) = some (tx1 a) := by
  cases a <;> rfl
theorem tx2_is (h : MH) (a b : Bool) : reprOf h (.lst [.bl a, .bl b]) = some (tx2 a b) := by
  cases a <;> cases b <;> rfl
theorem b_r1 (h : MH) (a : Bool) : callB .repr h [.pv (.bl a)] = some (.pv (.str (tx1 a))) := by simp only [callB, tx1_is]
theorem b_r2 (h : MH) (a b : Bool) : callB .repr h [.lst [.bl a, .bl b]] = some (.pv (.str (tx2 a b))) := by simp only [callB, tx2_is]
theorem b_r2r {h : MH} {m : Nat} {a b : Bool} (e : h[m]? = some (.lst [.bl a, .bl b])) : callB .repr h [.pv (.ref m)] = some (.pv (.str (tx2 a b))) := by
  have : reprOf h (.pv (.ref m)) = some (tx2 a b) := by
    rw [← tx2_is h a b]
    simp only [reprOf, Pf.dataOf, e, dataL]
    try rfl
  simp only [callB, this]
theorem c_tt {h : MH} {m : Nat} {a b : Bool} (e : h[m]? = some (.lst [.bl a, .bl b])) : cmpOp .Eq h (.pv (.ref m)) (.lst [.bl true, .bl true]) = some (a && b) := by
  have e1 := get_left (x := MO.lst [.bl true, .bl true]) e
  have e2 : (h ++ [MO.lst [.bl true, .bl true]])[h.length]? = some (.lst [.bl true, .bl true]) := get_last rfl
  simp only [cmpOp, eqvR, fix_pv, fix_lst]
  cases a <;> cases b <;> simp [eqv, EQN, e1, e2, eqvL]
theorem c_nes (h : MH) (z : Txt) : cmpOp .NotEq h (.pv (.str z)) (.pv (.str z)) = some false := by simp [cmpOp, eqvR, fix_pv, eqv, EQN]
theorem c_isn (h : MH) : cmpOp .IsNot h (.pv (.bl true)) (.pv (.bl true)) = some false := rfl
/-- the test behind the drawing: never False -/
def tail : CSL := (.cons (.ifs (.band (.call 12 (.cons (.var 7) .nil)) (.call 12 (.cons (.var 8) .nil))) (.cons (.asg 9 (.lst (.cons (.call 19 (.cons (.var 7) (.cons (.var 8) .nil))) (.cons (.call 19 (.cons (.var 8) (.cons (.var 7) .nil))) .nil)))) (.cons (.ifs (.cmp .NotEq (.bi .repr (.cons (.lst (.cons (.call 17 (.cons (.var 7) (.cons (.var 8) .nil))) (.cons (.call 17 (.cons (.var 8) (.cons (.var 7) .nil))) .nil))) .nil)) (.bi .repr (.cons (.var 9) .nil))) (.cons (.ret (.bl false)) .nil) .nil) (.cons (.ifs (.cmp .NotEq (.bi .repr (.cons (.call 18 (.cons (.var 7) (.cons (.var 8) .nil))) .nil)) (.bi .repr (.cons (.cmp .Eq (.var 9) (.lst (.cons (.bl true) (.cons (.bl true) .nil)))) .nil))) (.cons (.ret (.bl false)) .nil) .nil) (.cons (.ifs (.bor (.cmp .IsNot (.call 17 (.cons (.var 7) (.cons (.var 7) .nil))) (.bl true)) (.cmp .IsNot (.call 18 (.cons (.var 8) (.cons (.var 8) .nil))) (.bl true))) (.cons (.ret (.bl false)) .nil) .nil) .nil)))) .nil) .nil)
theorem tail_ok {H : MH} {d : Nat} {f g : Fm} {a0 a1 a2 a4 a5 a6 a9 : Option PV} {l c t : Int} (hf : Fmb 12 f) (hg : Fmb 12 g) (vf : Vs f) (vg : Vs g) (zf : f.size ≤ 700000) (zg : g.size ≤ 700000) (hw : Wh H) (e : H[d]? = some (.dct (D l c t))) :
    ∃ (H' : MH) (b9 : Option PV), exs (run P G 39) G tail [a0, a1, a2, some (.ref d), a4, a5, a6, some f.pv, some g.pv, a9] H = .ok (.nx [a0, a1, a2, some (.ref d), a4, a5, a6, some f.pv, some g.pv, b9]) H' ∧ Wh H' ∧ H'[d]? = some (.dct (D l c t)) := by
  have q1 := run_ispat (h := H) (k := 24) pPa pFm gD wtg hf
  have q2 := run_ispat (h := H) (k := 24) pPa pFm gD wtg hg
  by_cases h1 : 0 < wt true f 4
  · by_cases h2 : 0 < wt true g 4
    · have n1 : ∀ h, run P G 38 13 [f.pv] h = .ok (.pv .non) h := fun h => run_need pNP (by
        have := run_ispat (h := h) (k := 22) pPa pFm gD wtg hf
        rw [decide_eq_true h1] at this; exact this)
      have n2 : ∀ h, run P G 38 13 [g.pv] h = .ok (.pv .non) h := fun h => run_need pNP (by
        have := run_ispat (h := h) (k := 22) pPa pFm gD wtg hg
        rw [decide_eq_true h2] at this; exact this)
      have s12 : ∀ h, run P G 38 16 [f.pv, g.pv] h = .ok (.pv (.bl (asp f g))) h := fun h => run_special (lv := 37) pSp pMt pFr (b := 12) (c := 12) (by decide) (by decide) hg hf (by decide) vf vg (by omega)
      have s21 : ∀ h, run P G 38 16 [g.pv, f.pv] h = .ok (.pv (.bl (asp g f))) h := fun h => run_special (lv := 37) pSp pMt pFr (b := 12) (c := 12) (by decide) (by decide) hf hg (by decide) vg vf (by omega)
      have s11 : ∀ h, run P G 38 16 [f.pv, f.pv] h = .ok (.pv (.bl (asp f f))) h := fun h => run_special (lv := 37) pSp pMt pFr (b := 12) (c := 12) (by decide) (by decide) hf hf (by decide) vf vf (by omega)
      have s22 : ∀ h, run P G 38 16 [g.pv, g.pv] h = .ok (.pv (.bl (asp g g))) h := fun h => run_special (lv := 37) pSp pMt pFr (b := 12) (c := 12) (by decide) (by decide) hg hg (by decide) vg vg (by omega)
      have i12 : ∀ h, run P G 39 17 [f.pv, g.pv] h = .ok (.pv (.bl (asp f g))) h := fun h => run_isas pIs n1 n2 s12
      have i21 : ∀ h, run P G 39 17 [g.pv, f.pv] h = .ok (.pv (.bl (asp g f))) h := fun h => run_isas pIs n2 n1 s21
      have i11 : ∀ h, run P G 39 17 [f.pv, f.pv] h = .ok (.pv (.bl true)) h := fun h => by have := run_isas (h := h) pIs n1 n1 s11; rwa [asp_refl (by omega)] at this
      have l12 : ∀ h, run P G 39 18 [f.pv, g.pv] h = .ok (.pv (.bl (asp f g && asp g f))) h := fun h => run_alike pAl n1 n2 s12 s21
      have l22 : ∀ h, run P G 39 18 [g.pv, g.pv] h = .ok (.pv (.bl true)) h := fun h => by have := run_alike (h := h) pAl n2 n2 s22 s22; rwa [asp_refl (by omega)] at this
      have u12 : ∀ h, run P G 39 19 [f.pv, g.pv] h = .ok (.pv (.bl (asp f g))) h := fun h => run_dueb (k := 38) pU (hg.mono (by decide)) (hf.mono (by decide)) zg
      have u21 : ∀ h, run P G 39 19 [g.pv, f.pv] h = .ok (.pv (.bl (asp g f))) h := fun h => run_dueb (k := 38) pU (hf.mono (by decide)) (hg.mono (by decide)) zf
      have ee : (H ++ [MO.lst [.bl (asp f g), .bl (asp g f)]])[H.length]? = some (.lst [.bl (asp f g), .bl (asp g f)]) := get_last rfl
      have r1 := b_r2r ee
      have r2 := c_tt ee
      refine ⟨H ++ [MO.lst [.bl (asp f g), .bl (asp g f)]], some (.ref H.length), ?_, hw.app rfl, get_left e⟩
      simp (config := {decide := false}) only [↓reduceIte, ↓bT_eq, ↓cT_eq, ↓oT_eq, bT_ok, cT_ok, oT_some, call1, ev_non, ev_bl, ev_int, ev_str, ev_gl, ev_var, ev_bop, ev_neg, ev_cmp, ev_cmp2, ev_band, ev_bor, ev_bnot, ev_ife, ev_tup, ev_lst, ev_dct, ev_idx, ev_slc, ev_call, ev_bi, ev_isi, ev_mth, ev_lc, ev_lzip, evL_nil, evL_cons, evD_cons, evD_nil, evO_none, evO_some, evS_seq, evS_rng, evS_rng2, evS_enum, evS_zip, evS_zipS, tst_band, tst_bor, tst_bnot, tst_non, tst_bl, tst_int, tst_str, tst_gl, tst_var, tst_cmp, tst_cmp2, tst_idx, tst_call, tst_bi, tst_isi, tsts_nil, tsts_cons, ex_asg, ex_tasg, ex_par, ex_sidx, ex_aug, ex_drop, ex_ret, ex_retN, ex_ifs, ex_fors, ex_whl, ex_brk, ex_cont, ex_pass, ex_never, exs_nil, exs_cons, ofOpt_some, fix_pv, fix_lst, fix_dct, fixL_nil, fixL_cons, norm_same, norm_set, o_add, o_sub, o_mul, o_mod, o_fd, o_p18, a_add, a_sub, c_eq, c_ne, c_eqs, c_nes, c_lt, c_le, c_gt, c_ge, c_is, c_isnot, b_int, b_min, b_max, b_lent, b_lenl, b_tuple, i_tup, i_lst, t_bl, t_non, t_int, ty_ss, ty_st, ty_ts, ty_tt, q_tup, l_tup, l_lst, at0, at1, p_int, isNonR, List.length_cons, List.length_nil, List.map_cons, List.map_nil, List.cons_append, List.nil_append, List.replicate_succ, List.replicate_zero, List.getElem?_cons_zero, List.getElem?_cons_succ, List.getElem?_nil, List.set_cons_zero, List.set_cons_succ, List.set_nil, Nat.sub_self, Nat.reduceSub, Nat.reduceAdd, Nat.reduceMul, Nat.zero_add, Int.reduceLT, Int.reduceLE, Nat.reduceLeDiff, LINE, if_true, if_false, Bool.false_eq_true, Bool.true_eq_false, Bool.not_true, Bool.not_false, ite_self, eq_self, Prod.fst, Prod.snd, tail, q1, q2, h1, h2, decide_true, u12, u21, i12, i21, i11, l12, l22, r1, r2, b_r1, b_r2, c_nes, c_isn, beq_self_eq_true, Bool.not_true]
    · refine ⟨H, a9, ?_, hw, e⟩
      simp (config := {decide := false}) only [↓reduceIte, ↓bT_eq, ↓cT_eq, ↓oT_eq, bT_ok, cT_ok, oT_some, call1, ev_non, ev_bl, ev_int, ev_str, ev_gl, ev_var, ev_bop, ev_neg, ev_cmp, ev_cmp2, ev_band, ev_bor, ev_bnot, ev_ife, ev_tup, ev_lst, ev_dct, ev_idx, ev_slc, ev_call, ev_bi, ev_isi, ev_mth, ev_lc, ev_lzip, evL_nil, evL_cons, evD_cons, evD_nil, evO_none, evO_some, evS_seq, evS_rng, evS_rng2, evS_enum, evS_zip, evS_zipS, tst_band, tst_bor, tst_bnot, tst_non, tst_bl, tst_int, tst_str, tst_gl, tst_var, tst_cmp, tst_cmp2, tst_idx, tst_call, tst_bi, tst_isi, tsts_nil, tsts_cons, ex_asg, ex_tasg, ex_par, ex_sidx, ex_aug, ex_drop, ex_ret, ex_retN, ex_ifs, ex_fors, ex_whl, ex_brk, ex_cont, ex_pass, ex_never, exs_nil, exs_cons, ofOpt_some, fix_pv, fix_lst, fix_dct, fixL_nil, fixL_cons, norm_same, norm_set, o_add, o_sub, o_mul, o_mod, o_fd, o_p18, a_add, a_sub, c_eq, c_ne, c_eqs, c_nes, c_lt, c_le, c_gt, c_ge, c_is, c_isnot, b_int, b_min, b_max, b_lent, b_lenl, b_tuple, i_tup, i_lst, t_bl, t_non, t_int, ty_ss, ty_st, ty_ts, ty_tt, q_tup, l_tup, l_lst, at0, at1, p_int, isNonR, List.length_cons, List.length_nil, List.map_cons, List.map_nil, List.cons_append, List.nil_append, List.replicate_succ, List.replicate_zero, List.getElem?_cons_zero, List.getElem?_cons_succ, List.getElem?_nil, List.set_cons_zero, List.set_cons_succ, List.set_nil, Nat.sub_self, Nat.reduceSub, Nat.reduceAdd, Nat.reduceMul, Nat.zero_add, Int.reduceLT, Int.reduceLE, Nat.reduceLeDiff, LINE, if_true, if_false, Bool.false_eq_true, Bool.true_eq_false, Bool.not_true, Bool.not_false, ite_self, eq_self, Prod.fst, Prod.snd, tail, q1, q2, h1, h2, decide_true, decide_false]
  · refine ⟨H, a9, ?_, hw, e⟩
    simp (config := {decide := false}) only [↓reduceIte, ↓bT_eq, ↓cT_eq, ↓oT_eq, bT_ok, cT_ok, oT_some, call1, ev_non, ev_bl, ev_int, ev_str, ev_gl, ev_var, ev_bop, ev_neg, ev_cmp, ev_cmp2, ev_band, ev_bor, ev_bnot, ev_ife, ev_tup, ev_lst, ev_dct, ev_idx, ev_slc, ev_call, ev_bi, ev_isi, ev_mth, ev_lc, ev_lzip, evL_nil, evL_cons, evD_cons, evD_nil, evO_none, evO_some, evS_seq, evS_rng, evS_rng2, evS_enum, evS_zip, evS_zipS, tst_band, tst_bor, tst_bnot, tst_non, tst_bl, tst_int, tst_str, tst_gl, tst_var, tst_cmp, tst_cmp2, tst_idx, tst_call, tst_bi, tst_isi, tsts_nil, tsts_cons, ex_asg, ex_tasg, ex_par, ex_sidx, ex_aug, ex_drop, ex_ret, ex_retN, ex_ifs, ex_fors, ex_whl, ex_brk, ex_cont, ex_pass, ex_never, exs_nil, exs_cons, ofOpt_some, fix_pv, fix_lst, fix_dct, fixL_nil, fixL_cons, norm_same, norm_set, o_add, o_sub, o_mul, o_mod, o_fd, o_p18, a_add, a_sub, c_eq, c_ne, c_eqs, c_nes, c_lt, c_le, c_gt, c_ge, c_is, c_isnot, b_int, b_min, b_max, b_lent, b_lenl, b_tuple, i_tup, i_lst, t_bl, t_non, t_int, ty_ss, ty_st, ty_ts, ty_tt, q_tup, l_tup, l_lst, at0, at1, p_int, isNonR, List.length_cons, List.length_nil, List.map_cons, List.map_nil, List.cons_append, List.nil_append, List.replicate_succ, List.replicate_zero, List.getElem?_cons_zero, List.getElem?_cons_succ, List.getElem?_nil, List.set_cons_zero, List.set_cons_succ, List.set_nil, Nat.sub_self, Nat.reduceSub, Nat.reduceAdd, Nat.reduceMul, Nat.zero_add, Int.reduceLT, Int.reduceLE, Nat.reduceLeDiff, LINE, if_true, if_false, Bool.false_eq_true, Bool.true_eq_false, Bool.not_true, Bool.not_false, ite_self, eq_self, Prod.fst, Prod.snd, tail, q1, h1, decide_false]
/-- the fixed pairs -/
def fixedB : CSL := (.cons (.tasg [5, 6] (.tup (.cons (.tup (.cons (.str [112, 97, 105, 114]) (.cons (.tup (.cons (.str [84]) (.cons (.str [84]) .nil))) .nil))) (.cons (.tup (.cons (.str [112, 97, 105, 114]) (.cons (.tup (.cons (.tup (.cons (.str [97]) (.cons (.tup .nil) .nil))) (.cons (.str [84]) .nil))) .nil))) .nil)))) (.cons (.ifs (.bor (.call 17 (.cons (.var 5) (.cons (.var 6) .nil))) (.bor (.call 17 (.cons (.var 6) (.cons (.var 5) .nil))) (.bnot (.call 17 (.cons (.var 5) (.cons (.tup (.cons (.str [112, 97, 105, 114]) (.cons (.tup (.cons (.str [83]) (.cons (.str [84]) .nil))) .nil))) .nil)))))) (.cons (.ret (.bl false)) .nil) .nil) (.cons (.ifs (.bor (.call 17 (.cons (.tup (.cons (.str [112, 97, 105, 114]) (.cons (.tup (.cons (.str [83]) (.cons (.str [84]) .nil))) .nil))) (.cons (.var 5) .nil))) (.bnot (.call 18 (.cons (.tup (.cons (.str [112, 97, 105, 114]) (.cons (.tup (.cons (.str [83]) (.cons (.str [84]) .nil))) .nil))) (.cons (.tup (.cons (.str [112, 97, 105, 114]) (.cons (.tup (.cons (.str [84]) (.cons (.str [83]) .nil))) .nil))) .nil))))) (.cons (.ret (.bl false)) .nil) .nil) .nil)))
def fPair : Fm := .n [112, 97, 105, 114] [.v [84], .v [84]]
def fLeft : Fm := .n [112, 97, 105, 114] [.n [97] [], .v [84]]
def fST : Fm := .n [112, 97, 105, 114] [.v [83], .v [84]]
def fTS : Fm := .n [112, 97, 105, 114] [.v [84], .v [83]]
theorem wPair : 0 < wt true fPair 4 := by decide +kernel
theorem asPL : asp fPair fLeft = false := by decide +kernel
/-- a fixed pattern: all that is asked of it -/
structure Fix (f : Fm) : Prop where
  b : Fmb 12 f
  v : Vs f
  z : f.size ≤ 700000
  n : ∀ h, run P G 38 13 [f.pv] h = .ok (.pv .non) h
theorem fix_of {f : Fm} (b : Fmb 12 f) (v : Vs f) (z : f.size ≤ 700000) (w : 0 < wt true f 4) : Fix f := ⟨b, v, z, fun h => run_need pNP (by
  have := run_ispat (h := h) (k := 22) pPa pFm gD wtg b
  rw [decide_eq_true w] at this; exact this)⟩
theorem Fix.isas {f g : Fm} (a : Fix f) (b : Fix g) (h : MH) : run P G 39 17 [f.pv, g.pv] h = .ok (.pv (.bl (asp f g))) h :=
  run_isas pIs a.n b.n fun h => run_special (lv := 37) pSp pMt pFr (b := 12) (c := 12) (by decide) (by decide) b.b a.b (by decide) a.v b.v (by have := b.z; omega)
theorem Fix.alike {f g : Fm} (a : Fix f) (b : Fix g) (h : MH) : run P G 39 18 [f.pv, g.pv] h = .ok (.pv (.bl (asp f g && asp g f))) h :=
  run_alike pAl a.n b.n (fun h => run_special (lv := 37) pSp pMt pFr (b := 12) (c := 12) (by decide) (by decide) b.b a.b (by decide) a.v b.v (by have := b.z; omega)) fun h => run_special (lv := 37) pSp pMt pFr (b := 12) (c := 12) (by decide) (by decide) a.b b.b (by decide) b.v a.v (by have := a.z; omega)
theorem Fmb.of3 {f : Fm} {S : Txt} (h : Fm.Ok W6 S 3 f) : Fmb 3 f := Ok.fmb (fun w h => w6_len h) h
theorem pt_fmb {σ : Sub} {c : Nat} (hc : 1 ≤ c) (hs : ∀ s x, slook σ s = some x → Fmb c x) : ∀ {b : Nat} {f : Fm}, Fmb b f → Fmb (b + c) (pt σ f) := by
  intro b
  induction b with
  | zero => intro f h; cases h
  | succ b ih =>
    intro f h
    cases h with
    | @v _ s hl =>
      simp only [pt]
      cases e : slook σ s with
      | none => exact (Fmb.v (d := b) hl).mono (by omega)
      | some x => exact (hs s x e).mono (by omega)
    | @n _ w ps hw l q =>
      simp only [pt]
      rw [show b + 1 + c = (b + c) + 1 by omega]
      exact .n hw (by rw [pts_map, List.length_map]; exact l) fun p hp => by
        rw [pts_map] at hp
        obtain ⟨r, hr, rfl⟩ := List.mem_map.mp hp
        exact ih (q r hr)
mutual
theorem pt_size {σ : Sub} {M : Int} (h1 : 1 ≤ M) (hs : ∀ s x, slook σ s = some x → x.size ≤ M) : ∀ f : Fm, (pt σ f).size ≤ f.size * M
  | .v s => by
    simp only [pt, Fm.size]
    cases e : slook σ s with
    | none => simp only [Option.getD_none, Fm.size]; omega
    | some x => have := hs s x e; simp only [Option.getD_some]; omega
  | .n w ps => by
    have := pts_size h1 hs ps
    simp only [pt, Fm.size, Int.add_mul]; omega
theorem pts_size {σ : Sub} {M : Int} (h1 : 1 ≤ M) (hs : ∀ s x, slook σ s = some x → x.size ≤ M) : ∀ ps : List Fm, Fm.sizes (pts σ ps) ≤ Fm.sizes ps * M
  | [] => by simp [pts, Fm.sizes]
  | p :: ps => by
    have a := pt_size h1 hs p
    have b := pts_size h1 hs ps
    simp only [pts, Fm.sizes, Int.add_mul]; omega
end
/-- what is asked of a drawn pattern -/
structure Pd (f : Fm) : Prop where
  b : Fmb 12 f
  v : Vs f
  z : f.size ≤ 700000
theorem Pd.ok {S : Txt} {f : Fm} (h : Fm.Ok W6 S 3 f) (z : f.size ≤ 7) : Pd f := ⟨(Fmb.of3 h).mono (by decide), ok_vs h, by omega⟩
theorem Pd.pt {S : Txt} {f : Fm} (h : Fm.Ok W6 S 3 f) (z : f.size ≤ 7) {σ : Sub} (hs : ∀ s x, slook σ s = some x → Fmb 3 x ∧ Vs x ∧ x.size ≤ 7) : Pd (Lib.pt σ f) :=
  ⟨(pt_fmb (c := 3) (by decide) (fun s x e => (hs s x e).1) (Fmb.of3 h)).mono (by decide), pt_vs (fun s x e => (hs s x e).2.1) (ok_vs h), by have := pt_size (M := 7) (by decide) (fun s x e => (hs s x e).2.2) f; omega⟩
theorem nd2 {H A : MH} {o : MO} {f g : Fm} (hl : A.length = H.length) (w : Wh A) : norm H (.pv (.tup [f.pv, g.pv])) (A ++ [o]) = .ok (.pv (.tup [f.pv, g.pv])) A :=
  norm_drop hl (by unfold Wh at w; rwa [hl] at w) (by simp [PV.lt, PV.ltL, fm_lt]) (fun n z => by cases z)
theorem slook1 {P : Fm → Prop} {a : Txt} {x : Fm} (hx : P x) : ∀ s y, slook [(a, x)] s = some y → P y := by
  intro s y h
  simp only [slook] at h
  split at h
  · cases h; exact hx
  · cases h
theorem slook2 {P : Fm → Prop} {a b : Txt} {x y : Fm} (hx : P x) (hy : P y) : ∀ s z, slook [(a, x), (b, y)] s = some z → P z := by
  intro s z h
  simp only [slook] at h
  split at h
  · cases h; exact hx
  · split at h
    · cases h; exact hy
    · cases h
theorem var_ok (c : Nat) : Fmb 3 (.v [c]) ∧ Vs (.v [c]) ∧ (Fm.v [c]).size ≤ 7 := ⟨.v (by simp), .v, by simp [Fm.size]⟩
theorem p3 : (20 : Int) * 4 ^ 3 = 1280 := rfl
theorem c3 : ((3 : Nat) : Int) = 3 := rfl
theorem c2 : ((2 : Nat) : Int) = 2 := rfl
theorem p2 : (20 : Int) * 4 ^ 2 = 320 := rfl
theorem pPr : P[7]? = some d_law_pair := rfl
theorem run_pair {H : MH} {d : Nat} {l c t : Int} (hw : Wh H) (e : H[d]? = some (.dct (D l c t))) (hl : 0 ≤ l) (ht : 0 ≤ t) (hb : t ≤ 100000000000000000) :
    ∃ (f g : Fm) (l' t' : Int), Pd f ∧ Pd g ∧ 0 ≤ l' ∧ t ≤ t' ∧ t' ≤ t + 4000 ∧ run P G 39 7 [.ref d] H = .ok (.pv (.tup [f.pv, g.pv])) (H.set d (.dct (D l' c t'))) := by
  obtain ⟨f, l1, t1, f1, f2, f3, f4, f5, q1⟩ := form3 (sz := 7) (S := TXT) (h := H) (by decide) (by decide) (by decide) e hl ht (by rw [p3]; omega) hw
  rw [p3] at f5
  rw [c3] at q1
  unfold TXT at q1
  have e1 := set_get (x := MO.dct (D l1 c t1)) e
  obtain ⟨r, l2, t2, r1, r2, r3, r4, r5, q2⟩ := run_digit (P := P) (G := G) (k := 36) pD pM e1 f3 (by omega) (by omega) (s := 6) (by decide) (by decide)
  rw [List.set_set] at q2
  have e2 := set_get (x := MO.dct (D l2 c t2)) e
  have w2 := hw.set (d := d) (D_lt l2 c t2)
  have hlen : ∀ x : MO, (H.set d x).length = H.length := fun _ => List.length_set
  have pf : Pd f := Pd.ok f1 f2
  have fb : Fmb 3 f := Fmb.of3 f1
  have put : ∀ (σ : Sub) (x : MO), run P G 38 6 [f.pv, .ref H.length] (H.set d x ++ [MO.dct (asc σ)]) = .ok (.pv (pt σ f).pv) (H.set d x ++ [MO.dct (asc σ)]) := fun σ x =>
    run_put (P := P) (G := G) (k := 35) pP (get_last (hlen x)) fb
  cases h0 : (r == 0) with
  | true =>
    obtain ⟨g, l3, t3, g1, g2, g3, g4, g5, q3⟩ := form3 (sz := 7) (S := TXT) (h := H.set d (.dct (D l2 c t2))) (by decide) (by decide) (by decide) e2 r3 (by omega) (by rw [p3]; omega) w2
    rw [List.set_set, c3] at q3
    rw [p3] at g5
    unfold TXT at q3
    refine ⟨f, g, l3, t3, pf, Pd.ok g1 g2, g3, by omega, by omega, ?_⟩
    rw [run_at pPr]; generalize run P G 38 = F at *; simp (config := {decide := false}) only [↓reduceIte, ↓bT_eq, ↓cT_eq, ↓oT_eq, bT_ok, cT_ok, oT_some, call1, ev_non, ev_bl, ev_int, ev_str, ev_gl, ev_var, ev_bop, ev_neg, ev_cmp, ev_cmp2, ev_band, ev_bor, ev_bnot, ev_ife, ev_tup, ev_lst, ev_dct, ev_idx, ev_slc, ev_call, ev_bi, ev_isi, ev_mth, ev_lc, ev_lzip, evL_nil, evL_cons, evD_cons, evD_nil, evO_none, evO_some, evS_seq, evS_rng, evS_rng2, evS_enum, evS_zip, evS_zipS, tst_band, tst_bor, tst_bnot, tst_non, tst_bl, tst_int, tst_str, tst_gl, tst_var, tst_cmp, tst_cmp2, tst_idx, tst_call, tst_bi, tst_isi, tsts_nil, tsts_cons, ex_asg, ex_tasg, ex_par, ex_sidx, ex_aug, ex_drop, ex_ret, ex_retN, ex_ifs, ex_fors, ex_whl, ex_brk, ex_cont, ex_pass, ex_never, exs_nil, exs_cons, ofOpt_some, fix_pv, fix_lst, fix_dct, fixL_nil, fixL_cons, norm_same, norm_set, o_add, o_sub, o_mul, o_mod, o_fd, o_p18, a_add, a_sub, c_eq, c_ne, c_eqs, c_nes, c_lt, c_le, c_gt, c_ge, c_is, c_isnot, b_int, b_min, b_max, b_lent, b_lenl, b_tuple, i_tup, i_lst, t_bl, t_non, t_int, ty_ss, ty_st, ty_ts, ty_tt, q_tup, l_tup, l_lst, at0, at1, p_int, isNonR, List.length_cons, List.length_nil, List.map_cons, List.map_nil, List.cons_append, List.nil_append, List.replicate_succ, List.replicate_zero, List.getElem?_cons_zero, List.getElem?_cons_succ, List.getElem?_nil, List.set_cons_zero, List.set_cons_succ, List.set_nil, Nat.sub_self, Nat.reduceSub, Nat.reduceAdd, Nat.reduceMul, Nat.zero_add, Int.reduceLT, Int.reduceLE, Nat.reduceLeDiff, LINE, if_true, if_false, Bool.false_eq_true, Bool.true_eq_false, Bool.not_true, Bool.not_false, ite_self, eq_self, Prod.fst, Prod.snd, d_law_pair, q1, q2, h0, q3]
  | false =>
  cases h1 : (r == 1) with
  | true =>
    have fold : [(PV.str [84], PV.str [88]), (.str [88], .str [84])].foldl (fun d p => dput d p.1 p.2) [] = asc [([84], .v [88]), ([88], .v [84])] := rfl
    refine ⟨f, pt [([84], .v [88]), ([88], .v [84])] f, l2, t2, pf, Pd.pt f1 f2 (slook2 (P := fun x => Fmb 3 x ∧ Vs x ∧ x.size ≤ 7) (var_ok _) (var_ok _)), r3, by omega, by omega, ?_⟩
    rw [run_at pPr]; generalize run P G 38 = F at *; simp (config := {decide := false}) only [↓reduceIte, ↓bT_eq, ↓cT_eq, ↓oT_eq, bT_ok, cT_ok, oT_some, call1, ev_non, ev_bl, ev_int, ev_str, ev_gl, ev_var, ev_bop, ev_neg, ev_cmp, ev_cmp2, ev_band, ev_bor, ev_bnot, ev_ife, ev_tup, ev_lst, ev_dct, ev_idx, ev_slc, ev_call, ev_bi, ev_isi, ev_mth, ev_lc, ev_lzip, evL_nil, evL_cons, evD_cons, evD_nil, evO_none, evO_some, evS_seq, evS_rng, evS_rng2, evS_enum, evS_zip, evS_zipS, tst_band, tst_bor, tst_bnot, tst_non, tst_bl, tst_int, tst_str, tst_gl, tst_var, tst_cmp, tst_cmp2, tst_idx, tst_call, tst_bi, tst_isi, tsts_nil, tsts_cons, ex_asg, ex_tasg, ex_par, ex_sidx, ex_aug, ex_drop, ex_ret, ex_retN, ex_ifs, ex_fors, ex_whl, ex_brk, ex_cont, ex_pass, ex_never, exs_nil, exs_cons, ofOpt_some, fix_pv, fix_lst, fix_dct, fixL_nil, fixL_cons, norm_same, norm_set, o_add, o_sub, o_mul, o_mod, o_fd, o_p18, a_add, a_sub, c_eq, c_ne, c_eqs, c_nes, c_lt, c_le, c_gt, c_ge, c_is, c_isnot, b_int, b_min, b_max, b_lent, b_lenl, b_tuple, i_tup, i_lst, t_bl, t_non, t_int, ty_ss, ty_st, ty_ts, ty_tt, q_tup, l_tup, l_lst, at0, at1, p_int, isNonR, List.length_cons, List.length_nil, List.map_cons, List.map_nil, List.cons_append, List.nil_append, List.replicate_succ, List.replicate_zero, List.getElem?_cons_zero, List.getElem?_cons_succ, List.getElem?_nil, List.set_cons_zero, List.set_cons_succ, List.set_nil, Nat.sub_self, Nat.reduceSub, Nat.reduceAdd, Nat.reduceMul, Nat.zero_add, Int.reduceLT, Int.reduceLE, Nat.reduceLeDiff, LINE, if_true, if_false, Bool.false_eq_true, Bool.true_eq_false, Bool.not_true, Bool.not_false, ite_self, eq_self, Prod.fst, Prod.snd, d_law_pair, q1, q2, h0, h1, isKey_str, fold, hlen, put, nd2 (hlen _) w2]
  | false =>
  cases h2 : (r == 2) with
  | true =>
    have fold : [(PV.str [84], PV.str [65]), (.str [88], .str [65])].foldl (fun d p => dput d p.1 p.2) [] = asc [([84], .v [65]), ([88], .v [65])] := rfl
    refine ⟨f, pt [([84], .v [65]), ([88], .v [65])] f, l2, t2, pf, Pd.pt f1 f2 (slook2 (P := fun x => Fmb 3 x ∧ Vs x ∧ x.size ≤ 7) (var_ok _) (var_ok _)), r3, by omega, by omega, ?_⟩
    rw [run_at pPr]; generalize run P G 38 = F at *; simp (config := {decide := false}) only [↓reduceIte, ↓bT_eq, ↓cT_eq, ↓oT_eq, bT_ok, cT_ok, oT_some, call1, ev_non, ev_bl, ev_int, ev_str, ev_gl, ev_var, ev_bop, ev_neg, ev_cmp, ev_cmp2, ev_band, ev_bor, ev_bnot, ev_ife, ev_tup, ev_lst, ev_dct, ev_idx, ev_slc, ev_call, ev_bi, ev_isi, ev_mth, ev_lc, ev_lzip, evL_nil, evL_cons, evD_cons, evD_nil, evO_none, evO_some, evS_seq, evS_rng, evS_rng2, evS_enum, evS_zip, evS_zipS, tst_band, tst_bor, tst_bnot, tst_non, tst_bl, tst_int, tst_str, tst_gl, tst_var, tst_cmp, tst_cmp2, tst_idx, tst_call, tst_bi, tst_isi, tsts_nil, tsts_cons, ex_asg, ex_tasg, ex_par, ex_sidx, ex_aug, ex_drop, ex_ret, ex_retN, ex_ifs, ex_fors, ex_whl, ex_brk, ex_cont, ex_pass, ex_never, exs_nil, exs_cons, ofOpt_some, fix_pv, fix_lst, fix_dct, fixL_nil, fixL_cons, norm_same, norm_set, o_add, o_sub, o_mul, o_mod, o_fd, o_p18, a_add, a_sub, c_eq, c_ne, c_eqs, c_nes, c_lt, c_le, c_gt, c_ge, c_is, c_isnot, b_int, b_min, b_max, b_lent, b_lenl, b_tuple, i_tup, i_lst, t_bl, t_non, t_int, ty_ss, ty_st, ty_ts, ty_tt, q_tup, l_tup, l_lst, at0, at1, p_int, isNonR, List.length_cons, List.length_nil, List.map_cons, List.map_nil, List.cons_append, List.nil_append, List.replicate_succ, List.replicate_zero, List.getElem?_cons_zero, List.getElem?_cons_succ, List.getElem?_nil, List.set_cons_zero, List.set_cons_succ, List.set_nil, Nat.sub_self, Nat.reduceSub, Nat.reduceAdd, Nat.reduceMul, Nat.zero_add, Int.reduceLT, Int.reduceLE, Nat.reduceLeDiff, LINE, if_true, if_false, Bool.false_eq_true, Bool.true_eq_false, Bool.not_true, Bool.not_false, ite_self, eq_self, Prod.fst, Prod.snd, d_law_pair, q1, q2, h0, h1, h2, isKey_str, fold, hlen, put, nd2 (hlen _) w2]
  | false =>
  cases h3 : (r == 3) with
  | true =>
    obtain ⟨g, l3, t3, g1, g2, g3, g4, g5, q3⟩ := form2 (sz := 3) (S := [84, 88, 90]) (h := H.set d (.dct (D l2 c t2))) (by decide) (by decide) (by decide) e2 r3 (by omega) (by rw [p2]; omega) w2
    rw [List.set_set, c2] at q3
    rw [p2] at g5
    have w3 := hw.set (d := d) (D_lt l3 c t3)
    have fold : [(PV.str [84], g.pv)].foldl (fun d p => dput d p.1 p.2) [] = asc [([84], g)] := rfl
    refine ⟨f, pt [([84], g)] f, l3, t3, pf, Pd.pt f1 f2 (slook1 (P := fun x => Fmb 3 x ∧ Vs x ∧ x.size ≤ 7) ⟨(Ok.fmb (fun w h => w6_len h) g1).mono (by decide), ok_vs g1, by omega⟩), g3, by omega, by omega, ?_⟩
    rw [run_at pPr]; generalize run P G 38 = F at *; simp (config := {decide := false}) only [↓reduceIte, ↓bT_eq, ↓cT_eq, ↓oT_eq, bT_ok, cT_ok, oT_some, call1, ev_non, ev_bl, ev_int, ev_str, ev_gl, ev_var, ev_bop, ev_neg, ev_cmp, ev_cmp2, ev_band, ev_bor, ev_bnot, ev_ife, ev_tup, ev_lst, ev_dct, ev_idx, ev_slc, ev_call, ev_bi, ev_isi, ev_mth, ev_lc, ev_lzip, evL_nil, evL_cons, evD_cons, evD_nil, evO_none, evO_some, evS_seq, evS_rng, evS_rng2, evS_enum, evS_zip, evS_zipS, tst_band, tst_bor, tst_bnot, tst_non, tst_bl, tst_int, tst_str, tst_gl, tst_var, tst_cmp, tst_cmp2, tst_idx, tst_call, tst_bi, tst_isi, tsts_nil, tsts_cons, ex_asg, ex_tasg, ex_par, ex_sidx, ex_aug, ex_drop, ex_ret, ex_retN, ex_ifs, ex_fors, ex_whl, ex_brk, ex_cont, ex_pass, ex_never, exs_nil, exs_cons, ofOpt_some, fix_pv, fix_lst, fix_dct, fixL_nil, fixL_cons, norm_same, norm_set, o_add, o_sub, o_mul, o_mod, o_fd, o_p18, a_add, a_sub, c_eq, c_ne, c_eqs, c_nes, c_lt, c_le, c_gt, c_ge, c_is, c_isnot, b_int, b_min, b_max, b_lent, b_lenl, b_tuple, i_tup, i_lst, t_bl, t_non, t_int, ty_ss, ty_st, ty_ts, ty_tt, q_tup, l_tup, l_lst, at0, at1, p_int, isNonR, List.length_cons, List.length_nil, List.map_cons, List.map_nil, List.cons_append, List.nil_append, List.replicate_succ, List.replicate_zero, List.getElem?_cons_zero, List.getElem?_cons_succ, List.getElem?_nil, List.set_cons_zero, List.set_cons_succ, List.set_nil, Nat.sub_self, Nat.reduceSub, Nat.reduceAdd, Nat.reduceMul, Nat.zero_add, Int.reduceLT, Int.reduceLE, Nat.reduceLeDiff, LINE, if_true, if_false, Bool.false_eq_true, Bool.true_eq_false, Bool.not_true, Bool.not_false, ite_self, eq_self, Prod.fst, Prod.snd, d_law_pair, q1, q2, h0, h1, h2, h3, q3, isKey_str, fold, hlen, put, nd2 (hlen _) w3]
  | false =>
  cases h4 : (r == 4) with
  | true =>
    have fold : [(PV.str [88], PV.tup [.str [97], .tup [.str [88]]])].foldl (fun d p => dput d p.1 p.2) [] = asc [([88], .n [97] [.v [88]])] := rfl
    refine ⟨pt [([88], .n [97] [.v [88]])] f, f, l2, t2, Pd.pt f1 f2 (slook1 (P := fun x => Fmb 3 x ∧ Vs x ∧ x.size ≤ 7) ⟨.n (by decide) (by decide) (by simp; exact .v (by decide)), .n (by simp) (by simp; exact .v), by decide⟩), pf, r3, by omega, by omega, ?_⟩
    rw [run_at pPr]; generalize run P G 38 = F at *; simp (config := {decide := false}) only [↓reduceIte, ↓bT_eq, ↓cT_eq, ↓oT_eq, bT_ok, cT_ok, oT_some, call1, ev_non, ev_bl, ev_int, ev_str, ev_gl, ev_var, ev_bop, ev_neg, ev_cmp, ev_cmp2, ev_band, ev_bor, ev_bnot, ev_ife, ev_tup, ev_lst, ev_dct, ev_idx, ev_slc, ev_call, ev_bi, ev_isi, ev_mth, ev_lc, ev_lzip, evL_nil, evL_cons, evD_cons, evD_nil, evO_none, evO_some, evS_seq, evS_rng, evS_rng2, evS_enum, evS_zip, evS_zipS, tst_band, tst_bor, tst_bnot, tst_non, tst_bl, tst_int, tst_str, tst_gl, tst_var, tst_cmp, tst_cmp2, tst_idx, tst_call, tst_bi, tst_isi, tsts_nil, tsts_cons, ex_asg, ex_tasg, ex_par, ex_sidx, ex_aug, ex_drop, ex_ret, ex_retN, ex_ifs, ex_fors, ex_whl, ex_brk, ex_cont, ex_pass, ex_never, exs_nil, exs_cons, ofOpt_some, fix_pv, fix_lst, fix_dct, fixL_nil, fixL_cons, norm_same, norm_set, o_add, o_sub, o_mul, o_mod, o_fd, o_p18, a_add, a_sub, c_eq, c_ne, c_eqs, c_nes, c_lt, c_le, c_gt, c_ge, c_is, c_isnot, b_int, b_min, b_max, b_lent, b_lenl, b_tuple, i_tup, i_lst, t_bl, t_non, t_int, ty_ss, ty_st, ty_ts, ty_tt, q_tup, l_tup, l_lst, at0, at1, p_int, isNonR, List.length_cons, List.length_nil, List.map_cons, List.map_nil, List.cons_append, List.nil_append, List.replicate_succ, List.replicate_zero, List.getElem?_cons_zero, List.getElem?_cons_succ, List.getElem?_nil, List.set_cons_zero, List.set_cons_succ, List.set_nil, Nat.sub_self, Nat.reduceSub, Nat.reduceAdd, Nat.reduceMul, Nat.zero_add, Int.reduceLT, Int.reduceLE, Nat.reduceLeDiff, LINE, if_true, if_false, Bool.false_eq_true, Bool.true_eq_false, Bool.not_true, Bool.not_false, ite_self, eq_self, Prod.fst, Prod.snd, d_law_pair, q1, q2, h0, h1, h2, h3, h4, isKey_str, fold, hlen, put, nd2 (hlen _) w2]
  | false =>
    refine ⟨f, .v [81], l2, t2, pf, ⟨.v (by simp), .v, by simp [Fm.size]⟩, r3, by omega, by omega, ?_⟩
    rw [run_at pPr]; generalize run P G 38 = F at *; simp (config := {decide := false}) only [↓reduceIte, ↓bT_eq, ↓cT_eq, ↓oT_eq, bT_ok, cT_ok, oT_some, call1, ev_non, ev_bl, ev_int, ev_str, ev_gl, ev_var, ev_bop, ev_neg, ev_cmp, ev_cmp2, ev_band, ev_bor, ev_bnot, ev_ife, ev_tup, ev_lst, ev_dct, ev_idx, ev_slc, ev_call, ev_bi, ev_isi, ev_mth, ev_lc, ev_lzip, evL_nil, evL_cons, evD_cons, evD_nil, evO_none, evO_some, evS_seq, evS_rng, evS_rng2, evS_enum, evS_zip, evS_zipS, tst_band, tst_bor, tst_bnot, tst_non, tst_bl, tst_int, tst_str, tst_gl, tst_var, tst_cmp, tst_cmp2, tst_idx, tst_call, tst_bi, tst_isi, tsts_nil, tsts_cons, ex_asg, ex_tasg, ex_par, ex_sidx, ex_aug, ex_drop, ex_ret, ex_retN, ex_ifs, ex_fors, ex_whl, ex_brk, ex_cont, ex_pass, ex_never, exs_nil, exs_cons, ofOpt_some, fix_pv, fix_lst, fix_dct, fixL_nil, fixL_cons, norm_same, norm_set, o_add, o_sub, o_mul, o_mod, o_fd, o_p18, a_add, a_sub, c_eq, c_ne, c_eqs, c_nes, c_lt, c_le, c_gt, c_ge, c_is, c_isnot, b_int, b_min, b_max, b_lent, b_lenl, b_tuple, i_tup, i_lst, t_bl, t_non, t_int, ty_ss, ty_st, ty_ts, ty_tt, q_tup, l_tup, l_lst, at0, at1, p_int, isNonR, List.length_cons, List.length_nil, List.map_cons, List.map_nil, List.cons_append, List.nil_append, List.replicate_succ, List.replicate_zero, List.getElem?_cons_zero, List.getElem?_cons_succ, List.getElem?_nil, List.set_cons_zero, List.set_cons_succ, List.set_nil, Nat.sub_self, Nat.reduceSub, Nat.reduceAdd, Nat.reduceMul, Nat.zero_add, Int.reduceLT, Int.reduceLE, Nat.reduceLeDiff, LINE, if_true, if_false, Bool.false_eq_true, Bool.true_eq_false, Bool.not_true, Bool.not_false, ite_self, eq_self, Prod.fst, Prod.snd, d_law_pair, q1, q2, h0, h1, h2, h3, h4]; rfl
def tbody : CSL := (.cons (.tasg [7, 8] (.call 7 (.cons (.var 3) .nil))) tail)
theorem turn_ok {H : MH} {d : Nat} {a0 a1 a2 a4 o5 o6 o7 o8 o9 : Option PV} {l c t : Int} (hw : Wh H) (e : H[d]? = some (.dct (D l c t))) (hl : 0 ≤ l) (ht : 0 ≤ t) (hb : t ≤ 100000000000000000) :
    ∃ (H' : MH) (l' t' : Int) (b7 b8 b9 : Option PV), exs (run P G 39) G tbody [a0, a1, a2, some (.ref d), a4, o5, o6, o7, o8, o9] H = .ok (.nx [a0, a1, a2, some (.ref d), a4, o5, o6, b7, b8, b9]) H' ∧ Wh H' ∧ H'[d]? = some (.dct (D l' c t')) ∧ 0 ≤ l' ∧ t ≤ t' ∧ t' ≤ t + 4000 := by
  obtain ⟨f, g, l1, t1, pf, pg, h1, h2, h3, q⟩ := run_pair hw e hl ht hb
  have e1 := set_get (x := MO.dct (D l1 c t1)) e
  have w1 := hw.set (d := d) (D_lt l1 c t1)
  obtain ⟨H', b9, q2, w2, e2⟩ := tail_ok (a0 := a0) (a1 := a1) (a2 := a2) (a4 := a4) (a5 := o5) (a6 := o6) (a9 := o9) pf.b pg.b pf.v pg.v pf.z pg.z w1 e1
  refine ⟨H', l1, t1, some f.pv, some g.pv, b9, ?_, w2, e2, h1, h2, h3⟩
  rw [← q2]
  have st : setAll [7, 8] [f.pv, g.pv] [a0, a1, a2, some (.ref d), a4, o5, o6, o7, o8, o9] = some [a0, a1, a2, some (.ref d), a4, o5, o6, some f.pv, some g.pv, o9] := rfl
  simp (config := {decide := false}) only [↓reduceIte, ↓bT_eq, ↓cT_eq, ↓oT_eq, bT_ok, cT_ok, oT_some, call1, ev_non, ev_bl, ev_int, ev_str, ev_gl, ev_var, ev_bop, ev_neg, ev_cmp, ev_cmp2, ev_band, ev_bor, ev_bnot, ev_ife, ev_tup, ev_lst, ev_dct, ev_idx, ev_slc, ev_call, ev_bi, ev_isi, ev_mth, ev_lc, ev_lzip, evL_nil, evL_cons, evD_cons, evD_nil, evO_none, evO_some, evS_seq, evS_rng, evS_rng2, evS_enum, evS_zip, evS_zipS, tst_band, tst_bor, tst_bnot, tst_non, tst_bl, tst_int, tst_str, tst_gl, tst_var, tst_cmp, tst_cmp2, tst_idx, tst_call, tst_bi, tst_isi, tsts_nil, tsts_cons, ex_asg, ex_tasg, ex_par, ex_sidx, ex_aug, ex_drop, ex_ret, ex_retN, ex_ifs, ex_fors, ex_whl, ex_brk, ex_cont, ex_pass, ex_never, exs_nil, exs_cons, ofOpt_some, fix_pv, fix_lst, fix_dct, fixL_nil, fixL_cons, norm_same, norm_set, o_add, o_sub, o_mul, o_mod, o_fd, o_p18, a_add, a_sub, c_eq, c_ne, c_eqs, c_nes, c_lt, c_le, c_gt, c_ge, c_is, c_isnot, b_int, b_min, b_max, b_lent, b_lenl, b_tuple, i_tup, i_lst, t_bl, t_non, t_int, ty_ss, ty_st, ty_ts, ty_tt, q_tup, l_tup, l_lst, at0, at1, p_int, isNonR, List.length_cons, List.length_nil, List.map_cons, List.map_nil, List.cons_append, List.nil_append, List.replicate_succ, List.replicate_zero, List.getElem?_cons_zero, List.getElem?_cons_succ, List.getElem?_nil, List.set_cons_zero, List.set_cons_succ, List.set_nil, Nat.sub_self, Nat.reduceSub, Nat.reduceAdd, Nat.reduceMul, Nat.zero_add, Int.reduceLT, Int.reduceLE, Nat.reduceLeDiff, LINE, if_true, if_false, Bool.false_eq_true, Bool.true_eq_false, Bool.not_true, Bool.not_false, ite_self, eq_self, Prod.fst, Prod.snd, tbody, q, st]
theorem turns_ok {d : Nat} {a0 a1 a2 o5 o6 : Option PV} {c : Int} : ∀ (n : Nat) (i : Int) {H : MH} {a4 o7 o8 o9 : Option PV} {l t : Int}, Wh H → H[d]? = some (.dct (D l c t)) → 0 ≤ l → 0 ≤ t → t + n * 4000 ≤ 100000000000000000 →
    ∃ (H' : MH) (b4 b7 b8 b9 : Option PV), forL (exs (run P G 39) G tbody) (.nm 4) none (rngL i n) [a0, a1, a2, some (.ref d), a4, o5, o6, o7, o8, o9] H = .ok (.nx [a0, a1, a2, some (.ref d), b4, o5, o6, b7, b8, b9]) H' ∧ Wh H'
  | 0, i, H, a4, o7, o8, o9, l, t, hw, e, hl, ht, hb => ⟨H, a4, o7, o8, o9, by simp only [rngL, forL, lockOk, if_true], hw⟩
  | n + 1, i, H, a4, o7, o8, o9, l, t, hw, e, hl, ht, hb => by
    obtain ⟨H1, l1, t1, b7, b8, b9, q, w1, e1, l0, t0, t2⟩ := turn_ok (a0 := a0) (a1 := a1) (a2 := a2) (a4 := some (.int i)) (o5 := o5) (o6 := o6) (o7 := o7) (o8 := o8) (o9 := o9) hw e hl ht (by omega)
    obtain ⟨H2, c4, c7, c8, c9, q2, w2⟩ := turns_ok n (i + 1) (a4 := some (.int i)) (o7 := b7) (o8 := b8) (o9 := b9) w1 e1 l0 (by omega) (by omega)
    refine ⟨H2, c4, c7, c8, c9, ?_, w2⟩
    rw [← q2]
    simp only [rngL, forL, lockOk, if_true, Tgt.set, opt_some]
    simp (config := {decide := false}) only [↓reduceIte, ↓bT_eq, ↓cT_eq, ↓oT_eq, bT_ok, cT_ok, oT_some, call1, ev_non, ev_bl, ev_int, ev_str, ev_gl, ev_var, ev_bop, ev_neg, ev_cmp, ev_cmp2, ev_band, ev_bor, ev_bnot, ev_ife, ev_tup, ev_lst, ev_dct, ev_idx, ev_slc, ev_call, ev_bi, ev_isi, ev_mth, ev_lc, ev_lzip, evL_nil, evL_cons, evD_cons, evD_nil, evO_none, evO_some, evS_seq, evS_rng, evS_rng2, evS_enum, evS_zip, evS_zipS, tst_band, tst_bor, tst_bnot, tst_non, tst_bl, tst_int, tst_str, tst_gl, tst_var, tst_cmp, tst_cmp2, tst_idx, tst_call, tst_bi, tst_isi, tsts_nil, tsts_cons, ex_asg, ex_tasg, ex_par, ex_sidx, ex_aug, ex_drop, ex_ret, ex_retN, ex_ifs, ex_fors, ex_whl, ex_brk, ex_cont, ex_pass, ex_never, exs_nil, exs_cons, ofOpt_some, fix_pv, fix_lst, fix_dct, fixL_nil, fixL_cons, norm_same, norm_set, o_add, o_sub, o_mul, o_mod, o_fd, o_p18, a_add, a_sub, c_eq, c_ne, c_eqs, c_nes, c_lt, c_le, c_gt, c_ge, c_is, c_isnot, b_int, b_min, b_max, b_lent, b_lenl, b_tuple, i_tup, i_lst, t_bl, t_non, t_int, ty_ss, ty_st, ty_ts, ty_tt, q_tup, l_tup, l_lst, at0, at1, p_int, isNonR, List.length_cons, List.length_nil, List.map_cons, List.map_nil, List.cons_append, List.nil_append, List.replicate_succ, List.replicate_zero, List.getElem?_cons_zero, List.getElem?_cons_succ, List.getElem?_nil, List.set_cons_zero, List.set_cons_succ, List.set_nil, Nat.sub_self, Nat.reduceSub, Nat.reduceAdd, Nat.reduceMul, Nat.zero_add, Int.reduceLT, Int.reduceLE, Nat.reduceLeDiff, LINE, if_true, if_false, Bool.false_eq_true, Bool.true_eq_false, Bool.not_true, Bool.not_false, ite_self, eq_self, Prod.fst, Prod.snd, q]
theorem fxPair : Fix fPair := fix_of (.n (by decide) (by decide) (by simp; exact .v (by decide))) (.n (by simp) (by simp; exact .v)) (by decide) (by decide +kernel)
theorem fxLeft : Fix fLeft := fix_of (.n (by decide) (by decide) (by simp; exact ⟨.n (by decide) (by decide) (by simp), .v (by decide)⟩)) (.n (by simp) (by simp; exact ⟨.n (by simp) (by simp), .v⟩)) (by decide) (by decide +kernel)
theorem fxST : Fix fST := fix_of (.n (by decide) (by decide) (by simp; exact ⟨.v (by decide), .v (by decide)⟩)) (.n (by simp) (by simp; exact ⟨.v, .v⟩)) (by decide) (by decide +kernel)
theorem fxTS : Fix fTS := fix_of (.n (by decide) (by decide) (by simp; exact ⟨.v (by decide), .v (by decide)⟩)) (.n (by simp) (by simp; exact ⟨.v, .v⟩)) (by decide) (by decide +kernel)
def vPair : PV := .tup [.str [112, 97, 105, 114], .tup [.str [84], .str [84]]]
def vLeft : PV := .tup [.str [112, 97, 105, 114], .tup [.tup [.str [97], .tup []], .str [84]]]
theorem x1 (h : MH) : run P G 39 17 [.tup [.str [112, 97, 105, 114], .tup [.str [84], .str [84]]], .tup [.str [112, 97, 105, 114], .tup [.tup [.str [97], .tup []], .str [84]]]] h = .ok (.pv (.bl false)) h := by
  have := Fix.isas fxPair fxLeft h
  rw [show asp fPair fLeft = false by decide +kernel] at this; exact this
theorem x2 (h : MH) : run P G 39 17 [.tup [.str [112, 97, 105, 114], .tup [.tup [.str [97], .tup []], .str [84]]], .tup [.str [112, 97, 105, 114], .tup [.str [84], .str [84]]]] h = .ok (.pv (.bl false)) h := by
  have := Fix.isas fxLeft fxPair h
  rw [show asp fLeft fPair = false by decide +kernel] at this; exact this
theorem x3 (h : MH) : run P G 39 17 [.tup [.str [112, 97, 105, 114], .tup [.str [84], .str [84]]], .tup [.str [112, 97, 105, 114], .tup [.str [83], .str [84]]]] h = .ok (.pv (.bl true)) h := by
  have := Fix.isas fxPair fxST h
  rw [show asp fPair fST = true by decide +kernel] at this; exact this
theorem x4 (h : MH) : run P G 39 17 [.tup [.str [112, 97, 105, 114], .tup [.str [83], .str [84]]], .tup [.str [112, 97, 105, 114], .tup [.str [84], .str [84]]]] h = .ok (.pv (.bl false)) h := by
  have := Fix.isas fxST fxPair h
  rw [show asp fST fPair = false by decide +kernel] at this; exact this
theorem x5 (h : MH) : run P G 39 18 [.tup [.str [112, 97, 105, 114], .tup [.str [83], .str [84]]], .tup [.str [112, 97, 105, 114], .tup [.str [84], .str [83]]]] h = .ok (.pv (.bl true)) h := by
  have := Fix.alike fxST fxTS h
  rw [show (asp fST fTS && asp fTS fST) = true by decide +kernel] at this; exact this
theorem fixed_ok {H : MH} {a0 a1 a2 a3 a4 o5 o6 o7 o8 o9 : Option PV} : ∃ b5 b6, exs (run P G 39) G fixedB [a0, a1, a2, a3, a4, o5, o6, o7, o8, o9] H = .ok (.nx [a0, a1, a2, a3, a4, b5, b6, o7, o8, o9]) H := by
  refine ⟨some vPair, some vLeft, ?_⟩
  have st : ∀ u v, setAll [5, 6] [u, v] [a0, a1, a2, a3, a4, o5, o6, o7, o8, o9] = some [a0, a1, a2, a3, a4, some u, some v, o7, o8, o9] := fun _ _ => rfl
  simp (config := {decide := false}) only [↓reduceIte, ↓bT_eq, ↓cT_eq, ↓oT_eq, bT_ok, cT_ok, oT_some, call1, ev_non, ev_bl, ev_int, ev_str, ev_gl, ev_var, ev_bop, ev_neg, ev_cmp, ev_cmp2, ev_band, ev_bor, ev_bnot, ev_ife, ev_tup, ev_lst, ev_dct, ev_idx, ev_slc, ev_call, ev_bi, ev_isi, ev_mth, ev_lc, ev_lzip, evL_nil, evL_cons, evD_cons, evD_nil, evO_none, evO_some, evS_seq, evS_rng, evS_rng2, evS_enum, evS_zip, evS_zipS, tst_band, tst_bor, tst_bnot, tst_non, tst_bl, tst_int, tst_str, tst_gl, tst_var, tst_cmp, tst_cmp2, tst_idx, tst_call, tst_bi, tst_isi, tsts_nil, tsts_cons, ex_asg, ex_tasg, ex_par, ex_sidx, ex_aug, ex_drop, ex_ret, ex_retN, ex_ifs, ex_fors, ex_whl, ex_brk, ex_cont, ex_pass, ex_never, exs_nil, exs_cons, ofOpt_some, fix_pv, fix_lst, fix_dct, fixL_nil, fixL_cons, norm_same, norm_set, o_add, o_sub, o_mul, o_mod, o_fd, o_p18, a_add, a_sub, c_eq, c_ne, c_eqs, c_nes, c_lt, c_le, c_gt, c_ge, c_is, c_isnot, b_int, b_min, b_max, b_lent, b_lenl, b_tuple, i_tup, i_lst, t_bl, t_non, t_int, ty_ss, ty_st, ty_ts, ty_tt, q_tup, l_tup, l_lst, at0, at1, p_int, isNonR, List.length_cons, List.length_nil, List.map_cons, List.map_nil, List.cons_append, List.nil_append, List.replicate_succ, List.replicate_zero, List.getElem?_cons_zero, List.getElem?_cons_succ, List.getElem?_nil, List.set_cons_zero, List.set_cons_succ, List.set_nil, Nat.sub_self, Nat.reduceSub, Nat.reduceAdd, Nat.reduceMul, Nat.zero_add, Int.reduceLT, Int.reduceLE, Nat.reduceLeDiff, LINE, if_true, if_false, Bool.false_eq_true, Bool.true_eq_false, Bool.not_true, Bool.not_false, ite_self, eq_self, Prod.fst, Prod.snd, fixedB, st, x1, x2, x3, x4, x5, vPair, vLeft]
def cbody : CSL := (.cons (.asg 3 (.call 0 (.cons (.var 2) (.cons (.var 1) .nil)))) (.cons (.fors (.nm 4) (.rng (.int 9)) tbody) fixedB))
theorem cells_ok {a0 : Option PV} : ∀ (ns : List Int) (i : Nat) {H : MH} {o1 o2 o3 o4 o5 o6 o7 o8 o9 : Option PV}, i + ns.length ≤ 7 → Wh H →
    ∃ (H' : MH) (b1 b2 b3 b4 b5 b6 b7 b8 b9 : Option PV), forL (exs (run P G 39) G cbody) (.tp [1, 2]) none (enumL i (ns.map PV.int)) [a0, o1, o2, o3, o4, o5, o6, o7, o8, o9] H = .ok (.nx [a0, b1, b2, b3, b4, b5, b6, b7, b8, b9]) H'
  | [], i, H, o1, o2, o3, o4, o5, o6, o7, o8, o9, _, hw => ⟨H, o1, o2, o3, o4, o5, o6, o7, o8, o9, by simp only [List.map_nil, enumL, forL, lockOk, if_true]⟩
  | n :: ns, i, H, o1, o2, o3, o4, o5, o6, o7, o8, o9, hl, hw => by
    simp only [List.length_cons] at hl
    obtain ⟨l, l0, q⟩ := run_draw (P := P) (G := G) (k := 38) (h := H) pDr n (i : Int) (by omega) (by omega)
    have w1 : Wh (H ++ [MO.dct (D l n (1000 * i))]) := hw.app (D_lt _ _ _)
    obtain ⟨H1, b4, b7, b8, b9, q2, w2⟩ := turns_ok (a0 := a0) (a1 := some (.int i)) (a2 := some (.int n)) (d := H.length) (a4 := o4) (o5 := o5) (o6 := o6) (o7 := o7) (o8 := o8) (o9 := o9) 9 0 w1 (get_last rfl) l0 (by omega) (by omega)
    obtain ⟨b5, b6, q4⟩ := fixed_ok (H := H1) (a0 := a0) (a1 := some (.int i)) (a2 := some (.int n)) (a3 := some (.ref H.length)) (a4 := b4) (o5 := o5) (o6 := o6) (o7 := b7) (o8 := b8) (o9 := b9)
    obtain ⟨H2, c1, c2, c3, c4, c5, c6, c7, c8, c9, q3⟩ := cells_ok (a0 := a0) ns (i + 1) (o1 := some (.int i)) (o2 := some (.int n)) (o3 := some (.ref H.length)) (o4 := b4) (o5 := b5) (o6 := b6) (o7 := b7) (o8 := b8) (o9 := b9) (by omega) w2
    refine ⟨H2, c1, c2, c3, c4, c5, c6, c7, c8, c9, ?_⟩
    have ei : ((i + 1 : Nat) : Int) = (i : Int) + 1 := by omega
    rw [ei] at q3
    rw [← q3]
    have st : Tgt.set (.tp [1, 2]) (.tup [.int i, .int n]) [a0, o1, o2, o3, o4, o5, o6, o7, o8, o9] = some [a0, some (.int i), some (.int n), o3, o4, o5, o6, o7, o8, o9] := rfl
    have sm : smallR 9 = true := rfl
    have q2' : forL (exs (run P G 39) G tbody) (.nm 4) none (rngL 0 (Int.toNat 9)) [a0, some (.int i), some (.int n), some (.ref H.length), o4, o5, o6, o7, o8, o9] (H ++ [MO.dct (D l n (1000 * i))]) = _ := q2
    simp only [List.map_cons, enumL, forL, lockOk, if_true, st, opt_some]
    simp (config := {decide := false}) only [↓reduceIte, ↓bT_eq, ↓cT_eq, ↓oT_eq, bT_ok, cT_ok, oT_some, call1, ev_non, ev_bl, ev_int, ev_str, ev_gl, ev_var, ev_bop, ev_neg, ev_cmp, ev_cmp2, ev_band, ev_bor, ev_bnot, ev_ife, ev_tup, ev_lst, ev_dct, ev_idx, ev_slc, ev_call, ev_bi, ev_isi, ev_mth, ev_lc, ev_lzip, evL_nil, evL_cons, evD_cons, evD_nil, evO_none, evO_some, evS_seq, evS_rng, evS_rng2, evS_enum, evS_zip, evS_zipS, tst_band, tst_bor, tst_bnot, tst_non, tst_bl, tst_int, tst_str, tst_gl, tst_var, tst_cmp, tst_cmp2, tst_idx, tst_call, tst_bi, tst_isi, tsts_nil, tsts_cons, ex_asg, ex_tasg, ex_par, ex_sidx, ex_aug, ex_drop, ex_ret, ex_retN, ex_ifs, ex_fors, ex_whl, ex_brk, ex_cont, ex_pass, ex_never, exs_nil, exs_cons, ofOpt_some, fix_pv, fix_lst, fix_dct, fixL_nil, fixL_cons, norm_same, norm_set, o_add, o_sub, o_mul, o_mod, o_fd, o_p18, a_add, a_sub, c_eq, c_ne, c_eqs, c_nes, c_lt, c_le, c_gt, c_ge, c_is, c_isnot, b_int, b_min, b_max, b_lent, b_lenl, b_tuple, i_tup, i_lst, t_bl, t_non, t_int, ty_ss, ty_st, ty_ts, ty_tt, q_tup, l_tup, l_lst, at0, at1, p_int, isNonR, List.length_cons, List.length_nil, List.map_cons, List.map_nil, List.cons_append, List.nil_append, List.replicate_succ, List.replicate_zero, List.getElem?_cons_zero, List.getElem?_cons_succ, List.getElem?_nil, List.set_cons_zero, List.set_cons_succ, List.set_nil, Nat.sub_self, Nat.reduceSub, Nat.reduceAdd, Nat.reduceMul, Nat.zero_add, Int.reduceLT, Int.reduceLE, Nat.reduceLeDiff, LINE, if_true, if_false, Bool.false_eq_true, Bool.true_eq_false, Bool.not_true, Bool.not_false, ite_self, eq_self, Prod.fst, Prod.snd, cbody, q, sm, q2', q4]
theorem lawE : d_law = ⟨1, 10, (.cons (.fors (.tp [1, 2]) (.enum (.bop .Add (.slc (.var 0) .none (.some (.int 6))) (.lst (.cons (.bi .sum (.cons (.var 0) .nil)) .nil)))) cbody) (.cons (.ret (.bl true)) .nil))⟩ := rfl
theorem pL : P[20]? = some d_law := rfl
theorem ints_of : ∀ ns : List Int, intsOf (ns.map PV.int) = some ns
  | [] => rfl
  | n :: ns => by simp [intsOf, ints_of ns]
theorem truth (ns : List Int) (h : ns.length ≤ 63) : ∃ mh, run P G 40 20 [.scr (ns.map PV.int)] [] = .ok (.pv (.bl true)) mh := by
  have cu : cut (ns.map PV.int) none (some 6) = (ns.take 6).map PV.int := by
    unfold cut sIx
    simp only [show ¬ (6 : Int) < 0 by decide, if_false, List.drop_zero, Nat.sub_zero]
    rw [← List.map_take]
    congr 1
    have : ((6 : Int).toNat) = 6 := rfl
    rw [this, List.length_map]
    by_cases h6 : 6 ≤ ns.length
    · rw [Nat.min_eq_left h6]
    · rw [Nat.min_eq_right (by omega), List.take_of_length_le (Nat.le_refl _), List.take_of_length_le (by omega)]
  have sl : getCut [] (.pv (.scr (ns.map PV.int))) none (some 6) = some (.lst ((ns.take 6).map PV.int)) := by
    simp only [getCut, lstOf, cu]
  have su : callB .sum [] [.pv (.scr (ns.map PV.int))] = some (.pv (.int ns.sum)) := by
    simp [callB, lstOf, ints_of]
  have ad : binOp .Add [] (.lst ((ns.take 6).map PV.int)) (.lst [.int ns.sum]) = some (.lst (((ns.take 6) ++ [ns.sum]).map PV.int)) := by
    rw [o_addl (by simp; unfold LINE; omega)]
    simp
  have lo : ∀ xs : List PV, lstOf [] (.lst xs) = some xs := fun _ => rfl
  obtain ⟨H', b1, b2, b3, b4, b5, b6, b7, b8, b9, q⟩ := cells_ok (a0 := some (.scr (ns.map PV.int))) (ns.take 6 ++ [ns.sum]) 0 (H := []) (o1 := none) (o2 := none) (o3 := none) (o4 := none) (o5 := none) (o6 := none) (o7 := none) (o8 := none) (o9 := none) (by simp; omega) rfl
  have q : forL (exs (run P G 39) G cbody) (.tp [1, 2]) none (enumL 0 ((ns.take 6 ++ [ns.sum]).map PV.int)) [some (.scr (ns.map PV.int)), none, none, none, none, none, none, none, none, none] [] = _ := q
  have nm : ∃ mh, norm [] (.pv (.bl true)) H' = .ok (.pv (.bl true)) mh := by
    unfold norm
    split
    · exact ⟨_, rfl⟩
    · split
      · exact ⟨_, rfl⟩
      · exact ⟨_, rfl⟩
  obtain ⟨mh, nm⟩ := nm
  refine ⟨mh, ?_⟩
  rw [run_at pL, lawE]
  simp (config := {decide := false}) only [↓reduceIte, ↓bT_eq, ↓cT_eq, ↓oT_eq, bT_ok, cT_ok, oT_some, call1, ev_non, ev_bl, ev_int, ev_str, ev_gl, ev_var, ev_bop, ev_neg, ev_cmp, ev_cmp2, ev_band, ev_bor, ev_bnot, ev_ife, ev_tup, ev_lst, ev_dct, ev_idx, ev_slc, ev_call, ev_bi, ev_isi, ev_mth, ev_lc, ev_lzip, evL_nil, evL_cons, evD_cons, evD_nil, evO_none, evO_some, evS_seq, evS_rng, evS_rng2, evS_enum, evS_zip, evS_zipS, tst_band, tst_bor, tst_bnot, tst_non, tst_bl, tst_int, tst_str, tst_gl, tst_var, tst_cmp, tst_cmp2, tst_idx, tst_call, tst_bi, tst_isi, tsts_nil, tsts_cons, ex_asg, ex_tasg, ex_par, ex_sidx, ex_aug, ex_drop, ex_ret, ex_retN, ex_ifs, ex_fors, ex_whl, ex_brk, ex_cont, ex_pass, ex_never, exs_nil, exs_cons, ofOpt_some, fix_pv, fix_lst, fix_dct, fixL_nil, fixL_cons, norm_same, norm_set, o_add, o_sub, o_mul, o_mod, o_fd, o_p18, a_add, a_sub, c_eq, c_ne, c_eqs, c_nes, c_lt, c_le, c_gt, c_ge, c_is, c_isnot, b_int, b_min, b_max, b_lent, b_lenl, b_tuple, i_tup, i_lst, t_bl, t_non, t_int, ty_ss, ty_st, ty_ts, ty_tt, q_tup, l_tup, l_lst, at0, at1, p_int, isNonR, List.length_cons, List.length_nil, List.map_cons, List.map_nil, List.cons_append, List.nil_append, List.replicate_succ, List.replicate_zero, List.getElem?_cons_zero, List.getElem?_cons_succ, List.getElem?_nil, List.set_cons_zero, List.set_cons_succ, List.set_nil, Nat.sub_self, Nat.reduceSub, Nat.reduceAdd, Nat.reduceMul, Nat.zero_add, Int.reduceLT, Int.reduceLE, Nat.reduceLeDiff, LINE, if_true, if_false, Bool.false_eq_true, Bool.true_eq_false, Bool.not_true, Bool.not_false, ite_self, eq_self, Prod.fst, Prod.snd, sl, su, ad, lo, q, nm]
theorem walk {l : PySem.W.OpenLaw} {q : Program} {loose : List Str} {XP : (Str → Option Value) → Heap → Prop} {YP : World → Heap → Prop} {d : DefRec} {K : Params → PySem.W.Frag} (hn : l.most = some 63) (hdf : d.params.defaults = [])
    (hY : ∀ (w : World) (h : Heap), YP w h → (K w.params).In h)
    (F : ∀ (w : World) (mg : Str → Option Value) (fa : Addr) (h : Heap), (K w.params).In h → h.Ns mainGlobals mg → mg d.name = some (.ref fa) →
      ∃ fd : FuncData, (∀ (s : Shared) (u : Value), BindsTo s fd ⟨[u], []⟩ [("script", u)]) ∧ ∀ base : Heap, (K w.params).In base → base.Ns mainGlobals mg → FnG l.prog w (K w.params) mg base (L2.CX l.prog w) 40 fa fd ["script"] (spL (K w.params))) :
    PySem.W.WalkO q loose XP YP l.row.toRowW d [] (fun f vs => PySem.call f vs) :=
  top_walk (n := 63) (k := 40) (x := "script") (CX := fun w => L2.CX l.prog w) (sp := fun w => spL (K w.params)) hn (by decide) hdf ⟨rfl, by decide, by decide⟩ hY F (fun _ _ a ns hl hO hS => law_sp' hO hS (truth ns hl)) fun _ H s e s' => cx_none
end K07
open PySem PySem.W PyProof.Rows
set_option maxRecDepth 100000 in
set_option maxHeartbeats 0 in
theorem PySem.Challenge.cw_wirebox_k07_special_and_alike_holds : PySem.Challenge.rw_wirebox_k07_special_and_alike.Holds := by
  w_on; o_law; k_head; (case hw => w_witness2)
  k_fill
  refine K07.walk (l := PySem.Challenge.rw_wirebox_k07_special_and_alike) rfl rfl (fun w h Y => PySem.W.kIn_of Y) ?F
  case F =>
    intro w mg fa h KX G hmg
    refine' K07.all_mk KX G hmg ?a0 ?l0 ?c0 ?k0 ?a1 ?l1 ?c1 ?k1 ?a2 ?l2 ?c2 ?k2 ?a3 ?l3 ?c3 ?k3 ?a4 ?l4 ?c4 ?k4 ?a5 ?l5 ?c5 ?k5 ?a6 ?l6 ?c6 ?k6 ?a7 ?l7 ?c7 ?k7 ?a8 ?l8 ?c8 ?k8 ?a9 ?l9 ?c9 ?k9 ?a10 ?l10 ?c10 ?k10 ?a11 ?l11 ?c11 ?k11 ?a12 ?l12 ?c12 ?k12 ?a13 ?l13 ?c13 ?k13 ?a14 ?l14 ?c14 ?k14 ?a15 ?l15 ?c15 ?k15 ?a16 ?l16 ?c16 ?k16 ?a17 ?l17 ?c17 ?k17 ?a18 ?l18 ?c18 ?k18 ?a19 ?l19 ?c19 ?k19 ?a20 ?l20 ?c20 ?k20 ?z0 ?z1 ?z2 ?z3 ?z4 ?z5 ?z6 ?z7 ?z8 ?z9 ?z10 ?z11 ?z12 ?z13 ?z14 ?z15 ?z16 ?z17 ?pfg0 ?pfr0 ?pfg1 ?pfr1 ?pfg2 ?pfr2 ?pfg3 ?pfr3 ?pfg4 ?pfr4 ?pfg5 ?pfr5 ?pfg6 ?pfr6
    (case a0 => k_is); (case l0 => k_is); (case c0 => k_is); (case k0 => k_is)
    (case a1 => k_is); (case l1 => k_is); (case c1 => k_is); (case k1 => k_is)
    (case a2 => k_is); (case l2 => k_is); (case c2 => k_is); (case k2 => k_is)
    (case a3 => k_is); (case l3 => k_is); (case c3 => k_is); (case k3 => k_is)
    (case a4 => k_is); (case l4 => k_is); (case c4 => k_is); (case k4 => k_is)
    (case a5 => k_is); (case l5 => k_is); (case c5 => k_is); (case k5 => k_is)
    (case a6 => k_is); (case l6 => k_is); (case c6 => k_is); (case k6 => k_is)
    (case a7 => k_is); (case l7 => k_is); (case c7 => k_is); (case k7 => k_is)
    (case a8 => k_is); (case l8 => k_is); (case c8 => k_is); (case k8 => k_is)
    (case a9 => k_is); (case l9 => k_is); (case c9 => k_is); (case k9 => k_is)
    (case a10 => k_is); (case l10 => k_is); (case c10 => k_is); (case k10 => k_is)
    (case a11 => k_is); (case l11 => k_is); (case c11 => k_is); (case k11 => k_is)
    (case a12 => k_is); (case l12 => k_is); (case c12 => k_is); (case k12 => k_is)
    (case a13 => k_is); (case l13 => k_is); (case c13 => k_is); (case k13 => k_is)
    (case a14 => k_is); (case l14 => k_is); (case c14 => k_is); (case k14 => k_is)
    (case a15 => k_is); (case l15 => k_is); (case c15 => k_is); (case k15 => k_is)
    (case a16 => k_is); (case l16 => k_is); (case c16 => k_is); (case k16 => k_is)
    (case a17 => k_is); (case l17 => k_is); (case c17 => k_is); (case k17 => k_is)
    (case a18 => k_is); (case l18 => k_is); (case c18 => k_is); (case k18 => k_is)
    (case a19 => k_is); (case l19 => k_is); (case c19 => k_is); (case k19 => k_is)
    (case a20 => k_is); (case l20 => k_is); (case c20 => k_is); (case k20 => k_is)
    (case z0 => k_is)
    (case z1 => k_is)
    (case z2 => k_is)
    (case z3 => k_is)
    (case z4 => k_is)
    (case z5 => k_is)
    (case z6 => k_is)
    (case z7 => k_is)
    (case z8 => k_is)
    (case z9 => k_is)
    (case z10 => k_is)
    (case z11 => k_is)
    (case z12 => k_is)
    (case z13 => k_is)
    (case z14 => k_is)
    (case z15 => k_is)
    (case z16 => k_is)
    (case z17 => k_is)
    (case pfg0 => k_is); (case pfr0 => first | exact Pf.glr_int | exact Pf.glr_str (by decide +kernel))
    (case pfg1 => k_is); (case pfr1 => first | exact Pf.glr_int | exact Pf.glr_str (by decide +kernel))
    (case pfg2 => k_is); (case pfr2 => first | exact Pf.glr_int | exact Pf.glr_str (by decide +kernel))
    (case pfg3 => k_is); (case pfr3 => first | exact Pf.glr_int | exact Pf.glr_str (by decide +kernel))
    (case pfg4 => k_is); (case pfr4 => first | exact Pf.glr_int | exact Pf.glr_str (by decide +kernel))
    (case pfg5 => k_is); (case pfr5 => first | exact Pf.glr_int | exact Pf.glr_str (by decide +kernel))
    (case pfg6 => k_is); (case pfr6 => first | exact Pf.glr_int | exact Pf.glr_str (by decide +kernel))
#print axioms PySem.Challenge.cw_wirebox_k07_special_and_alike_holds

