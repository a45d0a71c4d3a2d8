import PyProof.Rows.All
import Wide.All
import OpenK.AllK
import Wide.FinOn
import PySem.Syntax
import HandS.ForMost
import KE.SortData
import HandS.ForExc
import HandS.Deep
import HandS.TupAny
import HandS.Style
import HandS.IsInst
import HandS.SortInts
import HandS.Strs
import HandS.Flow
import HandS.DictEq
import HandS.Dict
import PyProof.EqKinds
import PyProof.P3Eq
import PyProof.P3In
import PyProof.NeData
import HandS.Wide
import HandS.TupMul
import HandS.SetFor
import HandS.ExcField
import PyProof.Seq
import PyProof.TupleIter
import HandS.Comp
import HandS.Iter
import HandS.Zip
import HandS.Words
import HandS.WordsExc
import HandS.CallSlots
import HandS.More
import HandS.ExcInit
import HandS.ExcOwn
import HandS.Small
import PyProof.ExcBaseAll.ValueError
import HandS.Conv
import HandS.Exc
import HandS.ExcIs
import KE.KExcIs
import HandS.Set
import HandS.Defaults
import HandS.Ends
import PySem.Challenge.RW_quickchange_k41_wishes_seen
set_option Elab.async false
section
set_option linter.all false
/-! The tree language: what the program's text is without places, and what it reckons on trees. -/
namespace Q
open PySem (Operator CmpOp)

/-- data: each list says whether it is the holder's own -/
inductive D where
  | non | bl (b : Bool) | int (i : Int) | str (s : List Nat)
  | tup (xs : List D) | lst (o : Bool) (xs : List D) | dct (o : Bool) (ks : List D) (vs : List D)
  | ins (o : Bool) (c : Nat) (fs : List Nat) (vs : List D) | exc (c : Nat) (fs : List Nat) (vs : List D)
  deriving Inhabited, Repr

mutual
def own : D → Bool
  | .tup xs => owns xs
  | .lst o xs => o || owns xs
  | .dct o ks vs => o || owns vs
  | .ins o _ _ vs => o || owns vs
  | .exc _ _ vs => owns vs
  | .non => false | .bl _ => false | .int _ => false | .str _ => false
def owns : List D → Bool
  | [] => false
  | d :: ds => own d || owns ds
end
mutual
def shr : D → D
  | .tup xs => .tup (shrs xs)
  | .lst _ xs => .lst false (shrs xs)
  | .dct _ ks vs => .dct false ks (shrs vs)
  | .ins _ c fs vs => .ins false c fs (shrs vs)
  | .exc c fs vs => .exc c fs (shrs vs)
  | .non => .non | .bl b => .bl b | .int i => .int i | .str s => .str s
def shrs : List D → List D
  | [] => []
  | d :: ds => shr d :: shrs ds
end
mutual
/-- a shared thing stands in it -/
def sha : D → Bool
  | .tup xs => shas xs
  | .lst o xs => !o || shas xs
  | .dct o _ vs => !o || shas vs
  | .ins o _ _ vs => !o || shas vs
  | .exc _ _ vs => shas vs
  | .non => false | .bl _ => false | .int _ => false | .str _ => false
def shas : List D → Bool
  | [] => false
  | d :: ds => sha d || shas ds
end
mutual
/-- == of data -/
def eqv : D → D → Bool
  | .non, .non => true
  | .bl a, .bl b => a == b
  | .bl a, .int j => (if a then 1 else 0) == j
  | .int i, .bl b => i == (if b then 1 else 0)
  | .int i, .int j => i == j
  | .str x, .str y => x == y
  | .tup xs, .tup ys => eqvs xs ys
  | .lst _ xs, .lst _ ys => eqvs xs ys
  | .dct _ _ _, .dct _ _ _ => true
  | _, _ => false
def eqvs : List D → List D → Bool
  | [], [] => true
  | x :: xs, y :: ys => eqv x y && eqvs xs ys
  | _, _ => false
end
mutual
/-- data of none, bools, ints, texts, tuples and lists, so deep -/
def dat0 (n : Nat) : D → Bool
  | .tup xs => decide (0 < n) && dats0 (n - 1) xs
  | .lst _ xs => decide (0 < n) && dats0 (n - 1) xs
  | .non => true | .bl _ => true | .int _ => true | .str s => s.all fun c => decide (c < 1114112)
  | .dct .. => false | .ins .. => false | .exc .. => false
def dats0 (n : Nat) : List D → Bool
  | [] => true
  | d :: ds => dat0 n d && dats0 n ds
end

mutual
/-- data of none, bools, ints, texts, tuples, lists and empty dicts, so deep -/
def dat (n : Nat) : D → Bool
  | .tup xs => decide (0 < n) && dats (n - 1) xs
  | .lst _ xs => decide (0 < n) && dats (n - 1) xs
  | .non => true | .bl _ => true | .int _ => true | .str s => s.all fun c => decide (c < 1114112)
  | .dct _ ks vs => ks.isEmpty && vs.isEmpty | .ins .. => false | .exc .. => false
def dats (n : Nat) : List D → Bool
  | [] => true
  | d :: ds => dat n d && dats n ds
end

mutual
def toPy : D → PySem.PyData
  | .non => .none | .bl b => .bool b | .int i => .int i | .str s => .str ⟨s.toArray⟩
  | .tup xs => .tuple (toPys xs) | .lst _ xs => .list (toPys xs)
  | .dct .. => .none | .ins .. => .none | .exc .. => .none
def toPys : List D → List PySem.PyData
  | [] => []
  | d :: ds => toPy d :: toPys ds
end
/-- the text without places -/
inductive Ex where
  | nev
  | var (i : Nat) | mov (i : Nat)
  | non | bl (b : Bool) | int (i : Int) | str (s : List Nat) | glb (g : Nat)
  | nil | cons (e es : Ex)
  | tup (es : Ex) | lst (es : Ex)
  | bin (op : Operator) (a b : Ex) | neg (a : Ex) | not (a : Ex) | and (a b : Ex) | or (a b : Ex)
  | cmp (op : CmpOp) (a b : Ex) | cmp2 (o p : CmpOp) (a b c : Ex)
  | isN (a : Ex) | notN (a : Ex)
  | ife (t a b : Ex)
  | fld (e : Ex) (f : Nat) | ix (e i : Ex) | slc (e lo hi : Ex) | rev (e : Ex)
  | call (f : Nat) (es : Ex) | new (c : Nat) (es : Ex) | meth (m : Nat) (e es : Ex)
  | len (e : Ex) | lis (e : Ex) | tpl (e : Ex) | toI (e : Ex) | srt (e : Ex) | sset (e : Ex) | any (e : Ex) | all (e : Ex) | sum (e : Ex)
  | min1 (e : Ex) | max1 (e : Ex) | min2 (a b : Ex) | max2 (a b : Ex)
  | idx (e x : Ex) | cnt (e x : Ex)
  | isT (e : Ex) (t : Nat) | isC (e : Ex) (c : Nat)
  | rng1 (a : Ex) | rng2 (a b : Ex) | zip (a b : Ex)
  | comp (elt tg it cond : Ex)
  | dcl | isX (e : Ex) (cs : List Nat) (v : Bool) | lstZ (es : Ex) | lisR (a : Ex) | catT (a b : Ex) | lend (i : Nat) (e : Ex) | lendA (e : Ex)
  deriving Inhabited, Repr, DecidableEq

inductive St where
  | nev
  | pas | seq (a b : St)
  | asg (tg e : Ex) | par (ts es : Ex)
  | exp (e : Ex) | ret (e : Ex)
  | ite (c : Ex) (a b : St) | forr (tg it : Ex) (b : St) | whl (c : Ex) (b : St) | brk | cont
  | stf (i f : Nat) (e : Ex)
  | app (p e : Ex) | ext (p e : Ex) | ins (p k e : Ex) | clr (p : Ex) | pop (p : Ex) | popA (p k : Ex) | rem (p e : Ex)
  | popG (i : Nat) (p : Ex) | popAG (i : Nat) (p k : Ex)
  | sti (p k e : Ex)
  | appP (i j : Nat) (k : Ex)
  | forA (c h : Nat) (e : Ex)
  | forT (tg it c : Ex) (v : Bool)
  /-- a def is called that changes what its first name holds -/
  | callM (f i : Nat) (es : Ex)
  | rai (c : Nat) (es : Ex)
  | tryA (c : Nat) (i j : Nat) (b : St)
  deriving Inhabited, Repr, DecidableEq

abbrev Env := List (Option D)
inductive R (α : Type) where
  | ok (a : α) (env : Env) | exc (c : Nat) (fs : List Nat) (vs : List D) (env : Env) | stuck
/-- what a call gives -/
inductive CR where
  | ok (d : D) | exc (c : Nat) (fs : List Nat) (vs : List D) | stuck
def R.bind {α β : Type} (r : R α) (f : α → Env → R β) : R β :=
  match r with
  | .ok a e => f a e
  | .exc c fs vs e => .exc c fs vs e
  | .stuck => .stuck

/-- the program: what a call gives, constants, what the classes are -/
structure Pg where
  call : Nat → List D → CR
  glob : Nat → Option D
  /-- the class's exception fields (none: no exception of ours) -/
  excF : Nat → Option (List Nat)
  /-- defaults that an exception's __init__ adds -/
  excD : Nat → Nat → List D
  /-- the def of a method: by class and method -/
  mth : Nat → Nat → Option Nat
  /-- one stands under the other -/
  sub : Nat → Nat → Bool
  /-- what fields a class's instances may have -/
  insF : Nat → Nat → Bool

/-- all names shared for a while -/
def shrA (env : Env) : Env := env.map (Option.map shr)
def dem (r : Nat) (env : Env) : Env :=
  match env[r]? with
  | some (some d) => env.set r (some (shr d))
  | _ => env
/-- the slot that a place hangs on -/
def root : Ex → Option Nat
  | .var i => some i
  | .fld e _ => root e
  | .ix e _ => root e
  | _ => none
/-- the slot still holds its thing -/
def here (r : Option Nat) (env : Env) : Bool :=
  match r with
  | none => true
  | some r => match env[r]? with
    | some (some _) => true
    | _ => false
/-- a view taken as a value -/
def take (r : Option Nat) (d : D) (env : Env) : R D :=
  if own d then
    match r with
    | some r => .ok (shr d) (dem r env)
    | none => .ok d env
  else .ok d env
def els : D → Option (List D)
  | .tup xs => some xs
  | .lst _ xs => some xs
  | _ => none
/-- a view whose items are taken out -/
def cont (r : Option Nat) (d : D) (env : Env) : R (List D) :=
  match els d with
  | none => .stuck
  | some xs => if owns xs then
      match r with
      | some r => .ok (shrs xs) (dem r env)
      | none => .stuck
    else .ok xs env
def line : Nat := 16777216
def tru : D → Option Bool
  | .non => some false | .bl b => some b | .int i => some (i != 0) | .str s => if s.length ≤ line then some (!s.isEmpty) else none
  | .tup xs => some (!xs.isEmpty) | .lst _ xs => some (!xs.isEmpty) | _ => none
def ixN (n : Nat) (i : Int) : Option Nat := if 0 ≤ i then (if i < n then some i.toNat else none) else if -(n : Int) ≤ i then some (i + n).toNat else none
def atI {α : Type} (xs : List α) (i : Int) : Option α := (ixN xs.length i).bind fun j => xs[j]?
def isIx (n d : Nat) : Option Int → Nat
  | none => d
  | some v => if v < 0 then (v + (n : Int)).toNat else min v.toNat n
def cut {α : Type} (xs : List α) (lo hi : Option Int) : List α := (xs.drop (isIx xs.length 0 lo)).take (isIx xs.length xs.length hi - isIx xs.length 0 lo)
def item : D → D → Option D
  | .lst _ xs, .int i => atI xs i
  | .tup xs, .int i => atI xs i
  | _, _ => none
def field (f : Nat) : List Nat → List D → Option D
  | g :: gs, v :: vs => if g = f then some v else field f gs vs
  | _, _ => none
def getF : D → Nat → Option D
  | .ins _ _ fs vs, f => field f fs vs
  | .exc _ fs vs, f => field f fs vs
  | _, _ => none
def binOp (op : Operator) : D → D → Option D
  | .int i, .int j => match op with
    | .Add => some (.int (i + j))
    | .Sub => some (.int (i - j))
    | .Mult => if (-(2 ^ 64) < i ∧ i < 2 ^ 64) ∨ (-(2 ^ 64) < j ∧ j < 2 ^ 64) then some (.int (i * j)) else none
    | .FloorDiv => if 0 < j ∧ j.natAbs.log2 < 9000 then some (.int (i / j)) else none
    | .Mod => if 0 < j then some (.int (i % j)) else none
    | .Pow => if 0 ≤ j ∧ j ≤ 1000000 ∧ i.natAbs < 2 ^ 64 then some (.int (i ^ j.toNat)) else none
    | .RShift => if 0 ≤ j then some (.int (i / 2 ^ j.toNat)) else none
    | _ => none
  | _, _ => none
/-- + and * of sequences whose items are no one's own -/
def catOp (op : Operator) : D → D → Option D
  | .lst _ xs, .lst _ ys => if op = .Add ∧ owns xs = false ∧ owns ys = false ∧ xs.length + ys.length ≤ line then some (.lst true (xs ++ ys)) else none
  | .tup xs, .tup ys => if op = .Add ∧ owns xs = false ∧ owns ys = false ∧ xs.length + ys.length ≤ line then some (.tup (xs ++ ys)) else none
  | .tup xs, .int k => if op = .Mult ∧ owns xs = false ∧ xs ≠ [] ∧ 1 ≤ k ∧ k ≤ 1000 ∧ xs.length ≤ 1000 then some (.tup (List.replicate k.toNat xs).flatten) else none
  | .lst _ xs, .int k => if op = .Mult ∧ owns xs = false ∧ 0 ≤ k ∧ k < 2 ^ 62 ∧ xs.length * k.toNat ≤ line then some (.lst true (List.replicate k.toNat xs).flatten) else none
  | _, _ => none
def isDc : D → Bool
  | .dct .. => true
  | _ => false
def cmpOp (op : CmpOp) (a b : D) : Option Bool :=
  match op with
  | .Eq => if dat 60 a && dat 60 b then some (eqv a b) else none
  | .NotEq => if dat 60 a && dat 60 b then (if isDc a || isDc b then none else some (!eqv a b)) else none
  | .Lt => match a, b with | .int i, .int j => some (decide (i < j)) | _, _ => none
  | .LtE => match a, b with | .int i, .int j => some (decide (i ≤ j)) | _, _ => none
  | .Gt => match a, b with | .int i, .int j => some (decide (j < i)) | _, _ => none
  | .GtE => match a, b with | .int i, .int j => some (decide (j ≤ i)) | _, _ => none
  | .In => match els b with | some xs => if dat 60 a && dats 59 xs then some (xs.any fun z => eqv z a) else none | none => none
  | .NotIn => match els b with | some xs => if dat 60 a && dats 59 xs then some (!xs.any fun z => eqv z a) else none | none => none
  | _ => none
def boolsOf : List D → Option (List Bool)
  | [] => some []
  | .bl b :: ds => (boolsOf ds).map (b :: ·)
  | _ :: _ => none
def intsOf : List D → Option (List Int)
  | [] => some []
  | .int i :: ds => (intsOf ds).map (i :: ·)
  | _ :: _ => none
/-- the place of the first equal one -/
def findD (x : D) : List D → Nat → Option Nat
  | [], _ => none
  | d :: ds, k => if eqv d x then some k else findD x ds (k + 1)
def insI (x : Int) : List Int → List Int
  | [] => [x]
  | y :: ys => if x ≤ y then x :: y :: ys else y :: insI x ys
def sortI : List Int → List Int
  | [] => []
  | x :: xs => insI x (sortI xs)
def insU (x : Int) : List Int → List Int
  | [] => [x]
  | y :: ys => if x < y then x :: y :: ys else if x = y then y :: ys else y :: insU x ys
/-- the members, each once, from the least up -/
def sortU : List Int → List Int
  | [] => []
  | x :: xs => insU x (sortU xs)
def leastI : Int → List Int → Int
  | a, [] => a
  | a, b :: l => leastI (if b < a then b else a) l
def mostI : Int → List Int → Int
  | a, [] => a
  | a, b :: l => mostI (if b > a then b else a) l
/-- the kinds: int, bool, list, tuple, str, dict, None -/
def tyIx : D → Option Nat
  | .int _ => some 0 | .bl _ => some 1 | .lst .. => some 2 | .tup _ => some 3 | .str _ => some 4 | .dct .. => some 5 | .non => some 6
  | _ => none
def isTy (d : D) (t : Nat) : Option Bool :=
  match d with
  | .ins _ _ (_ :: _) _ => some false
  | d => (tyIx d).map fun k => k == t || (k == 1 && t == 0)
def ranges (a b : Int) : List D := (List.range (b - a).toNat).map fun (i : Nat) => .int (a + i)

/-- a target's store -/
def bnd : Ex → D → Env → R Unit
  | .var i, d, env => if i < env.length then .ok () (env.set i (some d)) else .stuck
  | .tup es, d, env => match d with | .tup xs => bnd es (.tup xs) env | .lst _ xs => if owns xs = true then .stuck else bnd es (.tup xs) env | _ => .stuck
  | .nil, .tup [], env => .ok () env
  | .cons e es, .tup (x :: xs), env => (bnd e x env).bind fun _ env => bnd es (.tup xs) env
  | _, _, _ => .stuck
def slots : Ex → List Nat
  | .var i => [i]
  | .tup es => slots es
  | .cons e es => slots e ++ slots es
  | _ => []
def wipe (is : List Nat) (env : Env) : Env := is.foldl (fun e i => e.set i none) env
def back (is : List Nat) (old env : Env) : Env := is.foldl (fun e i => match old[i]? with | some o => e.set i o | none => e) env
/-- in a block nothing may be raised -/
def noX {α : Type} : R α → R α
  | .exc .. => .stuck
  | r => r
/-- item by item -/
def walk (f : D → Env → R (Option D)) : List D → Env → R (List D)
  | [], env => .ok [] env
  | d :: ds, env => (f d env).bind fun y env => (walk f ds env).bind fun ys env => .ok (match y with | some y => y :: ys | none => ys) env
def noneR {α : Type} : Option α → Env → R α
  | some a, env => .ok a env
  | none, _ => .stuck

/-! ### by values -/
def lenD : D → Option D
  | .tup xs => some (.int xs.length)
  | .lst _ xs => some (.int xs.length)
  | .str s => if s.length ≤ line then some (.int s.length) else none
  | _ => none
def negD : D → Option D
  | .int i => some (.int (-i))
  | _ => none
def notD (x : D) : Option D := (tru x).map fun b => .bl (!b)
def isND : D → D
  | .non => .bl true
  | _ => .bl false
def notND : D → D
  | .non => .bl false
  | _ => .bl true
def toID : D → Option D
  | .int i => some (.int i)
  | .bl b => some (.int (if b then 1 else 0))
  | _ => none
def onInts (f : List Int → Option D) : D → Option D
  | .lst _ xs => (intsOf xs).bind f
  | _ => none
def onBools (f : List Bool → D) : D → Option D
  | .lst _ xs => (boolsOf xs).map f
  | _ => none
def tupC : D → Bool
  | .tup (_ :: _) => true
  | _ => false
def lstC : D → Bool
  | .lst .. => true
  | _ => false
def leD : D → D → Bool := PySem.W.dataLe false toPy
def ssetD : D → Option D := onInts fun ns => if ns.length < 64 then some (.lst true ((sortU ns).map .int)) else none
def srtI : D → Option D := onInts fun ns => some (.lst true ((sortI ns).map .int))
/-- rows of data, sorted -/
def srtRows : D → Option D
  | .lst _ xs => if owns xs = false ∧ dats0 30 xs = true ∧ xs.length ≤ 16777216 ∧ (xs.all fun x => xs.all fun y => PySem.W.alike (toPy x) (toPy y)) = true ∧ (xs.all tupC || xs.all lstC) = true then some (.lst true (xs.mergeSort leD)) else none
  | _ => none
def srtD (x : D) : Option D := match srtI x with | some d => some d | none => srtRows x
def sumD : D → Option D := onInts fun ns => some (.int ns.sum)
def min1D : D → Option D := onInts fun | n :: ns => some (.int (leastI n ns)) | [] => none
def max1D : D → Option D := onInts fun | n :: ns => some (.int (mostI n ns)) | [] => none
def anyD : D → Option D := onBools fun bs => .bl (bs.any id)
def allD : D → Option D := onBools fun bs => .bl (bs.all id)
def onInt2 (f : Int → Int → Int) : D → D → Option D
  | .int i, .int j => some (.int (f i j))
  | _, _ => none
def min2D : D → D → Option D := onInt2 fun i j => if j < i then j else i
def max2D : D → D → Option D := onInt2 fun i j => if j > i then j else i
def idxD (x y : D) : Option D :=
  match els x with
  | some xs => if dat0 60 y && dats0 59 xs then (findD y xs 0).map fun (k : Nat) => .int (k : Int) else none
  | none => none
def cntD : D → D → Option D
  | .lst _ xs, .int k => (intsOf xs).map fun ns => .int (ns.count k : Nat)
  | .lst _ xs, .bl b => if dats0 59 xs = true then some (.int (xs.countP fun z => eqv z (.bl b) : Nat)) else none
  | _, _ => none
def rngD : D → D → Option D
  | .int i, .int j => if -(2 ^ 62) ≤ i ∧ i < 2 ^ 62 ∧ -(2 ^ 62) ≤ j ∧ j < 2 ^ 62 then some (.lst true (ranges i j)) else none
  | _, _ => none
def lisRD : D → Option D
  | .int n => if -(2 ^ 62) ≤ n ∧ n ≤ 16777216 then some (.lst true (ranges 0 n)) else none
  | _ => none
def bin2 (op : Operator) (x y : D) : Option D :=
  match binOp op x y with
  | some d => some d
  | none => catOp op x y
def cutD (x : D) (xs : List D) (l h : Option Int) : Option D :=
  match x with
  | .lst .. => some (.lst true (cut xs l h))
  | .tup _ => some (.tup (cut xs l h))
  | _ => none
/-- + of lists that nobody else has -/
def catD : D → D → Option D
  | .lst _ xs, .lst _ ys => if xs.length + ys.length ≤ line then some (.lst true (xs ++ ys)) else none
  | _, _ => none
def partD : D → Option (Option Int)
  | .int i => some (some i)
  | _ => none
def isLst : D → Bool
  | .lst .. => true
  | _ => false

section
variable (P : Pg)
def isCD (c : Nat) : D → Option D
  | .ins _ k (_ :: _) _ => some (.bl (P.sub k c))
  | d => (tyIx d).map fun _ => .bl false
/-- these slots are shared -/
def demA (rs : List Nat) : Nat → Env → Env
  | _, [] => []
  | k, o :: env => (if rs.contains k then o.map shr else o) :: demA rs (k + 1) env
/-- this name alone -/
def onlyE (i : Nat) (d : D) (env : Env) : Env := (List.replicate env.length none).set i (some d)
/-- the slots that a row of arguments hangs on -/
def rts : Ex → List Nat
  | .cons e es => (root e).toList ++ rts es
  | _ => []
/-- behind a call: what was lent is one's own again where what came back shares nothing -/
def afterCall (lent : Bool) (rs : List Nat) (env : Env) : CR → R D
  | .ok d => .ok d (if lent && sha d then demA rs 0 env else env)
  | .exc c fs vs => .exc c fs vs (if lent && shas vs then demA rs 0 env else env)
  | .stuck => .stuck
def mthOf (m : Nat) : D → Option Nat
  | .ins _ c _ _ => P.mth c m
  | _ => none
/-- isinstance of an exception: own classes, ValueError -/
def isXD (cs : List Nat) (v : Bool) : D → Option D
  | .exc k fs _ => if P.excF k = some fs then some (.bl (v || cs.any (P.sub k))) else none
  | _ => none
/-- an exception made -/
def mkExc (c : Nat) (fs : List Nat) (ds : List D) : Option D :=
  let ds := ds ++ P.excD c ds.length
  if ds.length = fs.length ∧ owns ds = false then some (.exc c fs ds.reverse) else none
mutual
/-- what an expression gives, seen where it stands -/
def vw : Ex → Env → R D
  | .var i, env => match env[i]? with | some (some d) => .ok d env | _ => .stuck
  | .mov i, env => match env[i]? with | some (some d) => .ok d (env.set i none) | _ => .stuck
  | .non, env => .ok .non env | .bl b, env => .ok (.bl b) env | .int i, env => .ok (.int i) env | .str s, env => .ok (.str s) env
  | .glb g, env => noneR (P.glob g) env
  | .tup es, env => (evs es env).bind fun ds env => if ds.length ≤ line then .ok (.tup ds) env else .stuck
  | .lst es, env => (evs es env).bind fun ds env => if ds.length ≤ line then .ok (.lst true ds) env else .stuck
  | .bin op a b, env => (vw a env).bind fun x env => (vw b env).bind fun y env => noneR (bin2 op x y) env
  | .neg a, env => (vw a env).bind fun x env => noneR (negD x) env
  | .not a, env => (vw a env).bind fun x env => noneR (notD x) env
  | .and a b, env => (vw a env).bind fun x env => match x with | .bl true => (vw b env).bind (take (root b)) | .bl false => .ok (.bl false) env | _ => .stuck
  | .or a b, env => (vw a env).bind fun x env => match x with | .bl false => (vw b env).bind (take (root b)) | .bl true => .ok (.bl true) env | _ => .stuck
  | .cmp op a b, env => (vw a env).bind fun x env => (vw b env).bind fun y env => noneR ((cmpOp op x y).map .bl) env
  | .cmp2 o p a b c, env => (vw a env).bind fun x env => (vw b env).bind fun y env => match cmpOp o x y with
    | some true => (vw c env).bind fun z env => noneR ((cmpOp p y z).map .bl) env
    | some false => .ok (.bl false) env
    | none => .stuck
  | .isN a, env => (vw a env).bind fun x env => .ok (isND x) env
  | .notN a, env => (vw a env).bind fun x env => .ok (notND x) env
  | .ife t a b, env => (vw t env).bind fun x env => match tru x with
    | some true => (vw a env).bind (take (root a)) | some false => (vw b env).bind (take (root b)) | none => .stuck
  | .fld e f, env => (vw e env).bind fun x env => noneR (getF x f) env
  | .ix e i, env => (vw e env).bind fun x env => (vw i env).bind fun k env => if here (root e) env then noneR (item x k) env else .stuck
  | .slc e lo hi, env => (vw e env).bind fun x env => (cont (root e) x env).bind fun xs env =>
      ((match lo with | .nil => R.ok none env | _ => (vw lo env).bind fun l env => noneR (partD l) env) : R (Option Int)).bind fun l env =>
      ((match hi with | .nil => R.ok none env | _ => (vw hi env).bind fun h env => noneR (partD h) env) : R (Option Int)).bind fun h env => noneR (cutD x xs l h) env
  | .rev e, env => (vw e env).bind fun x env => if isLst x then (cont (root e) x env).bind fun xs env => .ok (.lst true xs.reverse) env else .stuck
  | .call f es, env => (args es env).bind fun p env => afterCall p.2 (rts es) env (P.call f p.1)
  | .meth m e es, env => (vw e env).bind fun x env => match mthOf P m x with
    | some f => (args es env).bind fun p env => if here (root e) env then afterCall ((own x && (root e).isSome) || p.2) (rts (.cons e es)) env (P.call f (shr x :: p.1)) else .stuck
    | none => .stuck
  | .new c es, env => (args es env).bind fun p env => afterCall p.2 (rts es) env (P.call c p.1)
  | .len e, env => (vw e env).bind fun x env => noneR (lenD x) env
  | .lis e, env => (vw e env).bind fun x env => (cont (root e) x env).bind fun xs env => .ok (.lst true xs) env
  | .tpl e, env => (vw e env).bind fun x env => (cont (root e) x env).bind fun xs env => .ok (.tup xs) env
  | .toI e, env => (vw e env).bind fun x env => noneR (toID x) env
  | .srt e, env => (vw e env).bind fun x env => noneR (srtD x) env
  | .sset e, env => (vw e env).bind fun x env => noneR (ssetD x) env
  | .any e, env => (vw e env).bind fun x env => noneR (anyD x) env
  | .all e, env => (vw e env).bind fun x env => noneR (allD x) env
  | .sum e, env => (vw e env).bind fun x env => noneR (sumD x) env
  | .min1 e, env => (vw e env).bind fun x env => noneR (min1D x) env
  | .max1 e, env => (vw e env).bind fun x env => noneR (max1D x) env
  | .min2 a b, env => (vw a env).bind fun x env => (vw b env).bind fun y env => noneR (min2D x y) env
  | .max2 a b, env => (vw a env).bind fun x env => (vw b env).bind fun y env => noneR (max2D x y) env
  | .idx e a, env => (vw e env).bind fun x env => if (els x).isSome then (vw a env).bind fun y env => noneR (idxD x y) env else .stuck
  | .cnt e a, env => (vw e env).bind fun x env => if isLst x then (vw a env).bind fun y env => noneR (cntD x y) env else .stuck
  | .isT e t, env => (vw e env).bind fun x env => noneR ((isTy x t).map .bl) env
  | .isC e c, env => (vw e env).bind fun x env => noneR (isCD P c x) env
  | .rng1 a, env => (vw a env).bind fun x env => noneR (rngD (.int 0) x) env
  | .rng2 a b, env => (vw a env).bind fun x env => (vw b env).bind fun y env => noneR (rngD x y) env
  | .zip a b, env => (vw a env).bind fun x env => if isLst x then (cont (root a) x env).bind fun xs env => (vw b env).bind fun y env => if isLst y then (cont (root b) y env).bind fun ys env =>
      .ok (.lst true ((xs.zip ys).map fun p => .tup [p.1, p.2])) env else .stuck else .stuck
  | .comp elt tg it cond, env => (vw it env).bind fun x env => (cont (root it) x env).bind fun xs env =>
      (walk (fun d env => noX ((bnd tg d (wipe (slots tg) env)).bind fun _ env => (vw cond env).bind fun c env => match tru c with
        | some true => ((vw elt env).bind (take (root elt))).bind fun y env => .ok (some y) env
        | some false => .ok none env
        | none => .stuck)) xs env).bind fun ys env' =>
          if ys.length ≤ line then .ok (.lst true ys) (back (slots tg) env (wipe (slots tg) env')) else .stuck
  | .dcl, env => .ok (.dct true [] []) env
  | .lstZ es, env => (evs es env).bind fun ds env => if ds.length ≤ line ∧ owns ds = false then .ok (.lst false ds) env else .stuck
  | .lend i e, env => match env[i]? with
    | some (some d) => match vw e (onlyE i (shr d) env) with
      | .ok y _ => if sha y = false then .ok y env else .stuck
      | _ => .stuck
    | _ => .stuck
  | .lendA e, env => match vw e (env.map (Option.map shr)) with
    | .ok y _ => if sha y = false then .ok y env else .stuck
    | _ => .stuck
  | .catT a b, env => ((vw a env).bind (take (root a))).bind fun x env => ((vw b env).bind (take (root b))).bind fun y env => noneR (catD x y) env
  | .lisR a, env => (vw a env).bind fun x env => noneR (lisRD x) env
  | .isX e cs v, env => (vw e env).bind fun x env => noneR (isXD P cs v x) env
  | .nil, _ => .stuck | .cons _ _, _ => .stuck | .nev, _ => .stuck
/-- the values of a row of arguments -/
def evs : Ex → Env → R (List D)
  | .nil, env => .ok [] env
  | .cons e es, env => ((vw e env).bind (take (root e))).bind fun d env => (evs es env).bind fun ds env => .ok (d :: ds) env
  | _, _ => .stuck
/-- the arguments of a call; whether something of ours is lent -/
def args : Ex → Env → R (List D × Bool)
  | .nil, env => .ok ([], false) env
  | .cons e es, env => (vw e env).bind fun d env => (args es env).bind fun p env => if here (root e) env then .ok (shr d :: p.1, (own d && (root e).isSome) || p.2) env else .stuck
  | _, _ => .stuck
end
def ev (e : Ex) (env : Env) : R D := (vw P e env).bind (take (root e))
def itr (e : Ex) (env : Env) : R (List D) := (vw P e env).bind (cont (root e))

/-! ### statements -/
inductive Fl where
  | nx | ret (d : D) | brk | cont
/-- what stands under keys -/
def atP : List D → D → Option D
  | [], d => some d
  | .int i :: ks, .lst true xs => (atI xs i).bind (atP ks)
  | .int i :: ks, .tup xs => if owns xs = true then (atI xs i).bind (atP ks) else none
  | _, _ => none
def seen (i : Nat) (ks : List D) (env : Env) : Bool :=
  match env[i]? with
  | some (some d) => (atP ks d).isSome
  | _ => false
/-- the keys of a place under its slot -/
def keys : Ex → Env → R (Nat × List D)
  | .var i, env => if seen i [] env then .ok (i, []) env else .stuck
  | .ix e k, env => (keys e env).bind fun p env => (vw P k env).bind fun d env => if seen p.1 (p.2 ++ [d]) env then .ok (p.1, p.2 ++ [d]) env else .stuck
  | _, _ => .stuck
/-- what stands at a place is changed -/
def modD {α : Type} (f : D → Option (α × D)) : List D → D → Option (α × D)
  | [], d => f d
  | .int i :: ks, .lst true xs => (ixN xs.length i).bind fun j => (xs[j]?).bind fun x => (modD f ks x).map fun p => (p.1, .lst true (xs.set j p.2))
  | .int i :: ks, .tup xs => if owns xs = true then (ixN xs.length i).bind fun j => (xs[j]?).bind fun x => (modD f ks x).map fun p => (p.1, .tup (xs.set j p.2)) else none
  | _, _ => none
def modE {α : Type} (f : D → Option (α × D)) (i : Nat) (ks : List D) (env : Env) : R α :=
  match env[i]? with
  | some (some d) => match modD f ks d with | some (a, d') => .ok a (env.set i (some d')) | none => .stuck
  | _ => .stuck
def atOwn {α : Type} (f : List D → Option (α × List D)) : D → Option (α × D)
  | .lst true xs => (f xs).map fun p => (p.1, .lst true p.2)
  | _ => none
def seqIx (i : Int) (n : Nat) : Option Nat := ixN n i
def fApp (d : D) (xs : List D) : Option (Unit × List D) := if xs.length < line then some ((), xs ++ [d]) else none
def fExt (ds : List D) (xs : List D) : Option (Unit × List D) := if xs.length + ds.length ≤ line then some ((), xs ++ ds) else none
def fClr (_ : List D) : Option (Unit × List D) := some ((), [])
def fPop (xs : List D) : Option (D × List D) := (xs[xs.length - 1]?).map fun y => (y, xs.dropLast)
def fPopA (k : D) (xs : List D) : Option (D × List D) :=
  match k with
  | .int i => if -(2 ^ 63) ≤ i ∧ i < 2 ^ 63 then (ixN xs.length i).bind fun j => (xs[j]?).map fun y => (y, xs.eraseIdx j) else none
  | _ => none
def fIns (k d : D) (xs : List D) : Option (Unit × List D) :=
  match k with
  | .int i => if 0 ≤ i ∧ i < 2 ^ 62 ∧ xs.length < line then some ((), xs.take i.toNat ++ [d] ++ xs.drop i.toNat) else none
  | _ => none
def findI (x : Int) : List Int → Nat → Option Nat
  | [], _ => none
  | y :: ys, k => if y = x then some k else findI x ys (k + 1)
def fRem (d : D) (xs : List D) : Option (Unit × List D) :=
  match d with
  | .int i => (intsOf xs).bind fun ns => (findI i ns 0).map fun j => ((), xs.eraseIdx j)
  | _ => none
def fSet (k d : D) (xs : List D) : Option (Unit × List D) :=
  match k with
  | .int i => (ixN xs.length i).map fun j => ((), xs.set j d)
  | _ => none
/-- a field of one's own new instance -/
def setF (f : Nat) (d : D) : D → Option D
  | .ins true c fs vs => if fs.length < 1000 ∧ f ∉ fs ∧ P.insF c f = true then some (.ins true c (fs ++ [f]) (vs ++ [d])) else none
  | _ => none
def seenL (i : Nat) (ks : List D) (env : Env) : Bool :=
  match env[i]? with
  | some (some d) => match atP ks d with
    | some (.lst true _) => true
    | _ => false
  | _ => false
/-- a place where a list of one's own stands -/
def plc (p : Ex) (env : Env) : R (Nat × List D) := (keys P p env).bind fun q env => if seenL q.1 q.2 env then .ok q env else .stuck
/-- a for's turns -/
def loop (f : D → Env → R Fl) : List D → Env → R Fl
  | [], env => .ok .nx env
  | d :: ds, env => (f d env).bind fun r env => match r with
    | .nx => loop f ds env
    | .cont => loop f ds env
    | .brk => .ok .nx env
    | .ret d => .ok (.ret d) env
/-- a while's turns -/
def whileF (c : Env → R Bool) (f : Env → R Fl) : Nat → Env → R Fl
  | 0, _ => .stuck
  | n + 1, env => (c env).bind fun b env => if b then (f env).bind fun r env => match r with
    | .nx => whileF c f n env
    | .cont => whileF c f n env
    | .brk => .ok .nx env
    | .ret d => .ok (.ret d) env
    else .ok .nx env
def tst (e : Ex) (env : Env) : R Bool := (vw P e env).bind fun x env => noneR (tru x) env
/-- what a for walks: shared from then on -/
def forIt : Ex → Env → R (List D)
  | .zip a b, env => (ev P a env).bind fun x env => match shr x with
    | .lst _ xs => (ev P b env).bind fun y env => match shr y with
      | .lst _ ys => .ok ((xs.zip ys).map fun p => .tup [p.1, p.2]) env
      | _ => .stuck
    | _ => .stuck
  | e, env => (ev P e env).bind fun x env => match els (shr x) with
    | some xs => .ok xs env
    | none => .stuck
/-- stores of several values, the one behind the other -/
def bnds : Ex → List D → Env → R Unit
  | .nil, [], env => .ok () env
  | .cons (.ix p k) es, d :: ds, env => (plc P p env).bind fun q env => (vw P k env).bind fun k env => (modE (atOwn (fSet k d)) q.1 q.2 env).bind fun _ env => bnds es ds env
  | .cons e es, d :: ds, env => (bnd e d env).bind fun _ env => bnds es ds env
  | _, _, _ => .stuck
def turns : Nat := 1000000
def ownL : D → Bool
  | .lst true _ => true
  | _ => false
/-- each of one's own lists, one behind the other, gets a thing more -/
def appA (f : Env → R D) (h : Nat) (d : D) (env : Env) : R Fl :=
  match d with
  | .int i => (f env).bind fun d env => (modE (atOwn (fApp d)) h [.int i] env).bind fun _ env => .ok .nx env
  | _ => .stuck
def exec : St → Env → R Fl
  | .nev, _ => .stuck
  | .pas, env => .ok .nx env
  | .seq a b, env => (exec a env).bind fun r env => match r with | .nx => exec b env | r => .ok r env
  | .asg tg e, env => (ev P e env).bind fun d env => (bnd tg d env).bind fun _ env => .ok .nx env
  | .par ts es, env => (evs P es env).bind fun ds env => (bnds P ts ds env).bind fun _ env => .ok .nx env
  | .exp e, env => (vw P e env).bind fun _ env => .ok .nx env
  | .ret e, env => (ev P e env).bind fun d env => .ok (.ret d) env
  | .ite c a b, env => (tst P c env).bind fun t env => if t then exec a env else exec b env
  | .forr tg it b, env => (forIt P it env).bind fun xs env => loop (fun d env => (bnd tg d env).bind fun _ env => exec b env) xs env
  | .whl c b, env => whileF (tst P c) (exec b) turns env
  | .brk, env => .ok .brk env
  | .cont, env => .ok .cont env
  | .stf i f e, env => (ev P e env).bind fun d env => match env[i]? with
    | some (some x) => match setF P f d x with | some y => .ok .nx (env.set i (some y)) | none => .stuck
    | _ => .stuck
  | .app p e, env => (plc P p env).bind fun q env => (ev P e env).bind fun d env => (modE (atOwn (fApp d)) q.1 q.2 env).bind fun _ env => .ok .nx env
  | .ext p e, env => (plc P p env).bind fun q env => (vw P e env).bind fun x env => if isLst x then (cont (root e) x env).bind fun ds env => (modE (atOwn (fExt ds)) q.1 q.2 env).bind fun _ env => .ok .nx env else .stuck
  | .ins p k e, env => (plc P p env).bind fun q env => (vw P k env).bind fun k env => (ev P e env).bind fun d env => (modE (atOwn (fIns k d)) q.1 q.2 env).bind fun _ env => .ok .nx env
  | .clr p, env => (plc P p env).bind fun q env => (modE (atOwn fClr) q.1 q.2 env).bind fun _ env => .ok .nx env
  | .pop p, env => (plc P p env).bind fun q env => (modE (atOwn fPop) q.1 q.2 env).bind fun _ env => .ok .nx env
  | .popA p k, env => (plc P p env).bind fun q env => (vw P k env).bind fun k env => (modE (atOwn (fPopA k)) q.1 q.2 env).bind fun _ env => .ok .nx env
  | .popG i p, env => (plc P p env).bind fun q env => (modE (atOwn fPop) q.1 q.2 env).bind fun d env => (bnd (.var i) d env).bind fun _ env => .ok .nx env
  | .popAG i p k, env => (plc P p env).bind fun q env => (vw P k env).bind fun k env => (modE (atOwn (fPopA k)) q.1 q.2 env).bind fun d env => (bnd (.var i) d env).bind fun _ env => .ok .nx env
  | .rem p e, env => (plc P p env).bind fun q env => (vw P e env).bind fun d env => (modE (atOwn (fRem d)) q.1 q.2 env).bind fun _ env => .ok .nx env
  | .sti p k e, env => (ev P e env).bind fun d env => (plc P p env).bind fun q env => (vw P k env).bind fun k env => (modE (atOwn (fSet k d)) q.1 q.2 env).bind fun _ env => .ok .nx env
  | .appP i j k, env => if seenL i [] env && seenL j [] env then (vw P k env).bind fun k env => (modE (atOwn (fPopA k)) j [] env).bind fun d env => (modE (atOwn (fApp d)) i [] env).bind fun _ env => .ok .nx env else .stuck
  | .forA c h e, env => match env[h]? with
    | some (some (.lst true xs)) => if c < env.length ∧ c ≠ h ∧ xs.all ownL = true then loop (appA (ev P e) h) ((List.range xs.length).map fun (i : Nat) => .int (i : Int)) (env.set c none) else .stuck
    | _ => .stuck
  | .callM f i es, env => match env[i]? with
    | some (some _) => (args P es env).bind fun q env1 => match env1[i]? with
      | some (some d) => if (rts es).contains i then .stuck else match P.call f (d :: q.1) with
        | .ok d2 => if sha d2 then .stuck else .ok .nx (env1.set i (some d2))
        | _ => .stuck
      | _ => .stuck
    | _ => .stuck
  | .forT tg it c v, env => match forIt P it (shrA env) with
    | .ok xs e1 => match loop (fun d e => (bnd tg d e).bind fun _ e => (tst P c e).bind fun t e => if t then .ok (.ret (.bl v)) e else .ok .nx e) xs e1 with
      | .ok .nx _ => .ok .nx (wipe (slots tg) env)
      | .ok (.ret _) _ => .ok (.ret (.bl v)) (wipe (slots tg) env)
      | _ => .stuck
    | _ => .stuck
  | .rai c es, env => match P.excF c with
    | some fs => (evs P es env).bind fun ds env => match mkExc P c fs ds with | some (.exc c fs vs) => .exc c fs vs env | _ => .stuck
    | none => .stuck
  | .tryA c i j b, env => match exec b env with
    | .ok r env => .ok r env
    | .exc k fs vs env => if P.excF k = some fs then (if P.sub k c then (if i < env.length ∧ j < env.length ∧ i ≠ j then .ok .nx ((env.set j (some (.exc k fs vs))).set i none) else .stuck) else .exc k fs vs env) else .stuck
    | .stuck => .stuck
end

/-- a def: how many parameters, how many names, its body; a class's __init__: the class -/
structure Fn where
  np : Nat
  ns : Nat
  body : St
  init : Option Nat := none
  deriving Inhabited
/-- a def that changes what its first name holds: what it holds at the end -/
def runM (P : Pg) (F : Fn) (ds : List D) : CR :=
  if ds.length = F.np then
    match exec P F.body (ds.map some ++ List.replicate (F.ns - F.np) none) with
    | .ok .nx (some d :: _) => .ok d
    | _ => .stuck
  else .stuck
def runFn (P : Pg) (F : Fn) (ds : List D) : CR :=
  match F.init with
  | none => if ds.length = F.np then
      match exec P F.body (ds.map some ++ List.replicate (F.ns - F.np) none) with
      | .ok (.ret d) _ => .ok d
      | .ok .nx _ => .ok .non
      | .exc c fs vs _ => .exc c fs vs
      | _ => .stuck
    else .stuck
  | some c => if ds.length + 1 = F.np then
      match exec P F.body (some (.ins true c [] []) :: (ds.map some ++ List.replicate (F.ns - F.np) none)) with
      | .ok .nx (some d :: _) => .ok d
      | .exc c fs vs _ => .exc c fs vs
      | _ => .stuck
    else .stuck
end Q
end
section
set_option linter.all false
set_option maxHeartbeats 1000000
/-! Trees and what stands in memory. -/
namespace Q
open PySem L2

/-- an exception's object, as a thing that is read -/
def exHO (cls : Value) (d : Option Addr) (a : Addr) : HO := .ext fun h => ∃ (oe : Obj) (vs : Array Value), h.get? a = some oe ∧ Zc cls d oe ∧ oe.data = .fields vs

/-- what the names are: of fields and classes -/
structure Nm where
  cls : Nat → Addr
  fld : Nat → Str
  inj : ∀ f g, fld f = fld g → f = g
  /-- an exception class's fields -/
  excF : Nat → Option (List Nat)
  /-- what fields the other classes' instances may have -/
  insF : Nat → Nat → Bool

/-- a tuple that has no dict -/
def TupZ (K : PySem.W.Frag) (Z : Hp) (a : Addr) (vs : List V) : Prop :=
  (∃ o, Z a = some (.frz o (.tup vs)) ∧ o.dict = none) ∨
    ∃ (o : Obj) (its : Array Value) (n : Nat), K.lookup a = some o ∧ o.cls = .type "tuple" ∧ o.dict = none ∧ o.data = .seq its n ∧ its.size ≤ sizeLine ∧ Vals vs its.toList
theorem TupZ.sq {K : PySem.W.Frag} {Z : Hp} {a : Addr} {vs : List V} (h : TupZ K Z a vs) : SqT K Z a vs := by
  rcases h with ⟨o, h, _⟩ | ⟨o, its, n, h1, h2, h3, h4, h5, h6⟩
  · exact .inl (.inr ⟨o, h⟩)
  · exact .inr ⟨o, its, n, h1, h2, h4, h5, h6⟩
theorem TupZ.mono {K : PySem.W.Frag} {Z Z' : Hp} {a : Addr} {vs : List V} (h : TupZ K Z a vs) (z : Same Z Z') : TupZ K Z' a vs := by
  rcases h with ⟨o, h, d⟩ | h
  · exact .inl ⟨o, z _ _ h, d⟩
  · exact .inr h

/-- a list that is read: tracked, locked, or written by the top -/
def Ls (K : PySem.W.Frag) (H : Hp) (a : Addr) (vs : List V) : Prop := Rd H a (.lst vs) ∨ ∃ (its : List Value) (n : Nat), K.lookup a = some ({ cls := .type "list", data := .seq its.toArray n } : Obj) ∧ vs.length ≤ sizeLine ∧ Vals vs its
theorem Ls.of {K : PySem.W.Frag} {H : Hp} {a : Addr} {vs : List V} (h : H a = some (.lst vs)) : Ls K H a vs := .inl (Rd.of h)
theorem Ls.sq {K : PySem.W.Frag} {H : Hp} {a : Addr} {vs : List V} (h : Ls K H a vs) : SqL K H a vs := by
  rcases h with h | ⟨its, n, h, hl, r⟩
  · exact .inl h
  · exact .inr ⟨_, its.toArray, n, h, rfl, rfl, rfl, by rw [List.size_toArray, ← r.length]; exact hl, r⟩
variable (K : PySem.W.Frag) (N : Nm)
mutual
inductive Rep (Z H : Hp) : D → V → List Addr → Prop
  | non : Rep Z H .non .non []
  | bl (b : Bool) : Rep Z H (.bl b) (.bl b) []
  | int (i : Int) : Rep Z H (.int i) (.int i) []
  | str (x : Str) : Rep Z H (.str x.cps.toList) (.str x) []
  | tup {a : Addr} {vs : List V} {xs : List D} {fp : List Addr} : TupZ K Z a vs → Reps Z H xs vs fp → (fp = [] ∨ ∃ o, Z a = some (.frz o (.tup vs))) → Rep Z H (.tup xs) (.ref a) fp
  | lst {a : Addr} {vs : List V} {xs : List D} : Ls K Z a vs → Reps Z H xs vs [] → Rep Z H (.lst false xs) (.ref a) []
  | lstO {a : Addr} {vs : List V} {xs : List D} {fp : List Addr} : H a = some (.lst vs) → Z a = none → Reps Z H xs vs fp → Rep Z H (.lst true xs) (.ref a) (a :: fp)
  | dct {a : Addr} : Z a = some (.dK []) → Rep Z H (.dct false [] []) (.ref a) []
  | dctO {a : Addr} : H a = some (.dK []) → Z a = none → Rep Z H (.dct true [] []) (.ref a) [a]
  | ins {a dx : Addr} {c : Nat} {fs : List Nat} {xs : List D} {vs : List V} : Z a = some (.ins (N.cls c) dx ((fs.map N.fld).zip vs)) → fs.length = vs.length → (∀ f ∈ fs, N.insF c f = true) → Reps Z H xs vs [] → Rep Z H (.ins false c fs xs) (.ref a) []
  | insO {a dx : Addr} {c : Nat} {fs : List Nat} {xs : List D} {vs : List V} {fp : List Addr} : H a = some (.ins (N.cls c) dx ((fs.map N.fld).zip vs)) → fs.length = vs.length → (∀ f ∈ fs, N.insF c f = true) → Z a = none → Reps Z H xs vs fp → Rep Z H (.ins true c fs xs) (.ref a) (a :: fp)
  | exc {a d : Addr} {c : Nat} {fs : List Nat} {xs : List D} {vs : List V} : Z a = some (exHO (.ref (N.cls c)) (some d) a) → Z d = some (.xd ((fs.map N.fld).zip vs)) → fs.length = vs.length → N.excF c = some fs → Reps Z H xs vs [] → Rep Z H (.exc c fs xs) (.ref a) []
  | excN {a : Addr} {c : Nat} : Z a = some (exHO (.ref (N.cls c)) none a) → N.excF c = some [] → Rep Z H (.exc c [] []) (.ref a) []
inductive Reps (Z H : Hp) : List D → List V → List Addr → Prop
  | nil : Reps Z H [] [] []
  | cons {d : D} {ds : List D} {v : V} {vs : List V} {f g : List Addr} : Rep Z H d v f → Reps Z H ds vs g → Reps Z H (d :: ds) (v :: vs) (f ++ g)
end
variable {K N}
theorem Same.some {Z Z' : Hp} (z : Same Z Z') {c : Addr} (h : Z c ≠ none) : Z' c ≠ none := by
  cases q : Z c with
  | none => exact absurd q h
  | some o => rw [z _ _ q]; exact fun e => nomatch e
theorem Rd.mono {Z Z' : Hp} (z : Same Z Z') {a : Addr} {o : HO} (h : Rd Z a o) : Rd Z' a o := by
  rcases h with h | ⟨u, h⟩
  · exact .inl (z _ _ h)
  · exact .inr ⟨u, z _ _ h⟩
theorem Ls.mono {K : PySem.W.Frag} {Z Z' : Hp} (z : Same Z Z') {a : Addr} {vs : List V} (h : Ls K Z a vs) : Ls K Z' a vs := h.imp_left (Rd.mono z)
theorem SqT.mono {Z Z' : Hp} {a : Addr} {vs : List V} (h : SqT K Z a vs) (z : Same Z Z') : SqT K Z' a vs := by
  rcases h with (h | ⟨o, h⟩) | h
  · exact .inl (.inl (z _ _ h))
  · exact .inl (.inr ⟨o, z _ _ h⟩)
  · exact .inr h
mutual
theorem Rep.mono {Z H Z' H' : Hp} (z : Same Z Z') : ∀ {d : D} {v : V} {fp : List Addr}, Rep K N Z H d v fp → (∀ c ∈ fp, H' c = H c ∧ Z' c = none) → Rep K N Z' H' d v fp
  | _, _, _, .non, _ => .non
  | _, _, _, .bl b, _ => .bl b
  | _, _, _, .int i, _ => .int i
  | _, _, _, .str x, _ => .str x
  | _, _, _, .tup h r t, k => .tup (TupZ.mono h z) (Reps.mono z r k) (t.imp_right fun ⟨o, e⟩ => ⟨o, z _ _ e⟩)
  | _, _, _, .lst h r, k => .lst (Ls.mono z h) (Reps.mono z r k)
  | _, _, _, .lstO h h2 r, k => .lstO ((k _ (List.mem_cons_self)).1.trans h) (k _ List.mem_cons_self).2 (Reps.mono z r fun c hc => k c (List.mem_cons_of_mem _ hc))
  | _, _, _, .dct h, _ => .dct (z _ _ h)
  | _, _, _, .dctO h _, k => .dctO ((k _ (List.mem_cons_self)).1.trans h) (k _ List.mem_cons_self).2
  | _, _, _, .ins h l e r, k => .ins (z _ _ h) l e (Reps.mono z r k)
  | _, _, _, .insO h l e h2 r, k => .insO ((k _ (List.mem_cons_self)).1.trans h) l e (k _ List.mem_cons_self).2 (Reps.mono z r fun c hc => k c (List.mem_cons_of_mem _ hc))
  | _, _, _, .exc h h2 l e r, k => .exc (z _ _ h) (z _ _ h2) l e (Reps.mono z r k)
  | _, _, _, .excN h e, _ => .excN (z _ _ h) e
theorem Reps.mono {Z H Z' H' : Hp} (z : Same Z Z') : ∀ {ds : List D} {vs : List V} {fp : List Addr}, Reps K N Z H ds vs fp → (∀ c ∈ fp, H' c = H c ∧ Z' c = none) → Reps K N Z' H' ds vs fp
  | _, _, _, .nil, _ => .nil
  | _, _, _, .cons r t, k => .cons (Rep.mono z r fun c hc => k c (List.mem_append_left _ hc)) (Reps.mono z t fun c hc => k c (List.mem_append_right _ hc))
end
/-- own cells hold what can be changed -/
def Own1 (Z H : Hp) (c : Addr) : Prop := Z c = none ∧ ((∃ vs, H c = some (.lst vs)) ∨ H c = some (.dK []) ∨ ∃ C dx fs, H c = some (.ins C dx fs))
mutual
theorem Rep.own1 {Z H : Hp} : ∀ {d : D} {v : V} {fp : List Addr}, Rep K N Z H d v fp → ∀ c ∈ fp, Own1 Z H c
  | _, _, _, .non, _, h => nomatch h
  | _, _, _, .bl b, _, h => nomatch h
  | _, _, _, .int i, _, h => nomatch h
  | _, _, _, .str x, _, h => nomatch h
  | _, _, _, .tup _ r _, c, h => Reps.own1 r c h
  | _, _, _, .lst _ r, _, h => nomatch h
  | _, _, _, .lstO h1 h2 r, c, h => (List.mem_cons.mp h).elim (fun e => by subst e; exact ⟨h2, .inl ⟨_, h1⟩⟩) fun e => Reps.own1 r c e
  | _, _, _, .dct _, _, h => nomatch h
  | _, _, _, .dctO h1 h2, c, h => (List.mem_cons.mp h).elim (fun e => by subst e; exact ⟨h2, .inr (.inl h1)⟩) fun e => nomatch e
  | _, _, _, .ins _ _ _ r, _, h => nomatch h
  | _, _, _, .insO h1 _ _ h2 r, c, h => (List.mem_cons.mp h).elim (fun e => by subst e; exact ⟨h2, .inr (.inr ⟨_, _, _, h1⟩)⟩) fun e => Reps.own1 r c e
  | _, _, _, .exc _ _ _ _ r, _, h => nomatch h
  | _, _, _, .excN _ _, _, h => nomatch h
theorem Reps.own1 {Z H : Hp} : ∀ {ds : List D} {vs : List V} {fp : List Addr}, Reps K N Z H ds vs fp → ∀ c ∈ fp, Own1 Z H c
  | _, _, _, .nil, _, h => nomatch h
  | _, _, _, .cons r t, c, h => (List.mem_append.mp h).elim (fun e => Rep.own1 r c e) fun e => Reps.own1 t c e
end
/-! nothing of one's own: no footprint -/
mutual
theorem Rep.noOwn {Z H : Hp} : ∀ {d : D} {v : V} {fp : List Addr}, Rep K N Z H d v fp → own d = false → fp = []
  | _, _, _, .non, _ => rfl
  | _, _, _, .bl b, _ => rfl
  | _, _, _, .int i, _ => rfl
  | _, _, _, .str x, _ => rfl
  | _, _, _, .tup _ r _, h => Reps.noOwn r h
  | _, _, _, .lst _ r, _ => rfl
  | _, _, _, .lstO _ _ r, h => by simp [own] at h
  | _, _, _, .dct _, _ => rfl
  | _, _, _, .dctO _ _, h => by simp [own] at h
  | _, _, _, .ins _ _ _ r, _ => rfl
  | _, _, _, .insO _ _ _ _ r, h => by simp [own] at h
  | _, _, _, .exc _ _ _ _ r, _ => rfl
  | _, _, _, .excN _ _, _ => rfl
theorem Reps.noOwn {Z H : Hp} : ∀ {ds : List D} {vs : List V} {fp : List Addr}, Reps K N Z H ds vs fp → owns ds = false → fp = []
  | _, _, _, .nil, _ => rfl
  | _, _, _, .cons r t, h => by
    rw [owns, Bool.or_eq_false_iff] at h
    rw [Rep.noOwn r h.1, Reps.noOwn t h.2] <;> rfl
end
theorem Reps.length {Z H : Hp} : ∀ {ds : List D} {vs : List V} {fp : List Addr}, Reps K N Z H ds vs fp → ds.length = vs.length
  | _, _, _, .nil => rfl
  | _, _, _, .cons r t => by rw [List.length_cons, List.length_cons, Reps.length t]

theorem Reps.app {Z H : Hp} {ys : List D} {us : List V} {g : List Addr} : ∀ {xs : List D} {vs : List V} {f : List Addr}, Reps K N Z H xs vs f → Reps K N Z H ys us g → Reps K N Z H (xs ++ ys) (vs ++ us) (f ++ g)
  | _, _, _, .nil, h => h
  | _, _, _, .cons r t, h => by
    rw [List.append_assoc]
    exact .cons r (Reps.app t h)
/-! ### seen where it stands: each cell is shared, or of O -/
variable (K N)
mutual
inductive Vw (Z H : Hp) (O : Addr → Prop) : D → V → Prop
  | non : Vw Z H O .non .non
  | bl (b : Bool) : Vw Z H O (.bl b) (.bl b)
  | int (i : Int) : Vw Z H O (.int i) (.int i)
  | str (x : Str) : Vw Z H O (.str x.cps.toList) (.str x)
  | tup {a : Addr} {vs : List V} {xs : List D} : TupZ K Z a vs → Vws Z H O xs vs → Vw Z H O (.tup xs) (.ref a)
  | lst {a : Addr} {vs : List V} {xs : List D} : Ls K Z a vs → Reps K N Z H xs vs [] → Vw Z H O (.lst false xs) (.ref a)
  | lstO {a : Addr} {vs : List V} {xs : List D} : H a = some (.lst vs) → (O a ∨ Z a ≠ none) → Vws Z H O xs vs → Vw Z H O (.lst true xs) (.ref a)
  | dct {a : Addr} : Z a = some (.dK []) → Vw Z H O (.dct false [] []) (.ref a)
  | dctO {a : Addr} : H a = some (.dK []) → (O a ∨ Z a ≠ none) → Vw Z H O (.dct true [] []) (.ref a)
  | ins {a dx : Addr} {c : Nat} {fs : List Nat} {xs : List D} {vs : List V} : Z a = some (.ins (N.cls c) dx ((fs.map N.fld).zip vs)) → fs.length = vs.length → (∀ f ∈ fs, N.insF c f = true) → Reps K N Z H xs vs [] → Vw Z H O (.ins false c fs xs) (.ref a)
  | insO {a dx : Addr} {c : Nat} {fs : List Nat} {xs : List D} {vs : List V} : H a = some (.ins (N.cls c) dx ((fs.map N.fld).zip vs)) → fs.length = vs.length → (∀ f ∈ fs, N.insF c f = true) → (O a ∨ Z a ≠ none) → Vws Z H O xs vs → Vw Z H O (.ins true c fs xs) (.ref a)
  | exc {a d : Addr} {c : Nat} {fs : List Nat} {xs : List D} {vs : List V} : Z a = some (exHO (.ref (N.cls c)) (some d) a) → Z d = some (.xd ((fs.map N.fld).zip vs)) → fs.length = vs.length → N.excF c = some fs → Reps K N Z H xs vs [] → Vw Z H O (.exc c fs xs) (.ref a)
  | excN {a : Addr} {c : Nat} : Z a = some (exHO (.ref (N.cls c)) none a) → N.excF c = some [] → Vw Z H O (.exc c [] []) (.ref a)
inductive Vws (Z H : Hp) (O : Addr → Prop) : List D → List V → Prop
  | nil : Vws Z H O [] []
  | cons {d : D} {ds : List D} {v : V} {vs : List V} : Vw Z H O d v → Vws Z H O ds vs → Vws Z H O (d :: ds) (v :: vs)
end
variable {K N}
mutual
theorem Rep.vw {Z H : Hp} {O : Addr → Prop} : ∀ {d : D} {v : V} {fp : List Addr}, Rep K N Z H d v fp → (∀ c ∈ fp, O c) → Vw K N Z H O d v
  | _, _, _, .non, _ => .non
  | _, _, _, .bl b, _ => .bl b
  | _, _, _, .int i, _ => .int i
  | _, _, _, .str x, _ => .str x
  | _, _, _, .tup h r _, k => .tup h (Reps.vws r k)
  | _, _, _, .lst h r, k => .lst h r
  | _, _, _, .lstO h h2 r, k => .lstO h (.inl (k _ List.mem_cons_self)) (Reps.vws r fun c hc => k c (List.mem_cons_of_mem _ hc))
  | _, _, _, .dct h, _ => .dct h
  | _, _, _, .dctO h _, k => .dctO h (.inl (k _ List.mem_cons_self))
  | _, _, _, .ins h l e r, k => .ins h l e r
  | _, _, _, .insO h l e h2 r, k => .insO h l e (.inl (k _ List.mem_cons_self)) (Reps.vws r fun c hc => k c (List.mem_cons_of_mem _ hc))
  | _, _, _, .exc h h2 l e r, k => .exc h h2 l e r
  | _, _, _, .excN h e, _ => .excN h e
theorem Reps.vws {Z H : Hp} {O : Addr → Prop} : ∀ {ds : List D} {vs : List V} {fp : List Addr}, Reps K N Z H ds vs fp → (∀ c ∈ fp, O c) → Vws K N Z H O ds vs
  | _, _, _, .nil, _ => .nil
  | _, _, _, .cons r t, k => .cons (Rep.vw r fun c hc => k c (List.mem_append_left _ hc)) (Reps.vws t fun c hc => k c (List.mem_append_right _ hc))
end
/-! later: what is tracked stands, shared stays shared -/
mutual
theorem Vw.mono {Z H Z' H' : Hp} {O O' : Addr → Prop} (z : Same Z Z') (k : Same H H') (o : ∀ c, O c → O' c ∨ Z' c ≠ none) : ∀ {d : D} {v : V}, Vw K N Z H O d v → Vw K N Z' H' O' d v
  | _, _, .non => .non
  | _, _, .bl b => .bl b
  | _, _, .int i => .int i
  | _, _, .str x => .str x
  | _, _, .tup h r => .tup (TupZ.mono h z) (Vws.mono z k o r)
  | _, _, .lst h r => .lst (Ls.mono z h) (Reps.mono z r fun _ h => nomatch h)
  | _, _, .lstO h h2 r => .lstO (k _ _ h) (h2.elim (o _) fun h => .inr (Same.some z h)) (Vws.mono z k o r)
  | _, _, .dct h => .dct (z _ _ h)
  | _, _, .dctO h h2 => .dctO (k _ _ h) (h2.elim (o _) fun h => .inr (Same.some z h))
  | _, _, .ins h l e r => .ins (z _ _ h) l e (Reps.mono z r fun _ h => nomatch h)
  | _, _, .insO h l e h2 r => .insO (k _ _ h) l e (h2.elim (o _) fun h => .inr (Same.some z h)) (Vws.mono z k o r)
  | _, _, .exc h h2 l e r => .exc (z _ _ h) (z _ _ h2) l e (Reps.mono z r fun _ h => nomatch h)
  | _, _, .excN h e => .excN (z _ _ h) e
theorem Vws.mono {Z H Z' H' : Hp} {O O' : Addr → Prop} (z : Same Z Z') (k : Same H H') (o : ∀ c, O c → O' c ∨ Z' c ≠ none) : ∀ {ds : List D} {vs : List V}, Vws K N Z H O ds vs → Vws K N Z' H' O' ds vs
  | _, _, .nil => .nil
  | _, _, .cons r t => .cons (Vw.mono z k o r) (Vws.mono z k o t)
end
end Q
end
section
set_option linter.all false
set_option autoImplicit false
set_option maxHeartbeats 1000000
/-! What a turn of reckoning does to memory. -/
namespace Q
open PySem L2
mutual
theorem shr_of : ∀ {d : D}, own d = false → shr d = d
  | .non, _ => rfl
  | .bl _, _ => rfl
  | .int _, _ => rfl
  | .str _, _ => rfl
  | .tup xs, h => by rw [shr, shrs_of (by simpa [own] using h)]
  | .lst o xs, h => by
    rw [own, Bool.or_eq_false_iff] at h
    rw [shr, shrs_of h.2, h.1]
  | .dct o ks vs, h => by
    rw [own, Bool.or_eq_false_iff] at h
    rw [shr, shrs_of h.2, h.1]
  | .ins o c fs vs, h => by
    rw [own, Bool.or_eq_false_iff] at h
    rw [shr, shrs_of h.2, h.1]
  | .exc c fs vs, h => by rw [shr, shrs_of (by simpa [own] using h)]
theorem shrs_of : ∀ {ds : List D}, owns ds = false → shrs ds = ds
  | [], _ => rfl
  | d :: ds, h => by
    rw [owns, Bool.or_eq_false_iff] at h
    rw [shrs, shr_of h.1, shrs_of h.2]
end
mutual
theorem own_shr : ∀ (d : D), own (shr d) = false
  | .non => rfl
  | .bl _ => rfl
  | .int _ => rfl
  | .str _ => rfl
  | .tup xs => by rw [shr, own, owns_shrs xs]
  | .lst o xs => by rw [shr, own, owns_shrs xs]; rfl
  | .dct o ks vs => by rw [shr, own, owns_shrs vs]; rfl
  | .ins o c fs vs => by rw [shr, own, owns_shrs vs]; rfl
  | .exc c fs vs => by rw [shr, own, owns_shrs vs]
theorem owns_shrs : ∀ (ds : List D), owns (shrs ds) = false
  | [] => rfl
  | d :: ds => by rw [shrs, owns, own_shr d, owns_shrs ds]; rfl
end
theorem owns_append : ∀ (xs ys : List D), owns (xs ++ ys) = (owns xs || owns ys)
  | [], ys => by simp [owns]
  | x :: xs, ys => by rw [List.cons_append, owns, owns, owns_append xs ys, Bool.or_assoc]
theorem owns_mem : ∀ {xs : List D}, owns xs = false → ∀ x ∈ xs, own x = false
  | [], _, _, h => nomatch h
  | d :: ds, h, x, hx => by
    rw [owns, Bool.or_eq_false_iff] at h
    rcases List.mem_cons.mp hx with e | e
    · rw [e]; exact h.1
    · exact owns_mem h.2 x e
theorem owns_of : ∀ {xs : List D}, (∀ x ∈ xs, own x = false) → owns xs = false
  | [], _ => rfl
  | d :: ds, h => by rw [owns, h d List.mem_cons_self, owns_of fun x hx => h x (List.mem_cons_of_mem _ hx)]; rfl
variable {K : PySem.W.Frag} {N : Nm}
mutual
theorem Rep.own0 {Z H : Hp} : ∀ {d : D} {v : V} {fp : List Addr}, Rep K N Z H d v fp → fp = [] → own d = false
  | _, _, _, .non, _ => rfl
  | _, _, _, .bl b, _ => rfl
  | _, _, _, .int i, _ => rfl
  | _, _, _, .str x, _ => rfl
  | _, _, _, .tup _ r _, h => by rw [own]; exact Reps.own0 r h
  | _, _, _, .lst _ r, _ => by rw [own, Reps.own0 r rfl]; rfl
  | _, _, _, .lstO _ _ r, h => nomatch h
  | _, _, _, .dct _, _ => rfl
  | _, _, _, .dctO _ _, h => nomatch h
  | _, _, _, .ins _ _ _ r, _ => by rw [own, Reps.own0 r rfl]; rfl
  | _, _, _, .insO _ _ _ _ r, h => nomatch h
  | _, _, _, .exc _ _ _ _ r, _ => by rw [own]; exact Reps.own0 r rfl
  | _, _, _, .excN _ _, _ => rfl
theorem Reps.own0 {Z H : Hp} : ∀ {ds : List D} {vs : List V} {fp : List Addr}, Reps K N Z H ds vs fp → fp = [] → owns ds = false
  | _, _, _, .nil, _ => rfl
  | _, _, _, .cons r t, h => by
    obtain ⟨h1, h2⟩ := List.append_eq_nil_iff.mp h
    rw [owns, Rep.own0 r h1, Reps.own0 t h2]; rfl
end
mutual
/-- a view that holds nothing of one's own is a thing that all may hold -/
theorem Vw.rep {Z H : Hp} {O : Addr → Prop} : ∀ {d : D} {v : V}, Vw K N Z H O d v → own d = false → Rep K N Z H d v []
  | _, _, .non, _ => .non
  | _, _, .bl b, _ => .bl b
  | _, _, .int i, _ => .int i
  | _, _, .str x, _ => .str x
  | _, _, .tup h r, e => .tup h (Vws.reps r (by simpa [own] using e)) (.inl rfl)
  | _, _, .lst h r, _ => .lst h r
  | _, _, .lstO h h2 r, e => by simp [own] at e
  | _, _, .dct h, _ => .dct h
  | _, _, .dctO h h2, e => by simp [own] at e
  | _, _, .ins h l e r, _ => .ins h l e r
  | _, _, .insO h l e2 h2 r, e => by simp [own] at e
  | _, _, .exc h h2 l e r, _ => .exc h h2 l e r
  | _, _, .excN h e, _ => .excN h e
theorem Vws.reps {Z H : Hp} {O : Addr → Prop} : ∀ {ds : List D} {vs : List V}, Vws K N Z H O ds vs → owns ds = false → Reps K N Z H ds vs []
  | _, _, .nil, _ => .nil
  | _, _, .cons r t, e => by
    rw [owns, Bool.or_eq_false_iff] at e
    exact .cons (f := []) (g := []) (Vw.rep r e.1) (Vws.reps t e.2)
end
theorem Vws.length {Z H : Hp} {O : Addr → Prop} : ∀ {ds : List D} {vs : List V}, Vws K N Z H O ds vs → ds.length = vs.length
  | _, _, .nil => rfl
  | _, _, .cons r t => by rw [List.length_cons, List.length_cons, Vws.length t]
theorem at_frozen {Z' H : Hp} (zh : Same Z' H) {a : Addr} {o : HO} (h : H a = some o) (n : Z' a ≠ none) : Z' a = some o := by
  cases q : Z' a with
  | none => exact absurd q n
  | some u => rw [← h]; exact (zh _ _ q).symm
mutual
/-- all of it frozen: what all may hold -/
theorem Vw.shr {Z H Z' : Hp} {O : Addr → Prop} (z : Same Z Z') (zh : Same Z' H) (o : ∀ c, O c → Z' c ≠ none) : ∀ {d : D} {v : V}, Vw K N Z H O d v → Rep K N Z' H (shr d) v []
  | _, _, .non => .non
  | _, _, .bl b => .bl b
  | _, _, .int i => .int i
  | _, _, .str x => .str x
  | _, _, .tup h r => .tup (TupZ.mono h z) (Vws.shr z zh o r) (.inl rfl)
  | _, _, .lst h r => .lst (Ls.mono z h) (by rw [shrs_of (Reps.own0 r rfl)]; exact Reps.mono z r fun _ h => nomatch h)
  | _, _, .lstO h h2 r => .lst (.of (at_frozen zh h (h2.elim (o _) fun h => Same.some z h))) (Vws.shr z zh o r)
  | _, _, .dct h => .dct (z _ _ h)
  | _, _, .dctO h h2 => .dct (at_frozen zh h (h2.elim (o _) fun h => Same.some z h))
  | _, _, .ins h l e r => .ins (z _ _ h) l e (by rw [shrs_of (Reps.own0 r rfl)]; exact Reps.mono z r fun _ h => nomatch h)
  | _, _, .insO h l e h2 r => .ins (at_frozen zh h (h2.elim (o _) fun h => Same.some z h)) l e (Vws.shr z zh o r)
  | _, _, .exc h h2 l e r => .exc (z _ _ h) (z _ _ h2) l e (by rw [shrs_of (Reps.own0 r rfl)]; exact Reps.mono z r fun _ h => nomatch h)
  | _, _, .excN h e => .excN (z _ _ h) e
theorem Vws.shr {Z H Z' : Hp} {O : Addr → Prop} (z : Same Z Z') (zh : Same Z' H) (o : ∀ c, O c → Z' c ≠ none) : ∀ {ds : List D} {vs : List V}, Vws K N Z H O ds vs → Reps K N Z' H (shrs ds) vs []
  | _, _, .nil => .nil
  | _, _, .cons r t => .cons (f := []) (g := []) (Vw.shr z zh o r) (Vws.shr z zh o t)
end

/-! ### the names of a def -/
structure SR (K : PySem.W.Frag) (N : Nm) (Z H : Hp) (env : Env) (σ : L2.St) (F : Nat → List Addr) : Prop where
  len : env.length = σ.length
  som : ∀ (i : Nat) (d : D), env[i]? = some (some d) → ∃ v, σ[i]? = some (some v) ∧ Rep K N Z H d v (F i)
  non : ∀ i : Nat, (∀ d, env[i]? ≠ some (some d)) → F i = []
  nd : ∀ i, (F i).Nodup
  dj : ∀ i j c, c ∈ F i → c ∈ F j → i = j
  zh : Same Z H
theorem SR.own1 {Z H : Hp} {env : Env} {σ : L2.St} {F : Nat → List Addr} (s : SR K N Z H env σ F) {i : Nat} {c : Addr} (h : c ∈ F i) : Own1 Z H c := by
  by_cases e : ∃ d, env[i]? = some (some d)
  · obtain ⟨d, e⟩ := e
    obtain ⟨v, _, r⟩ := s.som i d e
    exact r.own1 c h
  · rw [s.non i fun d q => e ⟨d, q⟩] at h; cases h
theorem Own1.some {Z H : Hp} {c : Addr} (o : Own1 Z H c) : H c ≠ none := by
  obtain ⟨_, ⟨_, h⟩ | h | ⟨_, _, _, h⟩⟩ := o <;> rw [h] <;> exact fun e => nomatch e
/-- an expression's turn -/
structure Go (K : PySem.W.Frag) (N : Nm) (σ : L2.St) (Z H : Hp) (env : Env) (F : Nat → List Addr) (Z' H' : Hp) (env' : Env) (F' : Nat → List Addr) : Prop where
  sr : SR K N Z' H' env' σ F'
  zz : Same Z Z'
  hh : Same H H'
  nz : ∀ c, Z' c ≠ none → Z c ≠ none ∨ (∃ i, c ∈ F i) ∨ H c = none
  sub : ∀ i c, c ∈ F' i → c ∈ F i
  gone : ∀ (i : Nat) c, c ∈ F i → c ∈ F' i ∨ Z' c ≠ none ∨ env'[i]? = some none
  nn : ∀ i : Nat, env[i]? = some none → env'[i]? = some none
section
variable {σ : L2.St} {Z H Z1 H1 Z2 H2 : Hp} {env env1 env2 : Env} {F F1 F2 : Nat → List Addr}
theorem Go.refl (s : SR K N Z H env σ F) : Go K N σ Z H env F Z H env F :=
  ⟨s, Same.refl _, Same.refl _, fun _ h => .inl h, fun _ _ h => h, fun _ _ h => .inl h, fun _ h => h⟩
theorem Go.trans (a : Go K N σ Z H env F Z1 H1 env1 F1) (b : Go K N σ Z1 H1 env1 F1 Z2 H2 env2 F2) : Go K N σ Z H env F Z2 H2 env2 F2 where
  sr := b.sr
  zz := a.zz.trans b.zz
  hh := a.hh.trans b.hh
  nz := fun c h => by
    rcases b.nz c h with h | ⟨i, h⟩ | h
    · exact a.nz c h
    · exact .inr (.inl ⟨i, a.sub i c h⟩)
    · exact .inr (.inr (a.hh.free h))
  sub := fun i c h => a.sub i c (b.sub i c h)
  gone := fun i c h => by
    rcases a.gone i c h with h | h | h
    · exact b.gone i c h
    · exact .inr (.inl (Same.some b.zz h))
    · exact .inr (.inr (b.nn i h))
  nn := fun i h => b.nn i (a.nn i h)
/-- a thing beside the names -/
structure Tmp (K : PySem.W.Frag) (N : Nm) (H : Hp) (F : Nat → List Addr) (Z' H' : Hp) (F' : Nat → List Addr) (d : D) (v : V) (fv : List Addr) : Prop where
  rep : Rep K N Z' H' d v fv
  nd : fv.Nodup
  dj : ∀ c ∈ fv, ∀ i, c ∉ F' i
  new : ∀ c ∈ fv, H c = none ∨ ∃ i, c ∈ F i
theorem keep_cells (a : Go K N σ Z H env F Z1 H1 env1 F1) {fv : List Addr} (o : ∀ c ∈ fv, Own1 Z H c) (dj : ∀ c ∈ fv, ∀ i, c ∉ F i) : ∀ c ∈ fv, H1 c = H c ∧ Z1 c = none := fun c hc => by
  have oc := o c hc
  refine ⟨?_, ?_⟩
  · cases q : H c with
    | none => exact absurd q oc.some
    | some u => exact a.hh _ _ q
  · cases q : Z1 c with
    | none => rfl
    | some u =>
      rcases a.nz c (by rw [q]; exact fun e => nomatch e) with h | ⟨i, h⟩ | h
      · exact absurd oc.1 h
      · exact absurd h (dj c hc i)
      · exact absurd h oc.some
/-- a thing held while one goes on -/
theorem Tmp.keep {H0 : Hp} {F0 : Nat → List Addr} {d : D} {v : V} {fv : List Addr} (t : Tmp K N H0 F0 Z H F d v fv) (a : Go K N σ Z H env F Z1 H1 env1 F1) : Tmp K N H0 F0 Z1 H1 F1 d v fv :=
  ⟨t.rep.mono a.zz (keep_cells a t.rep.own1 t.dj), t.nd, fun c hc i h => t.dj c hc i (a.sub i c h), t.new⟩
/-- .. told from further back -/
theorem Tmp.from (a : Go K N σ Z H env F Z1 H1 env1 F1) {d : D} {v : V} {fv : List Addr} (t : Tmp K N H1 F1 Z2 H2 F2 d v fv) : Tmp K N H F Z2 H2 F2 d v fv :=
  ⟨t.rep, t.nd, t.dj, fun c hc => (t.new c hc).elim (fun h => .inl (a.hh.free h)) fun ⟨i, h⟩ => .inr ⟨i, a.sub i c h⟩⟩
/-- what an expression leaves: a thing beside the names, or a view of the slot r -/
def RV (K : PySem.W.Frag) (N : Nm) (r : Option Nat) (H : Hp) (F : Nat → List Addr) (Z' H' : Hp) (F' : Nat → List Addr) (d : D) (v : V) : Prop :=
  match r with
  | none => ∃ fv, Tmp K N H F Z' H' F' d v fv
  | some r => Vw K N Z' H' (fun c => c ∈ F' r) d v
/-- the content alone -/
abbrev Ct (K : PySem.W.Frag) (N : Nm) (Z H : Hp) (d : D) (v : V) : Prop := Vw K N Z H (fun _ => True) d v
theorem Vw.any {O : Addr → Prop} {d : D} {v : V} (h : Vw K N Z H O d v) : Ct K N Z H d v := h.mono (Same.refl _) (Same.refl _) fun _ _ => .inl trivial
theorem RV.ct {r : Option Nat} {d : D} {v : V} (h : RV K N r H F Z1 H1 F1 d v) : Ct K N Z1 H1 d v := by
  cases r with
  | none => obtain ⟨fv, t⟩ := h; exact t.rep.vw fun _ _ => trivial
  | some r => exact Vw.any h
theorem Ct.keep {d : D} {v : V} (h : Ct K N Z H d v) (a : Go K N σ Z H env F Z1 H1 env1 F1) : Ct K N Z1 H1 d v := Vw.mono a.zz a.hh (fun _ _ => .inl trivial) h
theorem Vw.keep {d : D} {v : V} {r : Nat} (h : Vw K N Z H (fun c => c ∈ F r) d v) (a : Go K N σ Z H env F Z1 H1 env1 F1) (hr : env1[r]? ≠ some none) : Vw K N Z1 H1 (fun c => c ∈ F1 r) d v :=
  Vw.mono a.zz a.hh (fun c hc => (a.gone r c hc).elim .inl fun h => h.elim .inr fun h => absurd h hr) h
/-- a new thing of one's own -/
theorem Go.newO (s : SR K N Z H env σ F) {p : Addr} {o : HO} (hp : H p = none) : Go K N σ Z H env F Z (upd H p o) env F := by
  have hh : Same H (upd H p o) := fun b u e => by rw [upd_ne (ne_of_none e hp)]; exact e
  refine ⟨⟨s.len, fun i d e => ?_, s.non, s.nd, s.dj, s.zh.trans hh⟩, Same.refl _, hh, fun _ h => .inl h, fun _ _ h => h, fun _ _ h => .inl h, fun _ h => h⟩
  obtain ⟨v, e1, r⟩ := s.som i d e
  exact ⟨v, e1, r.mono (Same.refl _) fun c hc => ⟨upd_ne fun q => (r.own1 c hc).some (by rw [q]; exact hp), (r.own1 c hc).1⟩⟩
/-- a new thing that never changes -/
theorem Go.newZ (s : SR K N Z H env σ F) {p : Addr} {o : HO} (hp : H p = none) : Go K N σ Z H env F (upd Z p o) (upd H p o) env F := by
  have hh : Same H (upd H p o) := fun b u e => by rw [upd_ne (ne_of_none e hp)]; exact e
  have zp : Z p = none := s.zh.free hp
  have zz : Same Z (upd Z p o) := fun b u e => by rw [upd_ne (ne_of_none e zp)]; exact e
  refine ⟨⟨s.len, fun i d e => ?_, s.non, s.nd, s.dj, fun b u e => ?_⟩, zz, hh, fun c h => ?_, fun _ _ h => h, fun _ _ h => .inl h, fun _ h => h⟩
  · obtain ⟨v, e1, r⟩ := s.som i d e
    refine ⟨v, e1, r.mono zz fun c hc => ?_⟩
    have ne : c ≠ p := fun q => (r.own1 c hc).some (by rw [q]; exact hp)
    exact ⟨upd_ne ne, by rw [upd_ne ne]; exact (r.own1 c hc).1⟩
  · by_cases q : b = p
    · subst q; rw [upd_same] at e ⊢; exact e
    · rw [upd_ne q] at e ⊢; exact s.zh _ _ e
  · by_cases q : c = p
    · subst q; exact .inr (.inr hp)
    · rw [upd_ne q] at h; exact .inl h

/-! ### freezing -/
def frz (Z H : Hp) (S : Addr → Prop) [DecidablePred S] : Hp := fun c => if S c then H c else Z c
variable {S : Addr → Prop} [DecidablePred S]
theorem frz_in {c : Addr} (h : S c) : frz Z H S c = H c := if_pos h
theorem frz_out {c : Addr} (h : ¬ S c) : frz Z H S c = Z c := if_neg h
theorem frz_zz (zh : Same Z H) : Same Z (frz Z H S) := fun b o e => by
  by_cases h : S b
  · rw [frz_in h]; exact zh _ _ e
  · rw [frz_out h]; exact e
theorem frz_zh (zh : Same Z H) : Same (frz Z H S) H := fun b o e => by
  by_cases h : S b
  · rw [frz_in h] at e; exact e
  · rw [frz_out h] at e; exact zh _ _ e
end
/-- a slot's thing is shared from now on -/
theorem dem_go {σ : L2.St} {Z H : Hp} {env : Env} {F : Nat → List Addr} (s : SR K N Z H env σ F) (r : Nat) : ∃ Z' F', Go K N σ Z H env F Z' H (dem r env) F' ∧ ∀ c ∈ F r, Z' c ≠ none := by
  unfold dem
  split
  · rename_i d e
    obtain ⟨v, e1, rp⟩ := s.som r d e
    refine ⟨frz Z H (fun c => c ∈ F r), fun i => if i = r then [] else F i, ⟨⟨?_, fun i d' e' => ?_, fun i h => ?_, fun i => ?_, fun i j c h1 h2 => ?_, frz_zh s.zh⟩, frz_zz s.zh, Same.refl _, fun c h => ?_, fun i c h => ?_, fun i c h => ?_, fun i h => ?_⟩, fun c hc => ?_⟩
    · rw [List.length_set]; exact s.len
    · by_cases q : r = i
      · subst q
        rw [List.getElem?_set_self (List.getElem?_eq_some_iff.mp e).1] at e'
        cases e'
        refine ⟨v, e1, ?_⟩
        rw [if_pos rfl]
        exact Vw.shr (frz_zz s.zh) (frz_zh s.zh) (O := fun c => c ∈ F r) (fun c hc => by rw [frz_in (S := fun c => c ∈ F r) hc]; exact (rp.own1 c hc).some) (rp.vw fun _ h => h)
      · rw [List.getElem?_set_ne q] at e'
        obtain ⟨v', e2, r2⟩ := s.som i d' e'
        refine ⟨v', e2, ?_⟩
        rw [if_neg (Ne.symm q)]
        refine r2.mono (frz_zz s.zh) fun c hc => ⟨rfl, ?_⟩
        rw [frz_out (S := fun c => c ∈ F r) fun h => q (s.dj _ _ c h hc)]
        exact (r2.own1 c hc).1
    · by_cases q : i = r
      · rw [if_pos q]
      · rw [if_neg q]
        refine s.non i fun d' e' => h d' ?_
        rw [List.getElem?_set_ne (Ne.symm q)]; exact e'
    · by_cases q : i = r
      · rw [if_pos q]; exact .nil
      · rw [if_neg q]; exact s.nd i
    · by_cases q1 : i = r
      · rw [if_pos q1] at h1; cases h1
      · by_cases q2 : j = r
        · rw [if_pos q2] at h2; cases h2
        · rw [if_neg q1] at h1; rw [if_neg q2] at h2; exact s.dj i j c h1 h2
    · by_cases q : c ∈ F r
      · exact .inr (.inl ⟨r, q⟩)
      · rw [frz_out (S := fun c => c ∈ F r) q] at h; exact .inl h
    · by_cases q : i = r
      · rw [if_pos q] at h; cases h
      · rw [if_neg q] at h; exact h
    · by_cases q : i = r
      · subst q
        refine .inr (.inl ?_)
        rw [frz_in (S := fun c => c ∈ F i) h]; exact (rp.own1 c h).some
      · rw [if_neg q]; exact .inl h
    · by_cases q : r = i
      · subst q; rw [e] at h; cases h
      · rw [List.getElem?_set_ne q]; exact h
    · rw [frz_in (S := fun c => c ∈ F r) hc]; exact (rp.own1 c hc).some
  · rename_i h
    exact ⟨Z, F, Go.refl s, fun c hc => by rw [s.non r fun d e => h d e] at hc; cases hc⟩
end Q
end
section
set_option linter.all false
set_option autoImplicit false
set_option maxHeartbeats 1000000
/-! Judgements, and expressions by values. -/
namespace Q
open PySem L2
/-- an exception behind a raise -/
def ExR (K : PySem.W.Frag) (N : Nm) (Z H : Hp) (c : Nat) (fs : List Nat) (vs : List D) (cls : Value) (dx : Option Addr) : Prop :=
  cls = .ref (N.cls c) ∧ ((∃ d ws, dx = some d ∧ Z d = some (.xd ((fs.map N.fld).zip ws)) ∧ fs.length = ws.length ∧ Reps K N Z H vs ws []) ∨ (fs = [] ∧ vs = [] ∧ dx = none))
def Post {α : Type} (K : PySem.W.Frag) (N : Nm) (W : WX) (σ : L2.St) (Z H : Hp) (env : Env) (F : Nat → List Addr) (res : R α) (ok : α → Env → Hp → Hp → (Nat → List Addr) → Prop) : Prop :=
  match res with
  | .ok a env' => ∀ Z' H' F', Go K N σ Z H env F Z' H' env' F' → ok a env' Z' H' F'
  | .exc c fs vs env' => ∀ Z' H' F' cls dx, Go K N σ Z H env F Z' H' env' F' → ExR K N Z' H' c fs vs cls dx → W cls dx σ H'
  | .stuck => False
section
variable {K : PySem.W.Frag} {N : Nm} {W : WX} {σ : L2.St} {Z H Z1 H1 : Hp} {env env1 : Env} {F F1 : Nat → List Addr} {α β : Type}
theorem Post.imp {res : R α} {ok ok' : α → Env → Hp → Hp → (Nat → List Addr) → Prop} (h : Post K N W σ Z H env F res ok)
    (k : ∀ a env' Z' H' F', Go K N σ Z H env F Z' H' env' F' → ok a env' Z' H' F' → ok' a env' Z' H' F') : Post K N W σ Z H env F res ok' := by
  cases res with
  | ok a env' => exact fun Z' H' F' g => k _ _ _ _ _ g (h Z' H' F' g)
  | exc c fs vs env' => exact h
  | stuck => exact h
theorem Post.shift {res : R α} {ok : α → Env → Hp → Hp → (Nat → List Addr) → Prop} (h : Post K N W σ Z H env F res ok) (g : Go K N σ Z H env F Z1 H1 env1 F1) : Post K N W σ Z1 H1 env1 F1 res ok := by
  cases res with
  | ok a env' => exact fun Z' H' F' g' => h Z' H' F' (g.trans g')
  | exc c fs vs env' => exact fun Z' H' F' cls dx g' => h Z' H' F' cls dx (g.trans g')
  | stuck => exact h
theorem Post.bind {res : R α} {f : α → Env → R β} {ok : β → Env → Hp → Hp → (Nat → List Addr) → Prop} (h : Post K N W σ Z H env F (res.bind f) ok) :
    Post K N W σ Z H env F res (fun a env1 Z1 H1 F1 => Post K N W σ Z1 H1 env1 F1 (f a env1) ok) := by
  cases res with
  | ok a env1 => exact fun Z1 H1 F1 g => Post.shift (res := f a env1) h g
  | exc c fs vs env' => exact h
  | stuck => exact h
theorem Post.noneR {o : Option α} {ok : α → Env → Hp → Hp → (Nat → List Addr) → Prop} (h : Post K N W σ Z H env F (noneR o env1) ok) :
    ∃ a, o = some a ∧ ∀ Z' H' F', Go K N σ Z H env F Z' H' env1 F' → ok a env1 Z' H' F' := by
  cases o with
  | none => exact h.elim
  | some a => exact ⟨a, rfl, h⟩
end
/-- an expression's reading: what m says of it -/
def tV (K : PySem.W.Frag) (N : Nm) (W : WX) (r : Option Nat) (m : Env → R D) : TE := fun σ H Q =>
  ∃ Z env F, SR K N Z H env σ F ∧ Post K N W σ Z H env F (m env) fun d _ Z' H' F' => ∀ v, RV K N r H F Z' H' F' d v → Q v H'
/-- a row's -/
def tVs (K : PySem.W.Frag) (N : Nm) (W : WX) (m : Env → R (List D)) : TA := fun σ H Q =>
  ∃ Z env F, SR K N Z H env σ F ∧ Post K N W σ Z H env F (m env) fun ds _ Z' H' F' => ∀ vs, (∃ fv, Reps K N Z' H' ds vs fv ∧ fv.Nodup ∧ (∀ c ∈ fv, ∀ i, c ∉ F' i) ∧ ∀ c ∈ fv, H c = none ∨ ∃ i, c ∈ F i) → Q vs H'
/-- a test's -/
def tVt (K : PySem.W.Frag) (N : Nm) (W : WX) (m : Env → R D) : TT := fun σ H Q =>
  ∃ Z env F, SR K N Z H env σ F ∧ Post K N W σ Z H env F (m env) fun x _ Z' H' F' => ∃ b, tru x = some b ∧ Q b H'
theorem _root_.L2.PE.imp {X : Cx} {e : Expr} {t t' : TE} (h : PE X e t) (i : ∀ σ H Q, t' σ H Q → t σ H Q) : PE X e t' := ⟨fun pins s σ H Q I q => h.run pins s σ H Q I (i σ H Q q)⟩
theorem _root_.L2.PT.imp {X : Cx} {e : Expr} {t t' : TT} (h : PT X e t) (i : ∀ σ H Q, t' σ H Q → t σ H Q) : PT X e t' := ⟨fun pins s σ H Q I q => h.run pins s σ H Q I (i σ H Q q)⟩
theorem _root_.L2.PA.imp {X : Cx} {es : List Expr} {t t' : TA} (h : PA X es t) (i : ∀ σ H Q, t' σ H Q → t σ H Q) : PA X es t' := ⟨fun pos pins s σ H Q I q => h.run pos pins s σ H Q I (i σ H Q q)⟩
theorem _root_.L2.PS.imp {X : Cx} {st : Stmt} {t t' : TS} (h : PS X st t) (i : ∀ D σ H, t' D σ H → t D σ H) : PS X st t' := ⟨fun pins s σ H D I q => h.run pins s σ H D I (i D σ H q)⟩
section
variable {K : PySem.W.Frag} {N : Nm} {W : WX} {σ : L2.St} {Z H Z1 H1 Z2 H2 : Hp} {env env1 env2 : Env} {F F1 F2 : Nat → List Addr} {d : D} {v : V}
theorem RV.flat (r : Rep K N Z1 H1 d v []) : RV K N none H F Z1 H1 F1 d v := ⟨[], r, .nil, fun _ h => (nomatch h), fun _ h => (nomatch h)⟩
/-- the end of an operation whose answer is no one's own -/
theorem fin_flat {Q : VK} {r : Rep K N Z1 H1 d v []} {ok : ∀ Z' H' F', Go K N σ Z1 H1 env1 F1 Z' H' env1 F' → ∀ v, RV K N none H F Z' H' F' d v → Q v H'} (s : SR K N Z1 H1 env1 σ F1) : Q v H1 := ok Z1 H1 F1 (Go.refl s) v (RV.flat r)
/-- .. that makes a list -/
theorem fin_list {Q : VK} {xs : List D} {vs : List V} (g : Go K N σ Z H env F Z1 H1 env1 F1) (r : Reps K N Z1 H1 xs vs []) (ok : ∀ Z' H' F', Go K N σ Z1 H1 env1 F1 Z' H' env1 F' → ∀ v, RV K N none H F Z' H' F' (.lst true xs) v → Q v H')
    {p : Addr} (hp : H1 p = none) : Q (.ref p) (upd H1 p (.lst vs)) := by
  have ga := Go.newO (o := .lst vs) g.sr hp
  refine ok _ _ _ ga _ ⟨[p], .lstO upd_same (g.sr.zh.free hp) (r.mono (Same.refl _) fun _ h => nomatch h), by simp, fun c hc i h => ?_, fun c hc => ?_⟩
  · have e : c = p := by simpa using hc
    subst e
    exact (g.sr.own1 h).some hp
  · have e : c = p := by simpa using hc
    subst e
    exact .inl (g.hh.free hp)
/-- .. that makes a tuple -/
theorem fin_tup {Q : VK} {xs : List D} {vs : List V} (g : Go K N σ Z H env F Z1 H1 env1 F1) (r : Reps K N Z1 H1 xs vs []) (ok : ∀ Z' H' F', Go K N σ Z1 H1 env1 F1 Z' H' env1 F' → ∀ v, RV K N none H F Z' H' F' (.tup xs) v → Q v H')
    {p : Addr} {o : Obj} (hp : H1 p = none) (hd : o.dict = none) : Q (.ref p) (upd H1 p (.frz o (.tup vs))) := by
  have ga := Go.newZ (o := .frz o (.tup vs)) g.sr hp
  exact ok _ _ _ ga _ (RV.flat (.tup (.inl ⟨o, upd_same, hd⟩) (r.mono ga.zz fun _ h => nomatch h) (.inl rfl)))
/-- taken as a value -/
theorem tE_of {e : Ex} {P : Pg} {Q : VK} (h : tV K N W none (ev P e) σ H Q) : tV K N W (root e) (vw P e) σ H Q := by
  obtain ⟨Z, env, F, s, h⟩ := h
  refine ⟨Z, env, F, s, (Post.bind h).imp fun d env1 Z1 H1 F1 g h1 v rv => ?_⟩
  unfold take at h1
  cases ho : own d with
  | false =>
    rw [ho] at h1
    simp only [Bool.false_eq_true, if_false] at h1
    refine h1 Z1 H1 F1 (Go.refl g.sr) v ?_
    cases hr : root e with
    | none => rw [hr] at rv; exact rv
    | some r => rw [hr] at rv; exact RV.flat (Vw.rep rv ho)
  | true =>
    rw [ho] at h1
    simp only [if_true] at h1
    cases hr : root e with
    | none => rw [hr] at rv h1; exact h1 Z1 H1 F1 (Go.refl g.sr) v rv
    | some r =>
      rw [hr] at rv h1
      obtain ⟨Z', F', gd, fz⟩ := dem_go g.sr r
      exact h1 Z' H1 F' gd v (RV.flat (Vw.shr gd.zz gd.sr.zh fz rv))
/-- the items of a container, no one's own -/
def Items (K : PySem.W.Frag) (N : Nm) (Z H : Hp) (d : D) (v : V) (xs : List D) : Prop :=
  ∃ a vs, v = .ref a ∧ Reps K N Z H xs vs [] ∧ ((∃ o ys, d = .lst o ys ∧ Ls K H a vs) ∨ ∃ ys, d = .tup ys ∧ TupZ K Z a vs)
theorem cont_of {P : Prop} {r : Option Nat} (g : Go K N σ Z H env F Z1 H1 env1 F1) (rv : RV K N r H F Z1 H1 F1 d v) {ok : List D → Env → Hp → Hp → (Nat → List Addr) → Prop} (h : Post K N W σ Z1 H1 env1 F1 (cont r d env1) ok)
    (k : ∀ xs env' Z' F', Go K N σ Z1 H1 env1 F1 Z' H1 env' F' → Items K N Z' H1 d v xs → ok xs env' Z' H1 F' → P) : P := by
  unfold cont at h
  cases he : els d with
  | none => rw [he] at h; exact h.elim
  | some xs =>
    rw [he] at h
    simp only at h
    have shape : ∀ {O : Addr → Prop}, Vw K N Z1 H1 O d v → ∃ a vs, v = .ref a ∧ Vws K N Z1 H1 O xs vs ∧ ((∃ o ys, d = .lst o ys ∧ Ls K H1 a vs) ∨ ∃ ys, d = .tup ys ∧ TupZ K Z1 a vs) := fun {O} q => by
      cases q with
      | tup h r => cases he; exact ⟨_, _, rfl, r, .inr ⟨_, rfl, h⟩⟩
      | lst h r => cases he; exact ⟨_, _, rfl, r.vws (fun _ h => nomatch h), .inl ⟨_, _, rfl, Ls.mono g.sr.zh h⟩⟩
      | lstO h h2 r => cases he; exact ⟨_, _, rfl, r, .inl ⟨_, _, rfl, Ls.of h⟩⟩
      | _ => cases he
    cases ho : owns xs with
    | false =>
      rw [ho] at h
      simp only [Bool.false_eq_true, if_false] at h
      obtain ⟨a, vs, e, q, sh⟩ := shape rv.ct
      exact k xs env1 Z1 F1 (Go.refl g.sr) ⟨a, vs, e, Vws.reps q ho, sh⟩ (h Z1 H1 F1 (Go.refl g.sr))
    | true =>
      rw [ho] at h
      simp only [if_true] at h
      cases r with
      | none => exact h.elim
      | some r =>
        obtain ⟨Z', F', gd, fz⟩ := dem_go g.sr r
        obtain ⟨a, vs, e, q, sh⟩ := shape (O := fun c => c ∈ F1 r) rv
        exact k _ _ Z' F' gd ⟨a, vs, e, Vws.shr gd.zz gd.sr.zh fz q, sh.imp_right fun ⟨ys, e, t⟩ => ⟨ys, e, t.mono gd.zz⟩⟩ (h Z' H1 F' gd)
end
end Q
end
section
set_option linter.all false
set_option autoImplicit false
set_option maxHeartbeats 1000000
/-! Operations by values: data. -/
namespace Q
open PySem L2
theorem toPys_map : ∀ (ds : List D), toPys ds = ds.map toPy
  | [] => rfl
  | d :: ds => by rw [toPys, List.map_cons, toPys_map ds]
theorem dat0_tup {n : Nat} {xs : List D} (h : dat0 n (.tup xs) = true) : ∃ m, n = m + 1 ∧ dats0 m xs = true := by
  cases n with
  | zero => simp [dat0] at h
  | succ m => exact ⟨m, rfl, by simpa [dat0] using h⟩
theorem dat0_lst {n : Nat} {o : Bool} {xs : List D} (h : dat0 n (.lst o xs) = true) : ∃ m, n = m + 1 ∧ dats0 m xs = true := by
  cases n with
  | zero => simp [dat0] at h
  | succ m => exact ⟨m, rfl, by simpa [dat0] using h⟩
section
variable {K : PySem.W.Frag} {N : Nm} {Z H : Hp} {O : Addr → Prop}
mutual
theorem Rep.dp (zh : Same Z H) : ∀ {n : Nat} {d : D} {v : V} {fp : List Addr}, Rep K N Z H d v fp → dat0 n d = true → Dp K H v (toPy d)
  | _, _, _, _, .non, _ => .non
  | _, _, _, _, .bl b, _ => .bl b
  | _, _, _, _, .int i, _ => .int i
  | _, _, _, _, .str x, _ => .str x
  | n, _, _, _, .tup h r _, e => let ⟨m, _, e'⟩ := dat0_tup e; .tup (SqT.mono h.sq zh) (Reps.dp zh (n := m) r e')
  | n, _, _, _, .lst h r, e => let ⟨m, _, e'⟩ := dat0_lst e; .lst (Ls.mono zh h).sq (Reps.dp zh (n := m) r e')
  | n, _, _, _, .lstO h h2 r, e => let ⟨m, _, e'⟩ := dat0_lst e; .lst (SqL.of h) (Reps.dp zh (n := m) r e')
  | n, _, _, _, .dct h, e => by simp [dat0] at e
  | n, _, _, _, .dctO h h2, e => by simp [dat0] at e
  | n, _, _, _, .ins h l _ r, e => by simp [dat0] at e
  | n, _, _, _, .insO h l e2 h2 r, e => by simp [dat0] at e
  | n, _, _, _, .exc h h2 l _ r, e => by simp [dat0] at e
  | n, _, _, _, .excN h _, e => by simp [dat0] at e
theorem Reps.dp (zh : Same Z H) : ∀ {n : Nat} {ds : List D} {vs : List V} {fp : List Addr}, Reps K N Z H ds vs fp → dats0 n ds = true → DpAll K H vs (toPys ds)
  | _, _, _, _, .nil, _ => .nil
  | _, _, _, _, .cons r t, e => by
    rw [dats0, Bool.and_eq_true] at e
    exact .cons (Rep.dp zh r e.1) (Reps.dp zh t e.2)
end
mutual
theorem Vw.dp (zh : Same Z H) : ∀ {n : Nat} {d : D} {v : V}, Vw K N Z H O d v → dat0 n d = true → Dp K H v (toPy d)
  | _, _, _, .non, _ => .non
  | _, _, _, .bl b, _ => .bl b
  | _, _, _, .int i, _ => .int i
  | _, _, _, .str x, _ => .str x
  | n, _, _, .tup h r, e => let ⟨m, _, e'⟩ := dat0_tup e; .tup (SqT.mono h.sq zh) (Vws.dp zh (n := m) r e')
  | n, _, _, .lst h r, e => let ⟨m, _, e'⟩ := dat0_lst e; .lst (Ls.mono zh h).sq (Reps.dp zh (n := m) r e')
  | n, _, _, .lstO h h2 r, e => let ⟨m, _, e'⟩ := dat0_lst e; .lst (SqL.of h) (Vws.dp zh (n := m) r e')
  | n, _, _, .dct h, e => by simp [dat0] at e
  | n, _, _, .dctO h h2, e => by simp [dat0] at e
  | n, _, _, .ins h l _ r, e => by simp [dat0] at e
  | n, _, _, .insO h l e2 h2 r, e => by simp [dat0] at e
  | n, _, _, .exc h h2 l _ r, e => by simp [dat0] at e
  | n, _, _, .excN h _, e => by simp [dat0] at e
theorem Vws.dp (zh : Same Z H) : ∀ {n : Nat} {ds : List D} {vs : List V}, Vws K N Z H O ds vs → dats0 n ds = true → DpAll K H vs (toPys ds)
  | _, _, _, .nil, _ => .nil
  | _, _, _, .cons r t, e => by
    rw [dats0, Bool.and_eq_true] at e
    exact .cons (Vw.dp zh r e.1) (Vws.dp zh t e.2)
end
end
theorem str_eq {x y : List Nat} : ((⟨x.toArray⟩ : Str) == ⟨y.toArray⟩) = (x == y) := by
  by_cases e : x = y
  · subst e; simp
  · have : ¬ (⟨x.toArray⟩ : Str) = ⟨y.toArray⟩ := fun q => e (by simpa using congrArg Str.cps q)
    rw [beq_eq_false_iff_ne.mpr this, beq_eq_false_iff_ne.mpr e]
mutual
theorem eqv_py : ∀ (a b : D) {n m : Nat}, dat0 n a = true → dat0 m b = true → PyData.eqv (toPy a) (toPy b) = eqv a b
  | .non, .non, _, _, _, _ => by simp only [toPy, eqv, PyData.eqv]
  | .non, .bl x', _, _, _, _ => by simp only [toPy, eqv, PyData.eqv]
  | .non, .int x', _, _, _, _ => by simp only [toPy, eqv, PyData.eqv]
  | .non, .str x', _, _, _, _ => by simp only [toPy, eqv, PyData.eqv]
  | .non, .tup xs', _, _, _, _ => by simp only [toPy, eqv, PyData.eqv]
  | .non, .lst o' xs', _, _, _, _ => by simp only [toPy, eqv, PyData.eqv]
  | .non, .dct o' k' l', _, _, _, h => by simp [dat0] at h
  | .non, .ins o' c' k' l', _, _, _, h => by simp [dat0] at h
  | .non, .exc c' k' l', _, _, _, h => by simp [dat0] at h
  | .bl x, .non, _, _, _, _ => by simp only [toPy, eqv, PyData.eqv]
  | .bl x, .bl x', _, _, _, _ => by simp only [toPy, eqv, PyData.eqv]
  | .bl x, .int x', _, _, _, _ => by simp only [toPy, eqv, PyData.eqv]
  | .bl x, .str x', _, _, _, _ => by simp only [toPy, eqv, PyData.eqv]
  | .bl x, .tup xs', _, _, _, _ => by simp only [toPy, eqv, PyData.eqv]
  | .bl x, .lst o' xs', _, _, _, _ => by simp only [toPy, eqv, PyData.eqv]
  | .bl x, .dct o' k' l', _, _, _, h => by simp [dat0] at h
  | .bl x, .ins o' c' k' l', _, _, _, h => by simp [dat0] at h
  | .bl x, .exc c' k' l', _, _, _, h => by simp [dat0] at h
  | .int x, .non, _, _, _, _ => by simp only [toPy, eqv, PyData.eqv]
  | .int x, .bl x', _, _, _, _ => by simp only [toPy, eqv, PyData.eqv]
  | .int x, .int x', _, _, _, _ => by simp only [toPy, eqv, PyData.eqv]
  | .int x, .str x', _, _, _, _ => by simp only [toPy, eqv, PyData.eqv]
  | .int x, .tup xs', _, _, _, _ => by simp only [toPy, eqv, PyData.eqv]
  | .int x, .lst o' xs', _, _, _, _ => by simp only [toPy, eqv, PyData.eqv]
  | .int x, .dct o' k' l', _, _, _, h => by simp [dat0] at h
  | .int x, .ins o' c' k' l', _, _, _, h => by simp [dat0] at h
  | .int x, .exc c' k' l', _, _, _, h => by simp [dat0] at h
  | .str x, .non, _, _, _, _ => by simp only [toPy, eqv, PyData.eqv]
  | .str x, .bl x', _, _, _, _ => by simp only [toPy, eqv, PyData.eqv]
  | .str x, .int x', _, _, _, _ => by simp only [toPy, eqv, PyData.eqv]
  | .str x, .str x', _, _, _, _ => by simp only [toPy, eqv, PyData.eqv, str_eq]
  | .str x, .tup xs', _, _, _, _ => by simp only [toPy, eqv, PyData.eqv]
  | .str x, .lst o' xs', _, _, _, _ => by simp only [toPy, eqv, PyData.eqv]
  | .str x, .dct o' k' l', _, _, _, h => by simp [dat0] at h
  | .str x, .ins o' c' k' l', _, _, _, h => by simp [dat0] at h
  | .str x, .exc c' k' l', _, _, _, h => by simp [dat0] at h
  | .tup xs, .non, _, _, _, _ => by simp only [toPy, eqv, PyData.eqv]
  | .tup xs, .bl x', _, _, _, _ => by simp only [toPy, eqv, PyData.eqv]
  | .tup xs, .int x', _, _, _, _ => by simp only [toPy, eqv, PyData.eqv]
  | .tup xs, .str x', _, _, _, _ => by simp only [toPy, eqv, PyData.eqv]
  | .tup xs, .tup xs', _, _, h, h' => by
    obtain ⟨_, _, e⟩ := dat0_tup h
    obtain ⟨_, _, e'⟩ := dat0_tup h'
    simp only [toPy, eqv, PyData.eqv]
    exact eqvs_py xs xs' e e'
  | .tup xs, .lst o' xs', _, _, _, _ => by simp only [toPy, eqv, PyData.eqv]
  | .tup xs, .dct o' k' l', _, _, _, h => by simp [dat0] at h
  | .tup xs, .ins o' c' k' l', _, _, _, h => by simp [dat0] at h
  | .tup xs, .exc c' k' l', _, _, _, h => by simp [dat0] at h
  | .lst o xs, .non, _, _, _, _ => by simp only [toPy, eqv, PyData.eqv]
  | .lst o xs, .bl x', _, _, _, _ => by simp only [toPy, eqv, PyData.eqv]
  | .lst o xs, .int x', _, _, _, _ => by simp only [toPy, eqv, PyData.eqv]
  | .lst o xs, .str x', _, _, _, _ => by simp only [toPy, eqv, PyData.eqv]
  | .lst o xs, .tup xs', _, _, _, _ => by simp only [toPy, eqv, PyData.eqv]
  | .lst o xs, .lst o' xs', _, _, h, h' => by
    obtain ⟨_, _, e⟩ := dat0_lst h
    obtain ⟨_, _, e'⟩ := dat0_lst h'
    simp only [toPy, eqv, PyData.eqv]
    exact eqvs_py xs xs' e e'
  | .lst o xs, .dct o' k' l', _, _, _, h => by simp [dat0] at h
  | .lst o xs, .ins o' c' k' l', _, _, _, h => by simp [dat0] at h
  | .lst o xs, .exc c' k' l', _, _, _, h => by simp [dat0] at h
  | .dct o k l, .non, _, _, h, _ => by simp [dat0] at h
  | .dct o k l, .bl x', _, _, h, _ => by simp [dat0] at h
  | .dct o k l, .int x', _, _, h, _ => by simp [dat0] at h
  | .dct o k l, .str x', _, _, h, _ => by simp [dat0] at h
  | .dct o k l, .tup xs', _, _, h, _ => by simp [dat0] at h
  | .dct o k l, .lst o' xs', _, _, h, _ => by simp [dat0] at h
  | .dct o k l, .dct o' k' l', _, _, h, _ => by simp [dat0] at h
  | .dct o k l, .ins o' c' k' l', _, _, h, _ => by simp [dat0] at h
  | .dct o k l, .exc c' k' l', _, _, h, _ => by simp [dat0] at h
  | .ins o c k l, .non, _, _, h, _ => by simp [dat0] at h
  | .ins o c k l, .bl x', _, _, h, _ => by simp [dat0] at h
  | .ins o c k l, .int x', _, _, h, _ => by simp [dat0] at h
  | .ins o c k l, .str x', _, _, h, _ => by simp [dat0] at h
  | .ins o c k l, .tup xs', _, _, h, _ => by simp [dat0] at h
  | .ins o c k l, .lst o' xs', _, _, h, _ => by simp [dat0] at h
  | .ins o c k l, .dct o' k' l', _, _, h, _ => by simp [dat0] at h
  | .ins o c k l, .ins o' c' k' l', _, _, h, _ => by simp [dat0] at h
  | .ins o c k l, .exc c' k' l', _, _, h, _ => by simp [dat0] at h
  | .exc c k l, .non, _, _, h, _ => by simp [dat0] at h
  | .exc c k l, .bl x', _, _, h, _ => by simp [dat0] at h
  | .exc c k l, .int x', _, _, h, _ => by simp [dat0] at h
  | .exc c k l, .str x', _, _, h, _ => by simp [dat0] at h
  | .exc c k l, .tup xs', _, _, h, _ => by simp [dat0] at h
  | .exc c k l, .lst o' xs', _, _, h, _ => by simp [dat0] at h
  | .exc c k l, .dct o' k' l', _, _, h, _ => by simp [dat0] at h
  | .exc c k l, .ins o' c' k' l', _, _, h, _ => by simp [dat0] at h
  | .exc c k l, .exc c' k' l', _, _, h, _ => by simp [dat0] at h
theorem eqvs_py : ∀ (xs ys : List D) {n m : Nat}, dats0 n xs = true → dats0 m ys = true → PyData.eqvAll (toPys xs) (toPys ys) = eqvs xs ys
  | [], [], _, _, _, _ => rfl
  | [], _ :: _, _, _, _, _ => rfl
  | _ :: _, [], _, _, _, _ => rfl
  | x :: xs, y :: ys, n, m, h1, h2 => by
    rw [dats0, Bool.and_eq_true] at h1 h2
    rw [toPys, toPys, PyData.eqvAll, eqvs, eqv_py x y h1.1 h2.1, eqvs_py xs ys h1.2 h2.2]
end
mutual
theorem dat_lay : ∀ (d : D) {n : Nat}, dat0 n d = true → (toPy d).canLay0 = true ∧ (toPy d).depth ≤ n
  | .non, _, _ => ⟨rfl, by simp [toPy, PyData.depth]⟩
  | .bl _, _, _ => ⟨rfl, by simp [toPy, PyData.depth]⟩
  | .int _, _, _ => ⟨rfl, by simp [toPy, PyData.depth]⟩
  | .str s, _, h => ⟨by
      simp only [toPy, PyData.canLay0, PyData.strOk]
      simpa [dat0] using h, by simp [toPy, PyData.depth]⟩
  | .tup xs, n, h => by
    obtain ⟨m, rfl, e⟩ := dat0_tup h
    obtain ⟨h1, h2⟩ := dats_lay xs e
    exact ⟨by simpa [toPy, PyData.canLay0] using h1, by simp only [toPy, PyData.depth]; omega⟩
  | .lst o xs, n, h => by
    obtain ⟨m, rfl, e⟩ := dat0_lst h
    obtain ⟨h1, h2⟩ := dats_lay xs e
    exact ⟨by simpa [toPy, PyData.canLay0] using h1, by simp only [toPy, PyData.depth]; omega⟩
  | .dct o k l, _, h => by simp [dat0] at h
  | .ins o c k l, _, h => by simp [dat0] at h
  | .exc c k l, _, h => by simp [dat0] at h
theorem dats_lay : ∀ (ds : List D) {n : Nat}, dats0 n ds = true → PyData.canLayAll0 (toPys ds) = true ∧ PyData.depthAll (toPys ds) ≤ n
  | [], _, _ => ⟨rfl, by simp [toPys, PyData.depthAll]⟩
  | d :: ds, n, h => by
    rw [dats0, Bool.and_eq_true] at h
    obtain ⟨h1, h2⟩ := dat_lay d h.1
    obtain ⟨h3, h4⟩ := dats_lay ds h.2
    refine ⟨by simp [toPys, PyData.canLayAll0, h1, h3], ?_⟩
    simp only [toPys, PyData.depthAll]
    omega
end
theorem dat_shaped {d : D} {n : Nat} (h : dat0 n d = true) (hn : n ≤ 64) : SeqAt.shaped (toPy d) = true := by
  obtain ⟨h1, h2⟩ := dat_lay d h
  unfold SeqAt.shaped
  rw [h1, Bool.true_and]
  exact decide_eq_true (Nat.le_trans h2 hn)
theorem any_py {xs : List D} {y : D} {n m : Nat} (h1 : dats0 n xs = true) (h2 : dat0 m y = true) : (toPys xs).any (fun z => PyData.eqv z (toPy y)) = xs.any fun z => eqv z y := by
  induction xs with
  | nil => rfl
  | cons x xs ih =>
    rw [dats0, Bool.and_eq_true] at h1
    rw [toPys, List.any_cons, List.any_cons, eqv_py x y h1.1 h2, ih h1.2]
end Q
end
section
set_option linter.all false
set_option autoImplicit false
set_option maxHeartbeats 1000000
/-! Some rules more, by values. -/
namespace Q
open PySem PySem.Spec PyProof.Rows L2
section
variable {X : Cx}
theorem rd_lst {pins : List (Addr × Obj)} {σ : L2.St} {H : Hp} {s : Shared} {a : Addr} {xs : List V} (I : Inv X pins σ H s) (h : Ls X.K H a xs) :
    xs.length ≤ sizeLine ∧ ∃ (its : List Value) (n : Nat), Vals xs its ∧ s.heap.get? a = some { cls := .type "list", data := .seq its.toArray n } := by
  rcases h with h | ⟨its, n, h, hz, r⟩
  · obtain ⟨z, its, n, r, e⟩ := h.ok I.hok
    exact ⟨z, its, n, r, e⟩
  · exact ⟨hz, its, n, r, I.kIn a _ h⟩
/-- list + list, each one tracked or locked -/
theorem op_catR : OpR X (binaryOp .Add) (fun x y H Q => ∃ l b xs zs, x = .ref l ∧ y = .ref b ∧ Ls X.K H l xs ∧ Ls X.K H b zs ∧ xs.length + zs.length ≤ sizeLine ∧ ∀ p, H p = none → Q (.ref p) (upd H p (.lst (xs ++ zs)))) := by
  rintro pins s σ H x y v u Q I rx ry ⟨l, b, xs, zs, rfl, rfl, hl, hb, hz, q⟩
  obtain rfl : v = .ref l := rx
  obtain rfl : u = .ref b := ry
  obtain ⟨_, as, n, ra, ea⟩ := rd_lst I hl
  obtain ⟨_, bs, m, rb, eb⟩ := rd_lst I hb
  have la := ra.length
  have lb := rb.length
  refine PySem.P.add_list ea eb ?_ (by rw [List.size_toArray, List.size_toArray]; omega)
  rw [show as.toArray ++ bs.toArray = (as ++ bs).toArray by simp]
  exact ⟨.ref _, _, I.lnew (t' := s.toks) (ra.append rb) (by rw [List.length_append]; exact hz), rfl, q _ I.fresh⟩
/-- list * int, tracked or locked -/
def rRepR (K : PySem.W.Frag) : R2 := fun x y H Q => ∃ l k xs, x = .ref l ∧ y = .int k ∧ Ls K H l xs ∧ -(2 ^ 63) ≤ k ∧ k < 2 ^ 63 ∧ xs.length * k.toNat ≤ sizeLine ∧
  ∀ p, H p = none → Q (.ref p) (upd H p (.lst (List.replicate k.toNat xs).flatten))
theorem op_repR : OpR X (binaryOp .Mult) (rRepR X.K) := by
  rintro pins s σ H x y v u Q I rx ry ⟨l, k, xs, rfl, rfl, hH, h1, h2, hz, q⟩
  obtain rfl : v = .ref l := rx
  obtain ⟨t, rfl⟩ := ry
  obtain ⟨z, its, n, r, e⟩ := rd_lst I hH
  have hl := r.length
  have hlen : its.toArray.size * k.toNat ≤ sizeLine := by rw [List.size_toArray, ← hl]; exact hz
  have hcap : ¬ its.toArray.size * k.toNat > (2 ^ 63 - 1) / 8 := by
    have : (sizeLine : Nat) ≤ (2 ^ 63 - 1) / 8 := by decide
    omega
  have hfit : ¬ (!Builtin.List.listFitsIndex k) = true := by
    rw [fitsIndex_both h1 h2]
    exact Bool.false_ne_true
  have hlong : ¬ Builtin.List.listTooLong (its.toArray.size * k.toNat) = true := by
    rw [notLongL hlen]
    exact Bool.false_ne_true
  have hnew : List.foldl (fun x1 x2 => x1 ++ x2) #[] (List.replicate (if its.toArray.isEmpty = true then 0 else k.toNat) its.toArray) = (List.replicate k.toNat its).flatten.toArray := by
    have f0 : ∀ m : Nat, List.foldl (fun x1 x2 => x1 ++ x2) #[] (List.replicate m its.toArray) = (List.replicate m its).flatten.toArray := fun m => by
      have := foldl_rep its m []
      rw [List.nil_append] at this
      exact this
    rw [f0]
    cases its with
    | nil => simp
    | cons a r' => rw [if_neg (by simp)]
  refine wpAny_binaryOp_repeat_ref (T := "list") (U := "int") (by decide) ⟨_, e, rfl⟩ (fun s' => typeIs_int s' k t) noFill_list_mul F.fills_int_mul F.slot_int_rmul repeat_list F.slot_int_index.lookup
    (call_meets F.slot_int_rmul (typeIs_int s k t) F.entry_int_rmul (F.args_int_rmul_2 _ _) (int___rmul___int_list k t l its.toArray n)
      ⟨e, rfl, ⟨_, e, rfl⟩, call_meets F.slot_list_mul ⟨_, e, rfl⟩ F.entry_list_mul (F.args_list_mul_2 _ _) (AutoListH.list___mul___list_int_3 l its.toArray n k t hfit hcap hlong) ⟨e, ?_⟩⟩)
  rw [hnew]
  exact ⟨.ref _, _, I.lnew (t' := s.toks) (r.rep k.toNat) (by rw [PyProof.Rows.lm_len_rep_flat, Nat.mul_comm]; exact hz), rfl, q _ I.fresh⟩
theorem op_inT (hu : X.A.units + 65 < cLine) : OpR X (compareOp .In) (fun x y H Q => ∃ d ds, Dp X.K H x d ∧ Dp X.K H y (.tuple ds) ∧ SeqAt.shaped d = true ∧ SeqAt.shaped (.tuple ds) = true ∧ Q (.bl (ds.any fun z => PyData.eqv z d)) H) := by
  rintro pins s σ H x y v u Q I rx ry ⟨d, ds, hd, he, sd, se, q⟩
  obtain ⟨_, r1⟩ := hd.reads I _ _ v rx
  obtain ⟨_, r2⟩ := he.reads I _ _ u ry
  exact SeqAt.in_tuple_reads r2 r1 (SeqAt.canLay_of_shaped se) (SeqAt.canLay_of_shaped sd) (room_in_shaped sd hu) ⟨.bl _, H, I, rfl, q⟩
theorem op_notInT (hu : X.A.units + 65 < cLine) : OpR X (compareOp .NotIn) (fun x y H Q => ∃ d ds, Dp X.K H x d ∧ Dp X.K H y (.tuple ds) ∧ SeqAt.shaped d = true ∧ SeqAt.shaped (.tuple ds) = true ∧ Q (.bl (!ds.any fun z => PyData.eqv z d)) H) := by
  rintro pins s σ H x y v u Q I rx ry ⟨d, ds, hd, he, sd, se, q⟩
  obtain ⟨_, r1⟩ := hd.reads I _ _ v rx
  obtain ⟨_, r2⟩ := he.reads I _ _ u ry
  exact SeqAt.notIn_tuple_reads r2 r1 (SeqAt.canLay_of_shaped se) (SeqAt.canLay_of_shaped sd) (room_in_shaped sd hu) ⟨.bl _, H, I, rfl, q⟩
/-- t.index(x) of data -/
theorem mt_tupIx (hu : X.A.units + 65 < cLine) : MtR X "tuple.index" (fun x xs H Q => ∃ (y : V) (d : PyData) (ds : List PyData) (j : Nat) (z : PyData), xs = [y] ∧ Dp X.K H x (.tuple ds) ∧ Dp X.K H y d ∧
    SeqAt.shaped (.tuple ds) = true ∧ SeqAt.shaped d = true ∧ ds[j]? = some z ∧ PyData.eqv z d = true ∧ (∀ (m : Nat) (z' : PyData), m < j → ds[m]? = some z' → PyData.eqv z' d = false) ∧ Q (.int (j : Nat)) H) := by
  rintro pins s σ H x xs v us Q I rx rxs ⟨y, d, ds, j, z, rfl, hl, hy, sl, sd, hz, hzj, hno, q⟩
  obtain ⟨uy, rfl, ry⟩ := vals1 rxs
  obtain ⟨_, ryd⟩ := hy.reads I _ _ uy ry
  have hds : PyData.canLayAll0 ds = true := SeqAt.canLay_of_shaped sl
  cases hl with
  | @tup a vs _ hs ha =>
    obtain rfl : v = .ref a := rx
    obtain ⟨its, rv, ⟨⟨cls, dd, data, slt⟩, ho, hc, n, hd⟩, _⟩ := I.tuple hs
    dsimp only at hc hd
    subst hc
    subst hd
    obtain ⟨as, ras⟩ := Dp.readsAll I ds _ its ha rv
    have len := SeqAt.ReadsAll.length ds its as ras
    have rd := SeqAt.readsAll_map ds its as hds ras
    have look : ∀ (m : Nat) (hm : m < its.toArray.size) (w : PyData), ds[m]? = some w → SeqAt.readOf s.heap its.toArray[m] = w := fun m hm w hw => by
      have hm' : m < its.length := by simpa using hm
      have hw' : (its.map (SeqAt.readOf s.heap))[m]? = some w := by rw [rd]; exact hw
      rw [List.getElem?_map, List.getElem?_eq_getElem hm'] at hw'
      simpa using hw'
    have hj : j < its.toArray.size := by
      have := (List.getElem?_eq_some_iff.mp hz).1
      rw [List.size_toArray]; omega
    refine call_meets PySem.F.slot_tuple_index ⟨_, ho, rfl⟩ PySem.F.entry_tuple_index (PySem.F.args_tuple_index_2 _ _)
      (TI.tuple_indexAt a its.toArray n dd slt uy (fun w => PyData.eqv (SeqAt.readOf s.heap w) d) j hj ?_ fun m hm hmj => ?_)
      ⟨ho, SeqAt.items_eqAt (vs := its.toArray) ras ryd hds (SeqAt.canLay_of_shaped sd) (room_in_shaped sd hu), .int (j : Nat), H, I.tok _, ⟨_, rfl⟩, q⟩
    · show PyData.eqv (SeqAt.readOf s.heap its.toArray[j]) d = true
      rw [look j hj z hz]; exact hzj
    · have hm' : m < ds.length := by rw [List.size_toArray] at hm; omega
      show PyData.eqv (SeqAt.readOf s.heap its.toArray[m]) d = false
      rw [look m hm _ (List.getElem?_eq_getElem hm')]
      exact hno m _ hmj (List.getElem?_eq_getElem hm')
/-! tuples: what is made is known to have no dict -/
theorem laid_tup {pins : List (Addr × Obj)} {σ : L2.St} {H : Hp} {s : Shared} {vs : List V} {us : List Value} {h' : Heap} {t' : Nat} (I : Inv X pins σ H s) (k : ∀ b u, s.heap.get? b = some u → h'.get? b = some u) (hz : vs.length ≤ sizeLine) (r : Vals vs us) {a : Addr} (ha : s.heap.objs.size ≤ a)
    (e : h'.get? a = some { cls := .type "tuple", data := .seq us.toArray }) : Inv X pins σ (upd H a (.frz { cls := .type "tuple", data := .seq us.toArray } (.tup vs))) { s with heap := h', toks := t' } :=
  I.laid k ha ⟨e, hz, us, r, _, e, rfl, _, rfl⟩
/-- what is wanted of a new tuple -/
def NewTup (vs : List V) (H : Hp) (Q : VK) : Prop := ∀ (p : Addr) (o : Obj), H p = none → o.dict = none → Q (.ref p) (upd H p (.frz o (.tup vs)))
theorem pe_tupF {es : List Expr} {t : TA} {k : Nat} {pos : Pos} (h : PA X es t) : PE X (.Tuple es k pos) (fun σ H Q => t σ H fun vs H1 => vs.length ≤ sizeLine ∧ NewTup vs H1 Q) :=
  ⟨fun pins s σ H Q I q => wpAny_Tuple_spliced (thn (h.run pos pins s σ H _ I q) fun us s1 ⟨vs, H1, J, r, z, w⟩ =>
    ⟨r.length ▸ z, .ref _, _, laid_tup (t' := s1.toks) J (fun _ _ e => Heap.get?_push_of_some _ e) z r (Nat.le_refl _) (Heap.get?_push_size _ rfl), rfl, w _ _ J.fresh rfl⟩)⟩
theorem op_catF : OpR X (binaryOp .Add) (fun x y H Q => ∃ a b xs ys, x = .ref a ∧ y = .ref b ∧ SqT X.K H a xs ∧ SqT X.K H b ys ∧ xs.length + ys.length ≤ sizeLine ∧
    (xs = [] → Q (.ref b) H) ∧ (ys = [] → Q (.ref a) H) ∧ (xs ≠ [] → ys ≠ [] → NewTup (xs ++ ys) H Q)) := by
  rintro pins s σ H x y v u Q I rx ry ⟨a, b, xs, ys, rfl, rfl, ha, hb, hz, q0, q1, q2⟩
  obtain rfl : v = .ref a := rx
  obtain rfl : u = .ref b := ry
  obtain ⟨us, ru, pu, _⟩ := I.tuple ha
  obtain ⟨ws, rw', pw, _⟩ := I.tuple hb
  by_cases hx : xs = []
  · subst hx
    cases ru
    exact cat_tup0 pu pw ⟨.ref b, H, I, rfl, q0 rfl⟩
  · refine HT.cat_tup pu pw (fun z => hx (ru.nil_iff.mp z)) (fun z => ⟨.ref a, H, I, rfl, q1 (rw'.nil_iff.mp z)⟩) (fun z => ?_) (by rw [← ru.length, ← rw'.length]; exact hz)
    exact ⟨.ref _, _, laid_tup (t' := s.toks) I (fun _ _ e => Heap.get?_push_of_some _ e) (by rw [List.length_append]; exact hz) (ru.append rw') (Nat.le_refl _) (Heap.get?_push_size _ rfl), rfl,
      q2 hx (fun w => z (rw'.nil_iff.mpr w)) _ _ I.fresh rfl⟩
theorem sl_tupF : SlR X (fun x lo hi H Q => ∃ a xs, x = .ref a ∧ SqT X.K H a xs ∧ (cutV xs lo hi = xs → Q (.ref a) H) ∧ NewTup (cutV xs lo hi) H Q) := by
  rintro pins s σ H x v vl vu lo hi sl Q I rx hs pl pu ⟨a, xs, rfl, hx, q1, q2⟩
  obtain rfl : v = .ref a := rx
  obtain ⟨us, r, ht, hz⟩ := I.tuple hx
  have len : us.toArray.size = xs.length := by rw [List.size_toArray]; exact r.length.symm
  refine ⟨"tuple", _, PyProof.Rows.slot_tuple_getitem.lookup, ht.typeIs, ?_⟩
  by_cases hw : HT.sIx xs.length 0 lo = 0 ∧ HT.sIx xs.length xs.length hi = xs.length
  · refine getItem_tuple_whole ht hs pl pu (by rw [len]; exact hw) ⟨.ref a, H, I, rfl, q1 ?_⟩
    unfold cutV
    rw [hw.1, hw.2]
    simp
  · refine HT.getItem_tuple_cut ht hs pl pu (by rw [len]; exact hw) ?_ (by rw [len]; exact hz)
    rw [len]
    exact ⟨.ref _, _, laid_tup (t' := s.toks) I (fun _ _ e => Heap.get?_push_of_some _ e) (Nat.le_trans (cutV_length xs lo hi) hz) ((r.drop (HT.sIx xs.length 0 lo)).take (HT.sIx xs.length xs.length hi - HT.sIx xs.length 0 lo)) (Nat.le_refl _) (Heap.get?_push_size _ rfl), rfl, q2 _ _ I.fresh rfl⟩
theorem call_tupF : CallR X (.type "tuple") (fun xs H Q => ∃ p ys, xs = [.ref p] ∧ ((SqL X.K H p ys ∧ NewTup ys H Q) ∨ (SqT X.K H p ys ∧ Q (.ref p) H))) := by
  rintro pins s σ H xs us Q I r ⟨p, ys, rfl, h⟩
  obtain ⟨u, rfl, rx⟩ := vals1 r
  obtain rfl : u = .ref p := rx
  rcases h with ⟨hq, q⟩ | ⟨hq, q⟩
  · obtain ⟨ws, rw', pl, hz⟩ := I.list hq
    have len := rw'.length
    refine call_tuple_list pl.isList (fun h' kp => ?_) (by simp only [List.size_toArray]; omega)
    have J : Inv X pins σ H { s with heap := h' } := I.kept (t' := s.toks) kp
    exact ⟨.ref _, _, laid_tup (t' := s.toks) J (fun _ _ e => Heap.get?_push_of_some _ e) hz rw' (Nat.le_refl _) (Heap.get?_push_size _ rfl), rfl, q _ _ J.fresh rfl⟩
  · obtain ⟨ws, rw', pl, hz⟩ := I.tuple hq
    exact call_tuple_same pl ⟨.ref p, H, I, rfl, q⟩
/-- a method of a built-in type, also of a tuple that was made -/
def TyD (K : PySem.W.Frag) (T : String) (x : V) (H : Hp) : Prop := tyV K T x H ∨ (T = "tuple" ∧ ∃ a vs, x = .ref a ∧ TupZ K H a vs)
theorem tyD_is {pins : List (Addr × Obj)} {σ : L2.St} {H : Hp} {s : Shared} {T : String} {x : V} {v : Value} (I : Inv X pins σ H s) (r : RelV x v) (ty : TyD X.K T x H) : s.TypeIs v T ∧ ∀ a, v = .ref a → ∃ ob, s.heap.get? a = some ob ∧ ob.dict = none := by
  rcases ty with ty | ⟨rfl, a, vs, rfl, h⟩
  · exact tyV_is I r ty
  · obtain rfl : v = .ref a := r
    obtain ⟨its, _, pt, _⟩ := I.tuple h.sq
    refine ⟨pt.typeIs, fun b e => ?_⟩
    cases e
    rcases h with ⟨o, h, d⟩ | ⟨o, _, _, h, _, d, _⟩
    · exact ⟨o, (I.hok a _ h).1, d⟩
    · exact ⟨o, I.kIn a o h, d⟩
theorem pe_bmD {o e : Expr} {es : List Expr} {to : TE} {t : TA} {name : Str} {apos cpos : Pos} {T id : String} {r : V → List V → Hp → VK → Prop} (pa : PlainAttrs T) (slot : Slot T name id) (hty : typeOf (.builtin id) = pure (.type "method_descriptor")) (hm : MtR X id r) (ho : PE X o to) (ha : PA X (e :: es) t)
    (hbase : attributeBase o name X.env (eval o X.env) = eval o X.env)
    (hfew : ((backTo cpos (starEach (e :: es) X.env)).all (fun x => !x.1) && (backToKw cpos (keywordEach [] X.env)).all (fun x => x.1.isSome) && decide ((e :: es).length + ([] : List Keyword).length + (if ([] : List Keyword).isEmpty then 0 else 1) < 30)) = true)
    (hline : (apos.endLine == cpos.line) = true) (hs : starEach (e :: es) X.env = (false, eval e X.env) :: starEach es X.env) (hplain : (backTo cpos (starEach es X.env)).any (·.1) = false) :
    PE X (.Call (.Attribute o name apos) (e :: es) [] cpos) (fun σ H Q => to σ H fun x H1 => TyD X.K T x H1 ∧ t σ H1 fun xs H2 => r x xs H2 Q) := by
  refine ⟨fun pins s σ H Q I h => wpAny_Call_method_late hbase hfew hline rfl (thn (ho.run pins s σ H _ I h) fun v s1 ⟨x, H1, J, rv, ty, q⟩ => ?_)⟩
  have tt := tyD_is J rv ty
  refine ⟨T, id, pa, slot, hty, tt.1, tt.2, ?_⟩
  have w := ha.run cpos pins s1 σ H1 _ J q
  rw [hs] at w ⊢
  exact Calls.callWith_builtin (by show (false || (backTo cpos (starEach es X.env)).any (·.1)) = false; rw [hplain]; rfl) (Calls.evalArgs_plain (thn w fun us s2 ⟨vs, H2, J2, rs, q2⟩ => hm pins s2 σ H2 x vs v us Q J2 rv rs q2))
end
end Q
end
section
set_option linter.all false
set_option autoImplicit false
set_option maxHeartbeats 1000000
/-! Expressions. -/
namespace Q
open PySem PySem.Spec PyProof.Rows L2
theorem line_eq : line = sizeLine := by rw [sizeLine_eq]; rfl
section
variable {X : Cx} {N : Nm} {W : WX} {P : Pg}
def OkE (X : Cx) (N : Nm) (W : WX) (P : Pg) (x : Ex) (e : Expr) : Prop := PE X e (tV X.K N W (root x) (vw P x))
def OkV (X : Cx) (N : Nm) (W : WX) (P : Pg) (x : Ex) (e : Expr) : Prop := PE X e (tV X.K N W none (ev P x))
theorem OkE.ev {x : Ex} {e : Expr} (h : OkE X N W P x e) : OkV X N W P x e := PE.imp h fun _ _ _ => tE_of
theorem e_int {i : Int} {j : Nat} {pos : Pos} : OkE X N W P (.int i) (.Constant (.int i) j pos) := pe_int.imp fun σ H Q ⟨Z, env, F, s, h⟩ => h Z H F (Go.refl s) _ (RV.flat (.int i))
theorem e_bl {b : Bool} {j : Nat} {pos : Pos} : OkE X N W P (.bl b) (.Constant (.bool b) j pos) := pe_bl.imp fun σ H Q ⟨Z, env, F, s, h⟩ => h Z H F (Go.refl s) _ (RV.flat (.bl b))
theorem e_non {j : Nat} {pos : Pos} : OkE X N W P .non (.Constant .none j pos) := pe_non.imp fun σ H Q ⟨Z, env, F, s, h⟩ => h Z H F (Go.refl s) _ (RV.flat .non)
theorem e_str {x : Str} {z : List Nat} {j : Nat} {pos : Pos} (e : x.cps.toList = z) : OkE X N W P (.str z) (.Constant (.str x) j pos) := pe_str.imp fun σ H Q ⟨Z, env, F, s, h⟩ => h Z H F (Go.refl s) _ (RV.flat (by subst e; exact .str x))
theorem e_var {i : Nat} {y : Str} {pos : Pos} (hN : X.N[i]? = some y) (hv : Vis X.env.scope y) (hd : (y == ("__debug__" : Str)) = false) (hcd : (y == ("__classdict__" : Str)) = false) : OkE X N W P (.var i) (.Name y pos) := by
  refine (pe_var hN hv hd hcd).imp fun σ H Q ⟨Z, env, F, s, h⟩ => ?_
  simp only [vw] at h
  split at h
  · rename_i d e
    obtain ⟨v, e1, r⟩ := s.som i d e
    exact ⟨v, e1, h Z H F (Go.refl s) v (r.vw fun _ h => h)⟩
  · exact h.elim
theorem SR.gone {K : PySem.W.Frag} {Z H : Hp} {env : Env} {σ : L2.St} {F : Nat → List Addr} (s : SR K N Z H env σ F) (i : Nat) : Go K N σ Z H env F Z H (env.set i none) (fun j => if j = i then [] else F j) := by
  refine ⟨⟨by rw [List.length_set]; exact s.len, fun j d e => ?_, fun j h => ?_, fun j => ?_, fun j k c h1 h2 => ?_, s.zh⟩, Same.refl _, Same.refl _, fun _ h => .inl h, fun j c h => ?_, fun j c h => ?_, fun j h => ?_⟩
  · by_cases q : i = j
    · subst q
      by_cases hl : i < env.length
      · rw [List.getElem?_set_self hl] at e; cases e
      · rw [List.getElem?_eq_none (by simpa using hl)] at e; cases e
    · rw [List.getElem?_set_ne q] at e
      rw [if_neg (Ne.symm q)]
      exact s.som j d e
  · by_cases q : j = i
    · rw [if_pos q]
    · rw [if_neg q]
      exact s.non j fun d e => h d (by rw [List.getElem?_set_ne (Ne.symm q)]; exact e)
  · by_cases q : j = i
    · rw [if_pos q]; exact .nil
    · rw [if_neg q]; exact s.nd j
  · by_cases q1 : j = i
    · rw [if_pos q1] at h1; cases h1
    · by_cases q2 : k = i
      · rw [if_pos q2] at h2; cases h2
      · rw [if_neg q1] at h1; rw [if_neg q2] at h2; exact s.dj j k c h1 h2
  · by_cases q : j = i
    · rw [if_pos q] at h; cases h
    · rw [if_neg q] at h; exact h
  · by_cases q : j = i
    · subst q
      refine .inr (.inr ?_)
      by_cases hl : j < env.length
      · rw [List.getElem?_set_self hl]
      · rw [s.non j fun d e => hl (List.getElem?_eq_some_iff.mp e).1] at h; cases h
    · rw [if_neg q]; exact .inl h
  · by_cases q : i = j
    · subst q
      rw [List.getElem?_set_self (List.getElem?_eq_some_iff.mp h).1]
    · rw [List.getElem?_set_ne q]; exact h
theorem e_mov {i : Nat} {y : Str} {pos : Pos} (hN : X.N[i]? = some y) (hv : Vis X.env.scope y) (hd : (y == ("__debug__" : Str)) = false) (hcd : (y == ("__classdict__" : Str)) = false) : OkE X N W P (.mov i) (.Name y pos) := by
  refine (pe_var hN hv hd hcd).imp fun σ H Q ⟨Z, env, F, s, h⟩ => ?_
  simp only [vw] at h
  split at h
  · rename_i d e
    obtain ⟨v, e1, r⟩ := s.som i d e
    exact ⟨v, e1, h Z H _ (SR.gone s i) v ⟨F i, r, s.nd i, fun c hc j h => by
      by_cases q : j = i
      · rw [if_pos q] at h; cases h
      · rw [if_neg q] at h; exact q (s.dj _ _ c h hc), fun c hc => .inr ⟨i, hc⟩⟩⟩
  · exact h.elim
/-- a constant of the module -/
def GlbOk (X : Cx) (N : Nm) (d : D) (y : Str) : Prop := ∃ (v : V) (u : Value), X.mg y = some u ∧ RelV v u ∧ ∀ Z H, Rep X.K N Z H d v []
theorem e_glb {g : Nat} {y : Str} {pos : Pos} {d : D} (hg : Gl X y) (hd : P.glob g = some d) (k : GlbOk X N d y) (hdb : (y == ("__debug__" : Str)) = false) : OkE X N W P (.glb g) (.Name y pos) := by
  obtain ⟨v, u, hm, r, hr⟩ := k
  refine (pe_glob hg hm r hdb).imp fun σ H Q ⟨Z, env, F, s, h⟩ => ?_
  simp only [vw, hd] at h
  exact h Z H F (Go.refl s) v (RV.flat (hr Z H))
/-- one operand, an answer that is flat -/
theorem un_flat {r : V → Hp → VK → Prop} {g : D → Option D} {σ : L2.St} {H : Hp} {Q : VK} {a : Ex}
    (rule : ∀ {K : PySem.W.Frag} {Z H : Hp} {x d : D} {v : V} {Q : VK}, K = X.K → Same Z H → Ct K N Z H x v → g x = some d → (∀ w, Rep K N Z H d w [] → Q w H) → r v H Q)
    (h : tV X.K N W none (fun env => (vw P a env).bind fun x env => noneR (g x) env) σ H Q) : tV X.K N W (root a) (vw P a) σ H (fun v H1 => r v H1 Q) := by
  obtain ⟨Z, env, F, s, h⟩ := h
  refine ⟨Z, env, F, s, (Post.bind h).imp fun x env1 Z1 H1 F1 G1 h1 v rv => ?_⟩
  obtain ⟨d, e, h1⟩ := Post.noneR h1
  exact rule rfl G1.sr.zh rv.ct e fun w rw' => h1 Z1 H1 F1 (Go.refl G1.sr) w (RV.flat rw')
/-- two operands -/
theorem bi_flat {r : R2} {g : D → D → Option D} {σ : L2.St} {H : Hp} {Q : VK} {a b : Ex}
    (rule : ∀ {K : PySem.W.Frag} {Z H : Hp} {x y d : D} {v u : V} {Q : VK}, K = X.K → Same Z H → Ct K N Z H x v → Ct K N Z H y u → g x y = some d → (∀ w, Rep K N Z H d w [] → Q w H) → r v u H Q)
    (h : tV X.K N W none (fun env => (vw P a env).bind fun x env => (vw P b env).bind fun y env => noneR (g x y) env) σ H Q) :
    tOp r (tV X.K N W (root a) (vw P a)) (tV X.K N W (root b) (vw P b)) σ H Q := by
  obtain ⟨Z, env, F, s, h⟩ := h
  refine ⟨Z, env, F, s, (Post.bind h).imp fun x env1 Z1 H1 F1 G1 h1 v rv => ⟨Z1, env1, F1, G1.sr, (Post.bind h1).imp fun y env2 Z2 H2 F2 G2 h2 u ru => ?_⟩⟩
  obtain ⟨d, e, h2⟩ := Post.noneR h2
  exact rule rfl G2.sr.zh (rv.ct.keep G2) ru.ct e fun w rw' => h2 Z2 H2 F2 (Go.refl G2.sr) w (RV.flat rw')
section
variable {K : PySem.W.Frag} {Z H : Hp} {O : Addr → Prop}
theorem Vw.int' {i : Int} {v : V} (h : Vw K N Z H O (.int i) v) : v = .int i := by cases h; rfl
theorem Vw.bl' {b : Bool} {v : V} (h : Vw K N Z H O (.bl b) v) : v = .bl b := by cases h; rfl
theorem Vw.non' {v : V} (h : Vw K N Z H O .non v) : v = .non := by cases h; rfl
theorem isEmpty_reps {xs : List D} {vs : List V} (h : xs.length = vs.length) : (!xs.isEmpty) = !vs.isEmpty := by
  cases xs <;> cases vs <;> simp_all
theorem tru_of (zh : Same Z H) {d : D} {b : Bool} {v : V} (h : Vw K N Z H O d v) (e : tru d = some b) : TruV K v H b := by
  cases h with
  | non => cases e; rfl
  | bl b => cases e; rfl
  | int i => cases e; rfl
  | str x =>
    simp only [tru] at e
    split at e
    · rename_i hl
      cases e
      refine ⟨by rw [← line_eq]; simpa [Str.length] using hl, ?_⟩
      cases hx : x.cps.toList with
      | nil => simp [Str.length, Array.toList_eq_nil_iff.mp hx]
      | cons a l =>
        have : x.cps.size = l.length + 1 := by rw [← Array.length_toList, hx]; rfl
        simp [Str.length, this]; omega
    · cases e
  | tup h r => cases e; exact .inr (.inl ⟨_, SqT.mono h.sq zh, isEmpty_reps r.length⟩)
  | lst h r => cases e; exact .inl ⟨_, (Ls.mono zh h).sq, isEmpty_reps r.length⟩
  | lstO h h2 r => cases e; exact .inl ⟨_, SqL.of h, isEmpty_reps r.length⟩
  | _ => cases e
/-- a list that is read -/
theorem Vw.lst' {o : Bool} {xs : List D} {v : V} (zh : Same Z H) (h : Vw K N Z H O (.lst o xs) v) : ∃ a vs, v = .ref a ∧ Ls K H a vs ∧ Vws K N Z H (fun _ => True) xs vs := by
  cases h with
  | lst h r => exact ⟨_, _, rfl, Ls.mono zh h, r.vws fun _ h => nomatch h⟩
  | lstO h h2 r => exact ⟨_, _, rfl, Ls.of h, Vws.mono (Same.refl _) (Same.refl _) (fun _ _ => .inl trivial) r⟩
theorem Vw.tupZ {xs : List D} {v : V} (h : Vw K N Z H O (.tup xs) v) : ∃ a vs, v = .ref a ∧ TupZ K Z a vs ∧ Vws K N Z H (fun _ => True) xs vs := by
  cases h with
  | tup h r => exact ⟨_, _, rfl, h, Vws.mono (Same.refl _) (Same.refl _) (fun _ _ => .inl trivial) r⟩
theorem Vw.tup' {xs : List D} {v : V} (zh : Same Z H) (h : Vw K N Z H O (.tup xs) v) : ∃ a vs, v = .ref a ∧ SqT K H a vs ∧ Vws K N Z H (fun _ => True) xs vs := by
  cases h with
  | tup h r => exact ⟨_, _, rfl, SqT.mono h.sq zh, Vws.mono (Same.refl _) (Same.refl _) (fun _ _ => .inl trivial) r⟩
theorem Vw.str' {s : List Nat} {v : V} (h : Vw K N Z H O (.str s) v) : ∃ x : Str, v = .str x ∧ x.cps.toList = s := by cases h; exact ⟨_, rfl, rfl⟩
theorem ints_of : ∀ {xs : List D} {ns : List Int} {vs : List V}, Vws K N Z H O xs vs → intsOf xs = some ns → vs = ns.map V.int
  | [], ns, _, h, e => by cases e; cases h; rfl
  | .int i :: ds, ns, _, .cons r t, e => by
    simp only [intsOf, Option.map_eq_some_iff] at e
    obtain ⟨ms, e1, rfl⟩ := e
    rw [r.int', ints_of t e1]; rfl
  | .non :: _, _, _, _, e => by simp [intsOf] at e
  | .bl _ :: _, _, _, _, e => by simp [intsOf] at e
  | .str _ :: _, _, _, _, e => by simp [intsOf] at e
  | .tup _ :: _, _, _, _, e => by simp [intsOf] at e
  | .lst _ _ :: _, _, _, _, e => by simp [intsOf] at e
  | .dct _ _ _ :: _, _, _, _, e => by simp [intsOf] at e
  | .ins _ _ _ _ :: _, _, _, _, e => by simp [intsOf] at e
  | .exc _ _ _ :: _, _, _, _, e => by simp [intsOf] at e
theorem bools_of : ∀ {xs : List D} {ns : List Bool} {vs : List V}, Vws K N Z H O xs vs → boolsOf xs = some ns → vs = ns.map V.bl
  | [], ns, _, h, e => by cases e; cases h; rfl
  | .bl i :: ds, ns, _, .cons r t, e => by
    simp only [boolsOf, Option.map_eq_some_iff] at e
    obtain ⟨ms, e1, rfl⟩ := e
    rw [r.bl', bools_of t e1]; rfl
  | .non :: _, _, _, _, e => by simp [boolsOf] at e
  | .int _ :: _, _, _, _, e => by simp [boolsOf] at e
  | .str _ :: _, _, _, _, e => by simp [boolsOf] at e
  | .tup _ :: _, _, _, _, e => by simp [boolsOf] at e
  | .lst _ _ :: _, _, _, _, e => by simp [boolsOf] at e
  | .dct _ _ _ :: _, _, _, _, e => by simp [boolsOf] at e
  | .ins _ _ _ _ :: _, _, _, _, e => by simp [boolsOf] at e
  | .exc _ _ _ :: _, _, _, _, e => by simp [boolsOf] at e
end
end
end Q
end
section
set_option linter.all false
set_option autoImplicit false
set_option maxHeartbeats 1000000
/-! == where an empty dict stands among the data. -/
namespace Q
open PySem PySem.Spec PySem.SeqAt MeetsSeq
/-- an empty dict stands here -/
def IsDct (h : Heap) (a : Addr) : Prop := (a == sysModules) = false ∧ ∃ n, h.get? a = some { cls := .type "dict", data := .dict #[] n }
theorem dctInt (b : Int) (u : Tok) (l : Addr) (n : Nat) (dd : Option Addr) (sl : Array (Option Value)) :
    Meets (Builtin.«int.__eq__» ⟨[.int b u, .ref l], []⟩) (fun _ R s => s.heap.get? l = some { cls := .type "dict", dict := dd, data := .dict #[] n, slots := sl } ∧ R (.ok (.ret .notImplemented)) s) :=
  .of_wp fun prog w A R s h => by
    obtain ⟨hp, g, d, tk, os⟩ := s
    obtain ⟨q1, q2⟩ := h
    wp_walk using AutoSeq1.wpAny_loadPart' q1, wpAny_load q1
    exact ⟨_, rfl, q2⟩
theorem dctBool (b : Bool) (l : Addr) (n : Nat) (dd : Option Addr) (sl : Array (Option Value)) :
    Meets (Builtin.«int.__eq__» ⟨[.bool b, .ref l], []⟩) (fun _ R s => s.heap.get? l = some { cls := .type "dict", dict := dd, data := .dict #[] n, slots := sl } ∧ R (.ok (.ret .notImplemented)) s) :=
  .of_wp fun prog w A R s h => by
    obtain ⟨hp, g, d, tk, os⟩ := s
    obtain ⟨q1, q2⟩ := h
    wp_walk using AutoSeq1.wpAny_loadPart' q1, wpAny_load q1
    exact ⟨_, rfl, q2⟩
theorem dctStr (b : Str) (u : Tok) (l : Addr) (n : Nat) (dd : Option Addr) (sl : Array (Option Value)) :
    Meets (Builtin.«str.__eq__» ⟨[.str b u, .ref l], []⟩) (fun _ R s => s.heap.get? l = some { cls := .type "dict", dict := dd, data := .dict #[] n, slots := sl } ∧ R (.ok (.ret .notImplemented)) s) :=
  .of_wp fun prog w A R s h => by
    obtain ⟨hp, g, d, tk, os⟩ := s
    obtain ⟨q1, q2⟩ := h
    wp_walk using AutoSeq1.wpAny_loadPart' q1, wpAny_load q1
    exact ⟨_, rfl, q2⟩
theorem dctLst (b l : Addr) (xs : Array Value) (n m : Nat) (dd d2 : Option Addr) (sl s2 : Array (Option Value)) :
    Meets (Builtin.«list.__eq__» ⟨[.ref b, .ref l], []⟩) (fun _ R s => s.heap.get? b = some { cls := .type "list", dict := d2, data := .seq xs m, slots := s2 } ∧
      s.heap.get? l = some { cls := .type "dict", dict := dd, data := .dict #[] n, slots := sl } ∧ R (.ok (.ret .notImplemented)) s) :=
  .of_wp fun prog w A R s h => by
    obtain ⟨hp, g, d, tk, os⟩ := s
    obtain ⟨q0, q1, q2⟩ := h
    have sub := F.sub_dict_list
    wp_walk using AutoSeq1.wpAny_loadPart' q0, AutoSeq1.wpAny_loadPart' q1
    exact ⟨_, rfl, q2⟩
theorem dctTup (b l : Addr) (xs : Array Value) (n m : Nat) (dd d2 : Option Addr) (sl s2 : Array (Option Value)) :
    Meets (Builtin.«tuple.__eq__» ⟨[.ref b, .ref l], []⟩) (fun _ R s => s.heap.get? b = some { cls := .type "tuple", dict := d2, data := .seq xs m, slots := s2 } ∧
      s.heap.get? l = some { cls := .type "dict", dict := dd, data := .dict #[] n, slots := sl } ∧ R (.ok (.ret .notImplemented)) s) :=
  .of_wp fun prog w A R s h => by
    obtain ⟨hp, g, d, tk, os⟩ := s
    obtain ⟨q0, q1, q2⟩ := h
    have sub := F.sub_dict_tuple
    wp_walk using AutoSeq1.wpAny_loadPart' q0, AutoSeq1.wpAny_loadPart' q1
    exact ⟨_, rfl, q2⟩
section
variable {prog : Program} {w : World} {A : Around} {s : Shared} {a : Addr}
theorem IsDct.typ (h : IsDct s.heap a) : s.TypeIs (.ref a) "dict" := by
  obtain ⟨_, n, h⟩ := h
  exact ⟨_, h, rfl⟩
/-- dict.__eq__ declines what is no dict -/
theorem dctDecl {v : Value} {T : String} {E Q : Value → Shared → Prop} (hd : IsDct s.heap a) (hv : s.TypeIs v T) (hs : isSubtype (.type T) (.type "dict") = pure false) (q : Q .notImplemented s) :
    wpAny (model prog w) A (call (.builtin "dict.__eq__") [.ref a, v]) Q E s := by
  refine wpAny_call_entry PySem.F.slot_dict_eq hd.typ PySem.F.entry_dict_eq ?_ (PySem.F.args_dict_eq_2 _ _)
  show wpAny _ _ (Builtin.Dict.dictSlotArgs "__eq__" ⟨[.ref a, v], []⟩ >>= _) _ _ s
  refine wpAny_bind ?_
  unfold Builtin.Dict.dictSlotArgs
  refine wpAny_bind (wpAny_notOrdered_dict hd.typ ?_)
  show wpAny _ _ (pure (Value.ref a, v)) _ _ s
  refine wpAny_pure ?_
  refine wpAny_bind (wpAny_isInstance hv hs ?_)
  simp only [Bool.not_false, if_true]
  exact wpAny_bind (wpAny_rule (wpAny_pure ⟨_, rfl, q⟩))
theorem dctDecl' {v : Value} {T : String} {E Q : Value → Shared → Prop} (hd : IsDct s.heap a) (hv : s.TypeIs v T) (hs : isSubtype (.type T) (.type "dict") = pure false) (q : Q .notImplemented s) :
    wpAny (model prog w) A (call (.builtin "dict.__eq__") [.ref a, v]) Q E s := dctDecl hd hv hs q
theorem rcDctNon (h : IsDct s.heap a) (hu : A.units < cLine) : RcAt A s (.ref a) .none false := fun prog w E Q q => by
  obtain ⟨_, n, hd⟩ := id h
  exact rc_eq_decline_or (k := false) h.typ rfl (by decide) F.sub_NoneType_dict F.slot_dict_eq F.slot_NoneType_eq_refl (fun _ hq => dctDecl h rfl F.sub_NoneType_dict hq)
    (fun _ hq => call_gives F.slot_NoneType_eq_refl rfl F.entry_NoneType_eq (F.args_NoneType_eq_2 _ _) (NoneType___eq___none_ref_0 a) hq) (fun _ hq => wpAny_of_eq (rfl : isSame (.ref a) .none = pure false) hq) (.inr hu) q
theorem rcNonDct (h : IsDct s.heap a) (hu : A.units < cLine) : RcAt A s .none (.ref a) false := fun prog w E Q q => by
  obtain ⟨_, n, hd⟩ := id h
  exact rc_eq_decline_or (k := false) rfl h.typ (by decide) F.sub_dict_NoneType F.slot_NoneType_eq F.slot_dict_eq_refl (fun _ hq => call_gives F.slot_NoneType_eq rfl F.entry_NoneType_eq (F.args_NoneType_eq_2 _ _) (NoneType___eq___none_ref_0 a) hq)
    (fun _ hq => dctDecl' h rfl F.sub_NoneType_dict hq) (fun _ hq => wpAny_of_eq (rfl : isSame .none (.ref a) = pure false) hq) (.inr hu) q
theorem eqDctNon (h : IsDct s.heap a) (hu : A.units < cLine) : EqAt A s (.ref a) .none false := fun prog w E Q q => by
  unfold eqBool; exact wpAny_holding (wpAny_ite_split (fun z => absurd (eq_of_beq z) nofun) fun _ => wpAny_bind (rcDctNon  h hu prog w E _ (wpAny_truthy_bool q)))
theorem eqNonDct (h : IsDct s.heap a) (hu : A.units < cLine) : EqAt A s .none (.ref a) false := fun prog w E Q q => by
  unfold eqBool; exact wpAny_holding (wpAny_ite_split (fun z => absurd (eq_of_beq z) nofun) fun _ => wpAny_bind (rcNonDct  h hu prog w E _ (wpAny_truthy_bool q)))
theorem rcDctBool (b : Bool) (h : IsDct s.heap a) (hu : A.units < cLine) : RcAt A s (.ref a) (.bool b) false := fun prog w E Q q => by
  obtain ⟨_, n, hd⟩ := id h
  exact rc_eq_decline_or (k := false) h.typ rfl (by decide) F.sub_bool_dict F.slot_dict_eq F.slot_bool_eq_refl (fun _ hq => dctDecl h rfl F.sub_bool_dict hq)
    (fun _ hq => call_meets F.slot_bool_eq_refl rfl F.entry_int_eq (F.args_int_eq_2 _ _) (dctBool b a n none #[]) ⟨hd, hq⟩) (fun _ hq => wpAny_of_eq (rfl : isSame (.ref a) (.bool b) = pure false) hq) (.inr hu) q
theorem rcBoolDct (b : Bool) (h : IsDct s.heap a) (hu : A.units < cLine) : RcAt A s (.bool b) (.ref a) false := fun prog w E Q q => by
  obtain ⟨_, n, hd⟩ := id h
  exact rc_eq_decline_or (k := false) rfl h.typ (by decide) F.sub_dict_bool F.slot_bool_eq F.slot_dict_eq_refl (fun _ hq => call_meets F.slot_bool_eq rfl F.entry_int_eq (F.args_int_eq_2 _ _) (dctBool b a n none #[]) ⟨hd, hq⟩)
    (fun _ hq => dctDecl' h rfl F.sub_bool_dict hq) (fun _ hq => wpAny_of_eq (rfl : isSame (.bool b) (.ref a) = pure false) hq) (.inr hu) q
theorem eqDctBool (b : Bool) (h : IsDct s.heap a) (hu : A.units < cLine) : EqAt A s (.ref a) (.bool b) false := fun prog w E Q q => by
  unfold eqBool; exact wpAny_holding (wpAny_ite_split (fun z => absurd (eq_of_beq z) nofun) fun _ => wpAny_bind (rcDctBool b h hu prog w E _ (wpAny_truthy_bool q)))
theorem eqBoolDct (b : Bool) (h : IsDct s.heap a) (hu : A.units < cLine) : EqAt A s (.bool b) (.ref a) false := fun prog w E Q q => by
  unfold eqBool; exact wpAny_holding (wpAny_ite_split (fun z => absurd (eq_of_beq z) nofun) fun _ => wpAny_bind (rcBoolDct b h hu prog w E _ (wpAny_truthy_bool q)))
theorem rcDctInt (i : Int) (t : Tok) (h : IsDct s.heap a) (hu : A.units < cLine) : RcAt A s (.ref a) (.int i t) false := fun prog w E Q q => by
  obtain ⟨_, n, hd⟩ := id h
  exact rc_eq_decline_or (k := false) h.typ (typeIs_int s i t) (by decide) F.sub_int_dict F.slot_dict_eq F.slot_int_eq_refl (fun _ hq => dctDecl h (typeIs_int s i t) F.sub_int_dict hq)
    (fun _ hq => call_meets F.slot_int_eq_refl (typeIs_int s i t) F.entry_int_eq (F.args_int_eq_2 _ _) (dctInt i t a n none #[]) ⟨hd, hq⟩) (fun _ hq => wpAny_of_eq (rfl : isSame (.ref a) (.int i t) = pure false) hq) (.inr hu) q
theorem rcIntDct (i : Int) (t : Tok) (h : IsDct s.heap a) (hu : A.units < cLine) : RcAt A s (.int i t) (.ref a) false := fun prog w E Q q => by
  obtain ⟨_, n, hd⟩ := id h
  exact rc_eq_decline_or (k := false) (typeIs_int s i t) h.typ (by decide) F.sub_dict_int F.slot_int_eq F.slot_dict_eq_refl (fun _ hq => call_meets F.slot_int_eq (typeIs_int s i t) F.entry_int_eq (F.args_int_eq_2 _ _) (dctInt i t a n none #[]) ⟨hd, hq⟩)
    (fun _ hq => dctDecl' h (typeIs_int s i t) F.sub_int_dict hq) (fun _ hq => wpAny_of_eq (rfl : isSame (.int i t) (.ref a) = pure false) hq) (.inr hu) q
theorem eqDctInt (i : Int) (t : Tok) (h : IsDct s.heap a) (hu : A.units < cLine) : EqAt A s (.ref a) (.int i t) false := fun prog w E Q q => by
  unfold eqBool; exact wpAny_holding (wpAny_ite_split (fun z => absurd (eq_of_beq z) nofun) fun _ => wpAny_bind (rcDctInt i t h hu prog w E _ (wpAny_truthy_bool q)))
theorem eqIntDct (i : Int) (t : Tok) (h : IsDct s.heap a) (hu : A.units < cLine) : EqAt A s (.int i t) (.ref a) false := fun prog w E Q q => by
  unfold eqBool; exact wpAny_holding (wpAny_ite_split (fun z => absurd (eq_of_beq z) nofun) fun _ => wpAny_bind (rcIntDct i t h hu prog w E _ (wpAny_truthy_bool q)))
theorem rcDctStr (x : Str) (t : Tok) (h : IsDct s.heap a) (hu : A.units < cLine) : RcAt A s (.ref a) (.str x t) false := fun prog w E Q q => by
  obtain ⟨_, n, hd⟩ := id h
  exact rc_eq_decline_or (k := false) h.typ (typeIs_str s x t) (by decide) F.sub_str_dict F.slot_dict_eq F.slot_str_eq_refl (fun _ hq => dctDecl h (typeIs_str s x t) F.sub_str_dict hq)
    (fun _ hq => call_meets F.slot_str_eq_refl (typeIs_str s x t) F.entry_str_eq (F.args_str_eq_2 _ _) (dctStr x t a n none #[]) ⟨hd, hq⟩) (fun _ hq => wpAny_of_eq (rfl : isSame (.ref a) (.str x t) = pure false) hq) (.inr hu) q
theorem rcStrDct (x : Str) (t : Tok) (h : IsDct s.heap a) (hu : A.units < cLine) : RcAt A s (.str x t) (.ref a) false := fun prog w E Q q => by
  obtain ⟨_, n, hd⟩ := id h
  exact rc_eq_decline_or (k := false) (typeIs_str s x t) h.typ (by decide) F.sub_dict_str F.slot_str_eq F.slot_dict_eq_refl (fun _ hq => call_meets F.slot_str_eq (typeIs_str s x t) F.entry_str_eq (F.args_str_eq_2 _ _) (dctStr x t a n none #[]) ⟨hd, hq⟩)
    (fun _ hq => dctDecl' h (typeIs_str s x t) F.sub_str_dict hq) (fun _ hq => wpAny_of_eq (rfl : isSame (.str x t) (.ref a) = pure false) hq) (.inr hu) q
theorem eqDctStr (x : Str) (t : Tok) (h : IsDct s.heap a) (hu : A.units < cLine) : EqAt A s (.ref a) (.str x t) false := fun prog w E Q q => by
  unfold eqBool; exact wpAny_holding (wpAny_ite_split (fun z => absurd (eq_of_beq z) nofun) fun _ => wpAny_bind (rcDctStr x t h hu prog w E _ (wpAny_truthy_bool q)))
theorem eqStrDct (x : Str) (t : Tok) (h : IsDct s.heap a) (hu : A.units < cLine) : EqAt A s (.str x t) (.ref a) false := fun prog w E Q q => by
  unfold eqBool; exact wpAny_holding (wpAny_ite_split (fun z => absurd (eq_of_beq z) nofun) fun _ => wpAny_bind (rcStrDct x t h hu prog w E _ (wpAny_truthy_bool q)))
theorem dct_ne_Lst {l : Addr} {its : Array Value} (h : IsDct s.heap a) (hl : s.heap.IsList l its) : a ≠ l := fun e => by
  subst e
  obtain ⟨_, n, hd⟩ := h
  obtain ⟨o, ho, hc, _⟩ := hl
  rw [hd] at ho
  cases ho
  exact absurd hc (by simp)
theorem rcDctLst {l : Addr} {its : Array Value} (h : IsDct s.heap a) (hl : s.heap.IsList l its) (hu : A.units < cLine) : RcAt A s (.ref a) (.ref l) false := fun prog w E Q q => by
  have ne := dct_ne_Lst h hl
  obtain ⟨_, n, hd⟩ := id h
  obtain ⟨⟨c2, d2, data2, s2⟩, ho, hc, m, he⟩ := id hl
  simp only at hc he
  subst hc he
  have tl : s.TypeIs (.ref l) "list" := ⟨_, ho, rfl⟩
  exact rc_eq_decline_or (k := false) h.typ tl (by decide) F.sub_list_dict F.slot_dict_eq F.slot_list_eq_refl (fun _ hq => dctDecl h tl F.sub_list_dict hq)
    (fun _ hq => call_meets F.slot_list_eq_refl tl F.entry_list_eq (F.args_list_eq_2 _ _) (dctLst l a its n m none d2 #[] s2) ⟨ho, hd, hq⟩) (fun _ hq => wpAny_isSame_ref_other (ne) (hd) (ho) (by simp) hq) (.inr hu) q
theorem rcLstDct {l : Addr} {its : Array Value} (h : IsDct s.heap a) (hl : s.heap.IsList l its) (hu : A.units < cLine) : RcAt A s (.ref l) (.ref a) false := fun prog w E Q q => by
  have ne := dct_ne_Lst h hl
  obtain ⟨_, n, hd⟩ := id h
  obtain ⟨⟨c2, d2, data2, s2⟩, ho, hc, m, he⟩ := id hl
  simp only at hc he
  subst hc he
  have tl : s.TypeIs (.ref l) "list" := ⟨_, ho, rfl⟩
  exact rc_eq_decline_or (k := false) tl h.typ (by decide) F.sub_dict_list F.slot_list_eq F.slot_dict_eq_refl
    (fun _ hq => call_meets F.slot_list_eq tl F.entry_list_eq (F.args_list_eq_2 _ _) (dctLst l a its n m none d2 #[] s2) ⟨ho, hd, hq⟩) (fun _ hq => dctDecl' h tl F.sub_list_dict hq) (fun _ hq => wpAny_isSame_ref_other' (ne.symm) (ho) (hd) (by simp) hq) (.inr hu) q
theorem eqDctLst {l : Addr} {its : Array Value} (h : IsDct s.heap a) (hl : s.heap.IsList l its) (hu : A.units < cLine) : EqAt A s (.ref a) (.ref l) false := .of_refs (dct_ne_Lst h hl) (rcDctLst h hl hu)
theorem eqLstDct {l : Addr} {its : Array Value} (h : IsDct s.heap a) (hl : s.heap.IsList l its) (hu : A.units < cLine) : EqAt A s (.ref l) (.ref a) false := .of_refs (dct_ne_Lst h hl).symm (rcLstDct h hl hu)
theorem dct_ne_Tup {l : Addr} {its : Array Value} (h : IsDct s.heap a) (hl : s.heap.IsTuple l its) : a ≠ l := fun e => by
  subst e
  obtain ⟨_, n, hd⟩ := h
  obtain ⟨o, ho, hc, _⟩ := hl
  rw [hd] at ho
  cases ho
  exact absurd hc (by simp)
theorem rcDctTup {l : Addr} {its : Array Value} (h : IsDct s.heap a) (hl : s.heap.IsTuple l its) (hu : A.units < cLine) : RcAt A s (.ref a) (.ref l) false := fun prog w E Q q => by
  have ne := dct_ne_Tup h hl
  obtain ⟨_, n, hd⟩ := id h
  obtain ⟨⟨c2, d2, data2, s2⟩, ho, hc, m, he⟩ := id hl
  simp only at hc he
  subst hc he
  have tl : s.TypeIs (.ref l) "tuple" := ⟨_, ho, rfl⟩
  exact rc_eq_decline_or (k := false) h.typ tl (by decide) F.sub_tuple_dict F.slot_dict_eq F.slot_tuple_eq_refl (fun _ hq => dctDecl h tl F.sub_tuple_dict hq)
    (fun _ hq => call_meets F.slot_tuple_eq_refl tl F.entry_tuple_eq (F.args_tuple_eq_2 _ _) (dctTup l a its n m none d2 #[] s2) ⟨ho, hd, hq⟩) (fun _ hq => wpAny_isSame_ref_other (ne) (hd) (ho) (by simp) hq) (.inr hu) q
theorem rcTupDct {l : Addr} {its : Array Value} (h : IsDct s.heap a) (hl : s.heap.IsTuple l its) (hu : A.units < cLine) : RcAt A s (.ref l) (.ref a) false := fun prog w E Q q => by
  have ne := dct_ne_Tup h hl
  obtain ⟨_, n, hd⟩ := id h
  obtain ⟨⟨c2, d2, data2, s2⟩, ho, hc, m, he⟩ := id hl
  simp only at hc he
  subst hc he
  have tl : s.TypeIs (.ref l) "tuple" := ⟨_, ho, rfl⟩
  exact rc_eq_decline_or (k := false) tl h.typ (by decide) F.sub_dict_tuple F.slot_tuple_eq F.slot_dict_eq_refl
    (fun _ hq => call_meets F.slot_tuple_eq tl F.entry_tuple_eq (F.args_tuple_eq_2 _ _) (dctTup l a its n m none d2 #[] s2) ⟨ho, hd, hq⟩) (fun _ hq => dctDecl' h tl F.sub_tuple_dict hq) (fun _ hq => wpAny_isSame_ref_other' (ne.symm) (ho) (hd) (by simp) hq) (.inr hu) q
theorem eqDctTup {l : Addr} {its : Array Value} (h : IsDct s.heap a) (hl : s.heap.IsTuple l its) (hu : A.units < cLine) : EqAt A s (.ref a) (.ref l) false := .of_refs (dct_ne_Tup h hl) (rcDctTup h hl hu)
theorem eqTupDct {l : Addr} {its : Array Value} (h : IsDct s.heap a) (hl : s.heap.IsTuple l its) (hu : A.units < cLine) : EqAt A s (.ref l) (.ref a) false := .of_refs (dct_ne_Tup h hl).symm (rcTupDct h hl hu)
theorem rcDctDct {b : Addr} (h : IsDct s.heap a) (g : IsDct s.heap b) (hu : A.units < cLine) : RcAt A s (.ref a) (.ref b) true := fun prog w E Q q => by
  obtain ⟨ha, n, hd⟩ := id h
  obtain ⟨hb, m, he⟩ := id g
  have da : s.heap.DictOf (L2.mixKind prog w) a [] := ⟨_, #[], n, hd, ⟨rfl, rfl, rfl⟩, rfl, fun e hm => absurd hm (by simp), .nil, List.nodup_nil⟩
  have db : s.heap.DictOf (L2.mixKind prog w) b [] := ⟨_, #[], m, he, ⟨rfl, rfl, rfl⟩, rfl, fun e hm => absurd hm (by simp), .nil, List.nodup_nil⟩
  exact PySem.W.rcP_dicts (r := true) ha hb da db hu (fun _ => .nil) E Q q
theorem eqDctDct {b : Addr} (h : IsDct s.heap a) (g : IsDct s.heap b) (hu : A.units < cLine) : EqAt A s (.ref a) (.ref b) true := by
  by_cases e : a = b
  · subst e
    exact EqAt.same _
  · exact .of_refs e (rcDctDct h g hu)
end
end Q
end
section
set_option linter.all false
set_option autoImplicit false
set_option maxHeartbeats 1000000
/-! == and in by data among which empty dicts may stand. -/
namespace Q
open PySem PySem.Spec PySem.SeqAt PyProof.Rows L2
theorem dat_tup {n : Nat} {xs : List D} (h : dat n (.tup xs) = true) : ∃ m, n = m + 1 ∧ dats m xs = true := by
  cases n with
  | zero => simp [dat] at h
  | succ m => exact ⟨m, rfl, by simpa [dat] using h⟩
theorem dat_lst {n : Nat} {o : Bool} {xs : List D} (h : dat n (.lst o xs) = true) : ∃ m, n = m + 1 ∧ dats m xs = true := by
  cases n with
  | zero => simp [dat] at h
  | succ m => exact ⟨m, rfl, by simpa [dat] using h⟩
/-! ### what the heap says -/
mutual
inductive Rq (h : Heap) : Value → D → Prop
  | non : Rq h .none .non
  | bl (b : Bool) : Rq h (.bool b) (.bl b)
  | int (i : Int) (t : Tok) : Rq h (.int i t) (.int i)
  | str (x : Str) (t : Tok) : Rq h (.str x t) (.str x.cps.toList)
  | lst {a : Addr} {its : List Value} {o : Bool} {ds : List D} : h.IsList a its.toArray → Rqs h its ds → Rq h (.ref a) (.lst o ds)
  | tup {a : Addr} {its : List Value} {ds : List D} : h.IsTuple a its.toArray → Rqs h its ds → Rq h (.ref a) (.tup ds)
  | dct {a : Addr} {o : Bool} : IsDct h a → Rq h (.ref a) (.dct o [] [])
inductive Rqs (h : Heap) : List Value → List D → Prop
  | nil : Rqs h [] []
  | cons {v : Value} {vs : List Value} {d : D} {ds : List D} : Rq h v d → Rqs h vs ds → Rqs h (v :: vs) (d :: ds)
end
theorem Rqs.length {h : Heap} : ∀ {vs : List Value} {ds : List D}, Rqs h vs ds → vs.length = ds.length
  | _, _, .nil => rfl
  | _, _, .cons _ t => by rw [List.length_cons, List.length_cons, Rqs.length t]
theorem isList_inj {h : Heap} {a : Addr} {x y : Array Value} (p : h.IsList a x) (q : h.IsList a y) : x = y := by
  obtain ⟨o, h1, _, n, h2⟩ := p
  obtain ⟨u, g1, _, m, g2⟩ := q
  rw [h1] at g1; cases g1
  rw [h2] at g2; injection g2
theorem isTup_inj {h : Heap} {a : Addr} {x y : Array Value} (p : h.IsTuple a x) (q : h.IsTuple a y) : x = y := by
  obtain ⟨o, h1, _, n, h2⟩ := p
  obtain ⟨u, g1, _, m, g2⟩ := q
  rw [h1] at g1; cases g1
  rw [h2] at g2; injection g2
theorem no_lt {h : Heap} {a : Addr} {x y : Array Value} (p : h.IsList a x) (q : h.IsTuple a y) : False := by
  obtain ⟨o, h1, c1, _⟩ := p
  obtain ⟨u, g1, c2, _⟩ := q
  rw [h1] at g1; cases g1
  rw [c1] at c2; exact absurd c2 (by simp)
theorem no_dl {h : Heap} {a : Addr} {x : Array Value} (p : IsDct h a) (q : h.IsList a x) : False := by
  obtain ⟨_, n, h1⟩ := p
  obtain ⟨u, g1, c2, _⟩ := q
  rw [h1] at g1; cases g1
  exact absurd c2 (by simp)
theorem no_dt {h : Heap} {a : Addr} {x : Array Value} (p : IsDct h a) (q : h.IsTuple a x) : False := by
  obtain ⟨_, n, h1⟩ := p
  obtain ⟨u, g1, c2, _⟩ := q
  rw [h1] at g1; cases g1
  exact absurd c2 (by simp)
theorem arr_inj {x y : List Value} (h : x.toArray = y.toArray) : x = y := by simpa using congrArg Array.toList h
/-! one and the same thing -/
mutual
theorem Rq.same {h : Heap} : ∀ {v : Value} {d e : D}, Rq h v d → Rq h v e → eqv d e = true
  | _, _, _, .non, .non => rfl
  | _, _, _, .bl b, .bl _ => by simp [eqv]
  | _, _, _, .int i _, .int _ _ => by simp [eqv]
  | _, _, _, .str x _, .str _ _ => by simp [eqv]
  | _, _, _, .lst p r, .lst q t => by
    cases arr_inj (isList_inj p q)
    simp only [eqv]
    exact Rqs.same r t
  | _, _, _, .lst p r, .tup q t => (no_lt p q).elim
  | _, _, _, .lst p r, .dct q => (no_dl q p).elim
  | _, _, _, .tup p r, .tup q t => by
    cases arr_inj (isTup_inj p q)
    simp only [eqv]
    exact Rqs.same r t
  | _, _, _, .tup p r, .lst q t => (no_lt q p).elim
  | _, _, _, .tup p r, .dct q => (no_dt q p).elim
  | _, _, _, .dct p, .dct q => rfl
  | _, _, _, .dct p, .lst q _ => (no_dl p q).elim
  | _, _, _, .dct p, .tup q _ => (no_dt p q).elim
theorem Rqs.same {h : Heap} : ∀ {vs : List Value} {ds es : List D}, Rqs h vs ds → Rqs h vs es → eqvs ds es = true
  | _, _, _, .nil, .nil => rfl
  | _, _, _, .cons a b, .cons c d => by rw [eqvs, Rq.same a c, Rqs.same b d]; rfl
end
/-! side by side -/
def par2 (xs ys : List D) (j : Nat) : Bool := eqv (xs.getD j .non) (ys.getD j .non)
theorem eqvs_min : ∀ xs ys : List D, ((List.range (min xs.length ys.length)).all (par2 xs ys) && xs.length == ys.length) = eqvs xs ys
  | [], [] => rfl
  | [], _ :: _ => by simp [eqvs]
  | _ :: _, [] => by simp [eqvs]
  | x :: xs, y :: ys => by
    rw [show min (x :: xs).length (y :: ys).length = min xs.length ys.length + 1 by simp only [List.length_cons]; omega, List.range_succ_eq_map, List.all_cons, List.all_map, eqvs, ← eqvs_min xs ys,
      show ((x :: xs).length == (y :: ys).length) = (xs.length == ys.length) by simp, Bool.and_assoc]
    rfl
theorem eqvs_len {xs ys : List D} (h : xs.length = ys.length) : (List.range xs.length).all (par2 xs ys) = eqvs xs ys := by
  have := eqvs_min xs ys
  rw [← h, Nat.min_self] at this
  simpa using this
theorem eqvs_ne {xs ys : List D} (h : xs.length ≠ ys.length) : eqvs xs ys = false := by
  rw [← eqvs_min xs ys]
  simp [h]
section
variable {s : Shared}
mutual
theorem Rq.eqAt : ∀ {v u : Value} {d e : D} (n : Nat) (A : Around), Rq s.heap v d → Rq s.heap u e → dat n d = true → A.units + n < cLine → EqAt A s v u (eqv d e)
  | _, _, _, _, n, A, .non, ru, _, hu => by
    have hu' : A.units < cLine := by omega
    cases ru with
    | non => exact EqAt.same _
    | bl b => exact EqAt.none_bool b
    | int i t => exact EqAt.none_int i t
    | str x t => exact EqAt.none_str x t
    | lst p _ => exact EqAt.none_list p hu'
    | tup p _ => exact EqAt.none_tuple p hu'
    | dct p => exact eqNonDct p hu'
  | _, _, _, _, n, A, .bl b, ru, _, hu => by
    have hu' : A.units < cLine := by omega
    cases ru with
    | non => exact EqAt.bool_none b
    | bl c => exact EqAt.bool_bool b c
    | int i t => exact EqAt.bool_int b i t
    | str x t => exact EqAt.bool_str b x t
    | lst p _ => exact EqAt.bool_list b p hu'
    | tup p _ => exact EqAt.bool_tuple b p hu'
    | dct p => exact eqBoolDct b p hu'
  | _, _, _, _, n, A, .int k t, ru, _, hu => by
    have hu' : A.units < cLine := by omega
    cases ru with
    | non => exact EqAt.int_none k t
    | bl c => exact EqAt.int_bool k t c
    | int i u => exact EqAt.int_int k t i u
    | str x u => exact EqAt.int_str k t x u
    | lst p _ => exact EqAt.int_list k t p hu'
    | tup p _ => exact EqAt.int_tuple k t p hu'
    | dct p => exact eqIntDct k t p hu'
  | _, _, _, _, n, A, .str x t, ru, _, hu => by
    have hu' : A.units < cLine := by omega
    cases ru with
    | non => exact EqAt.str_none x t
    | bl c => exact EqAt.str_bool x t c
    | int i u => exact EqAt.str_int x t i u
    | str y u =>
      have := EqAt.str_str (A := A) (s := s) x t y u
      simp only [eqv]
      rw [← str_eq]
      exact this
    | lst p _ => exact EqAt.str_list x t p hu'
    | tup p _ => exact EqAt.str_tuple x t p hu'
    | dct p => exact eqStrDct x t p hu'
  | _, _, _, _, n, A, .lst (a := l) (its := its) (ds := ds) hl r, ru, hd, hu => by
    have hu' : A.units < cLine := by omega
    obtain ⟨m, rfl, e⟩ := dat_lst hd
    cases ru with
    | non => exact EqAt.list_none hl hu'
    | bl c => exact EqAt.list_bool c hl hu'
    | int i u => exact EqAt.list_int i u hl hu'
    | str y u => exact EqAt.list_str y u hl hu'
    | tup p _ => exact EqAt.list_tuple hl p hu'
    | dct p => exact eqLstDct p hl hu'
    | @lst b its2 o2 ds2 p t =>
      simp only [eqv]
      by_cases q : l = b
      · subst q
        have : Rq s.heap (.ref l) (.lst true ds) := .lst hl r
        have := Rq.same this (.lst (o := true) p t)
        simp only [eqv] at this
        rw [this]
        exact EqAt.same _
      · have n1 := r.length
        have n2 := t.length
        by_cases z : its.length = its2.length
        · rw [← eqvs_len (by omega), ← n1]
          have := EqAt.of_refs q (RcAt.lists (e := par2 ds ds2) hl p (by simpa using z) hu' fun j h1 h2 => by
            have := Rqs.eqAt m A.in1 r t e (by show A.units + 1 + m < cLine; omega) j (by simpa using h1) (by simpa using h2)
            simpa using this)
          simpa using this
        · rw [eqvs_ne (by omega)]
          exact EqAt.of_refs q (RcAt.lists_lengths hl p (by simpa using z) hu')
  | _, _, _, _, n, A, .tup (a := l) (its := its) (ds := ds) hl r, ru, hd, hu => by
    have hu' : A.units < cLine := by omega
    obtain ⟨m, rfl, e⟩ := dat_tup hd
    cases ru with
    | non => exact EqAt.tuple_none hl hu'
    | bl c => exact EqAt.tuple_bool c hl hu'
    | int i u => exact EqAt.tuple_int i u hl hu'
    | str y u => exact EqAt.tuple_str y u hl hu'
    | lst p _ => exact EqAt.tuple_list hl p hu'
    | dct p => exact eqTupDct p hl hu'
    | @tup b its2 ds2 p t =>
      simp only [eqv]
      by_cases q : l = b
      · subst q
        have : Rq s.heap (.ref l) (.tup ds) := .tup hl r
        have := Rq.same this (.tup p t)
        simp only [eqv] at this
        rw [this]
        exact EqAt.same _
      · have n1 := r.length
        have n2 := t.length
        rw [← eqvs_min, ← n1, ← n2]
        have := EqAt.of_refs q (RcAt.tuples (e := par2 ds ds2) hl p hu' fun j h1 h2 => by
          have := Rqs.eqAt m A.in1 r t e (by show A.units + 1 + m < cLine; omega) j (by simpa using h1) (by simpa using h2)
          simpa using this)
        simpa using this
  | _, _, _, _, n, A, .dct hl, ru, hd, hu => by
    have hu' : A.units < cLine := by omega
    cases ru with
    | non => exact eqDctNon hl hu'
    | bl c => exact eqDctBool c hl hu'
    | int i u => exact eqDctInt i u hl hu'
    | str y u => exact eqDctStr y u hl hu'
    | lst p _ => exact eqDctLst hl p hu'
    | tup p _ => exact eqDctTup hl p hu'
    | dct p => exact eqDctDct hl p hu'
theorem Rqs.eqAt : ∀ {vs us : List Value} {ds es : List D} (n : Nat) (A : Around), Rqs s.heap vs ds → Rqs s.heap us es → dats n ds = true → A.units + n < cLine → ∀ j (h1 : j < vs.length) (h2 : j < us.length), EqAt A s vs[j] us[j] (par2 ds es j)
  | _, _, _, _, n, A, .nil, _, _, _, j, h1, _ => absurd h1 (Nat.not_lt_zero j)
  | _, _, _, _, n, A, .cons _ _, .nil, _, _, j, _, h2 => absurd h2 (Nat.not_lt_zero j)
  | _, _, _, _, n, A, .cons a b, .cons c d, e, hu, 0, _, _ => by
    rw [dats, Bool.and_eq_true] at e
    exact Rq.eqAt n A a c e.1 hu
  | _, _, _, _, n, A, .cons a b, .cons c d, e, hu, j + 1, h1, h2 => by
    rw [dats, Bool.and_eq_true] at e
    exact Rqs.eqAt n A b d e.2 hu j (Nat.lt_of_succ_lt_succ h1) (Nat.lt_of_succ_lt_succ h2)
end
theorem Rq.rcAt {v u : Value} {d e : D} (n : Nat) (A : Around) (rv : Rq s.heap v d) (ru : Rq s.heap u e) (hd : dat n d = true) (hu' : A.units + n < cLine) : RcAt A s v u (eqv d e) := by
  have hu : A.units < cLine := by omega
  cases rv with
  | non =>
    cases ru with
    | non => exact RcAt.none_none  
    | bl c => exact RcAt.none_bool  c
    | int i u => exact RcAt.none_int  i u
    | str y u => exact RcAt.none_str  y u
    | lst p _ => exact RcAt.none_list  p hu
    | tup p _ => exact RcAt.none_tuple  p hu
    | dct p => exact rcNonDct  p hu
  | bl b =>
    cases ru with
    | non => exact RcAt.bool_none b 
    | bl c => exact RcAt.bool_bool b c
    | int i u => exact RcAt.bool_int b i u
    | str y u => exact RcAt.bool_str b y u
    | lst p _ => exact RcAt.bool_list b p hu
    | tup p _ => exact RcAt.bool_tuple b p hu
    | dct p => exact rcBoolDct b p hu
  | int k t =>
    cases ru with
    | non => exact RcAt.int_none k t 
    | bl c => exact RcAt.int_bool k t c
    | int i u => exact RcAt.int_int k t i u
    | str y u => exact RcAt.int_str k t y u
    | lst p _ => exact RcAt.int_list k t p hu
    | tup p _ => exact RcAt.int_tuple k t p hu
    | dct p => exact rcIntDct k t p hu
  | str x t =>
    cases ru with
    | non => exact RcAt.str_none x t 
    | bl c => exact RcAt.str_bool x t c
    | int i u => exact RcAt.str_int x t i u
    | str y u =>
      have := RcAt.str_str (A := A) (s := s) x t y u
      simp only [eqv]
      rw [← str_eq]
      exact this
    | lst p _ => exact RcAt.str_list x t p hu
    | tup p _ => exact RcAt.str_tuple x t p hu
    | dct p => exact rcStrDct x t p hu
  | @lst l its o ds hl r =>
    obtain ⟨m, rfl, e⟩ := dat_lst hd
    cases ru with
    | non => exact RcAt.list_none  hl hu
    | bl c => exact RcAt.list_bool c hl hu
    | int i u => exact RcAt.list_int i u hl hu
    | str y u => exact RcAt.list_str y u hl hu
    | tup p _ => exact RcAt.list_tuple hl p hu
    | dct p => exact rcLstDct p hl hu
    | @lst b its2 o2 ds2 p t =>
      have n1 := r.length
      have n2 := t.length
      simp only [eqv]
      by_cases z : its.length = its2.length
      · rw [← eqvs_len (by omega), ← n1]
        have := RcAt.lists (e := par2 ds ds2) hl p (by simpa using z) hu fun j h1 h2 => by
          have := Rqs.eqAt m A.in1 r t e (by show A.units + 1 + m < cLine; omega) j (by simpa using h1) (by simpa using h2)
          simpa using this
        simpa using this
      · rw [eqvs_ne (by omega)]
        exact RcAt.lists_lengths hl p (by simpa using z) hu
  | @tup l its ds hl r =>
    obtain ⟨m, rfl, e⟩ := dat_tup hd
    cases ru with
    | non => exact RcAt.tuple_none  hl hu
    | bl c => exact RcAt.tuple_bool c hl hu
    | int i u => exact RcAt.tuple_int i u hl hu
    | str y u => exact RcAt.tuple_str y u hl hu
    | lst p _ => exact RcAt.tuple_list hl p hu
    | dct p => exact rcTupDct p hl hu
    | @tup b its2 ds2 p t =>
      have n1 := r.length
      have n2 := t.length
      simp only [eqv]
      rw [← eqvs_min, ← n1, ← n2]
      have := RcAt.tuples (e := par2 ds ds2) hl p hu fun j h1 h2 => by
        have := Rqs.eqAt m A.in1 r t e (by show A.units + 1 + m < cLine; omega) j (by simpa using h1) (by simpa using h2)
        simpa using this
      simpa using this
  | dct hl =>
    cases ru with
    | non => exact rcDctNon hl hu
    | bl c => exact rcDctBool c hl hu
    | int i u => exact rcDctInt i u hl hu
    | str y u => exact rcDctStr y u hl hu
    | lst p _ => exact rcDctLst hl p hu
    | tup p _ => exact rcDctTup hl p hu
    | dct p => exact rcDctDct hl p hu
theorem Rq.neAt {v u : Value} {d e : D} (n : Nat) (A : Around) (rv : Rq s.heap v d) (ru : Rq s.heap u e) (hd : dat n d = true) (nd : isDc d = false) (ne : isDc e = false) (hu' : A.units + n < cLine) : RcNeAt A s v u (!eqv d e) := by
  have hu : A.units < cLine := by omega
  cases rv with
  | non =>
    cases ru with
    | non => exact RcNeAt.none_none  
    | bl c => exact RcNeAt.none_bool  c
    | int i u => exact RcNeAt.none_int  i u
    | str y u => exact RcNeAt.none_str  y u
    | lst p _ => exact RcNeAt.none_list  p hu
    | tup p _ => exact RcNeAt.none_tuple  p hu
    | dct p => cases ne
  | bl b =>
    cases ru with
    | non => exact RcNeAt.bool_none b 
    | bl c => exact RcNeAt.bool_bool b c
    | int i u => exact RcNeAt.bool_int b i u
    | str y u => exact RcNeAt.bool_str b y u
    | lst p _ => exact RcNeAt.bool_list b p hu
    | tup p _ => exact RcNeAt.bool_tuple b p hu
    | dct p => cases ne
  | int k t =>
    cases ru with
    | non => exact RcNeAt.int_none k t 
    | bl c => exact RcNeAt.int_bool k t c
    | int i u => exact RcNeAt.int_int k t i u
    | str y u => exact RcNeAt.int_str k t y u
    | lst p _ => exact RcNeAt.int_list k t p hu
    | tup p _ => exact RcNeAt.int_tuple k t p hu
    | dct p => cases ne
  | str x t =>
    cases ru with
    | non => exact RcNeAt.str_none x t 
    | bl c => exact RcNeAt.str_bool x t c
    | int i u => exact RcNeAt.str_int x t i u
    | str y u =>
      have := RcNeAt.str_str (A := A) (s := s) x t y u
      simp only [eqv]
      rw [← str_eq]
      exact this
    | lst p _ => exact RcNeAt.str_list x t p hu
    | tup p _ => exact RcNeAt.str_tuple x t p hu
    | dct p => cases ne
  | @lst l its o ds hl r =>
    obtain ⟨m, rfl, e⟩ := dat_lst hd
    cases ru with
    | non => exact RcNeAt.list_none  hl hu
    | bl c => exact RcNeAt.list_bool c hl hu
    | int i u => exact RcNeAt.list_int i u hl hu
    | str y u => exact RcNeAt.list_str y u hl hu
    | tup p _ => exact RcNeAt.list_tuple hl p hu
    | dct p => cases ne
    | @lst b its2 o2 ds2 p t =>
      have n1 := r.length
      have n2 := t.length
      simp only [eqv]
      by_cases z : its.length = its2.length
      · rw [← eqvs_len (by omega), ← n1]
        have := RcNeAt.lists (e := par2 ds ds2) hl p (by simpa using z) hu fun j h1 h2 => by
          have := Rqs.eqAt m A.in1 r t e (by show A.units + 1 + m < cLine; omega) j (by simpa using h1) (by simpa using h2)
          simpa using this
        simpa using this
      · rw [eqvs_ne (by omega)]
        exact RcNeAt.lists_lengths hl p (by simpa using z) hu
  | @tup l its ds hl r =>
    obtain ⟨m, rfl, e⟩ := dat_tup hd
    cases ru with
    | non => exact RcNeAt.tuple_none  hl hu
    | bl c => exact RcNeAt.tuple_bool c hl hu
    | int i u => exact RcNeAt.tuple_int i u hl hu
    | str y u => exact RcNeAt.tuple_str y u hl hu
    | lst p _ => exact RcNeAt.tuple_list hl p hu
    | dct p => cases ne
    | @tup b its2 ds2 p t =>
      have n1 := r.length
      have n2 := t.length
      simp only [eqv]
      rw [← eqvs_min, ← n1, ← n2]
      have := RcNeAt.tuples (e := par2 ds ds2) hl p hu fun j h1 h2 => by
        have := Rqs.eqAt m A.in1 r t e (by show A.units + 1 + m < cLine; omega) j (by simpa using h1) (by simpa using h2)
        simpa using this
      simpa using this
  | dct hl => cases nd
/-! in -/
theorem Rqs.any : ∀ {vs : List Value} {ds : List D} (f : D → Bool) (g : Value → Bool), Rqs s.heap vs ds → (∀ v d, v ∈ vs → d ∈ ds → Rq s.heap v d → g v = f d) → vs.any g = ds.any f
  | _, _, _, _, .nil, _ => rfl
  | _, _, f, g, .cons a b, k => by
    rw [List.any_cons, List.any_cons, k _ _ List.mem_cons_self List.mem_cons_self a, Rqs.any f g b fun v d h1 h2 => k v d (List.mem_cons_of_mem _ h1) (List.mem_cons_of_mem _ h2)]
open Classical in
/-- what a value is, as data -/
noncomputable def rdOf (s : Shared) (v : Value) (x : D) : Bool := if h : ∃ d, Rq s.heap v d then eqv h.choose x else false
mutual
theorem eqv_l {h : Heap} : ∀ {v : Value} {d e : D}, Rq h v d → Rq h v e → ∀ x, eqv d x = eqv e x
  | _, _, _, .non, .non, x => rfl
  | _, _, _, .bl b, .bl _, x => rfl
  | _, _, _, .int i _, .int _ _, x => rfl
  | _, _, _, .str y _, .str _ _, x => rfl
  | _, _, _, .lst p r, .lst q t, x => by
    cases arr_inj (isList_inj p q)
    cases x <;> first | rfl | (simp only [eqv]; exact eqvs_l r t _)
  | _, _, _, .lst p r, .tup q t, x => (no_lt p q).elim
  | _, _, _, .lst p r, .dct q, x => (no_dl q p).elim
  | _, _, _, .tup p r, .tup q t, x => by
    cases arr_inj (isTup_inj p q)
    cases x <;> first | rfl | (simp only [eqv]; exact eqvs_l r t _)
  | _, _, _, .tup p r, .lst q t, x => (no_lt q p).elim
  | _, _, _, .tup p r, .dct q, x => (no_dt q p).elim
  | _, _, _, .dct p, .dct q, x => by cases x <;> rfl
  | _, _, _, .dct p, .lst q _, x => (no_dl p q).elim
  | _, _, _, .dct p, .tup q _, x => (no_dt p q).elim
theorem eqvs_l {h : Heap} : ∀ {vs : List Value} {ds es : List D}, Rqs h vs ds → Rqs h vs es → ∀ xs, eqvs ds xs = eqvs es xs
  | _, _, _, .nil, .nil, _ => rfl
  | _, _, _, .cons a b, .cons c d, [] => rfl
  | _, _, _, .cons a b, .cons c d, x :: xs => by rw [eqvs, eqvs, eqv_l a c x, eqvs_l b d xs]
end
theorem rdOf_eq {v : Value} {d x : D} (h : Rq s.heap v d) : rdOf s v x = eqv d x := by
  have : ∃ d, Rq s.heap v d := ⟨d, h⟩
  rw [rdOf, dif_pos this]
  exact eqv_l this.choose_spec h x
theorem Rqs.mem {h : Heap} : ∀ {vs : List Value} {ds : List D} {n : Nat}, Rqs h vs ds → dats n ds = true → ∀ v ∈ vs, ∃ d, Rq h v d ∧ dat n d = true
  | _, _, _, .nil, _, _, h => nomatch h
  | _, _, _, .cons a b, e, v, h => by
    rw [dats, Bool.and_eq_true] at e
    rcases List.mem_cons.mp h with rfl | h
    · exact ⟨_, a, e.1⟩
    · exact Rqs.mem b e.2 v h
theorem Rqs.items {vs : List Value} {ds : List D} {u : Value} {x : D} {n : Nat} {A : Around} (r : Rqs s.heap vs ds) (rx : Rq s.heap u x) (h : dats n ds = true) (hu : A.units + 1 + n < cLine) : ∀ y, y ∈ vs.toArray → EqAt A.in1 s y u (rdOf s y x) := fun y hy => by
  obtain ⟨d, rd, hd⟩ := r.mem h y (by simpa using hy)
  rw [rdOf_eq rd]
  exact Rq.eqAt n A.in1 rd rx hd (by show A.units + 1 + n < cLine; omega)
theorem Rqs.anyOf {vs : List Value} {ds : List D} {x : D} (r : Rqs s.heap vs ds) : vs.toArray.any (fun y => rdOf s y x) = ds.any fun z => eqv z x := by
  rw [← Array.any_toList]
  exact r.any _ _ fun v d _ _ h => rdOf_eq h
end
/-! ### by values -/
mutual
inductive Dq (K : PySem.W.Frag) (H : Hp) : V → D → Prop
  | non : Dq K H .non .non
  | bl (b : Bool) : Dq K H (.bl b) (.bl b)
  | int (i : Int) : Dq K H (.int i) (.int i)
  | str (x : Str) : Dq K H (.str x) (.str x.cps.toList)
  | lst {a : Addr} {vs : List V} {o : Bool} {ds : List D} : SqL K H a vs → Dqs K H vs ds → Dq K H (.ref a) (.lst o ds)
  | tup {a : Addr} {vs : List V} {ds : List D} : SqT K H a vs → Dqs K H vs ds → Dq K H (.ref a) (.tup ds)
  | dct {a : Addr} {o : Bool} : H a = some (.dK []) → Dq K H (.ref a) (.dct o [] [])
inductive Dqs (K : PySem.W.Frag) (H : Hp) : List V → List D → Prop
  | nil : Dqs K H [] []
  | cons {v : V} {vs : List V} {d : D} {ds : List D} : Dq K H v d → Dqs K H vs ds → Dqs K H (v :: vs) (d :: ds)
end
section
variable {X : Cx} {pins : List (Addr × Obj)} {σ : L2.St} {H : Hp} {s : Shared}
theorem dct_of (I : Inv X pins σ H s) {a : Addr} (h : H a = some (.dK [])) : IsDct s.heap a := by
  obtain ⟨_, ya, va, ra, da⟩ := (show ObjOk X.prog X.w H s.heap a (.dK []) from I.hok a _ h)
  cases ra
  obtain ⟨⟨c, dd, dt, sl⟩, es, ep, ho, ⟨h1, h2, h3⟩, hd, _, hp, _⟩ := da
  have e : es = #[] := by
    have := hp.length
    exact Array.eq_empty_of_size_eq_zero (by simpa using this)
  simp only at h1 h2 h3 hd
  subst h1 h2 h3 hd e
  exact ⟨ya, ep, ho⟩
mutual
theorem Dq.rq (I : Inv X pins σ H s) : ∀ {v : V} {d : D} {u : Value}, Dq X.K H v d → RelV v u → Rq s.heap u d
  | _, _, _, .non, r => by cases r; exact .non
  | _, _, _, .bl b, r => by cases r; exact .bl b
  | _, _, _, .int i, r => by obtain ⟨t, rfl⟩ := r; exact .int i t
  | _, _, _, .str x, r => by obtain ⟨t, rfl⟩ := r; exact .str x t
  | _, _, _, .lst h k, r => by
    cases r
    obtain ⟨its, rv, ⟨o, n, ho, hc, _, hd⟩, _⟩ := I.list h
    exact .lst ⟨o, ho, hc, n, hd⟩ (Dqs.rq I k rv)
  | _, _, _, .tup h k, r => by
    cases r
    obtain ⟨its, rv, ⟨o, ho, hc, n, hd⟩, _⟩ := I.tuple h
    exact .tup ⟨o, ho, hc, n, hd⟩ (Dqs.rq I k rv)
  | _, _, _, .dct h, r => by
    cases r
    exact .dct (dct_of I h)
theorem Dqs.rq (I : Inv X pins σ H s) : ∀ {vs : List V} {ds : List D} {us : List Value}, Dqs X.K H vs ds → Vals vs us → Rqs s.heap us ds
  | _, _, _, .nil, r => by cases r; exact .nil
  | _, _, _, .cons a b, r => by
    cases r with
    | cons r1 r2 => exact .cons (Dq.rq I a r1) (Dqs.rq I b r2)
end
end
section
variable {X : Cx}
def rEqQ (K : PySem.W.Frag) : R2 := fun x y H Q => ∃ d e, Dq K H x d ∧ Dq K H y e ∧ dat 60 d = true ∧ Q (.bl (eqv d e)) H
def rNeQ (K : PySem.W.Frag) : R2 := fun x y H Q => ∃ d e, Dq K H x d ∧ Dq K H y e ∧ dat 60 d = true ∧ isDc d = false ∧ isDc e = false ∧ Q (.bl (!eqv d e)) H
def rInQ (K : PySem.W.Frag) : R2 := fun x y H Q => ∃ d e ds, Dq K H x d ∧ Dq K H y e ∧ els e = some ds ∧ dats 59 ds = true ∧ Q (.bl (ds.any fun z => eqv z d)) H
def rNotInQ (K : PySem.W.Frag) : R2 := fun x y H Q => ∃ d e ds, Dq K H x d ∧ Dq K H y e ∧ els e = some ds ∧ dats 59 ds = true ∧ Q (.bl (!ds.any fun z => eqv z d)) H
theorem op_eqQ (hu : X.A.units + 65 < cLine) : OpR X (compareOp .Eq) (rEqQ X.K) := by
  rintro pins s σ H x y v u Q I rx ry ⟨d, e, hd, he, sd, q⟩
  exact Rq.rcAt 60 X.A (hd.rq I rx) (he.rq I ry) sd (by omega) _ _ _ _ ⟨.bl _, H, I, rfl, q⟩
theorem op_neQ (hu : X.A.units + 65 < cLine) : OpR X (compareOp .NotEq) (rNeQ X.K) := by
  rintro pins s σ H x y v u Q I rx ry ⟨d, e, hd, he, sd, nd, ne, q⟩
  exact Rq.neAt 60 X.A (hd.rq I rx) (he.rq I ry) sd nd ne (by omega) _ _ _ _ ⟨.bl _, H, I, rfl, q⟩
theorem op_inQ (hu : X.A.units + 65 < cLine) : OpR X (compareOp .In) (rInQ X.K) := by
  rintro pins s σ H x y v u Q I rx ry ⟨d, e, ds, hd, he, hl, sd, q⟩
  have r1 := hd.rq I rx
  have r2 := he.rq I ry
  cases r2 with
  | lst p t =>
    cases hl
    exact in_listAt _ p (t.items r1 sd (by omega)) (by rw [t.anyOf]; exact ⟨.bl _, H, I, rfl, q⟩)
  | tup p t =>
    cases hl
    exact in_tupleAt _ p (t.items r1 sd (by omega)) (by rw [t.anyOf]; exact ⟨.bl _, H, I, rfl, q⟩)
  | _ => cases hl
theorem op_notInQ (hu : X.A.units + 65 < cLine) : OpR X (compareOp .NotIn) (rNotInQ X.K) := by
  rintro pins s σ H x y v u Q I rx ry ⟨d, e, ds, hd, he, hl, sd, q⟩
  have r1 := hd.rq I rx
  have r2 := he.rq I ry
  cases r2 with
  | lst p t =>
    cases hl
    exact notIn_listAt _ p (t.items r1 sd (by omega)) (by rw [t.anyOf]; exact ⟨.bl _, H, I, rfl, q⟩)
  | tup p t =>
    cases hl
    exact notIn_tupleAt _ p (t.items r1 sd (by omega)) (by rw [t.anyOf]; exact ⟨.bl _, H, I, rfl, q⟩)
  | _ => cases hl
end
section
variable {K : PySem.W.Frag} {N : Nm} {Z H : Hp} {O : Addr → Prop}
mutual
theorem Rep.dq (zh : Same Z H) : ∀ {n : Nat} {d : D} {v : V} {fp : List Addr}, Rep K N Z H d v fp → dat n d = true → Dq K H v d
  | _, _, _, _, .non, _ => .non
  | _, _, _, _, .bl b, _ => .bl b
  | _, _, _, _, .int i, _ => .int i
  | _, _, _, _, .str x, _ => .str x
  | n, _, _, _, .tup h r _, e => let ⟨m, _, e'⟩ := dat_tup e; .tup (SqT.mono h.sq zh) (Reps.dq zh (n := m) r e')
  | n, _, _, _, .lst h r, e => let ⟨m, _, e'⟩ := dat_lst e; .lst (Ls.mono zh h).sq (Reps.dq zh (n := m) r e')
  | n, _, _, _, .lstO h h2 r, e => let ⟨m, _, e'⟩ := dat_lst e; .lst (SqL.of h) (Reps.dq zh (n := m) r e')
  | n, _, _, _, .dct h, e => .dct (zh _ _ h)
  | n, _, _, _, .dctO h h2, e => .dct h
  | n, _, _, _, .ins h l _ r, e => by simp [dat] at e
  | n, _, _, _, .insO h l e2 h2 r, e => by simp [dat] at e
  | n, _, _, _, .exc h h2 l _ r, e => by simp [dat] at e
  | n, _, _, _, .excN h _, e => by simp [dat] at e
theorem Reps.dq (zh : Same Z H) : ∀ {n : Nat} {ds : List D} {vs : List V} {fp : List Addr}, Reps K N Z H ds vs fp → dats n ds = true → Dqs K H vs ds
  | _, _, _, _, .nil, _ => .nil
  | _, _, _, _, .cons r t, e => by
    rw [dats, Bool.and_eq_true] at e
    exact .cons (Rep.dq zh r e.1) (Reps.dq zh t e.2)
end
mutual
theorem Vw.dq (zh : Same Z H) : ∀ {n : Nat} {d : D} {v : V}, Vw K N Z H O d v → dat n d = true → Dq K H v d
  | _, _, _, .non, _ => .non
  | _, _, _, .bl b, _ => .bl b
  | _, _, _, .int i, _ => .int i
  | _, _, _, .str x, _ => .str x
  | n, _, _, .tup h r, e => let ⟨m, _, e'⟩ := dat_tup e; .tup (SqT.mono h.sq zh) (Vws.dq zh (n := m) r e')
  | n, _, _, .lst h r, e => let ⟨m, _, e'⟩ := dat_lst e; .lst (Ls.mono zh h).sq (Reps.dq zh (n := m) r e')
  | n, _, _, .lstO h h2 r, e => let ⟨m, _, e'⟩ := dat_lst e; .lst (SqL.of h) (Vws.dq zh (n := m) r e')
  | n, _, _, .dct h, e => .dct (zh _ _ h)
  | n, _, _, .dctO h h2, e => .dct h
  | n, _, _, .ins h l _ r, e => by simp [dat] at e
  | n, _, _, .insO h l e2 h2 r, e => by simp [dat] at e
  | n, _, _, .exc h h2 l _ r, e => by simp [dat] at e
  | n, _, _, .excN h _, e => by simp [dat] at e
theorem Vws.dq (zh : Same Z H) : ∀ {n : Nat} {ds : List D} {vs : List V}, Vws K N Z H O ds vs → dats n ds = true → Dqs K H vs ds
  | _, _, _, .nil, _ => .nil
  | _, _, _, .cons r t, e => by
    rw [dats, Bool.and_eq_true] at e
    exact .cons (Vw.dq zh r e.1) (Vws.dq zh t e.2)
end
end
end Q
end
section
set_option linter.all false
set_option autoImplicit false
set_option maxHeartbeats 1000000
/-! Expressions, by operation. -/
namespace Q
open PySem PySem.Spec PyProof.Rows L2
section
variable {X : Cx} {N : Nm} {W : WX} {P : Pg} {a b : Ex} {ea eb : Expr} {pos : Pos}
theorem e_neg (ha : OkE X N W P a ea) : OkE X N W P (.neg a) (.UnaryOp .USub ea pos) :=
  L2.PE.imp (pe_un un_neg ha) fun σ H Q h => un_flat (g := negD) (fun {K Z H x d v Q} hK zh cx e q => by
    cases x with
    | int i => cases e; exact ⟨i, cx.int', q _ (.int _)⟩
    | _ => cases e) h
theorem e_not (ha : OkE X N W P a ea) : OkE X N W P (.not a) (.UnaryOp .Not ea pos) :=
  L2.PE.imp (pe_notT ha) fun σ H Q h => un_flat (r := fun x H1 Q => ∃ k, TruV X.K x H1 k ∧ Q (.bl (!k)) H1) (g := notD) (fun {K Z H x d v Q} hK zh cx e q => by
    simp only [notD, Option.map_eq_some_iff] at e
    obtain ⟨k, e1, rfl⟩ := e
    subst hK
    exact ⟨k, tru_of zh cx e1, q _ (.bl _)⟩) h
theorem e_isN {j : Nat} {p : Pos} (ha : OkE X N W P a ea) : OkE X N W P (.isN a) (.Compare ea [.Is] [.Constant .none j p] pos) :=
  L2.PE.imp (pe_cmp (pc_isN ha) rfl) fun σ H Q h => by
    obtain ⟨Z, env, F, s, h⟩ := h
    refine ⟨Z, env, F, s, (Post.bind h).imp fun x env1 Z1 H1 F1 G1 h1 v rv => ?_⟩
    have q := h1 Z1 H1 F1 (Go.refl G1.sr)
    have c := rv.ct
    cases c <;> exact q _ (RV.flat (.bl _))
theorem e_notN {j : Nat} {p : Pos} (ha : OkE X N W P a ea) : OkE X N W P (.notN a) (.Compare ea [.IsNot] [.Constant .none j p] pos) :=
  L2.PE.imp (pe_cmp (pc_notN ha) rfl) fun σ H Q h => by
    obtain ⟨Z, env, F, s, h⟩ := h
    refine ⟨Z, env, F, s, (Post.bind h).imp fun x env1 Z1 H1 F1 G1 h1 v rv => ?_⟩
    have q := h1 Z1 H1 F1 (Go.refl G1.sr)
    have c := rv.ct
    cases c <;> exact q _ (RV.flat (.bl _))
/-! comparisons -/
def rCmp (X : Cx) : CmpOp → R2
  | .Eq => rEqQ X.K
  | .NotEq => rNeQ X.K
  | .Lt => rI0 fun i j => .bl (decide (i < j))
  | .LtE => rI0 fun i j => .bl (decide (i ≤ j))
  | .Gt => rI0 fun i j => .bl (decide (j < i))
  | .GtE => rI0 fun i j => .bl (decide (j ≤ i))
  | .In => rInQ X.K
  | .NotIn => rNotInQ X.K
  | _ => fun _ _ _ _ => False
theorem op_cmp {k : Nat} (hr : Room (k + 1) X.A) (op : CmpOp) : OpR X (compareOp op) (rCmp X op) := by
  have h65 : X.A.units + 65 < cLine := by have := hr.un; omega
  cases op
  · exact op_eqQ h65
  · exact op_neQ h65
  · exact op_lt
  · exact op_le
  · exact op_gt
  · exact op_ge
  · exact fun _ _ _ _ _ _ _ _ _ _ _ _ h => h.elim
  · exact fun _ _ _ _ _ _ _ _ _ _ _ _ h => h.elim
  · exact op_inQ h65
  · exact op_notInQ h65
theorem cmp_rule {K : PySem.W.Frag} {Z H : Hp} {x y : D} {r : Bool} {v u : V} {Q : VK} {op : CmpOp} (hK : K = X.K) (zh : Same Z H) (cx : Ct K N Z H x v) (cy : Ct K N Z H y u) (e : cmpOp op x y = some r) (q : Q (.bl r) H) : rCmp X op v u H Q := by
  subst hK
  cases op <;> simp only [cmpOp] at e
  · split at e
    · rename_i h
      rw [Bool.and_eq_true] at h
      cases e
      exact ⟨_, _, cx.dq zh h.1, cy.dq zh h.2, h.1, q⟩
    · cases e
  · split at e
    · rename_i h
      rw [Bool.and_eq_true] at h
      split at e
      · cases e
      · rename_i nd
        rw [Bool.or_eq_true, not_or] at nd
        cases e
        exact ⟨_, _, cx.dq zh h.1, cy.dq zh h.2, h.1, by simpa using nd.1, by simpa using nd.2, q⟩
    · cases e
  · split at e
    · cases e; exact ⟨_, _, cx.int', cy.int', q⟩
    · cases e
  · split at e
    · cases e; exact ⟨_, _, cx.int', cy.int', q⟩
    · cases e
  · split at e
    · cases e; exact ⟨_, _, cx.int', cy.int', q⟩
    · cases e
  · split at e
    · cases e; exact ⟨_, _, cx.int', cy.int', q⟩
    · cases e
  · cases e
  · cases e
  · split at e
    · rename_i xs he
      split at e
      · rename_i h
        rw [Bool.and_eq_true] at h
        cases e
        have hd : dat 60 y = true := by
          cases y with
          | lst o ys => cases he; simp [dat, h.2]
          | tup ys => cases he; simp [dat, h.2]
          | _ => cases he
        exact ⟨_, _, _, cx.dq zh h.1, cy.dq zh hd, he, h.2, q⟩
      · cases e
    · cases e
  · split at e
    · rename_i xs he
      split at e
      · rename_i h
        rw [Bool.and_eq_true] at h
        cases e
        have hd : dat 60 y = true := by
          cases y with
          | lst o ys => cases he; simp [dat, h.2]
          | tup ys => cases he; simp [dat, h.2]
          | _ => cases he
        exact ⟨_, _, _, cx.dq zh h.1, cy.dq zh hd, he, h.2, q⟩
      · cases e
    · cases e
theorem e_cmp {k : Nat} {op : CmpOp} (hr : Room (k + 1) X.A) (ha : OkE X N W P a ea) (hb : OkE X N W P b eb) (hm : behindInMarks op eb = false) : OkE X N W P (.cmp op a b) (.Compare ea [op] [eb] pos) :=
  L2.PE.imp (pe_cmpR (op_cmp hr op) ha hb hm) fun σ H Q h => bi_flat (g := fun x y => (cmpOp op x y).map .bl) (fun {K Z H x y d v u Q} hK zh cx cy e q => by
    simp only [Option.map_eq_some_iff] at e
    obtain ⟨r, e, rfl⟩ := e
    exact cmp_rule hK zh cx cy e (q _ (.bl _))) h
theorem e_cmp2 {k : Nat} {o p : CmpOp} {c : Ex} {ec : Expr} (hr : Room (k + 1) X.A) (ha : OkE X N W P a ea) (hb : OkE X N W P b eb) (hc : OkE X N W P c ec)
    (rule : ∀ (r r' : R2) (ta tb tc : TE), OpR X (compareOp o) r → OpR X (compareOp p) r' → PE X ea ta → PE X eb tb → PE X ec tc → PE X (.Compare ea [o, p] [eb, ec] pos) (tChain r r' ta tb tc)) : OkE X N W P (.cmp2 o p a b c) (.Compare ea [o, p] [eb, ec] pos) :=
  L2.PE.imp (rule _ _ _ _ _ (op_cmp hr o) (op_cmp hr p) ha hb hc) fun σ H Q h => by
    obtain ⟨Z, env, F, s, h⟩ := h
    refine ⟨Z, env, F, s, (Post.bind h).imp fun x env1 Z1 H1 F1 G1 h1 v rv => ⟨Z1, env1, F1, G1.sr, (Post.bind h1).imp fun y env2 Z2 H2 F2 G2 h2 u ru => ?_⟩⟩
    cases e : cmpOp o x y with
    | none => rw [e] at h2; exact h2.elim
    | some r =>
      rw [e] at h2
      refine cmp_rule rfl G2.sr.zh (rv.ct.keep G2) ru.ct e ⟨r, rfl, ?_⟩
      cases r with
      | false => exact iteF (h2 Z2 H2 F2 (Go.refl G2.sr) _ (RV.flat (.bl _)))
      | true =>
        refine iteT ⟨Z2, env2, F2, G2.sr, (Post.bind h2).imp fun z env3 Z3 H3 F3 G3 h3 w rw' => ?_⟩
        obtain ⟨d, e3, h3⟩ := Post.noneR h3
        simp only [Option.map_eq_some_iff] at e3
        obtain ⟨r', e3, rfl⟩ := e3
        exact cmp_rule rfl G3.sr.zh (ru.ct.keep G3) rw'.ct e3 (h3 Z3 H3 F3 (Go.refl G3.sr) _ (RV.flat (.bl _)))
end
end Q
end
section
set_option linter.all false
set_option autoImplicit false
set_option maxHeartbeats 1000000
/-! Expressions, further. -/
namespace Q
open PySem PySem.Spec PyProof.Rows L2
section
variable {X : Cx} {N : Nm} {W : WX} {P : Pg} {a b : Ex} {ea eb : Expr} {pos : Pos}
/-! a tuple so many times -/
theorem mul_one_same (l : Addr) (items : Array Value) (n : Nat) (dd : Option Addr) (sl : Array (Option Value)) (u : Tok) :
    Meets (Builtin.«tuple.__mul__» ⟨[.ref l, .int 1 u], []⟩) (fun _ R s => s.heap.get? l = some { cls := .type "tuple", dict := dd, data := .seq items n, slots := sl } ∧ R (.ok (.ret (Value.ref l))) s) :=
  .of_wp fun prog w A R s h => by
    obtain ⟨hp, g, d, tk, os⟩ := s
    obtain ⟨hl, h⟩ := h
    have f1 := AutoSeq1.idx_int
    have c0 : (decide ((1 : Int) < -(2 ^ 63)) || decide ((1 : Int) ≥ 2 ^ 63)) = false := by decide
    have c1 : (items.isEmpty || (1 : Int) == 1) = true := by simp
    wp_walk using wpAny_loadPart' hl
    repeat (first
      | (refine wpAny_ite_false (decide_eq_false (by rw [c0]; exact Bool.false_ne_true)) ?_; wp_walk using wpAny_loadPart' hl)
      | (refine wpAny_ite_true (decide_eq_true (by rw [c1])) ?_; wp_walk using wpAny_loadPart' hl))
    exact ⟨_, rfl, h⟩
def rMulT (K : PySem.W.Frag) : R2 := fun x y H Q => ∃ l k xs, x = .ref l ∧ y = .int k ∧ SqT K H l xs ∧ xs ≠ [] ∧ 1 ≤ k ∧ k ≤ 1000 ∧ xs.length ≤ 1000 ∧ (k = 1 → Q (.ref l) H) ∧ (2 ≤ k → NewTup (List.replicate k.toNat xs).flatten H Q)
theorem flat_rep (its : List Value) : ∀ m : Nat, (List.foldl (fun x1 x2 => x1 ++ x2) #[] (List.replicate m its.toArray)) = (List.replicate m its).flatten.toArray := size_rep its
theorem vals_rep {xs : List V} {us : List Value} (r : Vals xs us) : ∀ m : Nat, Vals (List.replicate m xs).flatten (List.replicate m us).flatten
  | 0 => .nil
  | m + 1 => by
    rw [List.replicate_succ, List.replicate_succ, List.flatten_cons, List.flatten_cons]
    exact r.append (vals_rep r m)
theorem op_mulT : OpR X (binaryOp .Mult) (rMulT X.K) := by
  rintro pins s σ H x y v u Q I rx ry ⟨l, k, xs, rfl, rfl, hT, hne, h1, h2, hz, q1, q2⟩
  obtain rfl : v = .ref l := rx
  obtain ⟨t, rfl⟩ := ry
  obtain ⟨its, r, ⟨⟨cls, dd, data, sl⟩, ho, hc, n, hd⟩, hs⟩ := I.tuple hT
  simp only at hc hd
  subst hc hd
  have len : its.length = xs.length := r.length.symm
  have outer : ∀ {R : Value → Shared → Prop}, wpAny (model X.prog X.w) X.A (call (.builtin "tuple.__mul__") [.ref l, .int k t]) R X.xe s → wpAny (model X.prog X.w) X.A (binaryOp .Mult (.ref l) (.int k t)) R X.xe s := fun {R} w =>
    wpAny_binaryOp_repeat_ref (T := "tuple") (U := "int") (by decide) ⟨_, ho, rfl⟩ (fun s' => typeIs_int s' k t) noFill_tuple_mul PySem.F.fills_int_mul PySem.F.slot_int_rmul repeat_tuple PySem.F.slot_int_index.lookup
      (call_meets PySem.F.slot_int_rmul (typeIs_int s k t) PySem.F.entry_int_rmul (PySem.F.args_int_rmul_2 _ _) (int_rmul_tuple k t l its.toArray n dd sl) ⟨ho, rfl, ⟨_, ho, rfl⟩, w⟩)
  refine outer ?_
  by_cases hk : k = 1
  · subst hk
    exact call_meets PySem.F.slot_tuple_mul ⟨_, ho, rfl⟩ PySem.F.entry_tuple_mul (PySem.F.args_tuple_mul_2 _ _) (mul_one_same l its.toArray n dd sl t) ⟨ho, .ref l, H, I, rfl, q1 rfl⟩
  · have hk2 : 2 ≤ k := by omega
    have hi : its.toArray.isEmpty = false := by
      cases its with
      | nil => exact absurd (List.eq_nil_of_length_eq_zero len.symm) hne
      | cons a b => rfl
    have hm : ((its.toArray.size : Nat) : Int) * k ≤ 1000000 := by
      rw [List.size_toArray, len]
      have : ((xs.length : Nat) : Int) * k ≤ 1000 * k := Int.mul_le_mul_of_nonneg_right (by omega) (by omega)
      omega
    have fl : (List.replicate k.toNat its).flatten.length ≤ sizeLine := by
      rw [PyProof.Rows.lm_len_rep_flat, len, sizeLine_eq]
      have : k.toNat * xs.length ≤ 1000 * 1000 := Nat.mul_le_mul (by omega) hz
      omega
    have fl2 : (List.replicate k.toNat xs).flatten.length ≤ sizeLine := by rw [(vals_rep r k.toNat).length]; exact fl
    refine call_meets PySem.F.slot_tuple_mul ⟨_, ho, rfl⟩ PySem.F.entry_tuple_mul (PySem.F.args_tuple_mul_2 _ _) (tuple_mulW l its.toArray n dd sl k t (by
        rw [decide_eq_false (by omega), decide_eq_false (by omega)]; rfl) (by
        rw [hi, Bool.false_or]; exact beq_eq_false_iff_ne.mpr hk) (by
        rw [hi, Bool.or_false]; exact decide_eq_false (by omega)) (by omega) (by
        unfold Builtin.Tuple.tupleTooMany; rw [sizeLine_eq]; exact decide_eq_false (by omega)) (by rw [flat_rep, List.size_toArray]; exact fl)) ⟨ho, ?_⟩
    rw [flat_rep]
    exact ⟨.ref _, _, laid_tup (t' := s.toks) I (fun _ _ e => Heap.get?_push_of_some _ e) fl2 (vals_rep r k.toNat) (Nat.le_refl _) (Heap.get?_push_size _ rfl), rfl, q2 hk2 _ _ I.fresh rfl⟩
/-! + - * and the like -/
def rBin (X : Cx) : Operator → R2
  | .Add => fun x y H Q => rI0 (fun i j => .int (i + j)) x y H Q ∨
      (∃ l b xs zs, x = .ref l ∧ y = .ref b ∧ Ls X.K H l xs ∧ Ls X.K H b zs ∧ xs.length + zs.length ≤ sizeLine ∧ ∀ p, H p = none → Q (.ref p) (upd H p (.lst (xs ++ zs)))) ∨ (∃ a b xs ys, x = .ref a ∧ y = .ref b ∧ SqT X.K H a xs ∧ SqT X.K H b ys ∧ xs.length + ys.length ≤ sizeLine ∧ (xs = [] → Q (.ref b) H) ∧ (ys = [] → Q (.ref a) H) ∧ (xs ≠ [] → ys ≠ [] → NewTup (xs ++ ys) H Q))
  | .Sub => rI0 fun i j => .int (i - j)
  | .Mult => fun x y H Q => rI CMul (fun i j => .int (i * j)) x y H Q ∨ rMulT X.K x y H Q ∨ rRepR X.K x y H Q
  | .FloorDiv => rI CDivW fun i j => .int (i / j)
  | .Mod => rI (fun _ j => 0 < j) fun i j => .int (i % j)
  | .Pow => rI CPow fun i j => .int (i ^ j.toNat)
  | .RShift => rI (fun _ j => 0 ≤ j) fun i j => .int (i / 2 ^ j.toNat)
  | _ => fun _ _ _ _ => False
theorem op_bin (op : Operator) : OpR X (binaryOp op) (rBin X op) := by
  cases op <;> first
    | exact op_add.or (op_catR.or op_catF)
    | exact op_sub
    | exact op_mul.or (op_mulT.or op_repR)
    | exact op_fdivW
    | exact op_mod
    | exact op_pow
    | exact op_shr
    | exact fun _ _ _ _ _ _ _ _ _ _ _ _ h => h.elim
theorem reps_rep {K : PySem.W.Frag} {Z H : Hp} {ds : List D} {vs : List V} (r : Reps K N Z H ds vs []) : ∀ m : Nat, Reps K N Z H (List.replicate m ds).flatten (List.replicate m vs).flatten []
  | 0 => .nil
  | m + 1 => by
    rw [List.replicate_succ, List.replicate_succ, List.flatten_cons, List.flatten_cons]
    exact r.app (reps_rep r m)
theorem binOp_ints {op : Operator} {x y d : D} (h : binOp op x y = some d) : ∃ i j, x = .int i ∧ y = .int j := by
  cases x <;> first | (simp [binOp] at h; done) | skip
  rename_i i
  cases y <;> first | (simp [binOp] at h; done) | exact ⟨_, _, rfl, rfl⟩
theorem e_bin {op : Operator} (ha : OkE X N W P a ea) (hb : OkE X N W P b eb) : OkE X N W P (.bin op a b) (.BinOp ea op eb pos) :=
  L2.PE.imp (pe_op (op_bin op) ha hb) fun σ H Q h => by
    obtain ⟨Z, env, F, s, h⟩ := h
    refine ⟨Z, env, F, s, (Post.bind h).imp fun x env1 Z1 H1 F1 G1 h1 v rv => ⟨Z1, env1, F1, G1.sr, (Post.bind h1).imp fun y env2 Z2 H2 F2 G2 h2 u ru => ?_⟩⟩
    obtain ⟨d, e, h2⟩ := Post.noneR h2
    have h2' := h2
    have cx := rv.ct.keep G2
    have cy := ru.ct
    have zh := G2.sr.zh
    have G := G1.trans G2
    unfold bin2 at e
    cases eb : binOp op x y with
    | some d' =>
      rw [eb] at e
      cases e
      obtain ⟨i, j, rfl, rfl⟩ := binOp_ints eb
      have ei := cx.int'
      have ej := cy.int'
      subst ei ej
      have fin : ∀ n, d = .int n → Q (.int n) H2 := fun n e => by subst e; exact h2 Z2 H2 F2 (Go.refl G2.sr) _ (RV.flat (.int n))
      cases op <;> simp only [binOp] at eb
      · cases eb; exact .inl ⟨i, j, rfl, rfl, fin _ rfl⟩
      · cases eb; exact ⟨i, j, rfl, rfl, fin _ rfl⟩
      · split at eb
        · rename_i hc; cases eb; exact .inl ⟨i, j, rfl, rfl, hc, fin _ rfl⟩
        · cases eb
      · cases eb
      · cases eb
      · split at eb
        · rename_i hc; cases eb; exact ⟨i, j, rfl, rfl, hc, fin _ rfl⟩
        · cases eb
      · split at eb
        · rename_i hc; cases eb; exact ⟨i, j, rfl, rfl, hc, fin _ rfl⟩
        · cases eb
      · cases eb
      · split at eb
        · rename_i hc; cases eb; exact ⟨i, j, rfl, rfl, hc, fin _ rfl⟩
        · cases eb
      · cases eb
      · cases eb
      · cases eb
      · split at eb
        · rename_i hc; cases eb; exact ⟨i, j, rfl, rfl, hc, fin _ rfl⟩
        · cases eb
    | none =>
      rw [eb] at e
      dsimp only at e
      unfold catOp at e
      split at e
      · split at e
        · rename_i o1 xs o2 ys hc
          obtain ⟨rfl, ho, ho', hl⟩ := hc
          cases e
          obtain ⟨p1, vs, rfl, r1, w1⟩ := cx.lst' zh
          obtain ⟨p2, us, rfl, r2, w2⟩ := cy.lst' zh
          refine .inr (.inl ⟨p1, p2, vs, us, rfl, rfl, r1, r2, by rw [← w1.length, ← w2.length, ← line_eq]; exact hl, fun p hp => ?_⟩)
          exact fin_list G (xs := xs ++ ys) (Reps.app (w1.reps ho) (w2.reps ho')) h2 hp
        · cases e
      · split at e
        · rename_i xs ys hc
          obtain ⟨rfl, ho, ho', hl⟩ := hc
          cases e
          obtain ⟨p1, vs, rfl, t1, w1⟩ := cx.tupZ
          obtain ⟨p2, us, rfl, t2, w2⟩ := cy.tupZ
          have r1 := SqT.mono t1.sq zh
          have r2 := SqT.mono t2.sq zh
          have rx := w1.reps ho
          have ry := w2.reps ho'
          have same : ∀ p ws, TupZ X.K Z2 p ws → Reps X.K N Z2 H2 (xs ++ ys) ws [] → Q (.ref p) H2 := fun p ws h r => h2 Z2 H2 F2 (Go.refl G2.sr) _ (RV.flat (.tup h r (.inl rfl)))
          refine .inr (.inr ⟨p1, p2, vs, us, rfl, rfl, r1, r2, by rw [← w1.length, ← w2.length, ← line_eq]; exact hl, fun e => ?_, fun e => ?_, fun _ _ p o hp hd => ?_⟩)
          · have : xs = [] := List.eq_nil_of_length_eq_zero (by rw [w1.length, e]; rfl)
            exact same p2 us t2 (by rw [this]; exact ry)
          · have : ys = [] := List.eq_nil_of_length_eq_zero (by rw [w2.length, e]; rfl)
            exact same p1 vs t1 (by rw [this, List.append_nil]; exact rx)
          · exact fin_tup G (Reps.app rx ry) h2 hp hd
        · cases e
      · split at e
        · rename_i xs k hc
          obtain ⟨rfl, ho, hne, m1, m2, m3⟩ := hc
          cases e
          obtain ⟨p1, vs, rfl, t1, w1⟩ := cx.tupZ
          have r1 := SqT.mono t1.sq zh
          have rx := w1.reps ho
          have ej := cy.int'
          subst ej
          refine .inr (.inl ⟨p1, k, vs, rfl, rfl, r1, fun e => hne (List.eq_nil_of_length_eq_zero (by rw [w1.length, e]; rfl)), m1, m2, by rw [← w1.length]; exact m3, fun e => ?_, fun _ p o hp hd => fin_tup G (reps_rep rx k.toNat) h2' hp hd⟩)
          subst e
          exact h2' Z2 H2 F2 (Go.refl G2.sr) _ (RV.flat (.tup t1 (by simpa using rx) (.inl rfl)))
        · cases e
      · split at e
        · rename_i o1 xs k hc
          obtain ⟨rfl, ho, m1, m3, m4⟩ := hc
          cases e
          have ej := cy.int'
          subst ej
          obtain ⟨l, vs, rfl, hl, w1⟩ := cx.lst' zh
          exact .inr (.inr ⟨l, k, vs, rfl, rfl, hl, by omega, by omega, by rw [← w1.length, ← line_eq]; exact m4, fun p hp => fin_list G (reps_rep (w1.reps ho) k.toNat) h2' hp⟩)
        · cases e
      · cases e
theorem Tmp.items {K : PySem.W.Frag} {H0 Z H : Hp} {F0 F : Nat → List Addr} {o : Bool} {xs : List D} {v : V} {fv : List Addr} (t : Tmp K N H0 F0 Z H F (.lst o xs) v fv) (zh : Same Z H) : ∃ p vs fp, v = .ref p ∧ Ls K H p vs ∧ Reps K N Z H xs vs fp ∧ (∀ c ∈ fp, c ∈ fv) ∧ fp.Nodup := by
  have r := t.rep
  have nd := t.nd
  cases r with
  | lst h r => exact ⟨_, _, [], rfl, h.mono zh, r, fun _ h => (nomatch h), .nil⟩
  | lstO h h2 r => exact ⟨_, _, _, rfl, .of h, r, fun c hc => List.mem_cons_of_mem _ hc, (List.nodup_cons.mp nd).2⟩
/-- + of two lists that nobody else has -/
theorem e_catT (ha : OkE X N W P a ea) (hb : OkE X N W P b eb) : OkE X N W P (.catT a b) (.BinOp ea .Add eb pos) :=
  L2.PE.imp (pe_op op_catR ha.ev hb.ev) fun σ H Q ⟨Z, env, F, s, h⟩ => ⟨Z, env, F, s, (Post.bind h).imp fun x env1 Z1 H1 F1 G1 h1 v rv => ⟨Z1, env1, F1, G1.sr, (Post.bind h1).imp fun y env2 Z2 H2 F2 G2 h2 u ru => by
    obtain ⟨d, e, h2⟩ := Post.noneR h2
    obtain ⟨f1, t1⟩ := rv
    obtain ⟨f2, t2⟩ := ru
    have o1 := t1.rep.own1
    have t1' := t1.keep G2
    unfold catD at e
    split at e
    · split at e
      · rename_i o1' xs o2' ys hl
        cases e
        obtain ⟨p1, vs, g1, rfl, l1, r1, s1, n1⟩ := t1'.items G2.sr.zh
        obtain ⟨p2, us, g2, rfl, l2, r2, s2, n2⟩ := t2.items G2.sr.zh
        refine ⟨p1, p2, vs, us, rfl, rfl, l1, l2, by rw [← r1.length, ← r2.length, ← line_eq]; exact hl, fun p hp => ?_⟩
        have g := Go.newO (o := .lst (vs ++ us)) G2.sr hp
        have rr := Reps.app r1 r2
        have dj : ∀ c ∈ g1, ∀ c' ∈ g2, c ≠ c' := fun c hc c' hc' q => by
          subst q
          rcases t2.new c (s2 c hc') with h | ⟨i, h⟩
          · exact (o1 c (s1 c hc)).some h
          · exact t1.dj c (s1 c hc) i h
        have ne : ∀ c ∈ g1 ++ g2, c ≠ p := fun c hc q => (rr.own1 c hc).some (by rw [q]; exact hp)
        refine h2 _ _ F2 g _ ⟨p :: (g1 ++ g2), .lstO upd_same (G2.sr.zh.free hp) (rr.mono (Same.refl _) fun c hc => ⟨upd_ne (ne c hc), (rr.own1 c hc).1⟩), List.nodup_cons.mpr ⟨fun h => ne p h rfl, List.nodup_append.mpr ⟨n1, n2, dj⟩⟩, fun c hc i h => ?_, fun c hc => ?_⟩
        · rcases List.mem_cons.mp hc with e | e
          · subst e; exact (G2.sr.own1 h).some hp
          · rcases List.mem_append.mp e with e | e
            · exact t1'.dj c (s1 c e) i h
            · exact t2.dj c (s2 c e) i h
        · rcases List.mem_cons.mp hc with e | e
          · subst e; exact .inl (G1.hh.free (G2.hh.free hp))
          · rcases List.mem_append.mp e with e | e
            · exact t1.new c (s1 c e)
            · exact (t2.new c (s2 c e)).elim (fun h => .inl (G1.hh.free h)) fun ⟨i, h⟩ => .inr ⟨i, G1.sub i c h⟩
      · cases e
    · cases e⟩⟩
end
end Q
end
section
set_option linter.all false
set_option autoImplicit false
set_option maxHeartbeats 1000000
/-! Rows, displays, calls of what is built in. -/
namespace Q
open PySem PySem.Spec PyProof.Rows L2
section
variable {X : Cx} {N : Nm} {W : WX} {P : Pg} {a b : Ex} {ea eb : Expr} {pos : Pos}
/-- things beside the names, in a row -/
structure Tmps (K : PySem.W.Frag) (N : Nm) (H : Hp) (F : Nat → List Addr) (Z' H' : Hp) (F' : Nat → List Addr) (ds : List D) (vs : List V) (fv : List Addr) : Prop where
  rep : Reps K N Z' H' ds vs fv
  nd : fv.Nodup
  dj : ∀ c ∈ fv, ∀ i, c ∉ F' i
  new : ∀ c ∈ fv, H c = none ∨ ∃ i, c ∈ F i
def OkA (X : Cx) (N : Nm) (W : WX) (P : Pg) (x : Ex) (es : List Expr) : Prop := PA X es (tVs X.K N W (evs P x))
theorem a_nil : OkA X N W P .nil [] := L2.PA.imp pa_nil fun σ H Q ⟨Z, env, F, s, h⟩ => h Z H F (Go.refl s) [] ⟨[], .nil, .nil, fun _ h => (nomatch h), fun _ h => (nomatch h)⟩
theorem a_cons {es : List Expr} (ha : OkE X N W P a ea) (hb : OkA X N W P b es) (hs : starEach (ea :: es) X.env = (false, eval ea X.env) :: starEach es X.env) : OkA X N W P (.cons a b) (ea :: es) :=
  L2.PA.imp (pa_cons ha.ev hb hs) fun σ H Q ⟨Z, env, F, s, h⟩ => ⟨Z, env, F, s, (Post.bind h).imp fun d env1 Z1 H1 F1 G1 h1 v rv => ⟨Z1, env1, F1, G1.sr, (Post.bind h1).imp fun ds env2 Z2 H2 F2 G2 h2 vs rs => by
    obtain ⟨f1, t1⟩ := rv
    obtain ⟨f2, r2, n2, d2, w2⟩ := rs
    have o1 := t1.rep.own1
    have t1' := t1.keep G2
    refine h2 Z2 H2 F2 (Go.refl G2.sr) (v :: vs) ⟨f1 ++ f2, .cons t1'.rep r2, ?_, fun c hc => ?_, fun c hc => ?_⟩
    · refine List.nodup_append.mpr ⟨t1.nd, n2, fun c hc c' hc' e => ?_⟩
      subst e
      rcases w2 c hc' with h | ⟨i, h⟩
      · exact (o1 c hc).some h
      · exact t1.dj c hc i h
    · exact (List.mem_append.mp hc).elim (t1'.dj c) (d2 c)
    · rcases List.mem_append.mp hc with h | h
      · exact t1.new c h
      · rcases w2 c h with h | ⟨i, h⟩
        · exact .inl (G1.hh.free h)
        · exact .inr ⟨i, G1.sub i c h⟩⟩⟩
theorem e_tup {k : Nat} {es : List Expr} (h : OkA X N W P a es) : OkE X N W P (.tup a) (.Tuple es k pos) :=
  L2.PE.imp (pe_tupF h) fun σ H Q ⟨Z, env, F, s, h⟩ => ⟨Z, env, F, s, (Post.bind h).imp fun ds env1 Z1 H1 F1 G1 h1 vs ⟨fv, r, nd, dj, nw⟩ => by
    split at h1
    · rename_i hl
      refine ⟨by rw [← r.length, ← line_eq]; exact hl, fun p ob hp hd => ?_⟩
      have g := Go.newZ (o := .frz ob (.tup vs)) G1.sr hp
      refine h1 _ _ F1 g _ ⟨fv, .tup (.inl ⟨ob, upd_same, hd⟩) (r.mono g.zz fun c hc => ?_) (.inr ⟨ob, upd_same⟩), nd, dj, nw⟩
      have ne : c ≠ p := fun q => (r.own1 c hc).some (by rw [q]; exact hp)
      exact ⟨upd_ne ne, by rw [upd_ne ne]; exact (r.own1 c hc).1⟩
    · exact h1.elim⟩
theorem e_lst {es : List Expr} (h : OkA X N W P a es) : OkE X N W P (.lst a) (.List es pos) :=
  L2.PE.imp (pe_lst h) fun σ H Q ⟨Z, env, F, s, h⟩ => ⟨Z, env, F, s, (Post.bind h).imp fun ds env1 Z1 H1 F1 G1 h1 vs ⟨fv, r, nd, dj, nw⟩ => by
    split at h1
    · rename_i hl
      refine ⟨by rw [← r.length, ← line_eq]; exact hl, fun p hp => ?_⟩
      have g := Go.newO (o := .lst vs) G1.sr hp
      have ne : ∀ c ∈ fv, c ≠ p := fun c hc q => (r.own1 c hc).some (by rw [q]; exact hp)
      refine h1 _ _ F1 g _ ⟨p :: fv, .lstO upd_same (G1.sr.zh.free hp) (r.mono (Same.refl _) fun c hc => ⟨upd_ne (ne c hc), (r.own1 c hc).1⟩), List.nodup_cons.mpr ⟨fun h => ne p h rfl, nd⟩, fun c hc i h => ?_, fun c hc => ?_⟩
      · rcases List.mem_cons.mp hc with e | e
        · subst e; exact (G1.sr.own1 h).some hp
        · exact dj c e i h
      · rcases List.mem_cons.mp hc with e | e
        · subst e; exact .inl (G1.hh.free hp)
        · exact nw c e
    · exact h1.elim⟩
/-! tests; and, or, if else as values -/
def OkT (X : Cx) (N : Nm) (W : WX) (P : Pg) (x : Ex) (e : Expr) : Prop := PT X e (tVt X.K N W (vw P x))
theorem RV.from {K : PySem.W.Frag} {σ : L2.St} {Z H Z1 H1 Z2 H2 : Hp} {env env1 : Env} {F F1 F2 : Nat → List Addr} (g : Go K N σ Z H env F Z1 H1 env1 F1) {r : Option Nat} {d : D} {v : V} (rv : RV K N r H1 F1 Z2 H2 F2 d v) : RV K N r H F Z2 H2 F2 d v := by
  cases r with
  | none => obtain ⟨fv, t⟩ := rv; exact ⟨fv, t.from g⟩
  | some r => exact rv
theorem e_ife {t : Ex} {et : Expr} (ht : OkT X N W P t et) (ha : OkE X N W P a ea) (hb : OkE X N W P b eb) : OkE X N W P (.ife t a b) (.IfExp et ea eb pos) :=
  L2.PE.imp (pe_ifExp ht ha.ev hb.ev) fun σ H Q ⟨Z, env, F, s, h⟩ => ⟨Z, env, F, s, (Post.bind h).imp fun x env1 Z1 H1 F1 G1 h1 => by
    cases hx : tru x with
    | none => rw [hx] at h1; exact h1.elim
    | some k =>
      rw [hx] at h1
      refine ⟨k, rfl, ?_⟩
      cases k with
      | true => exact iteT ⟨Z1, env1, F1, G1.sr, h1.imp fun d env2 Z2 H2 F2 G2 h2 v rv => h2 v (RV.from G1 rv)⟩
      | false => exact iteF ⟨Z1, env1, F1, G1.sr, h1.imp fun d env2 Z2 H2 F2 G2 h2 v rv => h2 v (RV.from G1 rv)⟩⟩
/-- a test by its value's truth -/
theorem t_any (ha : OkE X N W P a ea) (he : ∀ whole, isTrue ea X.env whole = (do let v ← whole; standAt ea.pos; holding [v] (truthy v))) : OkT X N W P a ea :=
  L2.PT.imp (pt_truth ha he) fun σ H Q ⟨Z, env, F, s, h⟩ => ⟨Z, env, F, s, h.imp fun x env1 Z1 H1 F1 G1 ⟨b, e, q⟩ v rv => ⟨b, tru_of G1.sr.zh rv.ct e, q⟩⟩
/-- .. of one whose value is a truth -/
theorem t_bool (ha : OkE X N W P a ea) (he : PE X ea (tV X.K N W (root a) (vw P a)) → ∀ t, PE X ea t → PT X ea (tB t)) (hb : ∀ env x env', vw P a env = .ok x env' → ∃ b, x = .bl b) : OkT X N W P a ea :=
  L2.PT.imp (he ha _ ha) fun σ H Q ⟨Z, env, F, s, h⟩ => ⟨Z, env, F, s, by
    cases e : vw P a env with
    | stuck => rw [e] at h; exact h
    | exc c fs vs env' => rw [e] at h; exact h
    | ok x env1 =>
      obtain ⟨b, rfl⟩ := hb _ _ _ e
      rw [e] at h
      intro Z1 H1 F1 G1 v rv
      obtain ⟨b', e1, q⟩ := h Z1 H1 F1 G1
      cases e1
      exact ⟨b, rv.ct.bl', q⟩⟩
theorem t_cmp {k : Nat} {op : CmpOp} (hr : Room (k + 1) X.A) (ha : OkE X N W P a ea) (hb : OkE X N W P b eb) (hm : behindInMarks op eb = false) : OkT X N W P (.cmp op a b) (.Compare ea [op] [eb] pos) :=
  L2.PT.imp (pt_cmpR (op_cmp hr op) ha hb hm) fun σ H Q ⟨Z, env, F, s, h⟩ => by
    refine ⟨Z, env, F, s, (Post.bind h).imp fun x env1 Z1 H1 F1 G1 h1 v rv => ⟨Z1, env1, F1, G1.sr, (Post.bind h1).imp fun y env2 Z2 H2 F2 G2 h2 u ru => ?_⟩⟩
    obtain ⟨d, e, h2⟩ := Post.noneR h2
    simp only [Option.map_eq_some_iff] at e
    obtain ⟨r, e, rfl⟩ := e
    obtain ⟨b', e1, q⟩ := h2 Z2 H2 F2 (Go.refl G2.sr)
    cases e1
    exact cmp_rule rfl G2.sr.zh (rv.ct.keep G2) ru.ct e ⟨r, rfl, q⟩
theorem t_cmp2 {k : Nat} {o p : CmpOp} {c : Ex} {ec : Expr} (hr : Room (k + 1) X.A) (ha : OkE X N W P a ea) (hb : OkE X N W P b eb) (hc : OkE X N W P c ec)
    (rule : ∀ (r r' : R2) (ta tb tc : TE), OpR X (compareOp o) r → OpR X (compareOp p) r' → PE X ea ta → PE X eb tb → PE X ec tc → PT X (.Compare ea [o, p] [eb, ec] pos) (tTest (tChain r r' ta tb tc))) : OkT X N W P (.cmp2 o p a b c) (.Compare ea [o, p] [eb, ec] pos) :=
  L2.PT.imp (rule _ _ _ _ _ (op_cmp hr o) (op_cmp hr p) ha hb hc) fun σ H Q h => by
    obtain ⟨Z, env, F, s, h⟩ := h
    refine ⟨Z, env, F, s, (Post.bind h).imp fun x env1 Z1 H1 F1 G1 h1 v rv => ⟨Z1, env1, F1, G1.sr, (Post.bind h1).imp fun y env2 Z2 H2 F2 G2 h2 u ru => ?_⟩⟩
    cases e : cmpOp o x y with
    | none => rw [e] at h2; exact h2.elim
    | some r =>
      rw [e] at h2
      refine cmp_rule rfl G2.sr.zh (rv.ct.keep G2) ru.ct e ⟨r, rfl, ?_⟩
      cases r with
      | false =>
        obtain ⟨b', e1, q⟩ := h2 Z2 H2 F2 (Go.refl G2.sr)
        cases e1
        exact iteF ⟨false, rfl, q⟩
      | true =>
        refine iteT ⟨Z2, env2, F2, G2.sr, (Post.bind h2).imp fun z env3 Z3 H3 F3 G3 h3 w rw' => ?_⟩
        obtain ⟨d, e3, h3⟩ := Post.noneR h3
        simp only [Option.map_eq_some_iff] at e3
        obtain ⟨r', e3, rfl⟩ := e3
        obtain ⟨b', e1, q⟩ := h3 Z3 H3 F3 (Go.refl G3.sr)
        cases e1
        exact cmp_rule rfl G3.sr.zh (ru.ct.keep G3) rw'.ct e3 ⟨r', rfl, q⟩
theorem t_not (ha : OkT X N W P a ea) : OkT X N W P (.not a) (.UnaryOp .Not ea pos) :=
  L2.PT.imp (pt_not ha) fun σ H Q ⟨Z, env, F, s, h⟩ => ⟨Z, env, F, s, (Post.bind h).imp fun x env1 Z1 H1 F1 G1 h1 => by
    obtain ⟨d, e, h1⟩ := Post.noneR h1
    simp only [notD, Option.map_eq_some_iff] at e
    obtain ⟨b, e, rfl⟩ := e
    obtain ⟨b', e1, q⟩ := h1 Z1 H1 F1 (Go.refl G1.sr)
    cases e1
    exact ⟨b, e, q⟩⟩
theorem take_tru {r : Option Nat} {d : D} {env : Env} {σ : L2.St} {Z H : Hp} {F : Nat → List Addr} {K : PySem.W.Frag} {Q : Bool → Hp → Prop} (s : SR K N Z H env σ F)
    (h : Post K N W σ Z H env F (take r d env) fun x _ Z' H' F' => ∃ b, tru x = some b ∧ Q b H') : ∃ b, tru d = some b ∧ Q b H := by
  have sh : ∀ d : D, tru (shr d) = tru d := fun d => by
    cases d <;> simp only [shr, tru]
    · rename_i xs; cases xs <;> rfl
    · rename_i o xs; cases xs <;> rfl
  unfold take at h
  split at h
  · cases r with
    | none => exact h Z H F (Go.refl s)
    | some r =>
      obtain ⟨Z', F', g, _⟩ := dem_go s r
      obtain ⟨b, e, q⟩ := h Z' H F' g
      exact ⟨b, (sh d).symm.trans e, q⟩
  · exact h Z H F (Go.refl s)
theorem w_and1 (ha : OkT X N W P a ea) : PW X (.BoolOp .And [ea] pos) (tVt X.K N W (vw P a)) := pw_and1 ha
theorem w_or1 (ha : OkT X N W P a ea) : PW X (.BoolOp .Or [ea] pos) (tVt X.K N W (vw P a)) := pw_or1 ha
theorem w_and {rest : List Expr} (ha : OkT X N W P a ea) (hb : PW X (.BoolOp .And (eb :: rest) pos) (tVt X.K N W (vw P b))) : PW X (.BoolOp .And (ea :: eb :: rest) pos) (tVt X.K N W (vw P (.and a b))) :=
  ⟨fun wh pins s σ H Q I h => (pw_and ha hb).run wh pins s σ H Q I (by
    obtain ⟨Z, env, F, sr, h⟩ := h
    refine ⟨Z, env, F, sr, (Post.bind h).imp fun x env1 Z1 H1 F1 G1 h1 => ?_⟩
    cases x with
    | bl b =>
      refine ⟨b, rfl, ?_⟩
      cases b with
      | true => exact iteT ⟨Z1, env1, F1, G1.sr, (Post.bind h1).imp fun y env2 Z2 H2 F2 G2 h2 => take_tru G2.sr h2⟩
      | false =>
        obtain ⟨b', e1, q⟩ := h1 Z1 H1 F1 (Go.refl G1.sr)
        cases e1
        exact iteF q
    | _ => exact h1.elim)⟩
theorem w_or {rest : List Expr} (ha : OkT X N W P a ea) (hb : PW X (.BoolOp .Or (eb :: rest) pos) (tVt X.K N W (vw P b))) : PW X (.BoolOp .Or (ea :: eb :: rest) pos) (tVt X.K N W (vw P (.or a b))) :=
  ⟨fun wh pins s σ H Q I h => (pw_or ha hb).run wh pins s σ H Q I (by
    obtain ⟨Z, env, F, sr, h⟩ := h
    refine ⟨Z, env, F, sr, (Post.bind h).imp fun x env1 Z1 H1 F1 G1 h1 => ?_⟩
    cases x with
    | bl b =>
      refine ⟨b, rfl, ?_⟩
      cases b with
      | true =>
        obtain ⟨b', e1, q⟩ := h1 Z1 H1 F1 (Go.refl G1.sr)
        cases e1
        exact iteT q
      | false => exact iteF ⟨Z1, env1, F1, G1.sr, (Post.bind h1).imp fun y env2 Z2 H2 F2 G2 h2 => take_tru G2.sr h2⟩
    | _ => exact h1.elim)⟩
theorem v_and {rest : List Expr} (ha : OkE X N W P a ea) (hb : PE X (.BoolOp .And (eb :: rest) pos) (tV X.K N W none (ev P b))) : PE X (.BoolOp .And (ea :: eb :: rest) pos) (tV X.K N W none (vw P (.and a b))) :=
  L2.PE.imp (pe_and ha hb) fun σ H Q ⟨Z, env, F, s, h⟩ => ⟨Z, env, F, s, (Post.bind h).imp fun x env1 Z1 H1 F1 G1 h1 v rv => by
    cases x with
    | bl b =>
      refine ⟨b, rv.ct.bl', ?_⟩
      cases b with
      | true => exact iteT ⟨Z1, env1, F1, G1.sr, h1.imp fun d env2 Z2 H2 F2 G2 h2 v rv => h2 v (RV.from G1 rv)⟩
      | false => exact iteF (h1 Z1 H1 F1 (Go.refl G1.sr) _ (RV.flat (.bl _)))
    | _ => exact h1.elim⟩
theorem v_or {rest : List Expr} (ha : OkE X N W P a ea) (hb : PE X (.BoolOp .Or (eb :: rest) pos) (tV X.K N W none (ev P b))) : PE X (.BoolOp .Or (ea :: eb :: rest) pos) (tV X.K N W none (vw P (.or a b))) :=
  L2.PE.imp (pe_or ha hb) fun σ H Q ⟨Z, env, F, s, h⟩ => ⟨Z, env, F, s, (Post.bind h).imp fun x env1 Z1 H1 F1 G1 h1 v rv => by
    cases x with
    | bl b =>
      refine ⟨b, rv.ct.bl', ?_⟩
      cases b with
      | true => exact iteT (h1 Z1 H1 F1 (Go.refl G1.sr) _ (RV.flat (.bl _)))
      | false => exact iteF ⟨Z1, env1, F1, G1.sr, h1.imp fun d env2 Z2 H2 F2 G2 h2 v rv => h2 v (RV.from G1 rv)⟩
    | _ => exact h1.elim⟩
theorem OkV.one {op : BoolOp} (h : OkV X N W P a ea) : PE X (.BoolOp op [ea] pos) (tV X.K N W none (ev P a)) := pe_one h
end
end Q
end
section
set_option linter.all false
set_option autoImplicit false
set_option maxHeartbeats 1000000
/-! What the text's shape gives; calls of what is built in. -/
namespace Q
open PySem PySem.Spec PyProof.Rows L2
/-! ### shapes -/
def plainE : Expr → Bool
  | .Starred .. => false
  | _ => true
def baseE : Expr → Bool
  | .Call .. => false
  | _ => true
def ixE : Expr → Bool
  | .Slice .. => false
  | _ => true
def setE : Expr → Bool
  | .Set .. => false
  | _ => true
def testE : Expr → Bool
  | .BoolOp .. => false
  | .UnaryOp .. => false
  | .Compare .. => false
  | .IfExp .. => false
  | .NamedExpr .. => false
  | .Constant .. => false
  | _ => true
theorem star_cons {e : Expr} {es : List Expr} {env : PySem.Env} (h : plainE e = true) : starEach (e :: es) env = (false, eval e env) :: starEach es env := by
  cases e <;> first | rfl | cases h
theorem star_any {pos : Pos} {env : PySem.Env} : ∀ {es : List Expr}, es.all plainE = true → (backTo pos (starEach es env)).any (·.1) = false
  | [], _ => rfl
  | e :: es, h => by
    rw [List.all_cons, Bool.and_eq_true] at h
    rw [star_cons h.1]
    show (false || (backTo pos (starEach es env)).any (·.1)) = false
    rw [star_any h.2]; rfl
theorem star_all {pos : Pos} {env : PySem.Env} : ∀ {es : List Expr}, es.all plainE = true → (backTo pos (starEach es env)).all (fun x => !x.1) = true
  | [], _ => rfl
  | e :: es, h => by
    rw [List.all_cons, Bool.and_eq_true] at h
    rw [star_cons h.1]
    show (true && (backTo pos (starEach es env)).all (fun x => !x.1)) = true
    rw [star_all h.2]; rfl
theorem star_few {pos : Pos} {env : PySem.Env} {es : List Expr} (h : es.all plainE = true) (n : es.length < 30) :
    ((backTo pos (starEach es env)).all (fun x => !x.1) && (backToKw pos (keywordEach [] env)).all (fun x => x.1.isSome) && decide (es.length + ([] : List Keyword).length + (if ([] : List Keyword).isEmpty then 0 else 1) < 30)) = true := by
  rw [star_all h]
  simp [keywordEach, backToKw, n]
theorem base_ok {e : Expr} {f : Str} {env : PySem.Env} (h : baseE e = true) : attributeBase e f env (eval e env) = eval e env := by
  cases e <;> first | rfl | cases h
theorem ix_ok {e : Expr} (h : ixE e = true) : PlainIx e := by
  cases e <;> first | (intro o i; rfl) | cases h
theorem set_ok {e : Expr} {op : CmpOp} (h : setE e = true) : behindInMarks op e = false := by
  cases e <;> first | rfl | cases h
/-! ### the names that are built in -/
structure Blt (X : Cx) (x : Str) (v : Value) : Prop where
  gl : Gl X x
  mg : X.mg x = none
  bo : bootBuiltins x = some v
  nn : x ≠ "__name__"
  db : (x == ("__debug__" : Str)) = false
section
variable {X : Cx} {N : Nm} {W : WX} {P : Pg} {a b : Ex} {ea eb : Expr} {pos p : Pos} {x : Str}
theorem e_bu1 {id : String} {r : List V → Hp → VK → Prop} (hc : CallR X (.builtin id) r) (B : Blt X x (.builtin id)) (ha : OkE X N W P a ea) (h1 : plainE ea = true) :
    PE X (.Call (.Name x p) [ea] [] pos) (fun σ H Q => tV X.K N W (root a) (vw P a) σ H fun v H1 => r [v] H1 Q) :=
  pe_callB hc B.gl B.mg B.bo (pa_cons ha pa_nil (star_cons h1)) B.nn B.db (star_cons h1) rfl
theorem e_bu2 {id : String} {r : List V → Hp → VK → Prop} (hc : CallR X (.builtin id) r) (B : Blt X x (.builtin id)) (ha : OkE X N W P a ea) (hb : OkE X N W P b eb) (h1 : plainE ea = true) (h2 : plainE eb = true) :
    PE X (.Call (.Name x p) [ea, eb] [] pos) (tOp (fun v u H Q => r [v, u] H Q) (tV X.K N W (root a) (vw P a)) (tV X.K N W (root b) (vw P b))) :=
  pe_callB hc B.gl B.mg B.bo (pa_cons ha (pa_cons hb pa_nil (star_cons h2)) (star_cons h1)) B.nn B.db (star_cons h1) (star_any (es := [eb]) (by simp [h2]))
theorem e_ty1 {T : String} {r : List V → Hp → VK → Prop} (hc : CallR X (.type T) r) (B : Blt X x (.type T)) (ha : OkE X N W P a ea) (h1 : plainE ea = true) :
    PE X (.Call (.Name x p) [ea] [] pos) (fun σ H Q => tV X.K N W (root a) (vw P a) σ H fun v H1 => r [v] H1 Q) :=
  pe_callTy hc B.gl B.mg B.bo (pa_cons ha pa_nil (star_cons h1)) B.nn B.db (star_cons h1) rfl
theorem e_len (B : Blt X x (.builtin "len")) (ha : OkE X N W P a ea) (h1 : plainE ea = true) : OkE X N W P (.len a) (.Call (.Name x p) [ea] [] pos) :=
  L2.PE.imp (e_bu1 call_len B ha h1) fun σ H Q h => un_flat (r := fun v H Q => ∃ x n, [v] = [x] ∧ LenV X.K x H n ∧ Q (.int n) H) (g := lenD) (fun {K Z H x d v Q} hK zh cx e q => by
    subst hK
    cases x with
    | tup xs =>
      cases e
      obtain ⟨p, vs, rfl, h, r⟩ := cx.tup' zh
      exact ⟨_, xs.length, rfl, .inr ⟨vs, h, r.length⟩, q _ (.int _)⟩
    | lst o xs =>
      cases e
      obtain ⟨p, vs, rfl, h, r⟩ := cx.lst' zh
      exact ⟨_, xs.length, rfl, .inl ⟨vs, h.sq, r.length⟩, q _ (.int _)⟩
    | str s =>
      obtain ⟨y, rfl, hy⟩ := cx.str'
      simp only [lenD] at e
      split at e
      · rename_i hl
        cases e
        have : y.length = s.length := by rw [← hy]; rfl
        exact ⟨_, s.length, rfl, ⟨by rw [this, ← line_eq]; exact hl, this.symm⟩, q _ (.int _)⟩
      · cases e
    | _ => cases e) h
theorem e_toI (B : Blt X x (.type "int")) (ha : OkE X N W P a ea) (h1 : plainE ea = true) : OkE X N W P (.toI a) (.Call (.Name x p) [ea] [] pos) :=
  L2.PE.imp (e_ty1 call_int1 B ha h1) fun σ H Q h => un_flat (r := fun v H Q => (∃ i, [v] = [V.int i] ∧ Q (.int i) H) ∨ ∃ k, [v] = [V.bl k] ∧ Q (.int (if k then 1 else 0)) H) (g := toID) (fun {K Z H x d v Q} hK zh cx e q => by
    cases x with
    | int i => cases e; rw [cx.int']; exact .inl ⟨i, rfl, q _ (.int _)⟩
    | bl k => cases e; rw [cx.bl']; exact .inr ⟨k, rfl, q _ (.int _)⟩
    | _ => cases e) h
theorem onInts_of {K : PySem.W.Frag} {Z H : Hp} {f : List Int → Option D} {y d : D} {v : V} (zh : Same Z H) (cx : Ct K N Z H y v) (e : onInts f y = some d) : ∃ ns a, f ns = some d ∧ v = .ref a ∧ Ls K H a (ns.map V.int) := by
  cases y with
  | lst o xs =>
    simp only [onInts, Option.bind_eq_some_iff] at e
    obtain ⟨ns, e1, e2⟩ := e
    obtain ⟨a, vs, rfl, h, r⟩ := cx.lst' zh
    exact ⟨ns, a, e2, rfl, by rw [← ints_of r e1]; exact h⟩
  | _ => cases e
theorem onBools_of {K : PySem.W.Frag} {Z H : Hp} {f : List Bool → D} {y d : D} {v : V} (zh : Same Z H) (cx : Ct K N Z H y v) (e : onBools f y = some d) : ∃ ns a, f ns = d ∧ v = .ref a ∧ Ls K H a (ns.map V.bl) := by
  cases y with
  | lst o xs =>
    simp only [onBools, Option.map_eq_some_iff] at e
    obtain ⟨ns, e1, e2⟩ := e
    obtain ⟨a, vs, rfl, h, r⟩ := cx.lst' zh
    exact ⟨ns, a, e2, rfl, by rw [← bools_of r e1]; exact h⟩
  | _ => cases e
theorem e_any (hcalm : X.calm = true) (B : Blt X x (.builtin "any")) (ha : OkE X N W P a ea) (h1 : plainE ea = true) : OkE X N W P (.any a) (.Call (.Name x p) [ea] [] pos) :=
  L2.PE.imp (e_bu1 (cr_any hcalm) B ha h1) fun σ H Q h => un_flat (r := fun v H Q => rAny X.K [v] H Q) (g := anyD) (fun {K Z H x d v Q} hK zh cx e q => by
    obtain ⟨ns, a, rfl, rfl, h⟩ := onBools_of zh cx e
    exact ⟨a, ns, rfl, hK ▸ h.sq, q _ (.bl _)⟩) h
theorem e_all (hcalm : X.calm = true) (B : Blt X x (.builtin "all")) (ha : OkE X N W P a ea) (h1 : plainE ea = true) : OkE X N W P (.all a) (.Call (.Name x p) [ea] [] pos) :=
  L2.PE.imp (e_bu1 (cr_all hcalm) B ha h1) fun σ H Q h => un_flat (r := fun v H Q => rAll X.K [v] H Q) (g := allD) (fun {K Z H x d v Q} hK zh cx e q => by
    obtain ⟨ns, a, rfl, rfl, h⟩ := onBools_of zh cx e
    exact ⟨a, ns, rfl, hK ▸ h.sq, q _ (.bl _)⟩) h
theorem e_sum (hcalm : X.calm = true) (B : Blt X x (.builtin "sum")) (ha : OkE X N W P a ea) (h1 : plainE ea = true) : OkE X N W P (.sum a) (.Call (.Name x p) [ea] [] pos) :=
  L2.PE.imp (e_bu1 (cr_sum hcalm) B ha h1) fun σ H Q h => un_flat (r := fun v H Q => rSum X.K [v] H Q) (g := sumD) (fun {K Z H x d v Q} hK zh cx e q => by
    obtain ⟨ns, a, e, rfl, h⟩ := onInts_of zh cx e
    cases e
    exact ⟨a, ns, rfl, hK ▸ h.sq, q _ (.int _)⟩) h
theorem leastI_ok : ∀ (l : List Int) (a : Int), leastI a l ∈ a :: l ∧ ∀ y ∈ a :: l, leastI a l ≤ y
  | [], a => ⟨List.mem_cons_self, fun y h => by have := List.mem_singleton.mp h; subst this; exact Int.le_refl _⟩
  | b :: l, a => by
    obtain ⟨h1, h2⟩ := leastI_ok l (if b < a then b else a)
    refine ⟨?_, fun y hy => ?_⟩
    · show leastI (if b < a then b else a) l ∈ _
      rcases List.mem_cons.mp h1 with e | e
      · rw [e]; split <;> simp
      · simp [e]
    · show leastI (if b < a then b else a) l ≤ y
      have h0 := h2 _ List.mem_cons_self
      rcases List.mem_cons.mp hy with e | e
      · subst e; refine Int.le_trans h0 ?_; split <;> omega
      · rcases List.mem_cons.mp e with e | e
        · subst e; refine Int.le_trans h0 ?_; split <;> omega
        · exact h2 y (List.mem_cons_of_mem _ e)
theorem mostI_ok : ∀ (l : List Int) (a : Int), mostI a l ∈ a :: l ∧ ∀ y ∈ a :: l, y ≤ mostI a l
  | [], a => ⟨List.mem_cons_self, fun y h => by have := List.mem_singleton.mp h; subst this; exact Int.le_refl _⟩
  | b :: l, a => by
    obtain ⟨h1, h2⟩ := mostI_ok l (if b > a then b else a)
    refine ⟨?_, fun y hy => ?_⟩
    · show mostI (if b > a then b else a) l ∈ _
      rcases List.mem_cons.mp h1 with e | e
      · rw [e]; split <;> simp
      · simp [e]
    · show y ≤ mostI (if b > a then b else a) l
      have h0 := h2 _ List.mem_cons_self
      rcases List.mem_cons.mp hy with e | e
      · subst e; refine Int.le_trans ?_ h0; split <;> omega
      · rcases List.mem_cons.mp e with e | e
        · subst e; refine Int.le_trans ?_ h0; split <;> omega
        · exact h2 y (List.mem_cons_of_mem _ e)
theorem e_min1 (hcalm : X.calm = true) (B : Blt X x (.builtin "min")) (ha : OkE X N W P a ea) (h1 : plainE ea = true) : OkE X N W P (.min1 a) (.Call (.Name x p) [ea] [] pos) :=
  L2.PE.imp (e_bu1 (cr_min hcalm) B ha h1) fun σ H Q h => un_flat (r := fun v H Q => rMin X.K [v] H Q) (g := min1D) (fun {K Z H x d v Q} hK zh cx e q => by
    obtain ⟨ns, a, e, rfl, h⟩ := onInts_of zh cx e
    cases ns with
    | nil => cases e
    | cons n ns =>
      cases e
      refine ⟨a, n :: ns, rfl, hK ▸ h.sq, Nat.succ_pos _, fun m hm hle => ?_⟩
      obtain ⟨k1, k2⟩ := leastI_ok ns n
      have : m = leastI n ns := by have := hle _ k1; have := k2 _ hm; omega
      rw [this]; exact q _ (.int _)) h
theorem e_max1 (hcalm : X.calm = true) (B : Blt X x (.builtin "max")) (ha : OkE X N W P a ea) (h1 : plainE ea = true) : OkE X N W P (.max1 a) (.Call (.Name x p) [ea] [] pos) :=
  L2.PE.imp (e_bu1 (cr_max hcalm) B ha h1) fun σ H Q h => un_flat (r := fun v H Q => rMax X.K [v] H Q) (g := max1D) (fun {K Z H x d v Q} hK zh cx e q => by
    obtain ⟨ns, a, e, rfl, h⟩ := onInts_of zh cx e
    cases ns with
    | nil => cases e
    | cons n ns =>
      cases e
      refine ⟨a, n :: ns, rfl, hK ▸ h.sq, Nat.succ_pos _, fun m hm hle => ?_⟩
      obtain ⟨k1, k2⟩ := mostI_ok ns n
      have : m = mostI n ns := by have := hle _ k1; have := k2 _ hm; omega
      rw [this]; exact q _ (.int _)) h
theorem onInt2_of {K : PySem.W.Frag} {Z H : Hp} {f : Int → Int → Int} {y z d : D} {v u : V} (cx : Ct K N Z H y v) (cy : Ct K N Z H z u) (e : onInt2 f y z = some d) : ∃ i j, d = .int (f i j) ∧ v = .int i ∧ u = .int j := by
  cases y <;> first | (simp [onInt2] at e; done) | skip
  cases z <;> first | (simp [onInt2] at e; done) | skip
  cases e
  exact ⟨_, _, rfl, cx.int', cy.int'⟩
theorem e_min2 (hcalm : X.calm = true) (B : Blt X x (.builtin "min")) (ha : OkE X N W P a ea) (hb : OkE X N W P b eb) (h1 : plainE ea = true) (h2 : plainE eb = true) : OkE X N W P (.min2 a b) (.Call (.Name x p) [ea, eb] [] pos) :=
  L2.PE.imp (e_bu2 (call_min2 hcalm) B ha hb h1 h2) fun σ H Q h => bi_flat (g := min2D) (fun {K Z H x y d v u Q} hK zh cx cy e q => by
    obtain ⟨i, j, rfl, rfl, rfl⟩ := onInt2_of cx cy e
    exact ⟨i, j, rfl, q _ (.int _)⟩) h
theorem e_max2 (hcalm : X.calm = true) (B : Blt X x (.builtin "max")) (ha : OkE X N W P a ea) (hb : OkE X N W P b eb) (h1 : plainE ea = true) (h2 : plainE eb = true) : OkE X N W P (.max2 a b) (.Call (.Name x p) [ea, eb] [] pos) :=
  L2.PE.imp (e_bu2 (call_max2 hcalm) B ha hb h1 h2) fun σ H Q h => bi_flat (g := max2D) (fun {K Z H x y d v u Q} hK zh cx cy e q => by
    obtain ⟨i, j, rfl, rfl, rfl⟩ := onInt2_of cx cy e
    exact ⟨i, j, rfl, q _ (.int _)⟩) h
/-! sorted -/
theorem insI_perm (n : Int) : ∀ ns : List Int, (insI n ns).Perm (n :: ns)
  | [] => .refl _
  | m :: ms => by
    unfold insI
    split
    · exact .refl _
    · exact ((insI_perm n ms).cons m).trans (.swap n m ms)
theorem sortI_perm : ∀ ns : List Int, (sortI ns).Perm ns
  | [] => .refl _
  | n :: ns => (insI_perm n _).trans ((sortI_perm ns).cons n)
theorem insI_sorted (n : Int) : ∀ {ns : List Int}, ns.Pairwise (· ≤ ·) → (insI n ns).Pairwise (· ≤ ·)
  | [], _ => by simp [insI]
  | m :: ms, h => by
    obtain ⟨h1, h2⟩ := List.pairwise_cons.mp h
    unfold insI
    split
    · rename_i hm
      exact List.pairwise_cons.mpr ⟨fun y hy => (List.mem_cons.mp hy).elim (fun e => by omega) fun e => by have := h1 y e; omega, h⟩
    · rename_i hm
      refine List.pairwise_cons.mpr ⟨fun y hy => ?_, insI_sorted n h2⟩
      rcases List.mem_cons.mp ((insI_perm n ms).subset hy) with e | e
      · omega
      · exact h1 y e
theorem sortI_sorted : ∀ ns : List Int, (sortI ns).Pairwise (· ≤ ·)
  | [] => .nil
  | n :: ns => insI_sorted n (sortI_sorted ns)
theorem sort_one {ns ns' : List Int} (h : ns'.Perm ns) (s : ns'.Pairwise (· ≤ ·)) : ns' = sortI ns :=
  List.Perm.eq_of_pairwise (le := (· ≤ ·)) (fun _ _ _ _ h1 h2 => Int.le_antisymm h1 h2) s (sortI_sorted ns) (h.trans (sortI_perm ns).symm)
theorem reps_ints {K : PySem.W.Frag} {Z H : Hp} : ∀ ns : List Int, Reps K N Z H (ns.map .int) (ns.map V.int) []
  | [] => .nil
  | n :: ns => .cons (.int n) (reps_ints ns)
theorem depth_le : ∀ (d : D) {n : Nat}, dat0 n d = true → (toPy d).depth ≤ n
  | .non, _, _ => by simp [toPy, PyData.depth]
  | .bl _, _, _ => by simp [toPy, PyData.depth]
  | .int _, _, _ => by simp [toPy, PyData.depth]
  | .str _, _, _ => by simp [toPy, PyData.depth]
  | .tup xs, n, h => by
    obtain ⟨m, rfl, h⟩ := dat0_tup h
    have := depths_le xs h
    simp only [toPy, PyData.depth]; omega
  | .lst o xs, n, h => by
    obtain ⟨m, rfl, h⟩ := dat0_lst h
    have := depths_le xs h
    simp only [toPy, PyData.depth]; omega
  | .dct .., _, h => by simp [dat0] at h
  | .ins .., _, h => by simp [dat0] at h
  | .exc .., _, h => by simp [dat0] at h
  where depths_le : ∀ (ds : List D) {n : Nat}, dats0 n ds = true → PyData.depthAll (toPys ds) ≤ n
  | [], _, _ => by simp [toPys, PyData.depthAll]
  | d :: ds, n, h => by
    rw [dats0, Bool.and_eq_true] at h
    have h1 := depth_le d h.1
    have h2 := depths_le ds h.2
    simp only [toPys, PyData.depthAll]
    omega
theorem dats_mem : ∀ {ds : List D} {n : Nat} {b : D}, dats0 n ds = true → b ∈ ds → dat0 n b = true
  | d :: ds, n, b, h, hb => by
    rw [dats0, Bool.and_eq_true] at h
    rcases List.mem_cons.mp hb with rfl | hb
    · exact h.1
    · exact dats_mem h.2 hb
theorem each_vals {R : V → D → Prop} : ∀ {xs : List V} {us : List Value} {bs : List D}, Vals xs us → PySem.W.EachIs R xs bs → PySem.W.EachIs (fun u b => ∃ v, RelV v u ∧ R v b) us bs
  | _, _, _, .nil, .nil => .nil
  | _, _, _, .cons r t, .cons h e => .cons ⟨_, r, h⟩ (each_vals t e)
theorem vals_each {R : V → D → Prop} : ∀ {us : List Value} {bs : List D}, PySem.W.EachIs (fun u b => ∃ v, RelV v u ∧ R v b) us bs → ∃ xs, Vals xs us ∧ PySem.W.EachIs R xs bs
  | _, _, .nil => ⟨[], .nil, .nil⟩
  | _, _, .cons ⟨v, r, h⟩ e => let ⟨xs, r2, h2⟩ := vals_each e; ⟨v :: xs, .cons r r2, .cons h h2⟩
/-- sorted(xs) of rows of data -/
def rSortD (X : Cx) : List V → Hp → VK → Prop := fun vs H Q => ∃ (a : Addr) (xs : List V) (bs : List D) (R : V → D → Prop), vs = [.ref a] ∧ SqL X.K H a xs ∧ PySem.W.EachIs R xs bs ∧ (∀ v b, b ∈ bs → R v b → Dp X.K H v (toPy b)) ∧
  PySem.W.AllAlike (bs.map toPy) ∧ PySem.W.Sortable (bs.map toPy) ∧ (∀ b ∈ bs, X.A.units + 2 + (toPy b).depth < cLine) ∧ ∀ ys p, PySem.W.EachIs R ys (bs.mergeSort leD) → H p = none → Q (.ref p) (upd H p (.lst ys))
theorem cr_sortD : CallR X (.builtin "sorted") (rSortD X) := by
  intro pins s σ H vs us Q I r h
  obtain ⟨a, xs, bs, R, rfl, hs, he, hd, hal, hk, hu, q⟩ := h
  obtain ⟨its, rv, hl, hz⟩ := I.list hs
  rw [Vals.ref1 r]
  have hlen := he.length
  have e : PySem.W.EachIs (fun u b => (∃ v, RelV v u ∧ R v b) ∧ b ∈ bs) its bs := PySem.W.EachIs.of_zip (each_vals rv he).length fun p hp => ⟨(each_vals rv he).zip p hp, (List.of_mem_zip hp).2⟩
  have er : PySem.W.EachIs (fun u b => ∃ as, Reads s.heap u (toPy b) as) its bs := e.mono fun u b ⟨⟨v, r1, r2⟩, hb⟩ => (hd v b hb r2).reads I _ _ u r1
  refine PySem.W.sorted_data hl.isList (each_vals rv he) er hal hk (by rw [← hlen]; exact hz) hu fun out ho hout => ?_
  obtain ⟨ys, ry, hy⟩ := vals_each hout
  obtain ⟨ep, he'⟩ := PyProof.Rows.sortedAll_at s.heap its out.toArray
  refine ⟨.ref _, upd H (s.heap.objs.size + 1) (.lst ys), I.laid (t' := s.toks) (fun _ _ => PyProof.Rows.sortedAll_old) (Nat.le_succ _) ⟨?_, out, ep, ry, he'⟩, rfl, q ys _ hy (I.hok.fresh (Nat.le_succ _))⟩
  rw [ry.length, ho, ← hlen]; exact hz
theorem cr_or {id : String} {r r' : List V → Hp → VK → Prop} (h : CallR X (.builtin id) r) (h' : CallR X (.builtin id) r') : CallR X (.builtin id) (fun vs H Q => r vs H Q ∨ r' vs H Q) := by
  intro pins s σ H vs us Q I rv q
  rcases q with q | q
  · exact h pins s σ H vs us Q I rv q
  · exact h' pins s σ H vs us Q I rv q
theorem each_reps {K : PySem.W.Frag} {N : Nm} {Z H : Hp} : ∀ {ds : List D} {vs : List V}, Reps K N Z H ds vs [] → PySem.W.EachIs (fun v d => Rep K N Z H d v []) vs ds
  | [], _, r => by cases r; exact .nil
  | d :: ds, _, r => by
    obtain ⟨fp, hf⟩ : ∃ fp, fp = ([] : List Addr) := ⟨_, rfl⟩
    rw [← hf] at r
    cases r with
    | @cons _ _ _ _ f1 f2 h t =>
      obtain ⟨h1, h2⟩ := List.append_eq_nil_iff.mp hf
      subst h1; subst h2
      exact .cons h (each_reps t)
theorem reps_each {K : PySem.W.Frag} {N : Nm} {Z H : Hp} : ∀ {ds : List D} {vs : List V}, PySem.W.EachIs (fun v d => Rep K N Z H d v []) vs ds → Reps K N Z H ds vs []
  | _, _, .nil => .nil
  | _, _, .cons h t => .cons h (reps_each t)
theorem e_srt {k : Nat} (hr : Room (k + 1) X.A) (B : Blt X x (.builtin "sorted")) (ha : OkE X N W P a ea) (h1 : plainE ea = true) : OkE X N W P (.srt a) (.Call (.Name x p) [ea] [] pos) :=
  L2.PE.imp (e_bu1 (cr_or cr_sortedI cr_sortD) B ha h1) fun σ H Q ⟨Z, env, F, s, h⟩ => ⟨Z, env, F, s, (Post.bind h).imp fun y env1 Z1 H1 F1 G1 h1 v rv => by
    obtain ⟨d, e, h1⟩ := Post.noneR h1
    simp only [srtD] at e
    cases hi : srtI y with
    | some d' =>
      rw [hi] at e
      cases e
      obtain ⟨ns, l, e, rfl, hl⟩ := onInts_of G1.sr.zh rv.ct hi
      cases e
      refine .inl ⟨l, ns, rfl, hl.sq, fun ns' p hp hs hn => ?_⟩
      rw [sort_one hp hs]
      exact fin_list G1 (reps_ints _) h1 hn
    | none =>
      rw [hi] at e
      cases y with
      | lst o xs =>
        simp only [srtRows] at e
        split at e
        · rename_i hc
          cases e
          obtain ⟨ho, hd, hl, hal, hso⟩ := hc
          have shape : ∃ l vs, v = .ref l ∧ Reps X.K N Z1 H1 xs vs [] ∧ Ls X.K H1 l vs := by
            have ct := rv.ct
            cases ct with
            | lst h r => exact ⟨_, _, rfl, Vws.reps (r.vws (O := fun _ => True) (fun _ h => nomatch h)) ho, Ls.mono G1.sr.zh h⟩
            | lstO h h2 r => exact ⟨_, _, rfl, Vws.reps r ho, Ls.of h⟩
          obtain ⟨l, vs, rfl, rp, hls⟩ := shape
          refine .inr ⟨l, vs, xs, fun v d => Rep X.K N Z1 H1 d v [], rfl, hls.sq, each_reps rp, fun v b hb h => Rep.dp G1.sr.zh h (dats_mem hd hb), ?_, ?_, fun b hb => ?_, fun ys p hy hp => fin_list G1 (reps_each hy) h1 hp⟩
          · intro d hd1 d' hd2
            obtain ⟨b, hb, rfl⟩ := List.mem_map.mp hd1
            obtain ⟨b', hb', rfl⟩ := List.mem_map.mp hd2
            exact List.all_eq_true.mp (List.all_eq_true.mp hal b hb) b' hb'
          · rcases (Bool.or_eq_true_iff.mp hso) with hso | hso
            · refine .inl fun d hd1 => ?_
              obtain ⟨b, hb, rfl⟩ := List.mem_map.mp hd1
              have := List.all_eq_true.mp hso b hb
              unfold tupC at this
              split at this
              · exact ⟨_, _, by simp only [toPy, toPys]; rfl⟩
              · cases this
            · refine .inr fun d hd1 => ?_
              obtain ⟨b, hb, rfl⟩ := List.mem_map.mp hd1
              have := List.all_eq_true.mp hso b hb
              unfold lstC at this
              split at this
              · exact ⟨by simp [toPy], by simp [toPy]⟩
              · cases this
          · have h1 := depth_le b (dats_mem hd hb)
            have h2 := hr.units
            omega
        · cases e
      | _ => cases e⟩
/-! list(e), tuple(e) -/
theorem e_lis (B : Blt X x (.type "list")) (ha : OkE X N W P a ea) (h1 : plainE ea = true) : OkE X N W P (.lis a) (.Call (.Name x p) [ea] [] pos) :=
  L2.PE.imp (e_ty1 call_list_of B ha h1) fun σ H Q ⟨Z, env, F, s, h⟩ => ⟨Z, env, F, s, (Post.bind h).imp fun y env1 Z1 H1 F1 G1 h1 v rv =>
    cont_of G1 rv (Post.bind h1) fun xs env2 Z2 F2 G2 it h2 => by
      obtain ⟨l, vs, rfl, r, sh⟩ := it
      refine ⟨l, vs, rfl, ?_, fun p hp => ?_⟩
      · rcases sh with ⟨_, _, _, h⟩ | ⟨_, _, h⟩
        · exact .inl h.sq
        · exact .inr (SqT.mono h.sq G2.sr.zh)
      · exact fin_list (G1.trans G2) r h2 hp⟩
end
end Q
end
section
set_option linter.all false
set_option autoImplicit false
set_option maxHeartbeats 1000000
/-! Expressions that look into things. -/
namespace Q
open PySem PySem.Spec PyProof.Rows L2
/-! ### a part of a thing -/
section
variable {K : PySem.W.Frag} {N : Nm} {σ : L2.St} {Z H Z1 H1 Z2 H2 : Hp} {env env1 : Env} {F F1 F2 : Nat → List Addr} {O : Addr → Prop}
theorem Reps.nth : ∀ {ds : List D} {vs : List V} {fp : List Addr} {j : Nat} {d : D}, Reps K N Z H ds vs fp → ds[j]? = some d → ∃ w f, vs[j]? = some w ∧ Rep K N Z H d w f ∧ f.Sublist fp
  | _, _, _, 0, d, .cons r t, e => by
    cases e
    exact ⟨_, _, rfl, r, List.sublist_append_left _ _⟩
  | _, _, _, j + 1, d, .cons r t, e => by
    obtain ⟨w, f, e1, r1, s⟩ := Reps.nth t (j := j) (by simpa using e)
    exact ⟨w, f, by simpa using e1, r1, s.trans (List.sublist_append_right _ _)⟩
theorem Vws.nth : ∀ {ds : List D} {vs : List V} {j : Nat} {d : D}, Vws K N Z H O ds vs → ds[j]? = some d → ∃ w, vs[j]? = some w ∧ Vw K N Z H O d w
  | _, _, 0, d, .cons r t, e => by
    cases e
    exact ⟨_, rfl, r⟩
  | _, _, j + 1, d, .cons r t, e => by
    obtain ⟨w, e1, r1⟩ := Vws.nth t (j := j) (by simpa using e)
    exact ⟨w, by simpa using e1, r1⟩
theorem fld_ne {f g : Nat} (h : g ≠ f) : (N.fld f == N.fld g) = false := by
  cases q : N.fld f == N.fld g with
  | false => rfl
  | true => exact absurd (N.inj _ _ (eq_of_beq q)).symm h
theorem fld_nth : ∀ {fs : List Nat} {ds : List D} {f : Nat} {d : D}, field f fs ds = some d → ∃ j : Nat, ds[j]? = some d ∧ f ∈ fs ∧ ∀ vs : List V, fs.length = vs.length → ((fs.map N.fld).zip vs).lookup (N.fld f) = vs[j]?
  | [], _, _, _, e => by simp [field] at e
  | g :: gs, [], _, _, e => by simp [field] at e
  | g :: gs, x :: xs, f, d, e => by
    simp only [field] at e
    split at e
    · rename_i h
      cases e
      subst h
      refine ⟨0, rfl, List.mem_cons_self, fun vs hl => ?_⟩
      cases vs with
      | nil => cases hl
      | cons v vs => simp [List.lookup]
    · rename_i h
      obtain ⟨j, e1, m, k⟩ := fld_nth e
      refine ⟨j + 1, by simpa using e1, List.mem_cons_of_mem _ m, fun vs hl => ?_⟩
      cases vs with
      | nil => cases hl
      | cons v vs =>
        have := k vs (by simpa using hl)
        simp only [List.map_cons, List.zip_cons_cons, List.lookup, fld_ne h]
        simpa using this
theorem Tmp.sub {d d' : D} {v v' : V} {fv fv' : List Addr} (t : Tmp K N H F Z1 H1 F1 d v fv) (r : Rep K N Z1 H1 d' v' fv') (s : fv'.Sublist fv) : Tmp K N H F Z1 H1 F1 d' v' fv' :=
  ⟨r, s.nodup t.nd, fun c hc => t.dj c (s.subset hc), fun c hc => t.new c (s.subset hc)⟩
theorem RV.keep {r : Option Nat} {d : D} {v : V} (rv : RV K N r H F Z1 H1 F1 d v) (g : Go K N σ Z1 H1 env F1 Z2 H2 env1 F2) (h : here r env1 = true) : RV K N r H F Z2 H2 F2 d v := by
  cases r with
  | none => obtain ⟨fv, t⟩ := rv; exact ⟨fv, t.keep g⟩
  | some r =>
    refine Vw.keep (F := F1) rv g fun e => ?_
    simp [here, e] at h
/-- an item of a sequence -/
theorem RV.lnth {r : Option Nat} {o : Bool} {xs : List D} {d : D} {v : V} {j : Nat} (zh : Same Z1 H1) (rv : RV K N r H F Z1 H1 F1 (.lst o xs) v) (e : xs[j]? = some d) :
    ∃ a vs w, v = .ref a ∧ Ls K H1 a vs ∧ vs.length = xs.length ∧ vs[j]? = some w ∧ RV K N r H F Z1 H1 F1 d w := by
  cases r with
  | none =>
    obtain ⟨fv, t⟩ := rv
    have tr := t.rep
    cases tr with
    | lst h r =>
      obtain ⟨w, f, e1, r1, s⟩ := Reps.nth r e
      exact ⟨_, _, w, rfl, Ls.mono zh h, r.length.symm, e1, f, t.sub r1 s⟩
    | lstO h h2 r =>
      obtain ⟨w, f, e1, r1, s⟩ := Reps.nth r e
      exact ⟨_, _, w, rfl, Ls.of h, r.length.symm, e1, f, t.sub r1 (s.trans (List.sublist_cons_self _ _))⟩
  | some r =>
    have rv' : Vw K N Z1 H1 (fun c => c ∈ F1 r) (.lst o xs) v := rv
    cases rv' with
    | lst h rr =>
      obtain ⟨w, f, e1, r1, s⟩ := Reps.nth rr e
      exact ⟨_, _, w, rfl, Ls.mono zh h, rr.length.symm, e1, r1.vw fun c hc => nomatch s.subset hc⟩
    | lstO h h2 rr =>
      obtain ⟨w, e1, r1⟩ := Vws.nth rr e
      exact ⟨_, _, w, rfl, Ls.of h, rr.length.symm, e1, r1⟩
theorem RV.tnth {r : Option Nat} {xs : List D} {d : D} {v : V} {j : Nat} (zh : Same Z1 H1) (rv : RV K N r H F Z1 H1 F1 (.tup xs) v) (e : xs[j]? = some d) :
    ∃ a vs w, v = .ref a ∧ SqT K H1 a vs ∧ vs.length = xs.length ∧ vs[j]? = some w ∧ RV K N r H F Z1 H1 F1 d w := by
  cases r with
  | none =>
    obtain ⟨fv, t⟩ := rv
    have tr := t.rep
    cases tr with
    | tup h r =>
      obtain ⟨w, f, e1, r1, s⟩ := Reps.nth r e
      exact ⟨_, _, w, rfl, SqT.mono h.sq zh, r.length.symm, e1, f, t.sub r1 s⟩
  | some r =>
    have rv' : Vw K N Z1 H1 (fun c => c ∈ F1 r) (.tup xs) v := rv
    cases rv' with
    | tup h rr =>
      obtain ⟨w, e1, r1⟩ := Vws.nth rr e
      exact ⟨_, _, w, rfl, SqT.mono h.sq zh, rr.length.symm, e1, r1⟩
/-- a field of an instance -/
theorem RV.fld {r : Option Nat} {o : Bool} {c : Nat} {fs : List Nat} {xs : List D} {d : D} {v : V} {f : Nat} (zh : Same Z1 H1) (rv : RV K N r H F Z1 H1 F1 (.ins o c fs xs) v) (e : field f fs xs = some d) :
    ∃ a dx vs w, v = .ref a ∧ H1 a = some (.ins (N.cls c) dx vs) ∧ N.insF c f = true ∧ vs.lookup (N.fld f) = some w ∧ RV K N r H F Z1 H1 F1 d w := by
  obtain ⟨j, e1, m, k⟩ := fld_nth (N := N) e
  cases r with
  | none =>
    obtain ⟨fv, t⟩ := rv
    have tr := t.rep
    cases tr with
    | ins h l hf r =>
      obtain ⟨w, f', e2, r1, s⟩ := Reps.nth r e1
      exact ⟨_, _, _, w, rfl, zh _ _ h, hf f m, (k _ l).trans e2, f', t.sub r1 s⟩
    | insO h l hf h2 r =>
      obtain ⟨w, f', e2, r1, s⟩ := Reps.nth r e1
      exact ⟨_, _, _, w, rfl, h, hf f m, (k _ l).trans e2, f', t.sub r1 (s.trans (List.sublist_cons_self _ _))⟩
  | some r =>
    have rv' : Vw K N Z1 H1 (fun c => c ∈ F1 r) (.ins o c fs xs) v := rv
    cases rv' with
    | ins h l hf rr =>
      obtain ⟨w, f', e2, r1, s⟩ := Reps.nth rr e1
      exact ⟨_, _, _, w, rfl, zh _ _ h, hf f m, (k _ l).trans e2, r1.vw fun c hc => nomatch s.subset hc⟩
    | insO h l hf h2 rr =>
      obtain ⟨w, e2, r1⟩ := Vws.nth rr e1
      exact ⟨_, _, _, w, rfl, h, hf f m, (k _ l).trans e2, r1⟩
/-- .. of an exception -/
theorem RV.xfld {r : Option Nat} {c : Nat} {fs : List Nat} {xs : List D} {d : D} {v : V} {f : Nat} (zh : Same Z1 H1) (rv : RV K N r H F Z1 H1 F1 (.exc c fs xs) v) (e : field f fs xs = some d) :
    ∃ a dd vs w, v = .ref a ∧ H1 a = some (exHO (.ref (N.cls c)) (some dd) a) ∧ H1 dd = some (.xd vs) ∧ N.excF c = some fs ∧ f ∈ fs ∧ vs.lookup (N.fld f) = some w ∧ RV K N r H F Z1 H1 F1 d w := by
  obtain ⟨j, e1, m, k⟩ := fld_nth (N := N) e
  cases r with
  | none =>
    obtain ⟨fv, t⟩ := rv
    have tr := t.rep
    cases tr with
    | exc h h2 l hf r =>
      obtain ⟨w, f', e2, r1, s⟩ := Reps.nth r e1
      exact ⟨_, _, _, w, rfl, zh _ _ h, zh _ _ h2, hf, m, (k _ l).trans e2, f', t.sub r1 s⟩
    | excN h hf => simp [field] at e
  | some r =>
    have rv' : Vw K N Z1 H1 (fun c => c ∈ F1 r) (.exc c fs xs) v := rv
    cases rv' with
    | exc h h2 l hf rr =>
      obtain ⟨w, f', e2, r1, s⟩ := Reps.nth rr e1
      exact ⟨_, _, _, w, rfl, zh _ _ h, zh _ _ h2, hf, m, (k _ l).trans e2, r1.vw fun c hc => nomatch s.subset hc⟩
    | excN h hf => simp [field] at e
theorem Items.keep {d : D} {v : V} {xs : List D} (h : Items K N Z1 H1 d v xs) (g : Go K N σ Z1 H1 env F1 Z2 H2 env1 F2) : Items K N Z2 H2 d v xs := by
  obtain ⟨a, vs, e, r, sh⟩ := h
  exact ⟨a, vs, e, r.mono g.zz fun _ h => (nomatch h), sh.imp (fun ⟨o, ys, e, h⟩ => ⟨o, ys, e, Ls.mono g.hh h⟩) fun ⟨ys, e, t⟩ => ⟨ys, e, t.mono g.zz⟩⟩
theorem atI_nth {xs : List D} {i : Int} {d : D} (e : Q.atI xs i = some d) : ∃ j : Nat, xs[j]? = some d ∧ ∀ vs : List V, vs.length = xs.length → L2.atI vs i = vs[j]? := by
  simp only [Q.atI, Option.bind_eq_some_iff] at e
  obtain ⟨j, e1, e2⟩ := e
  refine ⟨j, e2, fun vs hl => ?_⟩
  have : L2.ixN vs.length i = some j := by rw [hl]; exact e1
  simp only [L2.atI, this, Option.bind_some]
theorem reps_of : ∀ {ds : List D} {vs : List V}, ds.length = vs.length → (∀ (j : Nat) (d : D) (v : V), ds[j]? = some d → vs[j]? = some v → Rep K N Z H d v []) → Reps K N Z H ds vs []
  | [], [], _, _ => .nil
  | [], _ :: _, h, _ => nomatch h
  | _ :: _, [], h, _ => nomatch h
  | d :: ds, v :: vs, h, k => .cons (f := []) (g := []) (k 0 d v rfl rfl) (reps_of (by simpa using h) fun j d' v' e1 e2 => k (j + 1) d' v' (by simpa using e1) (by simpa using e2))
theorem Reps.at {ds : List D} {vs : List V} {j : Nat} {d : D} {v : V} (h : Reps K N Z H ds vs []) (e1 : ds[j]? = some d) (e2 : vs[j]? = some v) : Rep K N Z H d v [] := by
  obtain ⟨w, f, e, r, s⟩ := h.nth e1
  have : f = [] := List.sublist_nil.mp s
  subst this
  rw [e2] at e
  cases e
  exact r
theorem Reps.drop {ds : List D} {vs : List V} (n : Nat) (h : Reps K N Z H ds vs []) : Reps K N Z H (ds.drop n) (vs.drop n) [] :=
  reps_of (by rw [List.length_drop, List.length_drop, h.length]) fun j d v e1 e2 => h.at (List.getElem?_drop ▸ e1) (List.getElem?_drop ▸ e2)
theorem Reps.take {ds : List D} {vs : List V} (n : Nat) (h : Reps K N Z H ds vs []) : Reps K N Z H (ds.take n) (vs.take n) [] :=
  reps_of (by rw [List.length_take, List.length_take, h.length]) fun j d v e1 e2 => by
    by_cases q : j < n
    · rw [List.getElem?_take_of_lt q] at e1 e2; exact h.at e1 e2
    · rw [List.getElem?_eq_none (by rw [List.length_take]; omega)] at e1; cases e1
theorem Reps.cut {ds : List D} {vs : List V} (lo hi : Option Int) (h : Reps K N Z H ds vs []) : Reps K N Z H (cut ds lo hi) (cutV vs lo hi) [] := by
  have e : ∀ n d x, isIx n d x = HT.sIx n d x := fun n d x => by cases x <;> rfl
  unfold Q.cut cutV
  rw [h.length, e, e]
  exact (h.drop _).take _
theorem Reps.rev {ds : List D} {vs : List V} (h : Reps K N Z H ds vs []) : Reps K N Z H ds.reverse vs.reverse [] := by
  have hl := h.length
  refine reps_of (by simp [hl]) fun j d v e1 e2 => ?_
  by_cases q : j < ds.length
  · rw [List.getElem?_reverse q] at e1
    rw [List.getElem?_reverse (by omega), ← hl] at e2
    exact h.at e1 e2
  · rw [List.getElem?_eq_none (by simpa using q)] at e1; cases e1
end
end Q
end
section
set_option linter.all false
set_option autoImplicit false
set_option maxHeartbeats 1000000
/-! Expressions that look into things: the rules. -/
namespace Q
open PySem PySem.Spec PyProof.Rows L2
def tyN : Nat → String
  | 0 => "int" | 1 => "bool" | 2 => "list" | 3 => "tuple" | 4 => "str" | 5 => "dict" | _ => "NoneType"
/-- what a class of ours has -/
structure ClsI (K : PySem.W.Frag) (C : Addr) : Prop where
  cls : Cls K C
  ha : PySem.W.findIn K (.ref C) "__class__" = some (some (.builtin "object.__class__"))
  hn : PySem.W.specialIn K (.builtin "object.__class__") "__get__" = some (some (.builtin "getset_descriptor.__get__"))
  ht : PySem.W.takesIn K (.builtin "object.__class__") = some true
  hm : PySem.W.mroIn K C (.type "object") = some true
structure NmOk (K : PySem.W.Frag) (N : Nm) : Prop where
  ins : ∀ c f, N.insF c f = true → ClsI K (N.cls c) ∧ NoAttr K (N.cls c) (N.fld f)
  exc : ∀ c fs, N.excF c = some fs → XfC K (N.cls c) ∧ ∀ f ∈ fs, PySem.W.findIn K (.ref (N.cls c)) (N.fld f) = some none
  ty : ∀ t T, t < 7 → T < 6 → PySem.W.kitOne K (.type (tyN t)) (.type (tyN T)) = some (t == T || (t == 1 && T == 0))
  insT : ∀ c f T, N.insF c f = true → T < 6 → PySem.W.kitOne K (.ref (N.cls c)) (.type (tyN T)) = some false
/-- .. of the class c as isinstance asks it -/
structure SubOk (K : PySem.W.Frag) (N : Nm) (P : Pg) (c : Nat) : Prop where
  ty : ∀ t, t < 7 → PySem.W.kitOne K (.type (tyN t)) (.ref (N.cls c)) = some false
  ins : ∀ k f, N.insF k f = true → PySem.W.kitOne K (.ref (N.cls k)) (.ref (N.cls c)) = some (P.sub k c)
section
variable {X : Cx} {N : Nm} {W : WX} {P : Pg} {a b : Ex} {ea eb : Expr} {pos p q : Pos} {x : Str}
theorem pe_or2 {e : Expr} {t t' : TE} (h : PE X e t) (h' : PE X e t') : PE X e (fun σ H Q => t σ H Q ∨ t' σ H Q) :=
  ⟨fun pins s σ H Q I o => o.elim (h.run pins s σ H Q I) (h'.run pins s σ H Q I)⟩
theorem e_tpl (B : Blt X x (.type "tuple")) (ha : OkE X N W P a ea) (h1 : plainE ea = true) : OkE X N W P (.tpl a) (.Call (.Name x p) [ea] [] pos) :=
  L2.PE.imp (e_ty1 call_tupF B ha h1) fun σ H Q ⟨Z, env, F, s, h⟩ => ⟨Z, env, F, s, (Post.bind h).imp fun y env1 Z1 H1 F1 G1 h1 v rv =>
    cont_of G1 rv (Post.bind h1) fun xs env2 Z2 F2 G2 it h2 => by
      obtain ⟨l, vs, rfl, r, sh⟩ := it
      refine ⟨l, vs, rfl, ?_⟩
      rcases sh with ⟨_, _, _, h⟩ | ⟨_, _, h⟩
      · exact .inl ⟨h.sq, fun p ob hp hd => fin_tup (G1.trans G2) r h2 hp hd⟩
      · exact .inr ⟨SqT.mono h.sq G2.sr.zh, h2 Z2 H1 F2 (Go.refl G2.sr) _ (RV.flat (.tup h r (.inl rfl)))⟩⟩
theorem findD_ok {x : D} : ∀ {xs : List D} {k j : Nat}, findD x xs k = some j → ∃ (m : Nat) (z : D), j = k + m ∧ xs[m]? = some z ∧ eqv z x = true ∧ ∀ (i : Nat) (z' : D), i < m → xs[i]? = some z' → eqv z' x = false
  | [], _, _, e => nomatch e
  | d :: ds, k, j, e => by
    simp only [findD] at e
    split at e
    · rename_i h
      cases e
      exact ⟨0, d, rfl, rfl, h, fun i _ hi => absurd hi (Nat.not_lt_zero _)⟩
    · rename_i h
      obtain ⟨m, z, e1, e2, e3, e4⟩ := findD_ok e
      refine ⟨m + 1, z, by omega, by simpa using e2, e3, fun i z' hi h' => ?_⟩
      cases i with
      | zero => cases h'; simpa using h
      | succ i => exact e4 i z' (by omega) (by simpa using h')
theorem dats_at : ∀ {xs : List D} {n m : Nat} {z : D}, dats0 n xs = true → xs[m]? = some z → dat0 n z = true
  | d :: ds, n, 0, z, h, e => by
    cases e
    rw [dats0, Bool.and_eq_true] at h
    exact h.1
  | d :: ds, n, m + 1, z, h, e => by
    rw [dats0, Bool.and_eq_true] at h
    exact dats_at h.2 (by simpa using e)
theorem e_idx {k : Nat} (hr : Room (k + 1) X.A) (hl : (p.endLine == pos.line) = true) (h1 : baseE ea = true) (h2 : plainE eb = true) (ha : OkE X N W P a ea) (hb : OkE X N W P b eb) :
    OkE X N W P (.idx a b) (.Call (.Attribute ea "index" p) [eb] [] pos) := by
  have hu : X.A.units + 65 < cLine := by have := hr.un; omega
  have hp : [eb].all plainE = true := by simp [h2]
  refine L2.PE.imp (pe_or2
    (pe_bmD (t := tCons (tV X.K N W (root b) (vw P b)) tNil) PySem.F.plainAttrs_list PySem.F.slot_list_index PySem.F.type_list_index (mt_indexD hu) ha (pa_cons hb pa_nil (star_cons h2)) (base_ok h1) (star_few hp (Nat.lt_of_sub_eq_succ rfl)) hl (star_cons h2) rfl)
    (pe_bmD (t := tCons (tV X.K N W (root b) (vw P b)) tNil) PySem.F.plainAttrs_tuple PySem.F.slot_tuple_index PySem.F.type_tuple_index (mt_tupIx hu) ha (pa_cons hb pa_nil (star_cons h2)) (base_ok h1) (star_few hp (Nat.lt_of_sub_eq_succ rfl)) hl (star_cons h2) rfl)) fun σ H Q ⟨Z, env, F, s, h⟩ => ?_
  simp only [vw] at h
  cases e1 : vw P a env with
  | stuck => rw [e1] at h; exact h.elim
  | exc c fs vs env1 => rw [e1] at h; exact .inl ⟨Z, env, F, s, by rw [e1]; exact h⟩
  | ok x env1 =>
    rw [e1] at h
    have h : Post X.K N W σ Z H env F ((R.ok x env1).bind fun x env => if (els x).isSome then (vw P b env).bind fun y env => noneR (idxD x y) env else .stuck) _ := h
    have h0 := Post.bind h
    have data : ∀ {xs : List D} {y d : D}, els x = some xs → idxD x y = some d → dat0 60 y = true ∧ dats0 59 xs = true ∧ ∃ (m : Nat) (z : D), d = .int (m : Nat) ∧ xs[m]? = some z ∧ eqv z y = true ∧ ∀ (i : Nat) (z' : D), i < m → xs[i]? = some z' → eqv z' y = false := fun {xs y d} e1 e => by
      simp only [idxD, e1] at e
      split at e
      · rename_i hd
        rw [Bool.and_eq_true] at hd
        simp only [Option.map_eq_some_iff] at e
        obtain ⟨k, e2, rfl⟩ := e
        obtain ⟨m, z, e3, e4, e5, e6⟩ := findD_ok e2
        rw [Nat.zero_add] at e3
        subst e3
        exact ⟨hd.1, hd.2, k, z, rfl, e4, e5, e6⟩
      · cases e
    have py : ∀ {xs : List D} {m : Nat} {z : D}, xs[m]? = some z → (toPys xs)[m]? = some (toPy z) := fun {xs m z} e => by rw [toPys_map, List.getElem?_map, e]; rfl
    have py' : ∀ {xs : List D} {m : Nat} {z : PyData}, (toPys xs)[m]? = some z → ∃ z', xs[m]? = some z' ∧ z = toPy z' := fun {xs m z} e => by
      rw [toPys_map, List.getElem?_map, Option.map_eq_some_iff] at e
      obtain ⟨z', e, rfl⟩ := e
      exact ⟨z', e, rfl⟩
    cases x with
    | lst o xs =>
      refine .inl ⟨Z, env, F, s, ?_⟩
      rw [e1]
      intro Z1 H1 F1 G1 v rv
      have h1 := h0 Z1 H1 F1 G1
      simp only [els, Option.isSome_some, if_true] at h1
      refine ⟨?_, Z1, env1, F1, G1.sr, (Post.bind h1).imp fun y env2 Z2 H2 F2 G2 h2 u ru => ?_⟩
      · obtain ⟨l, vs, rfl, hr, _⟩ := rv.ct.lst' G1.sr.zh
        exact .inl (.inl ⟨rfl, _, hr.sq⟩)
      · obtain ⟨d, e, h2⟩ := Post.noneR h2
        obtain ⟨d1, d2, m, z, rfl, k1, k2, k3⟩ := data rfl e
        have zh := G2.sr.zh
        have cx := rv.ct.keep G2
        have hd : dat0 60 (.lst o xs) = true := by simp [dat0, d2]
        have dx := cx.dp zh hd
        have dy := ru.ct.dp zh d1
        obtain ⟨l, vs, rfl, _, _⟩ := cx.lst' zh
        exact ⟨l, _, _, toPys xs, m, _, rfl, rfl, dx, dy, dat_shaped (n := 60) (d := .lst o xs) hd (by omega), dat_shaped d1 (by omega), py k1, by rw [eqv_py z y (dats_at d2 k1) d1]; exact k2,
          fun i z' hi hz => by
            obtain ⟨w, e3, rfl⟩ := py' hz
            rw [eqv_py w y (dats_at d2 e3) d1]; exact k3 i w hi e3, h2 Z2 H2 F2 (Go.refl G2.sr) _ (RV.flat (.int _))⟩
    | tup xs =>
      refine .inr ⟨Z, env, F, s, ?_⟩
      rw [e1]
      intro Z1 H1 F1 G1 v rv
      have h1 := h0 Z1 H1 F1 G1
      simp only [els, Option.isSome_some, if_true] at h1
      refine ⟨?_, Z1, env1, F1, G1.sr, (Post.bind h1).imp fun y env2 Z2 H2 F2 G2 h2 u ru => ?_⟩
      · obtain ⟨l, vs, rfl, hr, _⟩ := rv.ct.tupZ
        exact .inr ⟨rfl, l, vs, rfl, hr.mono G1.sr.zh⟩
      · obtain ⟨d, e, h2⟩ := Post.noneR h2
        obtain ⟨d1, d2, m, z, rfl, k1, k2, k3⟩ := data rfl e
        have zh := G2.sr.zh
        have cx := rv.ct.keep G2
        have hd : dat0 60 (.tup xs) = true := by simp [dat0, d2]
        exact ⟨_, _, toPys xs, m, _, rfl, cx.dp zh hd, ru.ct.dp zh d1, dat_shaped (n := 60) (d := .tup xs) hd (by omega), dat_shaped d1 (by omega), py k1, by rw [eqv_py z y (dats_at d2 k1) d1]; exact k2,
          fun i z' hi hz => by
            obtain ⟨w, e3, rfl⟩ := py' hz
            rw [eqv_py w y (dats_at d2 e3) d1]; exact k3 i w hi e3, h2 Z2 H2 F2 (Go.refl G2.sr) _ (RV.flat (.int _))⟩
    | _ =>
      refine .inl ⟨Z, env, F, s, ?_⟩
      rw [e1]
      intro Z1 H1 F1 G1 v rv
      exact (h0 Z1 H1 F1 G1).elim
theorem mt_dcount (hu : X.A.units + 65 < cLine) : MtR X "list.count" (fun x xs H Q => ∃ (y : V) (d : PyData) (ds : List PyData), xs = [y] ∧ Dp X.K H x (.list ds) ∧ Dp X.K H y d ∧ SeqAt.shaped (.list ds) = true ∧ SeqAt.shaped d = true ∧
    Q (.int (ds.countP (fun z => PyData.eqv z d) : Nat)) H) := by
  rintro pins s σ H x xs v us Q I rx rxs ⟨y, d, ds, rfl, hl, hy, sl, sd, q⟩
  obtain ⟨uy, rfl, ry⟩ := vals1 rxs
  obtain ⟨_, ryd⟩ := hy.reads I _ _ uy ry
  have hds : PyData.canLayAll0 ds = true := SeqAt.canLay_of_shaped sl
  cases hl with
  | @lst p vs _ hs ha =>
    obtain rfl : v = .ref p := rx
    obtain ⟨its, rv, ⟨⟨cls, dd, data, slt⟩, n, ho, hc, hdn, hd⟩, hlen⟩ := I.list hs
    simp only at hc hd
    subst hc hd
    obtain ⟨as, ras⟩ := Dp.readsAll I ds _ its ha rv
    have rd := SeqAt.readsAll_map ds its as hds ras
    refine call_meets PySem.F.slot_list_count ⟨_, ho, rfl⟩ PySem.F.entry_list_count (PySem.F.args_list_count_2 _ _)
      (SeqAt.list_countAt p its.toArray n dd slt uy (fun w => PyData.eqv (SeqAt.readOf s.heap w) d)) ⟨ho, SeqAt.items_eqAt (vs := its.toArray) ras ryd hds (SeqAt.canLay_of_shaped sd) (room_in_shaped sd hu), ?_⟩
    have ec : its.toArray.toList.countP (fun w => PyData.eqv (SeqAt.readOf s.heap w) d) = ds.countP (fun z => PyData.eqv z d) := by
      rw [← rd, List.countP_map]; rfl
    refine ⟨.int (ds.countP (fun z => PyData.eqv z d) : Nat), H, I.tok _, ⟨s.toks, ?_⟩, q⟩
    show Value.int ((its.toArray.toList.countP (fun w => PyData.eqv (SeqAt.readOf s.heap w) d) : Nat) : Int) s.toks = _
    rw [ec]
theorem mt_or {id : String} {r r' : V → List V → Hp → VK → Prop} (h : MtR X id r) (h' : MtR X id r') : MtR X id (fun x xs H Q => r x xs H Q ∨ r' x xs H Q) := by
  intro pins s σ H x xs v us Q I rx rxs q
  rcases q with q | q
  · exact h pins s σ H x xs v us Q I rx rxs q
  · exact h' pins s σ H x xs v us Q I rx rxs q
theorem countP_py {d : D} (hd : dat0 60 d = true) : ∀ {xs : List D}, dats0 59 xs = true → (toPys xs).countP (fun z => PyData.eqv z (toPy d)) = xs.countP fun z => eqv z d
  | [], _ => rfl
  | x :: xs, h => by
    rw [dats0, Bool.and_eq_true] at h
    simp only [toPys, List.countP_cons, countP_py hd h.2, eqv_py x d h.1 hd]
theorem e_cnt {k : Nat} (hr : Room (k + 1) X.A) (hl : (p.endLine == pos.line) = true) (h1 : baseE ea = true) (h2 : plainE eb = true) (ha : OkE X N W P a ea) (hb : OkE X N W P b eb) :
    OkE X N W P (.cnt a b) (.Call (.Attribute ea "count" p) [eb] [] pos) := by
  have hu : X.A.units + 65 < cLine := by have := hr.un; omega
  have hp : [eb].all plainE = true := by simp [h2]
  refine L2.PE.imp (pe_bmD (t := tCons (tV X.K N W (root b) (vw P b)) tNil) PySem.F.plainAttrs_list PySem.F.slot_list_count PySem.F.type_list_count (mt_or mt_lcount (mt_dcount hu)) ha (pa_cons hb pa_nil (star_cons h2)) (base_ok h1) (star_few hp (Nat.lt_of_sub_eq_succ rfl)) hl (star_cons h2) rfl) fun σ H Q ⟨Z, env, F, s, h⟩ =>
    ⟨Z, env, F, s, (Post.bind h).imp fun x env1 Z1 H1 F1 G1 h1 v rv => ?_⟩
  cases x with
  | lst o xs =>
    refine ⟨?_, Z1, env1, F1, G1.sr, (Post.bind (res := vw P b env1) h1).imp fun y env2 Z2 H2 F2 G2 h2 u ru => ?_⟩
    · obtain ⟨l, vs, rfl, hr, _⟩ := rv.ct.lst' G1.sr.zh
      exact .inl (.inl ⟨rfl, _, hr.sq⟩)
    · obtain ⟨d, e, h2⟩ := Post.noneR h2
      cases y with
      | int k =>
        simp only [cntD, Option.map_eq_some_iff] at e
        obtain ⟨ns, e, rfl⟩ := e
        obtain ⟨l, vs, rfl, hr, r⟩ := (rv.ct.keep G2).lst' G2.sr.zh
        have := ru.ct.int'
        subst this
        exact .inl ⟨l, ns, k, rfl, rfl, by rw [← ints_of r e]; exact hr.sq, h2 Z2 H2 F2 (Go.refl G2.sr) _ (RV.flat (.int _))⟩
      | bl k =>
        simp only [cntD] at e
        split at e
        · rename_i hd
          cases e
          have hd1 : dat0 60 (.lst o xs) = true := by simp [dat0, hd]
          have hb1 : dat0 60 (.bl k) = true := by simp [dat0]
          have dx := (rv.ct.keep G2).dp G2.sr.zh hd1
          have dy := ru.ct.dp G2.sr.zh hb1
          refine .inr ⟨u, _, toPys xs, rfl, dx, dy, dat_shaped (n := 60) (d := .lst o xs) hd1 (by omega), dat_shaped hb1 (by omega), ?_⟩
          rw [countP_py hb1 hd]
          exact h2 Z2 H2 F2 (Go.refl G2.sr) _ (RV.flat (.int _))
        · cases e
      | _ => cases e
  | _ => exact h1.elim
end
end Q
end
section
set_option linter.all false
set_option autoImplicit false
set_option maxHeartbeats 1000000
/-! Fields, items, slices, kinds. -/
namespace Q
open PySem PySem.Spec PyProof.Rows L2
section
variable {X : Cx} {N : Nm} {W : WX} {P : Pg} {a b c : Ex} {ea eb : Expr} {pos p q : Pos} {x : Str}
theorem e_fld {f : Nat} {n : Str} (hN : NmOk X.K N) (hn : N.fld f = n) (h1 : baseE ea = true) (ha : OkE X N W P a ea) : OkE X N W P (.fld a f) (.Attribute ea n pos) := by
  subst hn
  refine ⟨fun pins s σ H Q I ⟨Z, env, F, sr, h⟩ => attr_of (base_ok h1) (thn (ha.run pins s σ H (fun x H1 => ∃ Z1 env1 F1 d, Go X.K N σ Z H env F Z1 H1 env1 F1 ∧ RV X.K N (root a) H F Z1 H1 F1 d x ∧
      ∃ y, getF d f = some y ∧ ∀ w, RV X.K N (root a) H F Z1 H1 F1 y w → Q w H1) I ⟨Z, env, F, sr, (Post.bind h).imp fun d env1 Z1 H1 F1 G1 h1 v rv => ?_⟩) fun u s1 ⟨x, H1, I1, rx, Z1, env1, F1, d, G1, rv, y, e, k⟩ => ?_)⟩
  · obtain ⟨y, e, h1⟩ := Post.noneR h1
    exact ⟨Z1, env1, F1, d, G1, rv, y, e, fun w rw' => h1 Z1 H1 F1 (Go.refl G1.sr) w rw'⟩
  · cases d with
    | ins o c fs xs =>
      obtain ⟨l, dx, vs, w, rfl, hl, hi, lk, rw'⟩ := rv.fld G1.sr.zh e
      obtain rfl : u = .ref l := rx
      obtain ⟨hc, hno⟩ := hN.ins c f hi
      exact getattr_ok I1 hl hc.cls hno lk fun u s2 I2 r2 => ⟨w, H1, I2, r2, k w rw'⟩
    | exc c fs xs =>
      obtain ⟨l, dd, vs, w, rfl, hl, hd, hi, hm, lk, rw'⟩ := rv.xfld G1.sr.zh e
      obtain rfl : u = .ref l := rx
      obtain ⟨T, hno⟩ := hN.exc c fs hi
      obtain ⟨⟨oe, us, ho, hz, hdt⟩, _, _⟩ := I1.hok l _ hl
      have hx : ObjOk X.prog X.w H1 s1.heap dd (.xd vs) := I1.hok dd _ hd
      obtain ⟨mA, hns, hr⟩ := hx
      obtain ⟨od, ho2, hl2⟩ := lookIn_ns hns
      obtain ⟨z, hu, ru⟩ := RelO.some_of (v := w) (o := mA (N.fld f)) (by rw [← lk]; exact hr _)
      have J : PySem.W.InstAt s1.heap l oe (N.cls c) (some od) := ⟨ho, hz.1, by unfold PySem.W.notCls; rw [hdt] <;> rfl, by rw [hz.2]; exact ho2⟩
      exact HandSPX.exc_get I1.kIn J T.ga T.gg T.exC (PySem.W.findObj_own T.hdC (hno f hm) rfl (by rw [hl2, hu])) (handed_of ru) ⟨w, H1, I1.tok _, ru, k w rw'⟩
    | _ => cases e
theorem e_ix (h1 : ixE eb = true) (ha : OkE X N W P a ea) (hb : OkE X N W P b eb) : OkE X N W P (.ix a b) (.Subscript ea eb pos) :=
  L2.PE.imp (pe_ix ix_seq ha hb (ix_ok h1)) fun σ H Q ⟨Z, env, F, s, h⟩ => by
    refine ⟨Z, env, F, s, (Post.bind h).imp fun x env1 Z1 H1 F1 G1 h1 v rv => ⟨Z1, env1, F1, G1.sr, (Post.bind h1).imp fun y env2 Z2 H2 F2 G2 h2 u ru => ?_⟩⟩
    cases hh : here (root a) env2 with
    | false => rw [hh] at h2; exact h2.elim
    | true =>
      rw [hh, if_pos rfl] at h2
      obtain ⟨d, e, h2⟩ := Post.noneR h2
      have rv := rv.keep G2 hh
      have fin : ∀ w, RV X.K N (root a) H F Z2 H2 F2 d w → Q w H2 := fun w rw' => h2 Z2 H2 F2 (Go.refl G2.sr) w rw'
      cases x with
      | lst o xs =>
        cases y with
        | int i =>
          obtain ⟨j, e1, e2⟩ := atI_nth e
          obtain ⟨l, vs, w, rfl, hl, hn, hj, rw'⟩ := rv.lnth G2.sr.zh e1
          have := ru.ct.int'
          subst this
          exact .inl ⟨l, vs, i, w, rfl, rfl, hl.sq, (e2 vs hn).trans hj, fin w rw'⟩
        | _ => cases e
      | tup xs =>
        cases y with
        | int i =>
          obtain ⟨j, e1, e2⟩ := atI_nth e
          obtain ⟨l, vs, w, rfl, hl, hn, hj, rw'⟩ := rv.tnth G2.sr.zh e1
          have := ru.ct.int'
          subst this
          exact .inr (.inl ⟨l, vs, i, w, rfl, rfl, hl, (e2 vs hn).trans hj, fin w rw'⟩)
        | _ => cases e
      | _ => cases e
/-! slices -/
def part (P : Pg) (x : Ex) (env : Env) : R (Option Int) := match x with | .nil => R.ok none env | _ => (vw P x env).bind fun l env => noneR (partD l) env
def OkP (X : Cx) (N : Nm) (W : WX) (P : Pg) (x : Ex) (e : Option Expr) : Prop :=
  PO X e (fun σ H Q => ∃ Z env F, SR X.K N Z H env σ F ∧ Post X.K N W σ Z H env F (part P x env) fun o _ Z' H' F' => Q o H')
theorem _root_.L2.PO.imp {X : Cx} {e : Option Expr} {t t' : TO} (h : PO X e t) (i : ∀ σ H Q, t' σ H Q → t σ H Q) : PO X e t' := ⟨fun pins s σ H Q I q => h.run pins s σ H Q I (i σ H Q q)⟩
theorem p_none : OkP X N W P .nil none := L2.PO.imp po_none fun σ H Q ⟨Z, env, F, s, h⟩ => h Z H F (Go.refl s)
theorem p_some (hn : a ≠ .nil) (ha : OkE X N W P a ea) : OkP X N W P a (some ea) := L2.PO.imp (po_some ha) fun σ H Q ⟨Z, env, F, s, h⟩ => by
  have e : part P a env = (vw P a env).bind fun l env => noneR (partD l) env := by
    unfold part
    split
    · exact absurd rfl hn
    · rfl
  rw [e] at h
  refine ⟨Z, env, F, s, (Post.bind h).imp fun x env1 Z1 H1 F1 G1 h1 v rv => ?_⟩
  obtain ⟨d, e, h1⟩ := Post.noneR h1
  cases x with
  | int i => cases e; exact ⟨i, rv.ct.int', h1 Z1 H1 F1 (Go.refl G1.sr)⟩
  | _ => cases e
theorem e_slc {lo hi : Option Expr} {p2 : Pos} (ha : OkE X N W P a ea) (hl : OkP X N W P b lo) (hh : OkP X N W P c hi) : OkE X N W P (.slc a b c) (.Subscript ea (.Slice lo hi none p2) pos) :=
  L2.PE.imp (pe_slice (sl_list.or sl_tupF) ha hl hh) fun σ H Q ⟨Z, env, F, s, h⟩ => by
    refine ⟨Z, env, F, s, (Post.bind h).imp fun x env1 Z1 H1 F1 G1 h1 v rv => ?_⟩
    refine cont_of G1 rv (Post.bind h1) fun xs env2 Z2 F2 G2 it h2 => ⟨Z2, env2, F2, G2.sr, (Post.bind (res := part P b env2) h2).imp fun l env3 Z3 H3 F3 G3 h3 => ⟨Z3, env3, F3, G3.sr, (Post.bind (res := part P c env3) h3).imp fun u env4 Z4 H4 F4 G4 h4 => ?_⟩⟩
    obtain ⟨d, e, h4⟩ := Post.noneR h4
    have it := (it.keep G3).keep G4
    have G := ((G1.trans G2).trans G3).trans G4
    obtain ⟨l', vs, rfl, r, sh⟩ := it
    have rc := Reps.cut l u r
    rcases sh with ⟨o, ys, rfl, hr⟩ | ⟨ys, rfl, ht⟩
    · cases e
      exact .inl ⟨l', vs, rfl, hr.sq, fun p hp => fin_list G rc h4 hp⟩
    · cases e
      refine .inr ⟨l', vs, rfl, SqT.mono ht.sq G4.sr.zh, fun e => ?_, fun p ob hp hd => fin_tup G rc h4 hp hd⟩
      rw [e] at rc
      exact h4 Z4 H4 F4 (Go.refl G4.sr) _ (RV.flat (.tup ht rc (.inl rfl)))
theorem e_rev {k : Nat} {p1 p2 p3 : Pos} (ha : OkE X N W P a ea) : OkE X N W P (.rev a) (.Subscript ea (.Slice none none (some (.UnaryOp .USub (.Constant (.int 1) k p1) p2)) p3) pos) :=
  L2.PE.imp (pe_revL ha) fun σ H Q ⟨Z, env, F, s, h⟩ => by
    refine ⟨Z, env, F, s, (Post.bind h).imp fun x env1 Z1 H1 F1 G1 h1 v rv => ?_⟩
    cases x with
    | lst o xs =>
      simp only [isLst, if_true] at h1
      refine cont_of G1 rv (Post.bind h1) fun xs env2 Z2 F2 G2 it h2 => ?_
      obtain ⟨l', vs, rfl, r, sh⟩ := it
      rcases sh with ⟨o, ys, e, hr⟩ | ⟨ys, e, ht⟩
      · exact ⟨l', vs, rfl, hr.sq, fun p hp => fin_list (G1.trans G2) (Reps.rev r) h2 hp⟩
      · cases e
    | _ => exact h1.elim
/-! kinds -/
theorem tyIx_of {K : PySem.W.Frag} {Z H : Hp} {d : D} {v : V} {t : Nat} (zh : Same Z H) (cx : Ct K N Z H d v) (e : tyIx d = some t) : t < 7 ∧ TyX K H v (.type (tyN t)) := by
  have lst : ∀ {l : Addr} {vs : List V}, Ls K H l vs → TyX K H (.ref l) (.type "list") := fun {l vs} h => by
    rcases h with (h | ⟨u, h⟩) | ⟨its, n, h, _⟩
    · exact .base (.lst h)
    · exact .base (.frz h)
    · exact .kList h rfl
  cases d with
  | non => cases e; rw [cx.non']; exact ⟨by decide, .base .non⟩
  | bl b => cases e; rw [cx.bl']; exact ⟨by decide, .base (.bl _)⟩
  | int b => cases e; rw [cx.int']; exact ⟨by decide, .base (.int _)⟩
  | str b => cases e; obtain ⟨x, rfl, _⟩ := cx.str'; exact ⟨by decide, .base (.str _)⟩
  | lst o xs => cases e; obtain ⟨l, vs, rfl, h, _⟩ := cx.lst' zh; exact ⟨by decide, lst h⟩
  | tup xs =>
    cases e
    obtain ⟨l, vs, rfl, h, _⟩ := cx.tupZ
    refine ⟨by decide, ?_⟩
    rcases h with ⟨o, h, _⟩ | ⟨o, _, _, h, hc, _⟩
    · exact .fTuple (zh _ _ h)
    · exact .kTuple h hc
  | dct o ks vs =>
    cases e
    refine ⟨by decide, ?_⟩
    cases cx with
    | dct h => exact .base (.dK (zh _ _ h))
    | dctO h _ => exact .base (.dK h)
  | ins => cases e
  | exc => cases e
theorem ins_ty {K : PySem.W.Frag} {Z H : Hp} {o : Bool} {c f : Nat} {fs : List Nat} {xs : List D} {v : V} (hN : NmOk K N) (zh : Same Z H) (cx : Ct K N Z H (.ins o c (f :: fs) xs) v) : N.insF c f = true ∧ TyX K H v (.ref (N.cls c)) := by
  have k : ∀ {l dx : Addr} {vs : List (Str × V)}, N.insF c f = true → H l = some (.ins (N.cls c) dx vs) → TyX K H (.ref l) (.ref (N.cls c)) := fun hi h =>
    let C := (hN.ins c f hi).1
    .base (.ins h C.cls C.ha C.hn C.ht C.hm)
  cases cx with
  | ins h _ hf _ => exact ⟨hf f List.mem_cons_self, k (hf f List.mem_cons_self) (zh _ _ h)⟩
  | insO h _ hf _ _ => exact ⟨hf f List.mem_cons_self, k (hf f List.mem_cons_self) h⟩
/-- a name of a built-in type -/
theorem pe_tyname {T : String} (B : Blt X x (.type T)) : PE X (.Name x p) (tC (.ty T)) := pe_bltn B.gl B.mg B.bo rfl B.nn B.db
theorem e_isT {t : Nat} {y : Str} (hN : NmOk X.K N) (ht : t < 6) (B : Blt X x (.builtin "isinstance")) (B2 : Blt X y (.type (tyN t))) (h1 : plainE ea = true) (ha : OkE X N W P a ea) :
    OkE X N W P (.isT a t) (.Call (.Name x p) [ea, .Name y q] [] pos) :=
  L2.PE.imp (pe_callB call_isi B.gl B.mg B.bo (pa_cons ha (pa_cons (pe_tyname B2) pa_nil rfl) (star_cons h1)) B.nn B.db (star_cons h1) rfl) fun σ H Q ⟨Z, env, F, s, h⟩ => by
    refine ⟨Z, env, F, s, (Post.bind h).imp fun x env1 Z1 H1 F1 G1 h1 v rv => ?_⟩
    obtain ⟨d, e, h1⟩ := Post.noneR h1
    have q : ∀ k, d = .bl k → Q (.bl k) H1 := fun k e => by subst e; exact h1 Z1 H1 F1 (Go.refl G1.sr) _ (RV.flat (.bl _))
    simp only [Option.map_eq_some_iff] at e
    obtain ⟨r, e, rfl⟩ := e
    unfold isTy at e
    split at e
    · rename_i o c f fs vs
      cases e
      obtain ⟨hi, ty⟩ := ins_ty hN G1.sr.zh rv.ct
      exact ⟨v, .ty (tyN t), _, _, false, rfl, .ty _, ty, hN.insT _ _ _ hi ht, q _ rfl⟩
    · simp only [Option.map_eq_some_iff] at e
      obtain ⟨k, e, rfl⟩ := e
      obtain ⟨hk, ty⟩ := tyIx_of G1.sr.zh rv.ct e
      exact ⟨v, .ty (tyN t), _, _, _, rfl, .ty _, ty, hN.ty _ _ hk ht, q _ rfl⟩
theorem e_isC {k : Nat} {y : Str} (hN : NmOk X.K N) (hS : SubOk X.K N P k) (B : Blt X x (.builtin "isinstance")) (hy : PE X (.Name y q) (tC (.ref (N.cls k)))) (h1 : plainE ea = true) (ha : OkE X N W P a ea) :
    OkE X N W P (.isC a k) (.Call (.Name x p) [ea, .Name y q] [] pos) :=
  L2.PE.imp (pe_callB call_isi B.gl B.mg B.bo (pa_cons ha (pa_cons hy pa_nil rfl) (star_cons h1)) B.nn B.db (star_cons h1) rfl) fun σ H Q ⟨Z, env, F, s, h⟩ => by
    refine ⟨Z, env, F, s, (Post.bind h).imp fun x env1 Z1 H1 F1 G1 h1 v rv => ?_⟩
    obtain ⟨d, e, h1⟩ := Post.noneR h1
    have q : ∀ k, d = .bl k → Q (.bl k) H1 := fun k e => by subst e; exact h1 Z1 H1 F1 (Go.refl G1.sr) _ (RV.flat (.bl _))
    unfold isCD at e
    split at e
    · rename_i o c f fs vs
      cases e
      obtain ⟨hi, ty⟩ := ins_ty hN G1.sr.zh rv.ct
      exact ⟨v, .ref (N.cls k), _, _, _, rfl, .own _, ty, hS.ins _ _ hi, q _ rfl⟩
    · simp only [Option.map_eq_some_iff] at e
      obtain ⟨t, e, rfl⟩ := e
      obtain ⟨hk, ty⟩ := tyIx_of G1.sr.zh rv.ct e
      exact ⟨v, .ref (N.cls k), _, _, _, rfl, .own _, ty, hS.ty _ hk, q _ rfl⟩
end
end Q
end
section
set_option linter.all false
set_option autoImplicit false
set_option maxHeartbeats 1000000
/-! a, b = a list -/
namespace Q
open PySem PySem.Spec PyProof.Rows L2
section
variable {prog : Program} {w : World} {A : Around} {E : Value → Shared → Prop}
theorem drawL {it l : Addr} {items : Array Value} (hne : l ≠ it) : ∀ (n i : Nat) (s : Shared) (Q : List Value → Shared → Prop), s.heap.IsListIter it l i → s.heap.IsList l items → i + n ≤ items.size →
    (∀ h', h'.IsListIter it l (i + n) → Heap.SameBut it s.heap h' → Q ((items.toList.drop i).take n) { s with heap := h' }) → wpAny (model prog w) A (draw (.ref it) n) Q E s
  | 0, i, s, Q, hit, _, _, hQ => by
    show wpAny _ _ (pure []) Q E s
    refine wpAny_pure ?_
    have := hQ s.heap hit (Heap.SameBut.refl ..)
    rwa [List.take_zero] at this
  | n + 1, i, s, Q, hit, hl, hle, hQ => by
    have lt : i < items.size := by omega
    show wpAny _ _ (pyNext (.ref it) >>= _) Q E s
    refine wpAny_bind (wpAny_pyNext_list_item hit hl (x := items[i]) (by simp [lt]) fun h₁ it₁ sb₁ => wpAny_bind (wpAny_holding (drawL hne n (i + 1) _ _ it₁ (hl.extBut sb₁.extBut hne) (by omega) fun h₂ it₂ sb₂ => wpAny_pure ?_)))
    have hh := hQ h₂ (by rw [show i + (n + 1) = i + 1 + n by omega]; exact it₂) (sb₁.trans sb₂)
    rwa [show items.toList.drop i = items[i] :: items.toList.drop (i + 1) by simp [List.drop_eq_getElem_cons, lt], List.take_succ_cons] at hh
theorem unpackL {s : Shared} {l : Addr} {items : Array Value} {targets : List (Bool × (Value → Sem Unit))} {Q : Unit → Shared → Prop} (hh : A.handled = none) (hl : s.heap.IsList l items) (hn : targets.length = items.size) (hstar : targets.findIdx? (·.1) = none)
    (h : ∀ h', Heap.ExtBut s.heap.objs.size s.heap h' → wpAny (model prog w) A (assignInOrder (targets.map (·.2)) items.toList) Q E { s with heap := h' }) :
    wpAny (model prog w) A (unpack (.ref l) targets) Q E s := by
  have ne : l ≠ s.heap.objs.size := by obtain ⟨o, ho, _⟩ := hl; exact Nat.ne_of_lt (Heap.lt_size ho)
  unfold unpack
  rw [hn, hstar]
  refine wpAny_bind (wpAny_holding ?_)
  unfold unpackItems notIterableAtAll
  refine wpAny_bind (wpAny_bind (wpAny_specialOf hl.typeIs slot_list_iter.lookup (wpAny_pure ?_)))
  simp only [Bool.false_eq_true, if_false]
  refine wpAny_bind (wpAny_holding (wpAny_pyIter_list hl (wpAny_bind (wpAny_holding (drawL ne items.size 0 _ _ ⟨_, Heap.get?_push_size _ rfl, rfl, rfl⟩ (hl.push _) (by omega) fun h₁ it₁ sb₁ => ?_)))))
  rw [List.drop_zero, List.take_of_length_le (by simp), if_neg (by simp)]
  refine wpAny_bind (wpAny_holding (wpAny_pyNext_list_end hh it₁ ((hl.push _).extBut sb₁.extBut ne) (by simp) fun h₂ eb₂ => ?_))
  simp only [Option.isSome_none, Bool.false_eq_true, if_false]
  exact wpAny_pure (h h₂ fun b o hb e => eb₂ b o hb (sb₁.extBut b o hb (Heap.get?_push_of_some _ e)))
end
section
variable {X : Cx} {pos : Pos}
def gLst (K : PySem.W.Frag) (n : Nat) (t : TGs) : TG := fun v σ H Q => ∃ a xs, v = .ref a ∧ SqL K H a xs ∧ xs.length = n ∧ t xs σ H Q
theorem pg_lst {es : List Expr} {k : Nat} {t : TGs} {n : Nat} (hc : X.calm = true) (h : PGs X es t) (hn : (assignEach es X.env).length = n) (hst : (assignEach es X.env).findIdx? (·.1) = none) : PG X (.Tuple es k pos) (gLst X.K n t) := by
  refine ⟨fun pins s σ H v u Q I r ⟨a, xs, e1, hq, hl, hw⟩ => ?_⟩
  subst e1
  cases r
  obtain ⟨its, rv, hp, hz⟩ := I.list hq
  rw [PyProof.Rows.assign_Tuple]
  refine wpAny_bind (wpAny_standAt (unpackL (I.ok.hd hc) hp.isList (by simp [hn, ← hl, rv.length]) hst fun h' hx => ?_))
  have I1 : Inv X pins σ H { s with heap := h' } := I.kept (t' := s.toks) fun b o e => hx b o (Nat.ne_of_lt (Heap.lt_size e)) e
  exact h.run pins _ σ H xs _ Q I1 (by simpa using rv) hw
theorem pg_or {e : Expr} {t t' : TG} (h : PG X e t) (h' : PG X e t') : PG X e (fun v σ H Q => t v σ H Q ∨ t' v σ H Q) := ⟨fun pins s σ H v u Q I r q => q.elim (h.run pins s σ H v u Q I r) (h'.run pins s σ H v u Q I r)⟩
end
end Q
end
section
set_option linter.all false
set_option autoImplicit false
set_option maxHeartbeats 1000000
/-! Targets; what is walked. -/
namespace Q
open PySem PySem.Spec PyProof.Rows L2
/-! ### targets -/
/-- a thing that is to be stored; a pair of zip's may stand here -/
def Itm (K : PySem.W.Frag) (N : Nm) (Z H : Hp) (tg : Ex) (d : D) (v : V) (fv : List Addr) : Prop :=
  Rep K N Z H d v fv ∨ ∃ es xs a vs, tg = .tup es ∧ d = .tup xs ∧ v = .ref a ∧ SqT K H a vs ∧ Reps K N Z H xs vs fv
/-- behind a store -/
structure St1 (tg : Ex) (σ σ' : L2.St) (F F' : Nat → List Addr) (fv : List Addr) : Prop where
  sub : ∀ i c, c ∈ F' i → c ∈ F i ∨ c ∈ fv
  oth : ∀ i : Nat, i ∉ slots tg → σ'[i]? = σ[i]? ∧ F' i = F i
  len : σ'.length = σ.length
def gT (K : PySem.W.Frag) (N : Nm) (tg : Ex) : TG := fun v σ H Q => ∃ Z env F d fv, SR K N Z H env σ F ∧ Itm K N Z H tg d v fv ∧ fv.Nodup ∧ (∀ c ∈ fv, ∀ i, c ∉ F i) ∧
  ∃ env', bnd tg d env = .ok () env' ∧ ∀ σ' F', SR K N Z H env' σ' F' → St1 tg σ σ' F F' fv → Q σ' H
def gTs (K : PySem.W.Frag) (N : Nm) (tg : Ex) : TGs := fun vs σ H Q => ∃ Z env F ds fv, SR K N Z H env σ F ∧ Reps K N Z H ds vs fv ∧ fv.Nodup ∧ (∀ c ∈ fv, ∀ i, c ∉ F i) ∧
  ∃ env', bnd tg (.tup ds) env = .ok () env' ∧ ∀ σ' F', SR K N Z H env' σ' F' → St1 tg σ σ' F F' fv → Q σ' H
section
variable {X : Cx} {N : Nm} {W : WX} {P : Pg} {a b : Ex} {ea eb : Expr} {pos p q : Pos} {x : Str}
def OkG (X : Cx) (N : Nm) (tg : Ex) (e : Expr) : Prop := PG X e (gT X.K N tg)
def OkGs (X : Cx) (N : Nm) (tg : Ex) (es : List Expr) : Prop := PGs X es (gTs X.K N tg)
theorem _root_.L2.PG.imp {e : Expr} {t t' : TG} (h : PG X e t) (i : ∀ v σ H Q, t' v σ H Q → t v σ H Q) : PG X e t' := ⟨fun pins s σ H v u Q I r q => h.run pins s σ H v u Q I r (i v σ H Q q)⟩
theorem _root_.L2.PGs.imp {e : List Expr} {t t' : TGs} (h : PGs X e t) (i : ∀ v σ H Q, t' v σ H Q → t v σ H Q) : PGs X e t' := ⟨fun pins s σ H v u Q I r q => h.run pins s σ H v u Q I r (i v σ H Q q)⟩
theorem SR.put {K : PySem.W.Frag} {Z H : Hp} {env : Env} {σ : L2.St} {F : Nat → List Addr} {i : Nat} {d : D} {v : V} {fv : List Addr} (s : SR K N Z H env σ F) (hi : i < env.length) (r : Rep K N Z H d v fv) (nd : fv.Nodup) (dj : ∀ c ∈ fv, ∀ i, c ∉ F i) :
    SR K N Z H (env.set i (some d)) (σ.set i (some v)) (fun j => if j = i then fv else F j) := by
  refine ⟨by rw [List.length_set, List.length_set]; exact s.len, fun j d' e => ?_, fun j h => ?_, fun j => ?_, fun j k c h1 h2 => ?_, s.zh⟩
  · by_cases q : j = i
    · subst q
      rw [List.getElem?_set_self hi] at e
      cases e
      exact ⟨v, List.getElem?_set_self (by rw [← s.len]; exact hi), by rw [if_pos rfl]; exact r⟩
    · rw [List.getElem?_set_ne (Ne.symm q)] at e ⊢
      rw [if_neg q]
      exact s.som j d' e
  · by_cases q : j = i
    · subst q
      exact absurd (List.getElem?_set_self hi) (h d)
    · rw [if_neg q]
      exact s.non j fun d' e => h d' (by rw [List.getElem?_set_ne (Ne.symm q)]; exact e)
  · by_cases q : j = i
    · rw [if_pos q]; exact nd
    · rw [if_neg q]; exact s.nd j
  · by_cases q1 : j = i
    · by_cases q2 : k = i
      · rw [q1, q2]
      · rw [if_pos q1] at h1; rw [if_neg q2] at h2; exact absurd h2 (dj c h1 k)
    · by_cases q2 : k = i
      · rw [if_neg q1] at h1; rw [if_pos q2] at h2; exact absurd h1 (dj c h2 j)
      · rw [if_neg q1] at h1; rw [if_neg q2] at h2; exact s.dj j k c h1 h2
theorem g_var {i : Nat} (hN : X.N.Nodup) (hi : X.N[i]? = some x) (hx : Loc X.env.scope x) (hf : X.fn x = true ∨ X.env.scope.names.lookup x = some .local) : OkG X N (.var i) (.Name x pos) :=
  L2.PG.imp (pg_name hN hi hx hf) fun v σ H Q ⟨Z, env, F, d, fv, s, r, nd, dj, env', e, k⟩ => by
    rcases r with r | ⟨_, _, _, _, e, _⟩
    · simp only [bnd] at e
      split at e
      · rename_i hl
        cases e
        refine k _ _ (s.put hl r nd dj) ⟨fun j c h => ?_, fun j h => ?_, ?_⟩
        · by_cases q : j = i
          · rw [if_pos q] at h; exact .inr h
          · rw [if_neg q] at h; exact .inl h
        · have hj : j ≠ i := by simpa [slots] using h
          exact ⟨List.getElem?_set_ne (Ne.symm hj), if_neg hj⟩
        · exact List.length_set
      · cases e
    · cases e
theorem gs_nil : OkGs X N .nil [] := L2.PGs.imp pgs_nil fun vs σ H Q ⟨Z, env, F, ds, fv, s, r, nd, dj, env', e, k⟩ => by
  cases ds with
  | nil =>
    cases r
    cases e
    exact ⟨rfl, k σ F s ⟨fun i c h => .inl h, fun i _ => ⟨rfl, rfl⟩, rfl⟩⟩
  | cons d ds => cases e
theorem gs_cons {es : List Expr} (h1 : OkG X N a ea) (h2 : OkGs X N b es) (hs : (assignEach (ea :: es) X.env).map (·.2) = assign ea X.env :: (assignEach es X.env).map (·.2)) : OkGs X N (.cons a b) (ea :: es) :=
  L2.PGs.imp (pgs_cons h1 h2 hs) fun vs σ H Q ⟨Z, env, F, ds, fv, s, r, nd, dj, env', e, k⟩ => by
    cases r with
    | nil => cases e
    | @cons d ds v vs f g r t =>
      obtain ⟨n1, n2, n3⟩ := List.nodup_append.mp nd
      simp only [bnd] at e
      cases e1 : bnd a d env with
      | stuck => rw [e1] at e; cases e
      | exc => rw [e1] at e; cases e
      | ok u env1 =>
        rw [e1] at e
        refine ⟨v, vs, rfl, Z, env, F, d, f, s, .inl r, n1, fun c hc => dj c (List.mem_append_left _ hc), env1, e1, fun σ1 F1 s1 m1 => ?_⟩
        refine ⟨Z, env1, F1, ds, g, s1, t, n2, fun c hc i h => ?_, env', e, fun σ2 F2 s2 m2 => k σ2 F2 s2 ⟨fun i c h => ?_, fun i h => ?_, m2.len.trans m1.len⟩⟩
        · rcases m1.sub i c h with h | h
          · exact dj c (List.mem_append_right _ hc) i h
          · exact n3 c h c hc rfl
        · rcases m2.sub i c h with h | h
          · exact (m1.sub i c h).imp_right fun h => List.mem_append_left _ h
          · exact .inr (List.mem_append_right _ h)
        · simp only [slots, List.mem_append, not_or] at h
          exact ⟨(m2.oth i h.2).1.trans (m1.oth i h.1).1, (m2.oth i h.2).2.trans (m1.oth i h.1).2⟩
def row : Ex → Bool
  | .nil => true
  | .cons _ es => row es
  | _ => false
def arity : Ex → Nat
  | .cons _ es => arity es + 1
  | _ => 0
theorem bnd_len : ∀ {es : Ex} {ds : List D} {env env' : Env}, row es = true → bnd es (.tup ds) env = .ok () env' → ds.length = arity es
  | .nil, [], _, _, _, _ => rfl
  | .nil, _ :: _, _, _, _, e => by cases e
  | .cons e es, [], _, _, _, h => by cases h
  | .cons a es, d :: ds, env, env', hr, h => by
    simp only [bnd] at h
    cases e1 : bnd a d env with
    | stuck => rw [e1] at h; cases h
    | exc => rw [e1] at h; cases h
    | ok u env1 =>
      rw [e1] at h
      simp only [arity, List.length_cons]
      rw [bnd_len (es := es) hr h]
theorem g_tup {es : List Expr} {k : Nat} (hc : X.calm = true) (hr : row a = true) (h : OkGs X N a es) (hn : (assignEach es X.env).length = arity a) (hst : (assignEach es X.env).findIdx? (·.1) = none) : OkG X N (.tup a) (.Tuple es k pos) :=
  L2.PG.imp (pg_or (pg_tup hc h hn hst) (pg_lst hc h hn hst)) fun v σ H Q ⟨Z, env, F, d, fv, s, r, nd, dj, env', e, k⟩ => by
    have fin : ∀ {l : Addr} {vs : List V} {xs : List D}, d = .tup xs → v = .ref l → SqT X.K H l vs → Reps X.K N Z H xs vs fv → gTup X.K (arity a) (gTs X.K N a) v σ H Q := fun {l vs xs} ed ev hs hr' => by
      subst ed ev
      simp only [bnd] at e
      exact ⟨l, vs, rfl, hs, by rw [← hr'.length]; exact bnd_len hr e, Z, env, F, xs, fv, s, hr', nd, dj, env', e, fun σ' F' s' m => k σ' F' s' ⟨m.sub, m.oth, m.len⟩⟩
    have finL : ∀ {l : Addr} {vs : List V} {xs : List D} {o : Bool} {fx : List Addr}, d = .lst o xs → v = .ref l → SqL X.K H l vs → Reps X.K N Z H xs vs fx → gLst X.K (arity a) (gTs X.K N a) v σ H Q := fun {l vs xs o fx} ed ev hs hr' => by
      subst ed ev
      simp only [bnd] at e
      split at e
      · cases e
      · rename_i ho
        have hfx := hr'.noOwn (by simpa using ho)
        subst hfx
        exact ⟨l, vs, rfl, hs, by rw [← hr'.length]; exact bnd_len hr e, Z, env, F, xs, [], s, hr', List.nodup_nil, (fun c hc => nomatch hc), env', e, fun σ' F' s' m => k σ' F' s' ⟨fun i c hc => (m.sub i c hc).imp_right (fun h => nomatch h), m.oth, m.len⟩⟩
    rcases r with r | ⟨_, xs, l, vs, _, rfl, rfl, hs, hr⟩
    · cases r with
      | tup ht hr => exact .inl (fin rfl rfl (SqT.mono ht.sq s.zh) hr)
      | lst ht hr => exact .inr (finL rfl rfl (Ls.mono s.zh ht).sq hr)
      | lstO ht h2 hr => exact .inr (finL rfl rfl (SqL.of ht) hr)
      | _ => simp only [bnd] at e; cases e
    · exact .inl (fin rfl rfl hs hr)
/-! ### what is walked -/
/-- what a turn yields -/
def Yl (K : PySem.W.Frag) (N : Nm) (Z H : Hp) (zt : Bool) (d : D) (x : V) (H' : Hp) : Prop :=
  (H' = H ∧ Rep K N Z H d x []) ∨ (zt = true ∧ ∃ l d1 d2 v1 v2, d = .tup [d1, d2] ∧ x = .ref l ∧ H l = none ∧ H' = upd H l (.tup [v1, v2]) ∧ Rep K N Z H d1 v1 [] ∧ Rep K N Z H d2 v2 [])
def Wk (K : PySem.W.Frag) (N : Nm) (S : Hp → Hp → Prop) (zt : Bool) (J : It) (xs : List D) : Prop :=
  ∀ Z H, S Z H → Same Z H → (∀ (i : Nat) d, xs[i]? = some d → J.go i H ∧ ∀ x H', J.yld i H x H' → Yl K N Z H zt d x H') ∧ ∀ i, xs.length ≤ i → J.stop i H
def isTupE : Expr → Bool
  | .Tuple .. => true
  | _ => false
/-- in a comprehension -/
def OkI (X : Cx) (N : Nm) (W : WX) (P : Pg) (tg : Expr) (x : Ex) (e : Expr) : Prop :=
  PI X tg e (fun σ H R => ∃ Z env F, SR X.K N Z H env σ F ∧ Post X.K N W σ Z H env F (itr P x env) fun xs _ Z' H' F' => ∀ J, Wk X.K N (fun Z2 H2 => Same Z' Z2 ∧ Same H' H2) (isTupE tg) J xs → R J H')
theorem _root_.L2.PI.imp {tg e : Expr} {t t' : TI} (h : PI X tg e t) (i : ∀ σ H R, t' σ H R → t σ H R) : PI X tg e t' := ⟨fun pins s σ H R I q => h.run pins s σ H R I (i σ H R q)⟩
theorem pi_or {tg e : Expr} {t t' : TI} (h : PI X tg e t) (h' : PI X tg e t') : PI X tg e (fun σ H R => t σ H R ∨ t' σ H R) :=
  ⟨fun pins s σ H R I q => q.elim (h.run pins s σ H R I) (h'.run pins s σ H R I)⟩
theorem wk_list {K : PySem.W.Frag} {S : Hp → Hp → Prop} {l : Addr} {xs : List D} {vs : List V} {zt : Bool} (hl : xs.length = vs.length) (hr : ∀ Z H, S Z H → Same Z H → SqL K H l vs ∧ Reps K N Z H xs vs []) : Wk K N S zt (Itl K l) xs := fun Z H s zh => by
  obtain ⟨h, r⟩ := hr Z H s zh
  refine ⟨fun i d e => ?_, fun i hi => ⟨vs, h, by omega⟩⟩
  obtain ⟨v, _, e2, _, _⟩ := r.nth e
  refine ⟨⟨vs, v, h, e2⟩, fun x H' y => .inl ⟨y.1, ?_⟩⟩
  have := y.2 vs h
  rw [e2] at this
  cases this
  exact r.at e e2
theorem wk_tup {K : PySem.W.Frag} {S : Hp → Hp → Prop} {l : Addr} {xs : List D} {vs : List V} {zt : Bool} (hl : xs.length = vs.length) (hr : ∀ Z H, S Z H → Same Z H → SqT K H l vs ∧ Reps K N Z H xs vs []) : Wk K N S zt (Itt K l) xs := fun Z H s zh => by
  obtain ⟨h, r⟩ := hr Z H s zh
  refine ⟨fun i d e => ?_, fun i hi => ⟨vs, h, by omega⟩⟩
  obtain ⟨v, _, e2, _, _⟩ := r.nth e
  refine ⟨⟨vs, v, h, e2⟩, fun x H' y => .inl ⟨y.1, ?_⟩⟩
  have := y.2 vs h
  rw [e2] at this
  cases this
  exact r.at e e2
theorem ranges_at {a b : Int} {i : Nat} {d : D} (e : (ranges a b)[i]? = some d) : i < (b - a).toNat ∧ d = .int (a + i) := by
  unfold ranges at e
  rw [List.getElem?_map, Option.map_eq_some_iff] at e
  obtain ⟨k, e, rfl⟩ := e
  obtain ⟨h, e⟩ := List.getElem?_eq_some_iff.mp e
  rw [List.length_range] at h
  rw [List.getElem_range] at e
  subst e
  exact ⟨h, rfl⟩
theorem ranges_len (a b : Int) : (ranges a b).length = (b - a).toNat := by simp [ranges]
theorem wk_rng {K : PySem.W.Frag} {S : Hp → Hp → Prop} {a b : Int} {zt : Bool} : Wk K N S zt (Itr a (b - a).toNat) (ranges a b) := fun Z H s zh => by
  refine ⟨fun i d e => ?_, fun i hi => by rw [ranges_len] at hi; exact hi⟩
  obtain ⟨h, rfl⟩ := ranges_at e
  exact ⟨h, fun x H' y => .inl ⟨y.1, by rw [y.2]; exact .int _⟩⟩
theorem wk_zip {K : PySem.W.Frag} {S : Hp → Hp → Prop} {l m : Addr} {xs ys : List D} {vs us : List V} (hr : ∀ Z H, S Z H → Same Z H → SqL K H l vs ∧ SqL K H m us ∧ Reps K N Z H xs vs [] ∧ Reps K N Z H ys us []) (hx : xs.length = vs.length) (hy : ys.length = us.length) :
    Wk K N S true (Itz K l m) ((xs.zip ys).map fun p => .tup [p.1, p.2]) := fun Z H s zh => by
  obtain ⟨h1, h2, r1, r2⟩ := hr Z H s zh
  refine ⟨fun i d e => ?_, fun i hi => ⟨vs, us, h1, h2, ?_⟩⟩
  · rw [List.getElem?_map, Option.map_eq_some_iff] at e
    obtain ⟨⟨d1, d2⟩, e, rfl⟩ := e
    rw [List.getElem?_zip_eq_some] at e
    obtain ⟨v1, _, k1, _, _⟩ := r1.nth e.1
    obtain ⟨v2, _, k2, _, _⟩ := r2.nth e.2
    refine ⟨⟨vs, us, v1, v2, h1, h2, k1, k2⟩, fun x H' ⟨T, x1, y1, e1, e2, e3, q1, q2⟩ => ?_⟩
    have q1 := q1 vs h1
    have q2 := q2 us h2
    rw [k1] at q1
    rw [k2] at q2
    cases q1
    cases q2
    exact .inr ⟨rfl, T, d1, d2, v1, v2, rfl, e1, e2, e3, r1.at e.1 k1, r2.at e.2 k2⟩
  · rw [List.length_map, List.length_zip] at hi
    omega
theorem i_seq {tg : Expr} (ha : OkE X N W P a ea) : OkI X N W P tg a ea :=
  L2.PI.imp (pi_or (pi_list (tg := tg) ha) (pi_tup ha)) fun σ H R ⟨Z, env, F, s, h⟩ => by
    unfold itr at h
    have key : ∀ d env1 Z1 H1 F1, Go X.K N σ Z H env F Z1 H1 env1 F1 → ∀ v, RV X.K N (root a) H F Z1 H1 F1 d v →
        Post X.K N W σ Z1 H1 env1 F1 (cont (root a) d env1) (fun xs _ Z' H' F' => ∀ J, Wk X.K N (fun Z2 H2 => Same Z' Z2 ∧ Same H' H2) (isTupE tg) J xs → R J H') →
        (∃ o ys l, d = .lst o ys ∧ v = .ref l ∧ (∃ vs, SqL X.K H1 l vs) ∧ R (Itl X.K l) H1) ∨ ∃ ys l, d = .tup ys ∧ v = .ref l ∧ (∃ vs, SqT X.K H1 l vs) ∧ R (Itt X.K l) H1 := fun d env1 Z1 H1 F1 G1 v rv h1 =>
      cont_of G1 rv h1 fun xs env2 Z2 F2 G2 it h2 => by
        obtain ⟨l, vs, rfl, r, sh⟩ := it
        rcases sh with ⟨o, ys, e, hr⟩ | ⟨ys, e, ht⟩
        · refine .inl ⟨o, ys, l, e, rfl, ⟨vs, hr.sq⟩, h2 _ (wk_list r.length fun Z3 H3 ⟨z, k⟩ zh => ⟨(Ls.mono k hr).sq, r.mono z fun _ h => nomatch h⟩)⟩
        · refine .inr ⟨ys, l, e, rfl, ⟨vs, SqT.mono ht.sq G2.sr.zh⟩, h2 _ (wk_tup r.length fun Z3 H3 ⟨z, k⟩ zh => ⟨SqT.mono (ht.mono z).sq zh, r.mono z fun _ h => nomatch h⟩)⟩
    cases e1 : vw P a env with
    | stuck => rw [e1] at h; exact h.elim
    | exc c fs vs env1 => rw [e1] at h; exact .inl ⟨Z, env, F, s, by rw [e1]; exact h⟩
    | ok d env1 =>
      rw [e1] at h
      have h0 := Post.bind h
      cases d with
      | lst o ys =>
        refine .inl ⟨Z, env, F, s, ?_⟩
        rw [e1]
        intro Z1 H1 F1 G1 v rv
        rcases key _ _ _ _ _ G1 v rv (h0 Z1 H1 F1 G1) with ⟨_, _, l, _, e, hs, q⟩ | ⟨_, _, e, _⟩
        · exact ⟨l, e, hs, q⟩
        · cases e
      | tup ys =>
        refine .inr ⟨Z, env, F, s, ?_⟩
        rw [e1]
        intro Z1 H1 F1 G1 v rv
        rcases key _ _ _ _ _ G1 v rv (h0 Z1 H1 F1 G1) with ⟨_, _, _, e, _⟩ | ⟨_, l, _, e, hs, q⟩
        · cases e
        · exact ⟨l, e, hs, q⟩
      | _ =>
        refine .inl ⟨Z, env, F, s, ?_⟩
        rw [e1]
        intro Z1 H1 F1 G1 v rv
        exact (h0 Z1 H1 F1 G1).elim
theorem rngD_of {x y d : D} (e : rngD x y = some d) : ∃ i j, x = .int i ∧ y = .int j ∧ d = .lst true (ranges i j) ∧ -(2 ^ 62) ≤ i ∧ i < 2 ^ 62 ∧ -(2 ^ 62) ≤ j ∧ j < 2 ^ 62 := by
  cases x <;> first | (simp [rngD] at e; done) | skip
  cases y <;> first | (simp [rngD] at e; done) | skip
  simp only [rngD] at e
  split at e
  · rename_i h
    cases e
    exact ⟨_, _, rfl, rfl, rfl, h⟩
  · cases e
theorem ranges_own (i j : Int) : owns (ranges i j) = false := owns_of fun x hx => by
  obtain ⟨k, hk, e⟩ := List.getElem_of_mem hx
  obtain ⟨_, rfl⟩ := ranges_at (List.getElem?_eq_some_iff.mpr ⟨hk, e⟩)
  rfl
theorem i_rng1 {tg : Expr} (hg : Gl X "range") (hm : X.mg "range" = none) (h1 : plainE ea = true) (ha : OkE X N W P a ea) : OkI X N W P tg (.rng1 a) (.Call (.Name "range" p) [ea] [] pos) :=
  L2.PI.imp (pi_range1 hg hm (pa_cons ha pa_nil (star_cons h1)) (star_cons h1)) fun σ H R ⟨Z, env, F, s, h⟩ => by
    refine ⟨Z, env, F, s, (Post.bind (Post.bind h)).imp fun x env1 Z1 H1 F1 G1 h1 v rv => ?_⟩
    obtain ⟨d, e, h1⟩ := Post.noneR h1
    obtain ⟨i, j, e0, rfl, rfl, hb⟩ := rngD_of e
    cases e0
    have := rv.ct.int'
    subst this
    have h2 := h1 Z1 H1 F1 (Go.refl G1.sr)
    simp only [cont, els, ranges_own, Bool.false_eq_true, if_false] at h2
    refine ⟨j, rfl, hb.2.2.1, hb.2.2.2, ?_⟩
    have := h2 Z1 H1 F1 (Go.refl G1.sr) _ (wk_rng (a := 0) (b := j))
    rwa [Int.sub_zero] at this
theorem i_rng2 {tg : Expr} (hg : Gl X "range") (hm : X.mg "range" = none) (h1 : plainE ea = true) (h2 : plainE eb = true) (ha : OkE X N W P a ea) (hb : OkE X N W P b eb) : OkI X N W P tg (.rng2 a b) (.Call (.Name "range" p) [ea, eb] [] pos) :=
  L2.PI.imp (pi_range2 hg hm (pa_cons ha (pa_cons hb pa_nil (star_cons h2)) (star_cons h1)) (by rw [star_cons h1, star_cons h2]; rfl) (star_cons h2)) fun σ H R ⟨Z, env, F, s, h⟩ => by
    refine ⟨Z, env, F, s, (Post.bind (Post.bind h)).imp fun x env1 Z1 H1 F1 G1 h1 v rv => ⟨Z1, env1, F1, G1.sr, (Post.bind h1).imp fun y env2 Z2 H2 F2 G2 h2 u ru => ?_⟩⟩
    obtain ⟨d, e, h2⟩ := Post.noneR h2
    obtain ⟨i, j, rfl, rfl, rfl, hb⟩ := rngD_of e
    have := rv.ct.int'
    subst this
    have := ru.ct.int'
    subst this
    have h2 := h2 Z2 H2 F2 (Go.refl G2.sr)
    simp only [cont, els, ranges_own, Bool.false_eq_true, if_false] at h2
    exact ⟨i, j, rfl, hb, h2 Z2 H2 F2 (Go.refl G2.sr) _ wk_rng⟩
end
end Q
end
section
set_option linter.all false
set_option autoImplicit false
set_option maxHeartbeats 1000000
/-! Comprehensions. -/
namespace Q
open PySem PySem.Spec PyProof.Rows L2
section
variable {X : Cx} {N : Nm} {W : WX} {P : Pg} {a b : Ex} {ea eb : Expr} {pos p q : Pos} {x : Str}
theorem zip_own : ∀ {xs ys : List D}, owns xs = false → owns ys = false → owns ((xs.zip ys).map fun p => .tup [p.1, p.2]) = false
  | [], _, _, _ => rfl
  | _ :: _, [], _, _ => rfl
  | x :: xs, y :: ys, h, h' => by
    rw [owns, Bool.or_eq_false_iff] at h h'
    simp only [List.zip_cons_cons, List.map_cons, owns, own, h.1, h'.1, zip_own h.2 h'.2, Bool.or_self]
theorem Items.own {K : PySem.W.Frag} {Z H : Hp} {d : D} {v : V} {xs : List D} (h : Items K N Z H d v xs) : owns xs = false := by
  obtain ⟨_, _, _, r, _⟩ := h
  exact r.own0 rfl
theorem i_zip {elts : List Expr} {kk : Nat} {tpos : Pos} (hg : Gl X "zip") (hm : X.mg "zip" = none) (h1 : plainE ea = true) (h2 : plainE eb = true) (ha : OkE X N W P a ea) (hb : OkE X N W P b eb) :
    OkI X N W P (.Tuple elts kk tpos) (.zip a b) (.Call (.Name "zip" p) [ea, eb] [] pos) :=
  L2.PI.imp (pi_zip hg hm (pa_cons ha (pa_cons hb pa_nil (star_cons h2)) (star_cons h1)) (star_cons h1) (star_any (es := [eb]) (by simp [h2]))) fun σ H R ⟨Z, env, F, s, h⟩ => by
    refine ⟨Z, env, F, s, (Post.bind (Post.bind h)).imp fun x env1 Z1 H1 F1 G1 h1 v rv => ?_⟩
    cases x with
    | lst o ws =>
      simp only [isLst, if_true] at h1
      refine cont_of G1 rv (Post.bind h1) fun xs env2 Z2 F2 G2 it h2 => ⟨Z2, env2, F2, G2.sr, (Post.bind h2).imp fun y env3 Z3 H3 F3 G3 h3 u ru => ?_⟩
      cases y with
      | lst o2 ws2 =>
        simp only [isLst, if_true] at h3
        refine cont_of G3 ru (Post.bind h3) fun ys env4 Z4 F4 G4 it2 h4 => ?_
        have it := (it.keep G3).keep G4
        have o1 := it.own
        have o2 := it2.own
        obtain ⟨l, vs, rfl, r1, sh⟩ := it
        obtain ⟨m, us, rfl, r2, sh2⟩ := it2
        rcases sh with ⟨_, _, _, k1⟩ | ⟨_, e, _⟩
        · rcases sh2 with ⟨_, _, _, k2⟩ | ⟨_, e, _⟩
          · have h5 := h4 Z4 H3 F4 (Go.refl G4.sr)
            simp only [cont, els, zip_own o1 o2, Bool.false_eq_true, if_false] at h5
            exact ⟨l, m, vs, us, rfl, k1.sq, k2.sq, h5 Z4 H3 F4 (Go.refl G4.sr) _ (wk_zip (fun Z5 H5 ⟨z, k⟩ zh => ⟨(Ls.mono k k1).sq, (Ls.mono k k2).sq, r1.mono z (fun _ h => nomatch h), r2.mono z (fun _ h => nomatch h)⟩) r1.length r2.length)⟩
          · cases e
        · cases e
      | _ => exact h3.elim
    | _ => exact h1.elim
/-! ### blocks -/
def WF : WX := fun _ _ _ _ => False
theorem wipe_at : ∀ (is : List Nat) (env : Env) (j : Nat), (Q.wipe is env)[j]? = if j ∈ is ∧ j < env.length then some none else env[j]?
  | [], env, j => by simp [Q.wipe]
  | i :: is, env, j => by
    have ih := wipe_at is (env.set i none) j
    have e : Q.wipe (i :: is) env = Q.wipe is (env.set i none) := rfl
    rw [e, ih, List.length_set]
    by_cases hj : j < env.length
    · by_cases h1 : j ∈ is
      · simp [h1, hj]
      · by_cases h2 : j = i
        · subst h2
          simp [h1, hj]
        · simp [h1, h2, List.getElem?_set_ne (Ne.symm h2)]
    · simp [hj]
theorem wipe_len : ∀ (is : List Nat) (env : Env), (Q.wipe is env).length = env.length
  | [], _ => rfl
  | i :: is, env => by
    have e : Q.wipe (i :: is) env = Q.wipe is (env.set i none) := rfl
    rw [e, wipe_len, List.length_set]
theorem back_len : ∀ (is : List Nat) (old env : Env), (back is old env).length = env.length
  | [], _, _ => rfl
  | i :: is, old, env => by
    have e : back (i :: is) old env = back is old (match old[i]? with | some o => env.set i o | none => env) := rfl
    rw [e, back_len]
    split
    · rw [List.length_set]
    · rfl
theorem back_at : ∀ (is : List Nat) (old env : Env) (j : Nat), old.length = env.length → (back is old env)[j]? = if j ∈ is then old[j]? else env[j]?
  | [], old, env, j, _ => by simp [back]
  | i :: is, old, env, j, hl => by
    have e : back (i :: is) old env = back is old (match old[i]? with | some o => env.set i o | none => env) := rfl
    rw [e]
    rw [back_at is old _ j (by split <;> simp [hl])]
    by_cases h1 : j ∈ is
    · simp [h1]
    · by_cases h2 : j = i
      · subst h2
        simp only [h1, if_false, List.mem_cons, true_or, if_true]
        split
        · rename_i o ho
          rw [ho, List.getElem?_set_self]
          rw [← hl]; exact (List.getElem?_eq_some_iff.mp ho).1
        · rename_i ho
          rw [ho, List.getElem?_eq_none]
          rw [← hl]; exact List.getElem?_eq_none_iff.mp ho
      · simp only [h1, h2, if_false, List.mem_cons, or_self]
        split
        · exact List.getElem?_set_ne (Ne.symm h2)
        · rfl
def out (is : List Nat) (F : Nat → List Addr) : Nat → List Addr := fun i => if i ∈ is then [] else F i
section
variable {K : PySem.W.Frag} {Z H Z1 H1 Z2 H2 : Hp} {env env1 : Env} {σ : L2.St} {F F1 : Nat → List Addr} {is : List Nat}
theorem lwipe_out {σ : L2.St} {i : Nat} : ∀ {vs : List Nat}, i ∉ vs → (L2.wipe σ vs)[i]? = σ[i]? := L2.wipe_out
theorem lwipe_in {σ : L2.St} {i : Nat} : ∀ {vs : List Nat}, i ∈ vs → i < σ.length → (L2.wipe σ vs)[i]? = some none
  | v :: vs, h, hl => by
    unfold L2.wipe
    by_cases e : i = v
    · subst e
      exact List.getElem?_set_self (by rw [L2.wipe_length]; exact hl)
    · rw [List.getElem?_set_ne (Ne.symm e)]
      exact lwipe_in ((List.mem_cons.mp h).resolve_left e) hl
/-- the block's names forgotten -/
theorem SR.wipe (s : SR K N Z H env σ F) (is : List Nat) : SR K N Z H (Q.wipe is env) (L2.wipe σ is) (out is F) := by
  refine ⟨by rw [wipe_len, L2.wipe_length]; exact s.len, fun i d e => ?_, fun i h => ?_, fun i => ?_, fun i j c h1 h2 => ?_, s.zh⟩
  · rw [wipe_at] at e
    by_cases h : i ∈ is
    · by_cases hl : i < env.length
      · rw [if_pos ⟨h, hl⟩] at e; cases e
      · rw [if_neg (fun q => hl q.2), List.getElem?_eq_none (by omega)] at e; cases e
    · rw [if_neg (fun q => h q.1)] at e
      rw [lwipe_out h, out, if_neg h]
      exact s.som i d e
  · unfold out
    by_cases hi : i ∈ is
    · rw [if_pos hi]
    · rw [if_neg hi]
      refine s.non i fun d e => h d ?_
      rw [wipe_at, if_neg (fun q => hi q.1)]; exact e
  · unfold out; split
    · exact .nil
    · exact s.nd i
  · unfold out at h1 h2
    split at h1
    · cases h1
    · split at h2
      · cases h2
      · exact s.dj i j c h1 h2
/-- behind the block the names are what they were -/
theorem Go.back (s : SR K N Z H env σ F) (g : Go K N (L2.wipe σ is) Z H (Q.wipe is env) (out is F) Z1 H1 (Q.wipe is env1) F1) : Go K N σ Z H env F Z1 H1 (back is env (Q.wipe is env1)) (fun i => if i ∈ is then F i else F1 i) := by
  have hlen : env.length = (Q.wipe is env1).length := by rw [s.len, g.sr.len, L2.wipe_length]
  have kept : ∀ i ∈ is, ∀ c ∈ F i, H1 c = H c ∧ Z1 c = none := fun i hi c hc => by
    have o := s.own1 hc
    constructor
    · cases q : H c with
      | none => exact absurd q o.some
      | some ob => exact g.hh _ _ q
    · cases q : Z1 c with
      | none => rfl
      | some ob =>
        rcases g.nz c (by rw [q]; exact fun e => nomatch e) with h | ⟨j, h⟩ | h
        · exact absurd o.1 h
        · unfold out at h
          split at h
          · cases h
          · rename_i hj
            have := s.dj _ _ c hc h
            subst this
            exact absurd hi hj
        · exact absurd h o.some
  refine ⟨⟨?_, fun i d e => ?_, fun i h => ?_, fun i => ?_, fun i j c h1 h2 => ?_, g.sr.zh⟩, g.zz, g.hh, fun c h => ?_, fun i c h => ?_, fun i c h => ?_, fun i h => ?_⟩
  · rw [back_len, ← hlen]; exact s.len
  · rw [back_at _ _ _ _ hlen] at e
    by_cases hi : i ∈ is
    · rw [if_pos hi] at e ⊢
      obtain ⟨v, e1, r⟩ := s.som i d e
      exact ⟨v, e1, r.mono g.zz (kept i hi)⟩
    · rw [if_neg hi] at e ⊢
      obtain ⟨v, e1, r⟩ := g.sr.som i d e
      exact ⟨v, by rw [lwipe_out hi] at e1; exact e1, r⟩
  · by_cases hi : i ∈ is
    · rw [if_pos hi]
      refine s.non i fun d e => h d ?_
      rw [back_at _ _ _ _ hlen, if_pos hi]; exact e
    · rw [if_neg hi]
      refine g.sr.non i fun d e => h d ?_
      rw [back_at _ _ _ _ hlen, if_neg hi]; exact e
  · by_cases hi : i ∈ is
    · rw [if_pos hi]; exact s.nd i
    · rw [if_neg hi]; exact g.sr.nd i
  · by_cases hi : i ∈ is
    · rw [if_pos hi] at h1
      by_cases hj : j ∈ is
      · rw [if_pos hj] at h2; exact s.dj i j c h1 h2
      · rw [if_neg hj] at h2
        have := g.sub j c h2
        rw [out, if_neg hj] at this
        exact s.dj i j c h1 this
    · rw [if_neg hi] at h1
      by_cases hj : j ∈ is
      · rw [if_pos hj] at h2
        have := g.sub i c h1
        rw [out, if_neg hi] at this
        exact s.dj i j c this h2
      · rw [if_neg hj] at h2; exact g.sr.dj i j c h1 h2
  · rcases g.nz c h with h | ⟨j, h⟩ | h
    · exact .inl h
    · unfold out at h
      split at h
      · cases h
      · exact .inr (.inl ⟨j, h⟩)
    · exact .inr (.inr h)
  · by_cases hi : i ∈ is
    · rw [if_pos hi] at h; exact h
    · rw [if_neg hi] at h
      have := g.sub i c h
      rwa [out, if_neg hi] at this
  · by_cases hi : i ∈ is
    · rw [if_pos hi]; exact .inl h
    · rw [if_neg hi]
      rcases g.gone i c (by rw [out, if_neg hi]; exact h) with h | h | h
      · exact .inl h
      · exact .inr (.inl h)
      · exact .inr (.inr (by rw [back_at _ _ _ _ hlen, if_neg hi]; exact h))
  · rw [back_at _ _ _ _ hlen]
    by_cases hi : i ∈ is
    · rw [if_pos hi]; exact h
    · rw [if_neg hi]
      refine g.nn i ?_
      rw [wipe_at, if_neg (fun q => hi q.1)]; exact h
end
end
end Q
end
section
set_option linter.all false
set_option autoImplicit false
set_option maxHeartbeats 1000000
/-! Comprehensions: the rule. -/
namespace Q
open PySem PySem.Spec PyProof.Rows L2
theorem R.bind_assoc {α β γ : Type} (r : R α) (f : α → Env → R β) (g : β → Env → R γ) : (r.bind f).bind g = r.bind fun a e => (f a e).bind g := by cases r <;> rfl
theorem bnd_oth : ∀ {tg : Ex} {d : D} {env env' : Env}, bnd tg d env = .ok () env' → env'.length = env.length ∧ ∀ j : Nat, j ∉ slots tg → env'[j]? = env[j]?
  | .var i, d, env, env', e => by
    simp only [bnd] at e
    split at e
    · cases e
      refine ⟨List.length_set, fun j h => List.getElem?_set_ne (fun q => h ?_)⟩
      simp [slots, q]
    · cases e
  | .tup es, d, env, env', e => by
    cases d with
    | tup xs =>
      simp only [bnd] at e
      exact bnd_oth (tg := es) e
    | lst o xs =>
      simp only [bnd] at e
      split at e
      · cases e
      · exact bnd_oth (tg := es) e
    | _ => simp only [bnd] at e; cases e
  | .nil, d, env, env', e => by
    cases d with
    | tup xs =>
      cases xs with
      | nil => cases e; exact ⟨rfl, fun _ _ => rfl⟩
      | cons => cases e
    | _ => cases e
  | .cons a es, d, env, env', e => by
    cases d with
    | tup xs =>
      cases xs with
      | nil => cases e
      | cons x xs =>
        simp only [bnd] at e
        cases e1 : bnd a x env with
        | stuck => rw [e1] at e; cases e
        | exc => rw [e1] at e; cases e
        | ok u env1 =>
          rw [e1] at e
          obtain ⟨l1, k1⟩ := bnd_oth (tg := a) e1
          obtain ⟨l2, k2⟩ := bnd_oth (tg := es) (d := .tup xs) e
          refine ⟨l2.trans l1, fun j h => ?_⟩
          simp only [slots, List.mem_append, not_or] at h
          exact (k2 j h.2).trans (k1 j h.1)
    | _ => cases e
  | .mov _, _, _, _, e => by cases e
  | .nev, _, _, _, e => by cases e
  | .non, _, _, _, e => by cases e
  | .bl _, _, _, _, e => by cases e
  | .int _, _, _, _, e => by cases e
  | .str _, _, _, _, e => by cases e
  | .glb _, _, _, _, e => by cases e
  | .lst _, _, _, _, e => by cases e
  | .bin _ _ _, _, _, _, e => by cases e
  | .neg _, _, _, _, e => by cases e
  | .not _, _, _, _, e => by cases e
  | .and _ _, _, _, _, e => by cases e
  | .or _ _, _, _, _, e => by cases e
  | .cmp _ _ _, _, _, _, e => by cases e
  | .cmp2 _ _ _ _ _, _, _, _, e => by cases e
  | .isN _, _, _, _, e => by cases e
  | .notN _, _, _, _, e => by cases e
  | .ife _ _ _, _, _, _, e => by cases e
  | .fld _ _, _, _, _, e => by cases e
  | .ix _ _, _, _, _, e => by cases e
  | .slc _ _ _, _, _, _, e => by cases e
  | .rev _, _, _, _, e => by cases e
  | .call _ _, _, _, _, e => by cases e
  | .new _ _, _, _, _, e => by cases e
  | .meth _ _ _, _, _, _, e => by cases e
  | .len _, _, _, _, e => by cases e
  | .lis _, _, _, _, e => by cases e
  | .tpl _, _, _, _, e => by cases e
  | .toI _, _, _, _, e => by cases e
  | .srt _, _, _, _, e => by cases e
  | .lisR _, _, _, _, e => by cases e
  | .any _, _, _, _, e => by cases e
  | .all _, _, _, _, e => by cases e
  | .sum _, _, _, _, e => by cases e
  | .min1 _, _, _, _, e => by cases e
  | .max1 _, _, _, _, e => by cases e
  | .min2 _ _, _, _, _, e => by cases e
  | .max2 _ _, _, _, _, e => by cases e
  | .idx _ _, _, _, _, e => by cases e
  | .cnt _ _, _, _, _, e => by cases e
  | .isT _ _, _, _, _, e => by cases e
  | .isC _ _, _, _, _, e => by cases e
  | .rng1 _, _, _, _, e => by cases e
  | .rng2 _ _, _, _, _, e => by cases e
  | .zip _ _, _, _, _, e => by cases e
  | .comp _ _ _ _, _, _, _, e => by cases e
theorem walk_noexc {f : D → Env → R (Option D)} (hf : ∀ d env c fs vs e, f d env ≠ .exc c fs vs e) : ∀ (xs : List D) (env : Env) (c : Nat) (fs : List Nat) (vs : List D) (e : Env), walk f xs env ≠ .exc c fs vs e
  | [], _, _, _, _, _ => fun h => nomatch h
  | x :: xs, env, c, fs, vs, e => fun h => by
    simp only [walk] at h
    cases e1 : f x env with
    | stuck => rw [e1] at h; cases h
    | exc c' fs' vs' e' => exact hf _ _ _ _ _ _ e1
    | ok y env1 =>
      rw [e1] at h
      simp only [R.bind] at h
      cases e2 : walk f xs env1 with
      | stuck => rw [e2] at h; cases h
      | exc c' fs' vs' e' => exact walk_noexc hf xs env1 _ _ _ _ e2
      | ok zs env2 => rw [e2] at h; cases h
theorem noX_ne {α : Type} (r : R α) : ∀ (c : Nat) (fs : List Nat) (vs : List D) (e : Env), noX r ≠ .exc c fs vs e := by
  intro c fs vs e h
  cases r <;> cases h
section
variable {K : PySem.W.Frag} {N : Nm} {Z H Z1 H1 Z2 H2 Z3 H3 : Hp} {env env1 env2 env3 : Env} {σ σ' : L2.St} {F F1 F2 F3 : Nat → List Addr} {is : List Nat}
theorem wipe_same (hl : σ'.length = σ.length) (h : ∀ i : Nat, i ∉ is → σ'[i]? = (L2.wipe σ is)[i]?) : L2.wipe σ' is = L2.wipe σ is := by
  refine List.ext_getElem? fun i => ?_
  by_cases hi : i ∈ is
  · by_cases hb : i < σ.length
    · rw [lwipe_in hi (by rw [hl]; exact hb), lwipe_in hi hb]
    · rw [List.getElem?_eq_none (by rw [L2.wipe_length]; omega), List.getElem?_eq_none (by rw [L2.wipe_length]; omega)]
  · rw [lwipe_out hi]; exact h i hi
/-- a turn of the block -/
theorem Go.turn (hl : env.length = env1.length) (g : Go K N (L2.wipe σ is) Z H (Q.wipe is env) (out is F) Z1 H1 (Q.wipe is env1) F1) (s2 : SR K N Z1 H1 env2 σ' F2) (hF : ∀ i c, c ∈ F2 i → c ∈ F1 i) (hO : ∀ i : Nat, i ∉ is → F2 i = F1 i ∧ env2[i]? = env1[i]?)
    (hw : L2.wipe σ' is = L2.wipe σ is) (g3 : Go K N σ' Z1 H1 env2 F2 Z3 H3 env3 F3) : Go K N (L2.wipe σ is) Z H (Q.wipe is env) (out is F) Z3 H3 (Q.wipe is env3) (out is F3) := by
  have wo : ∀ {e : Env} {i : Nat}, i ∉ is → (Q.wipe is e)[i]? = e[i]? := fun {e i} h => by rw [wipe_at, if_neg fun q => h q.1]
  have hl3 : env3.length = env1.length := by
    have h1 := g.sr.len
    have h2 := g3.sr.len
    have h3 : (L2.wipe σ' is).length = (L2.wipe σ is).length := by rw [hw]
    rw [L2.wipe_length, L2.wipe_length] at h3
    rw [wipe_len, L2.wipe_length] at h1
    omega
  refine ⟨hw ▸ g3.sr.wipe is, g.zz.trans g3.zz, g.hh.trans g3.hh, fun c h => ?_, fun i c h => ?_, fun i c h => ?_, fun i h => ?_⟩
  · rcases g3.nz c h with h | ⟨i, h⟩ | h
    · exact g.nz c h
    · exact .inr (.inl ⟨i, g.sub i c (hF i c h)⟩)
    · exact .inr (.inr (g.hh.free h))
  · unfold out at h
    split at h
    · cases h
    · exact g.sub i c (hF i c (g3.sub i c h))
  · have hi : i ∉ is := fun q => by rw [out, if_pos q] at h; cases h
    rcases g.gone i c h with h | h | h
    · rw [← (hO i hi).1] at h
      rcases g3.gone i c h with h | h | h
      · exact .inl (by rw [out, if_neg hi]; exact h)
      · exact .inr (.inl h)
      · exact .inr (.inr (by rw [wo hi]; exact h))
    · exact .inr (.inl (Same.some g3.zz h))
    · refine .inr (.inr ?_)
      rw [wo hi] at h ⊢
      exact g3.nn i ((hO i hi).2.trans h)
  · by_cases hi : i ∈ is
    · have hb : i < env3.length := by
        have := (List.getElem?_eq_some_iff.mp h).1
        rw [wipe_len] at this; omega
      rw [wipe_at, if_pos ⟨hi, hb⟩]
    · have h1 := g.nn i h
      rw [wo hi] at h1 ⊢
      exact g3.nn i ((hO i hi).2.trans h1)
/-- the new list grows -/
theorem Go.grow {p : Addr} {o : HO} (g : Go K N σ Z H env F Z1 H1 env1 F1) (hp : H p = none) (hz : Z1 p = none) (hF : ∀ i, p ∉ F1 i) : Go K N σ Z H env F Z1 (upd H1 p o) env1 F1 := by
  refine ⟨⟨g.sr.len, fun i d e => ?_, g.sr.non, g.sr.nd, g.sr.dj, fun b u e => ?_⟩, g.zz, fun b u e => ?_, g.nz, g.sub, g.gone, g.nn⟩
  · obtain ⟨v, e1, r⟩ := g.sr.som i d e
    refine ⟨v, e1, r.mono (Same.refl _) fun c hc => ⟨upd_ne fun q => hF i (q ▸ hc), (r.own1 c hc).1⟩⟩
  · rw [upd_ne fun q => by rw [q, hz] at e; cases e]; exact g.sr.zh _ _ e
  · rw [upd_ne (ne_of_none e hp)]; exact g.hh _ _ e
end
section
variable {X : Cx} {N : Nm} {W : WX} {P : Pg} {elt tg it cond : Ex} {eelt etg eit : Expr} {pos : Pos}
theorem R.bind_ok {α β : Type} {r : R α} {f : α → Env → R β} {b : β} {e' : Env} (h : r.bind f = .ok b e') : ∃ a e, r = .ok a e ∧ f a e = .ok b e' := by
  cases r with
  | ok a e => exact ⟨a, e, rfl, h⟩
  | exc => cases h
  | stuck => cases h
/-- a turn, by trees -/
def turnF (P : Pg) (elt tg cond : Ex) (d : D) (env : Env) : R (Option D) := noX ((bnd tg d (Q.wipe (slots tg) env)).bind fun _ env => (vw P cond env).bind fun c env => match tru c with
        | some true => ((vw P elt env).bind (take (root elt))).bind fun y env => .ok (some y) env
        | some false => .ok none env
        | none => .stuck)
theorem turnF_of {d : D} {env env' : Env} {o : Option D} (e : turnF P elt tg cond d env = .ok o env') : ∃ envb c envc, bnd tg d (Q.wipe (slots tg) env) = .ok () envb ∧ vw P cond envb = .ok c envc ∧
    ((tru c = some true ∧ ∃ y, ev P elt envc = .ok y env' ∧ o = some y) ∨ (tru c = some false ∧ o = none ∧ env' = envc)) := by
  unfold turnF at e
  have e : ((bnd tg d (Q.wipe (slots tg) env)).bind fun _ env => (vw P cond env).bind fun c env => match tru c with
        | some true => (ev P elt env).bind fun y env => .ok (some y) env
        | some false => .ok none env
        | none => .stuck) = .ok o env' := by
    generalize hr : ((bnd tg d (Q.wipe (slots tg) env)).bind fun _ env => (vw P cond env).bind fun c env => match tru c with
        | some true => ((vw P elt env).bind (take (root elt))).bind fun y env => R.ok (some y) env
        | some false => .ok none env
        | none => .stuck) = r at e
    rw [show ((bnd tg d (Q.wipe (slots tg) env)).bind fun _ env => (vw P cond env).bind fun c env => match tru c with
        | some true => (ev P elt env).bind fun y env => R.ok (some y) env
        | some false => .ok none env
        | none => .stuck) = r from hr]
    cases r with
    | ok => exact e
    | exc => cases e
    | stuck => cases e
  obtain ⟨u, envb, e1, e⟩ := R.bind_ok e
  obtain ⟨c, envc, e2, e⟩ := R.bind_ok e
  refine ⟨envb, c, envc, e1, e2, ?_⟩
  split at e
  · rename_i hc
    obtain ⟨y, env2, e3, e⟩ := R.bind_ok e
    cases e
    exact .inl ⟨hc, y, e3, rfl⟩
  · rename_i hc; cases e; exact .inr ⟨hc, rfl, rfl⟩
  · cases e
/-- the state of a block ahead of a turn -/
structure Blk (K : PySem.W.Frag) (N : Nm) (W : WX) (σ : L2.St) (is : List Nat) (Z1 H1 : Hp) (env1 : Env) (F1 : Nat → List Addr) (p : Addr) (f : D → Env → R (Option D)) (rest : List D) (OK : D → Env → Hp → Hp → (Nat → List Addr) → Prop) (Zi Hi : Hp) (envi : Env) (Fi : Nat → List Addr) (ys : List D) (acc : List V) (fa : List Addr) : Prop where
  go : Go K N (L2.wipe σ is) Z1 H1 (Q.wipe is env1) (out is F1) Zi Hi (Q.wipe is envi) Fi
  len : env1.length = envi.length
  pz : Zi p = none
  pF : ∀ j, p ∉ Fi j
  ph : Hi p = some (.lst acc)
  rep : Reps K N Zi Hi ys acc fa
  nd : fa.Nodup
  pa : p ∉ fa
  dj : ∀ c ∈ fa, ∀ j, c ∉ Fi j
  new : ∀ c ∈ fa, H1 c = none ∨ ∃ j, c ∈ out is F1 j
  post : Post K N W σ Z1 H1 env1 F1 ((walk f rest envi).bind fun zs env' => if (ys ++ zs).length ≤ line then .ok (.lst true (ys ++ zs)) (back is env1 (Q.wipe is env')) else .stuck) OK
theorem blk_room {σ : L2.St} {is : List Nat} {Z1 H1 Zi Hi : Hp} {env1 envi : Env} {F1 Fi : Nat → List Addr} {p : Addr} {d : D} {rest : List D} {OK : D → Env → Hp → Hp → (Nat → List Addr) → Prop} {ys : List D} {acc : List V} {fa : List Addr} {K : PySem.W.Frag}
    (B : Blk K N W σ is Z1 H1 env1 F1 p (turnF P elt tg cond) (d :: rest) OK Zi Hi envi Fi ys acc fa) : ∃ o env2, turnF P elt tg cond d envi = .ok o env2 ∧
      Post K N W σ Z1 H1 env1 F1 ((walk (turnF P elt tg cond) rest env2).bind fun zs env' => if (ys ++ (match o with | some y => y :: zs | none => zs)).length ≤ line then .ok (.lst true (ys ++ (match o with | some y => y :: zs | none => zs))) (back is env1 (Q.wipe is env')) else .stuck) OK := by
  have h := B.post
  simp only [walk] at h
  cases e : turnF P elt tg cond d envi with
  | stuck => rw [e] at h; exact h.elim
  | exc c fs vs e' => exact absurd e (noX_ne _ _ _ _ _)
  | ok o env2 =>
    rw [e] at h
    refine ⟨o, env2, rfl, ?_⟩
    rw [R.bind_assoc, R.bind] at h
    simp only [R.bind_assoc] at h
    exact h
theorem post_len {σ : L2.St} {is : List Nat} {Z1 H1 : Hp} {env1 env2 : Env} {F1 : Nat → List Addr} {rest : List D} {OK : D → Env → Hp → Hp → (Nat → List Addr) → Prop} {ys : List D} {y : D} {K : PySem.W.Frag}
    (h : Post K N W σ Z1 H1 env1 F1 ((walk (turnF P elt tg cond) rest env2).bind fun zs env' => if (ys ++ (y :: zs)).length ≤ line then .ok (.lst true (ys ++ (y :: zs))) (back is env1 (Q.wipe is env')) else .stuck) OK) : ys.length < line := by
  cases e : walk (turnF P elt tg cond) rest env2 with
  | stuck => rw [e] at h; exact h.elim
  | exc c fs vs e' => exact absurd e (walk_noexc (fun _ _ => noX_ne _) _ _ _ _ _ _)
  | ok zs env' =>
    rw [e] at h
    simp only [R.bind] at h
    split at h
    · rename_i hl
      simp only [List.length_append, List.length_cons] at hl
      omega
    · exact h.elim
/-- what a comprehension reads -/
theorem comp_read {own : List (Str × Nat)} (hsl : own.map (·.2) = slots tg) (hz : isTupE etg = true → ∃ es, tg = .tup es) {σ : L2.St} {H : Hp} {QQ : VK} (hh : tV X.K N W none (vw P (.comp elt tg it cond)) σ H QQ) :
    tLc (fun σ H R => ∃ Z env F, SR X.K N Z H env σ F ∧ Post X.K N W σ Z H env F (itr P it env) fun xs _ Z' H' F' => ∀ J, Wk X.K N (fun Z2 H2 => Same Z' Z2 ∧ Same H' H2) (isTupE etg) J xs → R J H') (gT X.K N tg) (tVt X.K N WF (vw P cond)) (tV X.K N WF none (ev P elt)) (own.map (·.2)) σ H QQ := by
    obtain ⟨Z, env, F, s, h⟩ := hh
    have h : Post X.K N W σ Z H env F ((itr P it env).bind fun xs env1 => (walk (turnF P elt tg cond) xs env1).bind fun ys env' =>
          if ys.length ≤ line then .ok (.lst true ys) (back (slots tg) env1 (Q.wipe (slots tg) env')) else .stuck) fun d _ Z' H' F' => ∀ v, RV X.K N none H F Z' H' F' d v → QQ v H' := by
      have e := R.bind_assoc (vw P it env) (cont (root it)) (fun xs env1 => (walk (turnF P elt tg cond) xs env1).bind fun ys env' =>
          if ys.length ≤ line then R.ok (D.lst true ys) (back (slots tg) env1 (Q.wipe (slots tg) env')) else .stuck)
      rw [itr, e]
      exact h
    refine ⟨Z, env, F, s, (Post.bind h).imp fun xs env1 Z1 H1 F1 G1 h1 J wk p hp => ?_⟩
    rw [hsl]
    have p1 : ∀ j, p ∉ F1 j := fun j hj => (G1.sr.own1 hj).some hp
    refine ⟨fun i m Hi => m = xs.length - i ∧ i ≤ xs.length ∧ ∃ Zi envi Fi ys acc fa, Blk X.K N W σ (slots tg) Z1 H1 env1 F1 p (turnF P elt tg cond) (xs.drop i) (fun d _ Z' H' F' => ∀ v, RV X.K N none H F Z' H' F' d v → QQ v H') Zi Hi envi Fi ys acc fa,
      ⟨xs.length, by simp, Nat.zero_le _, Z1, env1, out (slots tg) F1, [], [], [], ⟨Go.newO (G1.sr.wipe _) hp, rfl, G1.sr.zh.free hp, fun j hj => ?_, upd_same, .nil, .nil, fun h => (nomatch h), fun _ h _ => (nomatch h), fun _ h => (nomatch h), h1⟩⟩, ?_⟩
    · unfold out at hj
      split at hj
      · cases hj
      · exact p1 j hj
    rintro i m Hi ⟨rfl, hi, Zi, envi, Fi, ys, acc, fa, B⟩
    obtain ⟨wgo, wst⟩ := wk Zi Hi ⟨B.go.zz, B.go.hh⟩ B.go.sr.zh
    by_cases hlt : i < xs.length
    · refine .inr ?_
      have ex : xs[i]? = some xs[i] := List.getElem?_eq_getElem hlt
      obtain ⟨jg, jy⟩ := wgo i _ ex
      refine ⟨jg, fun H' => ∃ Zi envi Fi ys acc fa, Blk X.K N W σ (slots tg) Z1 H1 env1 F1 p (turnF P elt tg cond) (xs.drop (i + 1)) (fun d _ Z' H' F' => ∀ v, RV X.K N none H F Z' H' F' d v → QQ v H') Zi H' envi Fi ys acc fa,
        fun H' b => ⟨xs.length - (i + 1), by omega, rfl, hlt, b⟩, fun x H' hy => ?_⟩
      rw [List.drop_eq_getElem_cons hlt] at B
      obtain ⟨o, env2, et, hpost⟩ := blk_room B
      obtain ⟨envb, c, envc, eb, ec, hcase⟩ := turnF_of et
      -- the item
      have item : ∃ fv0 : List Addr, fv0 = [] ∧ Itm X.K N Zi H' tg xs[i] x fv0 ∧ Go X.K N (L2.wipe σ (slots tg)) Zi Hi (Q.wipe (slots tg) envi) Fi Zi H' (Q.wipe (slots tg) envi) Fi := by
        rcases jy x H' hy with ⟨rfl, r⟩ | ⟨zt, l, d1, d2, v1, v2, e, rfl, hl, rfl, r1, r2⟩
        · exact ⟨[], rfl, .inl r, Go.refl B.go.sr⟩
        · obtain ⟨es, he⟩ := hz zt
          refine ⟨[], rfl, .inr ⟨es, _, l, [v1, v2], he, e, rfl, .inl (.inl upd_same), .cons (f := []) (g := []) ?_ (.cons (f := []) (g := []) ?_ .nil)⟩, Go.newO B.go.sr hl⟩
          · exact r1.mono (Same.refl _) fun _ h => nomatch h
          · exact r2.mono (Same.refl _) fun _ h => nomatch h
      obtain ⟨_, rfl, ri, gi⟩ := item
      have go1 := B.go.trans gi
      have ph1 : H' p = some (.lst acc) := gi.hh _ _ B.ph
      obtain ⟨lb, ob⟩ := bnd_oth eb
      refine ⟨Zi, Q.wipe (slots tg) envi, Fi, xs[i], [], gi.sr, ri, .nil, fun _ h => (nomatch h), envb, eb, fun σ2 F2 s2 m2 => ?_⟩
      have hw : L2.wipe σ2 (slots tg) = L2.wipe σ (slots tg) := wipe_same (by rw [m2.len, L2.wipe_length]) fun j hj => (m2.oth j hj).1
      have hF2 : ∀ j c, c ∈ F2 j → c ∈ Fi j := fun j c h => (m2.sub j c h).resolve_right fun h => nomatch h
      have hO2 : ∀ j : Nat, j ∉ slots tg → F2 j = Fi j ∧ envb[j]? = envi[j]? := fun j hj => ⟨(m2.oth j hj).2, (ob j hj).trans (by rw [wipe_at, if_neg fun q => hj q.1])⟩
      refine ⟨hw, Zi, envb, F2, s2, ?_⟩
      rw [ec]
      intro Z3 H3 F3 G3
      -- what a step keeps
      have kept : ∀ {Z4 H4 : Hp} {env4 : Env} {F4 : Nat → List Addr}, Go X.K N σ2 Zi H' envb F2 Z4 H4 env4 F4 → Z4 p = none ∧ (∀ j, p ∉ F4 j) ∧ H4 p = some (.lst acc) ∧ (∀ c ∈ fa, H4 c = Hi c ∧ Z4 c = none) := fun {Z4 H4 env4 F4} G4 => by
        have pF2 : ∀ j, p ∉ F2 j := fun j h => B.pF j (hF2 j p h)
        refine ⟨?_, fun j h => pF2 j (G4.sub j p h), G4.hh _ _ ph1, fun c hc => ?_⟩
        · cases q : Z4 p with
          | none => rfl
          | some u =>
            rcases G4.nz p (by rw [q]; exact fun e => nomatch e) with h | ⟨j, h⟩ | h
            · exact absurd B.pz h
            · exact absurd h (pF2 j)
            · rw [ph1] at h; cases h
        · have o := B.rep.own1 c hc
          have h1 : H' c = Hi c := by
            cases q : Hi c with
            | none => exact absurd q o.some
            | some u => exact gi.hh _ _ q
          have k := keep_cells (fv := fa) G4 (fun c hc => by
            have o := B.rep.own1 c hc
            have h1 : H' c = Hi c := by
              cases q : Hi c with
              | none => exact absurd q o.some
              | some u => exact gi.hh _ _ q
            exact ⟨o.1, by rw [h1]; exact o.2⟩) (fun c hc j h => B.dj c hc j (hF2 j c h)) c hc
          exact ⟨k.1.trans h1, k.2⟩
      have dj4 : ∀ {Z4 H4 : Hp} {env4 : Env} {F4 : Nat → List Addr}, Go X.K N σ2 Zi H' envb F2 Z4 H4 env4 F4 → ∀ c ∈ fa, ∀ j, c ∉ out (slots tg) F4 j := fun {Z4 H4 env4 F4} G4 c hc j h => by
        unfold out at h
        split at h
        · cases h
        · exact B.dj c hc j (hF2 j c (G4.sub j c h))
      rcases hcase with ⟨hct, y, ey, rfl⟩ | ⟨hcf, rfl, rfl⟩
      · refine ⟨true, hct, ?_⟩
        refine iteT ⟨Z3, envc, F3, G3.sr, ?_⟩
        rw [ey]
        intro Z4 H4 F4 G4 w ⟨fv, t⟩
        have G := G3.trans G4
        obtain ⟨k1, k2, k3, k4⟩ := kept G
        obtain ⟨k1', k2', k3', k4'⟩ := kept G3
        have hlen := post_len hpost
        have pfv : p ∉ fv := fun h => by
          rcases t.new p h with e | ⟨j, e⟩
          · rw [k3'] at e; cases e
          · exact k2' j e
        have go4 := Go.turn B.len go1 s2 hF2 hO2 hw G
        have hk : ∀ j, p ∉ out (slots tg) F4 j := fun j h => by
          unfold out at h
          split at h
          · cases h
          · exact k2 j h
        have hlen' : env1.length = env2.length := by
          have e1 := go4.sr.len
          have e2 := B.go.sr.len
          rw [wipe_len] at e1 e2
          rw [B.len, e2, e1]
        have new4 : ∀ c ∈ fv, H1 c = none ∨ ∃ j, c ∈ out (slots tg) F1 j := fun c hc => by
          rcases t.new c hc with e | ⟨j, e⟩
          · exact .inl (B.go.hh.free (gi.hh.free (G3.hh.free e)))
          · exact .inr ⟨j, B.go.sub j c (hF2 j c (G3.sub j c e))⟩
        refine ⟨acc, k3, by rw [← B.rep.length, ← line_eq]; exact hlen, Z4, env2, out (slots tg) F4, ys ++ [y], acc ++ [w], fa ++ fv, go4.grow hp k1 hk, hlen', k1, hk, upd_same, ?_, ?_, ?_, ?_, ?_, ?_⟩
        · have r1 : Reps X.K N Z4 (upd H4 p (.lst (acc ++ [w]))) ys acc fa := B.rep.mono G.zz fun c hc => ⟨by rw [upd_ne (fun q : c = p => B.pa (q ▸ hc))]; exact (k4 c hc).1, (k4 c hc).2⟩
          have r2 : Rep X.K N Z4 (upd H4 p (.lst (acc ++ [w]))) y w fv := t.rep.mono (Same.refl _) fun c hc => ⟨upd_ne fun q : c = p => pfv (q ▸ hc), (t.rep.own1 c hc).1⟩
          have r3 := Reps.cons r2 .nil
          rw [List.append_nil] at r3
          exact r1.app r3
        · refine List.nodup_append.mpr ⟨B.nd, t.nd, fun c hc c' hc' e => ?_⟩
          subst e
          rcases t.new c hc' with e | ⟨j, e⟩
          · have := (k4' c hc).1
            rw [e] at this
            exact (B.rep.own1 c hc).some this.symm
          · exact B.dj c hc j (hF2 j c (G3.sub j c e))
        · intro h
          exact (List.mem_append.mp h).elim B.pa pfv
        · intro c hc j h
          rcases List.mem_append.mp hc with hc | hc
          · exact dj4 G c hc j h
          · unfold out at h
            split at h
            · cases h
            · exact t.dj c hc j h
        · intro c hc
          exact (List.mem_append.mp hc).elim (B.new c) (new4 c)
        · have := hpost
          simp only [List.append_assoc, List.cons_append, List.nil_append]
          exact this
      · refine ⟨false, hcf, ?_⟩
        obtain ⟨k1, k2, k3, k4⟩ := kept G3
        have go3 := Go.turn B.len go1 s2 hF2 hO2 hw G3
        refine iteF ⟨Z3, env2, out (slots tg) F3, ys, acc, fa, go3, ?_, k1, fun j h => ?_, k3, B.rep.mono G3.zz k4, B.nd, B.pa, dj4 G3, B.new, hpost⟩
        · have e1 := go3.sr.len
          have e2 := B.go.sr.len
          rw [wipe_len] at e1 e2
          rw [B.len, e2, e1]
        · unfold out at h
          split at h
          · cases h
          · exact k2 j h
    · have e : i = xs.length := by omega
      subst e
      refine .inl ⟨wst _ (Nat.le_refl _), ?_⟩
      have hpost := B.post
      rw [List.drop_length] at hpost
      simp only [walk, R.bind, List.append_nil] at hpost
      split at hpost
      · have gb := Go.back G1.sr B.go
        refine hpost Zi Hi _ gb _ ⟨p :: fa, .lstO B.ph B.pz B.rep, List.nodup_cons.mpr ⟨B.pa, B.nd⟩, fun c hc j hj => ?_, fun c hc => ?_⟩
        · by_cases hj2 : j ∈ slots tg
          · rw [if_pos hj2] at hj
            rcases List.mem_cons.mp hc with e | hc
            · subst e; exact p1 j hj
            · rcases B.new c hc with h | ⟨k, h⟩
              · exact (G1.sr.own1 hj).some h
              · unfold out at h
                split at h
                · cases h
                · rename_i hk
                  have := G1.sr.dj _ _ c hj h
                  subst this
                  exact hk hj2
          · rw [if_neg hj2] at hj
            rcases List.mem_cons.mp hc with e | hc
            · subst e; exact B.pF j hj
            · exact B.dj c hc j hj
        · rcases List.mem_cons.mp hc with e | hc
          · subst e; exact .inl (G1.hh.free hp)
          · rcases B.new c hc with h | ⟨k, h⟩
            · exact .inl (G1.hh.free h)
            · unfold out at h
              split at h
              · cases h
              · exact .inr ⟨k, G1.sub k c h⟩
      · exact hpost.elim
/-- a block's own names by their slots -/
def ownOf (N : List Str) (is : List Nat) : List (Str × Nat) := is.map fun i => (N.getD i "", i)
theorem own_slots (N : List Str) (is : List Nat) : (ownOf N is).map (·.2) = is := by
  simp [ownOf, List.map_map, Function.comp_def]
theorem e_comp {ifs : List Expr} {scope : Scope} (hc : X.calm = true) (hN : X.N.Nodup) (hi : OkI X N W P etg it eit) (ok : BlkOk X.N X.env.scope scope (ownOf X.N (slots tg))) (hz : isTupE etg = true → ∃ es, tg = .tup es)
    (hg : ∀ (s : Shared) (H : Hp) (C : Addr) (cl : List (Str × Addr)) (fp : List Addr), OkG (X.blk s H scope (compEnvC scope cl C X.env) fp) N tg etg)
    (ht : ∀ (s : Shared) (H : Hp) (C : Addr) (cl : List (Str × Addr)) (fp : List Addr), PTs (X.blk s H scope (compEnvC scope cl C X.env) fp) ifs (tVt X.K N WF (vw P cond)))
    (he : ∀ (s : Shared) (H : Hp) (C : Addr) (cl : List (Str × Addr)) (fp : List Addr), OkE (X.blk s H scope (compEnvC scope cl C X.env) fp) N WF P elt eelt)
    (hs : ∀ x, foldedSetIterable eit X.env x = pure x) : OkE X N W P (.comp elt tg it cond) (.ListComp eelt [⟨etg, eit, ifs, 0⟩] scope pos) :=
  L2.PE.imp (pe_lc (g := gT X.K N tg) (te := tV X.K N WF none (ev P elt)) hc hN hi ok hg ht (fun s H C cl fp => (he s H C cl fp).ev) hs) fun σ H QQ h => comp_read (own_slots _ _) hz h
end
end Q
end
section
set_option linter.all false
set_option autoImplicit false
set_option maxHeartbeats 1000000
/-! Calls of defs. -/
namespace Q
open PySem PySem.Spec PyProof.Rows L2
/-- what a def promises -/
def spT (K : PySem.W.Frag) (N : Nm) (n : Nat) (c : List D → CR) : Sp := fun vs H Q E => vs.length = n ∧ ∃ Z ds, Same Z H ∧ Reps K N Z H ds vs [] ∧
  match c ds with
  | .ok d => ∀ Z' H' v fv, Same Z Z' → Same H H' → Same Z' H' → (∀ c, Z' c ≠ none → Z c ≠ none ∨ H c = none) → Rep K N Z' H' d v fv → fv.Nodup → (∀ c ∈ fv, H c = none) → Q v H'
  | .exc c fs xs => ∀ Z' H' cls dx, Same Z Z' → Same H H' → Same Z' H' → (∀ c, Z' c ≠ none → Z c ≠ none ∨ H c = none) → ExR K N Z' H' c fs xs cls dx → E cls dx H'
  | .stuck => False
section
variable {K : PySem.W.Frag} {N : Nm} {W : WX} {σ : L2.St} {Z H Z1 H1 Z2 H2 Z3 : Hp} {env env1 : Env} {F F1 F2 : Nat → List Addr}
/-- the base stays where it is -/
theorem Post.base {α β : Type} {res : R α} {f : α → Env → R β} {ok : β → Env → Hp → Hp → (Nat → List Addr) → Prop} (h : Post K N W σ Z H env F (res.bind f) ok) :
    Post K N W σ Z H env F res (fun a env1 _ _ _ => Post K N W σ Z H env F (f a env1) ok) := by
  cases res with
  | ok a env1 => exact fun _ _ _ _ => h
  | exc c fs vs env' => exact h
  | stuck => exact h
/-! what shares nothing may do without what was lent -/
mutual
theorem Rep.unf (k : ∀ c o, Z2 c = some o → (∀ vs, o ≠ .lst vs) → o ≠ .dK [] → (∀ C dx fs, o ≠ .ins C dx fs) → Z3 c = some o) (z : ∀ c, Z2 c = none → Z3 c = none) : ∀ {d : D} {v : V} {fp : List Addr}, Rep K N Z2 H2 d v fp → sha d = false → Rep K N Z3 H2 d v fp
  | _, _, _, .non, _ => .non
  | _, _, _, .bl b, _ => .bl b
  | _, _, _, .int i, _ => .int i
  | _, _, _, .str x, _ => .str x
  | _, _, _, .tup h r t, e => .tup (by
      rcases h with ⟨o, h, hd⟩ | h
      · exact .inl ⟨o, k _ _ h (fun _ e => nomatch e) (fun e => nomatch e) (fun _ _ _ e => nomatch e), hd⟩
      · exact .inr h) (Reps.unf k z r (by simpa [sha] using e)) (t.imp_right fun ⟨o, h⟩ => ⟨o, k _ _ h (fun _ e => nomatch e) (fun e => nomatch e) (fun _ _ _ e => nomatch e)⟩)
  | _, _, _, .lst h r, e => by simp [sha] at e
  | _, _, _, .lstO h h2 r, e => .lstO h (z _ h2) (Reps.unf k z r (by simpa [sha] using e))
  | _, _, _, .dct h, e => by simp [sha] at e
  | _, _, _, .dctO h h2, _ => .dctO h (z _ h2)
  | _, _, _, .ins h l e r, q => by simp [sha] at q
  | _, _, _, .insO h l e h2 r, q => .insO h l e (z _ h2) (Reps.unf k z r (by simpa [sha] using q))
  | _, _, _, .exc h h2 l e r, q => .exc (k _ _ h (fun _ e => nomatch e) (fun e => nomatch e) (fun _ _ _ e => nomatch e)) (k _ _ h2 (fun _ e => nomatch e) (fun e => nomatch e) (fun _ _ _ e => nomatch e)) l e (Reps.unf k z r (by simpa [sha] using q))
  | _, _, _, .excN h e, _ => .excN (k _ _ h (fun _ e => nomatch e) (fun e => nomatch e) (fun _ _ _ e => nomatch e)) e
theorem Reps.unf (k : ∀ c o, Z2 c = some o → (∀ vs, o ≠ .lst vs) → o ≠ .dK [] → (∀ C dx fs, o ≠ .ins C dx fs) → Z3 c = some o) (z : ∀ c, Z2 c = none → Z3 c = none) : ∀ {ds : List D} {vs : List V} {fp : List Addr}, Reps K N Z2 H2 ds vs fp → shas ds = false → Reps K N Z3 H2 ds vs fp
  | _, _, _, .nil, _ => .nil
  | _, _, _, .cons r t, e => by
    rw [shas, Bool.or_eq_false_iff] at e
    exact .cons (Rep.unf k z r e.1) (Reps.unf k z t e.2)
end
/-- arguments, ahead of a call: S the cells of things beside the names -/
structure Ar (K : PySem.W.Frag) (N : Nm) (H : Hp) (F : Nat → List Addr) (Z' H' : Hp) (F' : Nat → List Addr) (p : List D × Bool) (rs : List Nat) (vs : List V) (S : List Addr) : Prop where
  own : ∀ c ∈ S, Own1 Z' H' c
  dj : ∀ c ∈ S, ∀ i, c ∉ F' i
  new : ∀ c ∈ S, H c = none ∨ ∃ i, c ∈ F i
  rep : ∃ ds, p.1 = shrs ds ∧ Vws K N Z' H' (fun c => c ∈ S ∨ (p.2 = true ∧ ∃ i ∈ rs, c ∈ F' i)) ds vs
/-- the cells that are lent or given -/
def lentS (S : List Addr) (l : Bool) (rs : List Nat) (F : Nat → List Addr) (c : Addr) : Prop := c ∈ S ∨ (l = true ∧ ∃ i ∈ rs, c ∈ F i)
open Classical in
/-- the ground of the callee -/
noncomputable def gnd (Z H : Hp) (S : List Addr) (l : Bool) (rs : List Nat) (F : Nat → List Addr) : Hp := frz Z H (lentS S l rs F)
open Classical in
theorem Ar.reps {p : List D × Bool} {rs : List Nat} {vs : List V} {S : List Addr} (s : SR K N Z1 H1 env1 σ F1) (a : Ar K N H F Z1 H1 F1 p rs vs S) : Same Z1 (gnd Z1 H1 S p.2 rs F1) ∧ Same (gnd Z1 H1 S p.2 rs F1) H1 ∧ Reps K N (gnd Z1 H1 S p.2 rs F1) H1 p.1 vs [] := by
  refine ⟨frz_zz s.zh, frz_zh s.zh, ?_⟩
  obtain ⟨ds, e, r⟩ := a.rep
  rw [e]
  refine Vws.shr (frz_zz s.zh) (frz_zh s.zh) (fun c hc => ?_) r
  rw [frz_in (S := lentS S p.2 rs F1) hc]
  rcases hc with hc | ⟨_, i, hr, hc⟩
  · exact (a.own c hc).some
  · exact (s.own1 hc).some
/-- behind a call that changed nothing of what was there -/
structure Beh (Zx H1 Z2 H2 : Hp) : Prop where
  zz : Same Zx Z2
  hh : Same H1 H2
  zh : Same Z2 H2
  nz : ∀ c, Z2 c ≠ none → Zx c ≠ none ∨ H1 c = none
theorem demA_get {rs : List Nat} : ∀ {env : Env} {k i : Nat}, (demA rs k env)[i]? = (env[i]?).map fun o => if rs.contains (k + i) then o.map shr else o
  | [], _, _ => by simp [demA]
  | o :: env, k, 0 => by simp [demA]
  | o :: env, k, i + 1 => by
    simp only [demA, List.getElem?_cons_succ]
    rw [demA_get]
    have : k + 1 + i = k + (i + 1) := by omega
    rw [this]
theorem demA_len {rs : List Nat} : ∀ {env : Env} {k : Nat}, (demA rs k env).length = env.length
  | [], _ => rfl
  | o :: env, k => by simp [demA, demA_len]
open Classical in
/-- what was lent is given up: the slots that were lent are shared -/
theorem beh_give {p : List D × Bool} {rs : List Nat} {vs : List V} {S : List Addr} (g : Go K N σ Z H env F Z1 H1 env1 F1) (a : Ar K N H F Z1 H1 F1 p rs vs S) (hl : p.2 = true) (b : Beh (gnd Z1 H1 S p.2 rs F1) H1 Z2 H2) :
    Go K N σ Z H env F Z2 H2 (demA rs 0 env1) (fun i => if rs.contains i then [] else F1 i) := by
  have s := g.sr
  have inn : ∀ i c, rs.contains i = true → c ∈ F1 i → gnd Z1 H1 S p.2 rs F1 c = H1 c := fun i c hi h => frz_in (S := lentS S p.2 rs F1) (.inr ⟨hl, i, by simpa using hi, h⟩)
  have z1 : Same Z1 Z2 := (frz_zz s.zh).trans b.zz
  have out : ∀ i c, rs.contains i = false → c ∈ F1 i → Z2 c = none := fun i c hi h => by
    cases q : Z2 c with
    | none => rfl
    | some o =>
      exfalso
      rcases b.nz c (by rw [q]; exact fun h => nomatch h) with h2 | h2
      · unfold gnd frz at h2
        split at h2
        · rename_i hc
          rcases hc with hc | ⟨_, j, hr, hc⟩
          · exact a.dj c hc i h
          · have := s.dj _ _ c h hc
            subst this
            simp [hr] at hi
        · exact h2 (s.own1 h).1
      · exact (s.own1 h).some h2
  refine ⟨⟨by rw [demA_len]; exact s.len, fun i d e => ?_, fun i h => ?_, fun i => ?_, fun i j c h1 h2 => ?_, b.zh⟩, g.zz.trans z1, g.hh.trans b.hh, fun c h => ?_, fun i c h => ?_, fun i c h => ?_, fun i h => ?_⟩
  · rw [demA_get, Nat.zero_add] at e
    cases e1 : env1[i]? with
    | none => rw [e1] at e; cases e
    | some o =>
      rw [e1, Option.map_some] at e
      cases hi : rs.contains i with
      | true =>
        rw [hi, if_pos rfl] at e
        cases o with
        | none => cases e
        | some d0 =>
          cases e
          obtain ⟨v, e2, r⟩ := s.som i d0 e1
          refine ⟨v, e2, ?_⟩
          rw [if_pos rfl]
          have r1 : Rep K N (gnd Z1 H1 S p.2 rs F1) H1 (shr d0) v [] := Vw.shr (frz_zz s.zh) (frz_zh s.zh) (O := fun c => c ∈ F1 i) (fun c hc => by
            show gnd Z1 H1 S p.2 rs F1 c ≠ none
            rw [inn i c hi hc]; exact (r.own1 c hc).some) (r.vw fun _ h => h)
          exact r1.mono b.zz fun _ h => nomatch h
      | false =>
        rw [hi] at e
        cases e
        obtain ⟨v, e2, r⟩ := s.som i d e1
        refine ⟨v, e2, ?_⟩
        rw [if_neg (by simp)]
        refine r.mono z1 fun c hc => ⟨?_, out i c hi hc⟩
        cases q : H1 c with
        | none => exact absurd q (s.own1 hc).some
        | some o => exact b.hh _ _ q
  · cases hi : rs.contains i with
    | true => rw [if_pos rfl]
    | false =>
      rw [if_neg (by simp)]
      refine s.non i fun d e => h d ?_
      rw [demA_get, Nat.zero_add, e, hi]; rfl
  · split
    · exact .nil
    · exact s.nd i
  · split at h1
    · cases h1
    · split at h2
      · cases h2
      · exact s.dj i j c h1 h2
  · rcases b.nz c h with h | h
    · unfold gnd frz at h
      split at h
      · rename_i hc
        rcases hc with hc | ⟨_, i, hr, hc⟩
        · exact (a.new c hc).elim (fun h => .inr (.inr h)) fun h => .inr (.inl h)
        · exact .inr (.inl ⟨i, g.sub i c hc⟩)
      · exact g.nz c h
    · exact .inr (.inr (g.hh.free h))
  · split at h
    · cases h
    · exact g.sub i c h
  · rcases g.gone i c h with h | h | h
    · cases hi : rs.contains i with
      | true =>
        refine .inr (.inl (Same.some b.zz ?_))
        rw [inn i c hi h]; exact (s.own1 h).some
      | false =>
        refine .inl ?_
        exact h
    · exact .inr (.inl (Same.some z1 h))
    · refine .inr (.inr ?_)
      rw [demA_get, h]
      simp
  · rw [demA_get, g.nn i h]
    simp
open Classical in
/-- what was lent alone is forgotten -/
noncomputable def unf (Z : Hp) (F : Nat → List Addr) : Hp := fun c => if ∃ i, c ∈ F i then none else Z c
open Classical in
/-- what was lent is one's own again -/
theorem beh_keep {p : List D × Bool} {rs : List Nat} {vs : List V} {S : List Addr} (g : Go K N σ Z H env F Z1 H1 env1 F1) (a : Ar K N H F Z1 H1 F1 p rs vs S) (b : Beh (gnd Z1 H1 S p.2 rs F1) H1 Z2 H2) :
    Go K N σ Z H env F (unf Z2 F1) H2 env1 F1 ∧ (∀ {d : D} {v : V} {fp : List Addr}, Rep K N Z2 H2 d v fp → sha d = false → Rep K N (unf Z2 F1) H2 d v fp) ∧ (∀ {ds : List D} {vs : List V} {fp : List Addr}, Reps K N Z2 H2 ds vs fp → shas ds = false → Reps K N (unf Z2 F1) H2 ds vs fp) ∧
      ∀ c o, Z2 c = some o → (∀ vs, o ≠ .lst vs) → o ≠ .dK [] → (∀ C dx fs, o ≠ .ins C dx fs) → unf Z2 F1 c = some o := by
  have s := g.sr
  have hin : ∀ i c, c ∈ F1 i → unf Z2 F1 c = none := fun i c h => if_pos ⟨i, h⟩
  have hno : ∀ c, (∀ i, c ∉ F1 i) → unf Z2 F1 c = Z2 c := fun c h => if_neg fun ⟨i, q⟩ => h i q
  have kk : ∀ c o, Z2 c = some o → (∀ vs, o ≠ .lst vs) → o ≠ .dK [] → (∀ C dx fs, o ≠ .ins C dx fs) → unf Z2 F1 c = some o := fun c o e h1 h2 h3 => by
    rw [hno c, e]
    intro i hi
    rcases (s.own1 hi).2 with ⟨vs, q⟩ | q | ⟨C, dx, fs, q⟩
    · have e2 := b.hh _ _ q
      rw [b.zh _ _ e] at e2
      cases e2
      exact h1 _ rfl
    · have e2 := b.hh _ _ q
      rw [b.zh _ _ e] at e2
      cases e2
      exact h2 rfl
    · have e2 := b.hh _ _ q
      rw [b.zh _ _ e] at e2
      cases e2
      exact h3 _ _ _ rfl
  have zn : ∀ c, Z2 c = none → unf Z2 F1 c = none := fun c h => by
    unfold unf; split
    · rfl
    · exact h
  have z1 : Same Z1 (unf Z2 F1) := fun c o e => by
    rw [hno c fun i hi => by have := (s.own1 hi).1; rw [e] at this; cases this]
    exact b.zz _ _ (frz_zz s.zh _ _ e)
  refine ⟨⟨⟨s.len, fun i d e => ?_, s.non, s.nd, s.dj, fun c o e => ?_⟩, g.zz.trans z1, g.hh.trans b.hh, fun c h => ?_, g.sub, fun i c h => ?_, g.nn⟩, fun r e => Rep.unf kk zn r e, fun r e => Reps.unf kk zn r e, kk⟩
  · obtain ⟨v, e1, r⟩ := s.som i d e
    refine ⟨v, e1, r.mono z1 fun c hc => ⟨?_, hin i c hc⟩⟩
    cases q : H1 c with
    | none => exact absurd q (s.own1 hc).some
    | some o => exact b.hh _ _ q
  · unfold unf at e
    split at e
    · cases e
    · exact b.zh _ _ e
  · unfold unf at h
    split at h
    · exact absurd rfl h
    · rename_i hn
      rcases b.nz c h with h | h
      · unfold gnd frz at h
        split at h
        · rename_i hc
          rcases hc with hc | ⟨_, i, hr, hc⟩
          · exact (a.new c hc).elim (fun h => .inr (.inr h)) fun h => .inr (.inl h)
          · exact absurd ⟨i, hc⟩ hn
        · exact g.nz c h
      · exact .inr (.inr (g.hh.free h))
  · rcases g.gone i c h with h | h | h
    · exact .inl h
    · exact .inr (.inl (Same.some z1 h))
    · exact .inr (.inr h)
end
section
variable {X : Cx} {N : Nm} {W : WX} {P : Pg} {a b : Ex} {ea eb : Expr} {pos p : Pos} {x : Str}
/-- the arguments' reading -/
def tAr (K : PySem.W.Frag) (N : Nm) (W : WX) (rs : List Nat) (m : Env → R (List D × Bool)) : TA := fun σ H Q =>
  ∃ Z env F, SR K N Z H env σ F ∧ Post K N W σ Z H env F (m env) fun q _ Z' H' F' => ∀ vs S, Ar K N H F Z' H' F' q rs vs S → Q vs H'
def OkAr (X : Cx) (N : Nm) (W : WX) (P : Pg) (x : Ex) (es : List Expr) : Prop := PA X es (tAr X.K N W (rts x) (args P x))
theorem aa_nil : OkAr X N W P .nil [] := L2.PA.imp pa_nil fun σ H Q ⟨Z, env, F, s, h⟩ => h Z H F (Go.refl s) [] [] ⟨fun _ h => (nomatch h), fun _ h => (nomatch h), fun _ h => (nomatch h), [], rfl, .nil⟩
theorem Ar.cons {K : PySem.W.Frag} {σ : L2.St} {Z H Z1 H1 Z2 H2 : Hp} {env env1 : Env} {F F1 F2 : Nat → List Addr} {d : D} {v : V} {r : Option Nat} {q : List D × Bool} {rs : List Nat} {vs : List V} {S2 : List Addr} (G1 : Go K N σ Z H env F Z1 H1 env1 F1) (rv : RV K N r H F Z2 H2 F2 d v) (ar : Ar K N H1 F1 Z2 H2 F2 q rs vs S2) :
    ∃ S, Ar K N H F Z2 H2 F2 (shr d :: q.1, (Q.own d && r.isSome) || q.2) (r.toList ++ rs) (v :: vs) S := by
  obtain ⟨ds, eq, rr⟩ := ar.rep
  have new2 : ∀ c ∈ S2, H c = none ∨ ∃ i, c ∈ F i := fun c hc => (ar.new c hc).elim (fun h => .inl (G1.hh.free h)) fun ⟨i, h⟩ => .inr ⟨i, G1.sub i c h⟩
  cases r with
  | none =>
    obtain ⟨fv, t⟩ := rv
    refine ⟨fv ++ S2, fun c hc => (List.mem_append.mp hc).elim (t.rep.own1 c) (ar.own c), fun c hc => (List.mem_append.mp hc).elim (t.dj c) (ar.dj c), fun c hc => (List.mem_append.mp hc).elim (t.new c) (new2 c), d :: ds, by simp only [shrs, eq], ?_⟩
    refine .cons (t.rep.vw fun c hc => .inl (List.mem_append_left _ hc)) (Vws.mono (Same.refl _) (Same.refl _) (fun c hc => .inl ?_) rr)
    rcases hc with hc | ⟨hq, i, hi, hc⟩
    · exact .inl (List.mem_append_right _ hc)
    · exact .inr ⟨by simp [hq], i, List.mem_append_right _ hi, hc⟩
  | some r =>
    refine ⟨S2, ar.own, ar.dj, new2, d :: ds, by simp only [shrs, eq], ?_⟩
    refine .cons ?_ (Vws.mono (Same.refl _) (Same.refl _) (fun c hc => .inl ?_) rr)
    · cases ho : Q.own d with
      | false => exact (Vw.rep rv ho).vw fun _ h => nomatch h
      | true => exact Vw.mono (Same.refl _) (Same.refl _) (fun c hc => .inl (.inr ⟨by simp, r, List.mem_append_left _ (List.mem_singleton.mpr rfl), hc⟩)) rv
    · exact hc.imp_right fun ⟨hq, i, hi, hc⟩ => ⟨by simp [hq], i, List.mem_append_right _ hi, hc⟩
theorem aa_cons {es : List Expr} (ha : OkE X N W P a ea) (hb : OkAr X N W P b es) (h1 : plainE ea = true) : OkAr X N W P (.cons a b) (ea :: es) :=
  L2.PA.imp (pa_cons ha hb (star_cons h1)) fun σ H Q ⟨Z, env, F, s, h⟩ => ⟨Z, env, F, s, (Post.bind h).imp fun d env1 Z1 H1 F1 G1 h1 v rv => ⟨Z1, env1, F1, G1.sr, (Post.bind h1).imp fun q env2 Z2 H2 F2 G2 h2 vs S2 ar => by
    cases hh : here (root a) env2 with
    | false => rw [hh] at h2; exact h2.elim
    | true =>
      rw [hh, if_pos rfl] at h2
      obtain ⟨S, ar'⟩ := Ar.cons G1 (rv.keep G2 hh) ar
      exact h2 Z2 H2 F2 (Go.refl G2.sr) _ S ar'⟩⟩
open Classical in
theorem unf_same {σ : L2.St} {Z H Z1 H1 Z2 H2 : Hp} {env env1 : Env} {F F1 : Nat → List Addr} {q : List D × Bool} {rs : List Nat} {vs : List V} {S : List Addr} {K : PySem.W.Frag} (g : Go K N σ Z H env F Z1 H1 env1 F1) (a : Ar K N H F Z1 H1 F1 q rs vs S) (hl : q.2 = false) (b : Beh (gnd Z1 H1 S q.2 rs F1) H1 Z2 H2) : unf Z2 F1 = Z2 := by
  funext c
  unfold unf
  split
  · rename_i hc
    obtain ⟨i, hi⟩ := hc
    cases e : Z2 c with
    | none => rfl
    | some o =>
      rcases b.nz c (by rw [e]; exact fun h => nomatch h) with h | h
      · unfold gnd frz at h
        split at h
        · rename_i hc
          rcases hc with hc | ⟨h, _⟩
          · exact absurd hi (a.dj c hc i)
          · rw [hl] at h; cases h
        · exact absurd (g.sr.own1 hi).1 h
      · exact absurd h (g.sr.own1 hi).some
  · rfl
/-! ### the call of a def -/
structure CalT (X : Cx) (N : Nm) (P : Pg) (f n : Nat) (x : Str) : Prop where
  ex : ∃ (k : Nat) (fa : Addr) (fd : FuncData) (ps : List Str), ps.length = n ∧ FnOk X.prog X.w X.K X.mg X.base (L2.CX X.prog X.w) k fa fd ps (spT X.K N n (P.call f)) ∧ Room k X.A ∧ X.mg x = some (.ref fa) ∧ PySem.W.keepIn X.K (.ref fa) = true ∧ Binds X.K fd ps []
  gl : Gl X x
  db : (x == ("__debug__" : Str)) = false
/-- from what the callee says to what is wanted here -/
theorem call_post {f : List D → CR} {n : Nat} {σ : L2.St} {Z H Z1 H1 : Hp} {env env1 : Env} {F F1 : Nat → List Addr} {q : List D × Bool} {rs : List Nat} {vs : List V} {S : List Addr} {Q : VK} (g : Go X.K N σ Z H env F Z1 H1 env1 F1) (a : Ar X.K N H F Z1 H1 F1 q rs vs S) (hn : vs.length = n)
    (h : Post X.K N W σ Z H env F (afterCall q.2 rs env1 (f q.1)) fun d _ Z' H' F' => ∀ v, RV X.K N none H F Z' H' F' d v → Q v H') : spT X.K N n f vs H1 Q (WE W σ) := by
  obtain ⟨z1, z2, r⟩ := a.reps g.sr
  refine ⟨hn, gnd Z1 H1 S q.2 rs F1, q.1, z2, r, ?_⟩
  cases e : f q.1 with
  | stuck => rw [e] at h; exact h.elim
  | ok d =>
    rw [e] at h
    intro Z2 H2 v fv zz hh zh nz rv nd nw
    have b : Beh (gnd Z1 H1 S q.2 rs F1) H1 Z2 H2 := ⟨zz, hh, zh, nz⟩
    have new : ∀ c ∈ fv, H c = none ∨ ∃ i, c ∈ F i := fun c hc => .inl (g.hh.free (nw c hc))
    have dj : ∀ c ∈ fv, ∀ i, c ∉ F1 i := fun c hc i hi => (g.sr.own1 hi).some (nw c hc)
    simp only [afterCall] at h
    cases hq : (q.2 && sha d) with
    | true =>
      rw [hq, if_pos rfl] at h
      rw [Bool.and_eq_true] at hq
      exact h Z2 H2 _ (beh_give g a hq.1 b) v ⟨fv, rv, nd, fun c hc i h => by
        split at h
        · cases h
        · exact dj c hc i h, new⟩
    | false =>
      rw [hq] at h
      obtain ⟨g2, k1, _, _⟩ := beh_keep g a b
      cases hs : sha d with
      | false => exact h _ H2 F1 g2 v ⟨fv, k1 rv hs, nd, dj, new⟩
      | true =>
        rw [hs, Bool.and_true] at hq
        rw [unf_same g a hq b] at g2
        exact h _ H2 F1 g2 v ⟨fv, rv, nd, dj, new⟩
  | exc c fs xs =>
    rw [e] at h
    intro Z2 H2 cls dx zz hh zh nz ex
    have b : Beh (gnd Z1 H1 S q.2 rs F1) H1 Z2 H2 := ⟨zz, hh, zh, nz⟩
    simp only [afterCall] at h
    cases hq : (q.2 && shas xs) with
    | true =>
      rw [hq, if_pos rfl] at h
      rw [Bool.and_eq_true] at hq
      exact h Z2 H2 _ cls dx (beh_give g a hq.1 b) ex
    | false =>
      rw [hq] at h
      obtain ⟨g2, _, k1, k2⟩ := beh_keep g a b
      cases hs : shas xs with
      | false =>
        refine h _ H2 F1 cls dx g2 ⟨ex.1, ex.2.imp_left fun ⟨d, ws, e1, e2, e3, e4⟩ => ⟨d, ws, e1, k2 _ _ e2 (fun _ e => nomatch e) (fun e => nomatch e) (fun _ _ _ e => nomatch e), e3, k1 e4 hs⟩⟩
      | true =>
        rw [hs, Bool.and_true] at hq
        rw [unf_same g a hq b] at g2
        exact h _ H2 F1 cls dx g2 ex
theorem Ar.length {K : PySem.W.Frag} {H Z' H' : Hp} {F F' : Nat → List Addr} {q : List D × Bool} {rs : List Nat} {vs : List V} {S : List Addr} (a : Ar K N H F Z' H' F' q rs vs S) : q.1.length = vs.length := by
  obtain ⟨ds, e, r⟩ := a.rep
  have : ∀ ds : List D, (shrs ds).length = ds.length := fun ds => by induction ds <;> simp_all [shrs]
  rw [e, this, r.length]
/-- how many a row has -/
theorem args_len : ∀ {es : Ex} {env env' : Env} {p : List D × Bool}, row es = true → args P es env = .ok p env' → p.1.length = arity es
  | .nil, env, env', p, _, h => by
    simp only [args] at h
    cases h; rfl
  | .cons e es, env, env', p, hr, h => by
    simp only [args] at h
    obtain ⟨d, env1, e1, h⟩ := R.bind_ok h
    obtain ⟨q, env2, e2, h⟩ := R.bind_ok h
    split at h
    · cases h
      simp only [List.length_cons, arity, args_len (es := es) hr e2]
    · cases h
theorem post_ok {α : Type} {K : PySem.W.Frag} {σ : L2.St} {Z H : Hp} {env : Env} {F : Nat → List Addr} {r : R α} {ok : α → Env → Hp → Hp → (Nat → List Addr) → Prop} (h : Post K N W σ Z H env F r ok) : Post K N W σ Z H env F r (fun a e Z' H' F' => r = .ok a e ∧ ok a e Z' H' F') := by
  cases r with
  | ok a e => exact fun Z' H' F' g => ⟨rfl, h Z' H' F' g⟩
  | exc => exact h
  | stuck => exact h
theorem e_call {f n : Nat} {es : List Expr} (C : CalT X N P f n x) (hx : ∀ σ, PassesAt (L2.CX X.prog X.w) X σ (WE W σ)) (hr : row a = true) (hn : arity a = n) (hes : es.length = arity a)
    (h1 : es.all plainE = true) (ha : OkAr X N W P a es) : OkE X N W P (.call f a) (.Call (.Name x p) es [] pos) := by
  obtain ⟨k, fa, fd, ps, hl, F, hroom, hm, hk, hb⟩ := C.ex
  have key : PE X (.Call (.Name x p) es [] pos) (tCallSD (spT X.K N n (P.call f)) [] (WE W) (tAr X.K N W (rts a) (args P a))) := by
    cases es with
    | nil =>
      refine ⟨fun pins s σ H Q I h => ?_⟩
      refine wpAny_Call_Name_kw (ld_glob I C.gl hm ?_ C.db)
      refine PySem.W.callWith_K0 I.kIn hk ?_
      have := ha.run pos pins s σ H _ I h
      obtain ⟨Z, env, F0, s0, h0⟩ := h
      cases a with
      | nil =>
        have h2 := h0 Z H F0 (Go.refl s0) [] [] ⟨fun _ h => (nomatch h), fun _ h => (nomatch h), fun _ h => (nomatch h), [], rfl, .nil⟩
        exact run_fnSD (us := []) (vs := []) F hroom hb .nil (hx σ) I .nil h2
      | cons e r => cases hes
      | _ => cases hr
    | cons ea es =>
      rw [List.all_cons, Bool.and_eq_true] at h1
      exact pe_callSD (dvs := []) (ds := []) F hroom C.gl hm hk hb .nil hx ha C.db (star_cons h1.1) (star_any h1.2)
  refine L2.PE.imp key fun σ H Q ⟨Z, env, Fr, s, h⟩ => ⟨Z, env, Fr, s, (post_ok (Post.base h)).imp fun q env1 Z1 H1 F1 G1 ⟨eq, h1⟩ vs S ar => ?_⟩
  show spT X.K N n (P.call f) (vs ++ []) H1 Q (WE W σ)
  rw [List.append_nil]
  exact call_post G1 ar (by rw [← ar.length, args_len hr eq, hn]) h1
theorem meth_late {M : Model} {A : Around} {E : Value → Shared → Prop} {s : Shared} {env : PySem.Env} {o : Expr} {m : Str} {es : List Expr} {Q : Value → Shared → Prop} (hb : baseE o = true) (h1 : es.all plainE = true) (hf : es.length < 30) (hl : (p.endLine == pos.line) = true)
    (h : wpAny M A (eval o env) (fun ov s1 => ∀ pl, wpAny M A (getMethod ov m pl) (fun fx s2 => wpAny M A (callWith pos fx.1 fx.2 (backTo pos (starEach es env)) (backToKw pos (keywordEach [] env))) Q E s2) E s1) E s) :
    wpAny M A (eval (.Call (.Attribute o m p) es [] pos) env) Q E s := by
  rw [PySem.arm_eval_Call, base_ok hb]
  refine wpAny_bind (wpAny_mono h (fun ov s1 h1' => ?_) fun _ _ e => e)
  refine wpAny_bind (wpAny_standAt ?_)
  have hform : methodCallForm (es.length + ([] : List Keyword).length) (backTo pos (starEach es env)) (backToKw pos (keywordEach [] env)) = true := star_few h1 hf
  have hpos : methodCallPos true o env p pos = pure pos := by unfold methodCallPos; simp [hl]
  unfold methodCall
  rw [hform]
  refine wpAny_bind (wpAny_holding (wpAny_mono (h1' _) (fun fx s2 h2 => ?_) fun _ _ e => e))
  exact wpAny_bind (wpAny_of_eq hpos h2)
end
end Q
end
section
set_option linter.all false
set_option autoImplicit false
set_option maxHeartbeats 1000000
/-! Calls of methods; things made. -/
namespace Q
open PySem PySem.Spec PyProof.Rows L2
section
variable {X : Cx} {N : Nm} {W : WX} {P : Pg} {a b : Ex} {ea eb : Expr} {pos p : Pos} {x : Str}
structure MetT (X : Cx) (N : Nm) (P : Pg) (m n : Nat) (x : Str) : Prop where
  ex : ∃ (k c f : Nat) (fa : Addr) (fd : FuncData) (ps : List Str), ps.length = n + 1 ∧ (∀ c' f', P.mth c' m = some f' → c' = c ∧ f' = f) ∧ Cls X.K (N.cls c) ∧ Meth X.K (N.cls c) x fa ∧ FnOk X.prog X.w X.K X.mg X.base (L2.CX X.prog X.w) k fa fd ps (spT X.K N (n + 1) (P.call f)) ∧ Room k X.A ∧ Binds X.K fd ps [] ∧
    ∀ g, N.insF c g = true → N.fld g ≠ x
theorem look_none {x : Str} : ∀ {fs : List Nat} {vs : List V}, (∀ f ∈ fs, N.fld f ≠ x) → ((fs.map N.fld).zip vs).lookup x = none
  | [], _, _ => rfl
  | _ :: _, [], _ => rfl
  | f :: fs, v :: vs, h => by
    simp only [List.map_cons, List.zip_cons_cons, List.lookup]
    have : (x == N.fld f) = false := by
      cases q : x == N.fld f with
      | false => rfl
      | true => exact absurd (eq_of_beq q).symm (h f List.mem_cons_self)
    rw [this]
    exact look_none fun g hg => h g (List.mem_cons_of_mem _ hg)
theorem e_meth {m n : Nat} {es : List Expr} (M : MetT X N P m n x) (hx : ∀ σ, PassesAt (L2.CX X.prog X.w) X σ (WE W σ)) (h0 : baseE ea = true) (hr : row b = true) (hn : arity b = n) (hes : es.length = n) (hf : n < 30) (hl : (p.endLine == pos.line) = true)
    (h1 : es.all plainE = true) (he : OkE X N W P a ea) (ha : OkAr X N W P b es) : OkE X N W P (.meth m a b) (.Call (.Attribute ea x p) es [] pos) := by
  obtain ⟨k, c, f, fa, fd, ps, hps, hm, hcls, hmeth, F, hroom, hb, hfl⟩ := M.ex
  refine ⟨fun pins s σ H Q I ⟨Z, env, Fr, s0, h⟩ => meth_late h0 h1 (by omega) hl (thn (he.run pins s σ H (fun v H1 => ∃ Z1 env1 F1 d f', Go X.K N σ Z H env Fr Z1 H1 env1 F1 ∧ RV X.K N (root a) H Fr Z1 H1 F1 d v ∧ mthOf P m d = some f' ∧
      Post X.K N W σ Z H env Fr ((args P b env1).bind fun p env => if here (root a) env then afterCall ((own d && (root a).isSome) || p.2) (rts (.cons a b)) env (P.call f' (shr d :: p.1)) else .stuck) fun y _ Z' H' F' => ∀ v, RV X.K N none H Fr Z' H' F' y v → Q v H')
    I ⟨Z, env, Fr, s0, (Post.base h).imp fun d env1 Z1 H1 F1 G1 h1 v rv => ?_⟩) fun u s1 ⟨v, H1, I1, ru, Z1, env1, F1, d, f', G1, rv, hmt, hp⟩ => ?_)⟩
  · cases e : mthOf P m d with
    | none => rw [e] at h1; exact h1.elim
    | some f' =>
      rw [e] at h1
      exact ⟨Z1, env1, F1, d, f', G1, rv, e, h1⟩
  · intro pl
    cases d with
    | ins o c' fs xs =>
      obtain ⟨rfl, rfl⟩ := hm c' f' hmt
      have obj : ∃ l dx vs, v = .ref l ∧ H1 l = some (.ins (N.cls c') dx ((fs.map N.fld).zip vs)) ∧ ∀ g ∈ fs, N.insF c' g = true := by
        have cx := rv.ct
        cases cx with
        | ins h1 _ hg _ => exact ⟨_, _, _, rfl, G1.sr.zh _ _ h1, hg⟩
        | insO h1 _ hg _ _ => exact ⟨_, _, _, rfl, h1, hg⟩
      obtain ⟨l, dx, vs0, rfl, hl1, hg⟩ := obj
      obtain rfl : u = .ref l := ru
      refine getmeth_ok I1 hl1 hcls hmeth (look_none fun g h => hfl g (hg g h)) ?_
      let PR : List V → Hp → Prop := fun us H2 => ∃ Z2 env2 F2 q S, Go X.K N σ Z1 H1 env1 F1 Z2 H2 env2 F2 ∧ args P b env1 = .ok q env2 ∧ Ar X.K N H1 F1 Z2 H2 F2 q (rts b) us S ∧ Post X.K N W σ Z H env Fr (if here (root a) env2 then afterCall ((own (.ins o c' fs xs) && (root a).isSome) || q.2) (rts (.cons a b)) env2 (P.call f' (shr (.ins o c' fs xs) :: q.1)) else .stuck) fun y _ Z' H' F' => ∀ v, RV X.K N none H Fr Z' H' F' y v → Q v H'
      have hpa : ∀ us : List V, ∀ H2 : Hp, PR us H2 →
          spT X.K N (n + 1) (P.call f') (.ref l :: us) H2 Q (WE W σ) := fun us H2 ⟨Z2, env2, F2, q, S, G2, eq, ar, h3⟩ => by
        cases hh : here (root a) env2 with
        | false => rw [hh] at h3; exact h3.elim
        | true =>
          rw [hh, if_pos rfl] at h3
          obtain ⟨S', ar'⟩ := Ar.cons G1 (rv.keep G2 hh) ar
          exact call_post (G1.trans G2) ar' (by rw [List.length_cons, ← ar.length, args_len hr eq, hn]) h3
      cases es with
      | nil =>
        cases b with
        | nil =>
          refine PySem.W.callWith_K0 (first := [.ref l]) I1.kIn hmeth.kp ?_
          refine run_fnSD (us := [.ref l]) (vs := [.ref l]) F hroom hb .nil (hx σ) I1 (.cons rfl .nil) ?_
          rw [List.append_nil]
          exact hpa [] H1 ⟨Z1, env1, F1, ([], false), [], Go.refl G1.sr, rfl, ⟨fun _ h => (nomatch h), fun _ h => (nomatch h), fun _ h => (nomatch h), [], rfl, .nil⟩, hp⟩
        | cons e r => subst hn; cases hes
        | _ => cases hr
      | cons e0 es =>
        rw [List.all_cons, Bool.and_eq_true] at h1
        refine PySem.W.callWith_K (first := [.ref l]) (h₀ := X.base) I1.ok.mod.kin hmeth.kp (thn (ha.run pos pins s1 σ H1 PR I1 ⟨Z1, env1, F1, G1.sr, (post_ok (Post.shift (Post.base hp) G1)).imp fun q env2 Z2 H2 F2 G2 ⟨eq, h3⟩ vs S ar => ⟨Z2, env2, F2, q, S, G2, eq, ar, h3⟩⟩) fun us s2 ⟨vs, H2, I2, r, q2⟩ => ⟨I2.kIn, ?_⟩) (star_cons h1.1) (star_any h1.2)
        refine run_fnSD (us := .ref l :: us) (vs := .ref l :: vs) F hroom hb .nil (hx σ) I2 (.cons rfl r) ?_
        rw [List.append_nil]
        exact hpa vs H2 q2
    | _ => simp [mthOf] at hmt
end
end Q
end
section
set_option linter.all false
set_option autoImplicit false
set_option maxHeartbeats 1000000
/-! Statements. -/
namespace Q
open PySem PySem.Spec PyProof.Rows L2
/-- a def's entry: what was shared, what was tracked, what is one's own of it -/
structure Gnd where
  Z : Hp
  H : Hp
  O : Addr → Prop
  /-- what the first slot holds throughout -/
  pin : Option V
abbrev Np (G : Gnd) : Prop := G.pin = none
structure Fr (G : Gnd) (σ : L2.St) (Z H : Hp) (F : Nat → List Addr) : Prop where
  pn : ∀ v, G.pin = some v → σ[0]? = some (some v)
  zz : Same G.Z Z
  hh : ∀ c o, ¬ G.O c → G.H c = some o → H c = some o
  nz : ∀ c, Z c ≠ none → G.Z c ≠ none ∨ G.H c = none ∨ G.O c
  fr : ∀ i c, c ∈ F i → G.H c = none ∨ G.O c
section
variable {K : PySem.W.Frag} {N : Nm} {W : WX} {G : Gnd} {σ : L2.St} {Z H Z1 H1 Z2 H2 : Hp} {env env1 : Env} {F F1 F2 : Nat → List Addr}
theorem Fr.free (f : Fr G σ Z H F) {c : Addr} (h : H c = none) : G.H c = none ∨ G.O c := by
  by_cases o : G.O c
  · exact .inr o
  · cases e : G.H c with
    | none => exact .inl rfl
    | some u => rw [f.hh c u o e] at h; cases h
theorem Fr.go (f : Fr G σ Z H F) (g : Go K N σ Z H env F Z1 H1 env1 F1) : Fr G σ Z1 H1 F1 where
  pn := f.pn
  zz := f.zz.trans g.zz
  hh c o h e := g.hh _ _ (f.hh c o h e)
  nz c h := by
    rcases g.nz c h with h | ⟨i, h⟩ | h
    · exact f.nz c h
    · exact .inr (f.fr i c h)
    · exact .inr (f.free h)
  fr i c h := f.fr i c (g.sub i c h)
/-- a thing that is given back -/
structure Out (K : PySem.W.Frag) (N : Nm) (G : Gnd) (Z H : Hp) (d : D) (v : V) : Prop where
  ex : ∃ fv, Rep K N Z H d v fv ∧ fv.Nodup ∧ ∀ c ∈ fv, G.H c = none ∨ G.O c
  zh : Same Z H
def PostS (K : PySem.W.Frag) (N : Nm) (W : WX) (G : Gnd) (D : Ends) (res : R Fl) : Prop :=
  match res with
  | .ok .nx env => ∀ σ Z H F, SR K N Z H env σ F → Fr G σ Z H F → D.nx σ H
  | .ok .brk env => ∀ σ Z H F, SR K N Z H env σ F → Fr G σ Z H F → D.bk σ H
  | .ok .cont env => ∀ σ Z H F, SR K N Z H env σ F → Fr G σ Z H F → D.ct σ H
  | .ok (.ret d) _ => ∀ σ Z H F v, Fr G σ Z H F → Out K N G Z H d v → D.rt v H
  | .exc c fs vs env => ∀ σ Z H F cls dx, SR K N Z H env σ F → Fr G σ Z H F → ExR K N Z H c fs vs cls dx → W cls dx σ H
  | .stuck => False
def tS (K : PySem.W.Frag) (N : Nm) (W : WX) (G : Gnd) (m : Env → R Fl) : TS := fun D σ H => ∃ Z env F, SR K N Z H env σ F ∧ Fr G σ Z H F ∧ PostS K N W G D (m env)
theorem PostS.post {α : Type} {D : Ends} {res : R α} {f : α → Env → R Fl} (fr : Fr G σ Z H F) (h : PostS K N W G D (res.bind f)) : Post K N W σ Z H env F res (fun a env1 Z1 H1 F1 => Fr G σ Z1 H1 F1 ∧ PostS K N W G D (f a env1)) := by
  cases res with
  | ok a env1 => exact fun Z1 H1 F1 g => ⟨fr.go g, h⟩
  | exc c fs vs env' => exact fun Z' H' F' cls dx g ex => h σ Z' H' F' cls dx g.sr (fr.go g) ex
  | stuck => exact h
theorem PostS.imp {D D' : Ends} {res : R Fl} (h : PostS K N W G D res) (n : ∀ σ H, D.nx σ H → D'.nx σ H) (b : ∀ σ H, D.bk σ H → D'.bk σ H) (c : ∀ σ H, D.ct σ H → D'.ct σ H) (r : ∀ v H, D.rt v H → D'.rt v H) : PostS K N W G D' res := by
  cases res with
  | ok a env =>
    cases a with
    | nx => exact fun σ Z H F s f => n _ _ (h σ Z H F s f)
    | brk => exact fun σ Z H F s f => b _ _ (h σ Z H F s f)
    | cont => exact fun σ Z H F s f => c _ _ (h σ Z H F s f)
    | ret d => exact fun σ Z H F v f o => r _ _ (h σ Z H F v f o)
  | exc => exact h
  | stuck => exact h
end
/-- from here on -/
def Gnd.at (p : Option V) (Z H : Hp) (F : Nat → List Addr) : Gnd := ⟨Z, H, fun c => ∃ i, c ∈ F i, p⟩
theorem Fr.at {K : PySem.W.Frag} {N : Nm} {Z H : Hp} {env : Env} {σ : L2.St} {F : Nat → List Addr} (s : SR K N Z H env σ F) {p : Option V} (hp : ∀ v, p = some v → σ[0]? = some (some v)) : Fr (Gnd.at p Z H F) σ Z H F :=
  ⟨hp, Same.refl _, fun _ _ _ e => e, fun _ h => .inl h, fun i _ h => .inr ⟨i, h⟩⟩
theorem Fr.comp {G : Gnd} {σ σ1 : L2.St} {Z H Z1 H1 : Hp} {F F1 : Nat → List Addr} (f : Fr G σ Z H F) (g : Fr (Gnd.at G.pin Z H F) σ1 Z1 H1 F1) : Fr G σ1 Z1 H1 F1 where
  pn := g.pn
  zz := f.zz.trans g.zz
  hh c o h e := g.hh _ _ (fun ⟨i, hi⟩ => by
    rcases f.fr i c hi with q | q
    · rw [q] at e; cases e
    · exact h q) (f.hh c o h e)
  nz c h := by
    rcases g.nz c h with h | h | ⟨i, h⟩
    · exact f.nz c h
    · exact .inr (f.free h)
    · exact .inr (f.fr i c h)
  fr i c h := (g.fr i c h).elim f.free fun ⟨j, h⟩ => f.fr j c h
section
variable {X : Cx} {N : Nm} {W : WX} {P : Pg} {G : Gnd} {a b c : Ex} {ea eb ec : Expr} {pos p : Pos} {x : Str} {s t : St} {es et : List Stmt}
def OkS (X : Cx) (N : Nm) (W : WX) (P : Pg) (G : Gnd) (s : St) (e : Stmt) : Prop := PS X e (tS X.K N W G (exec P s))
def OkB (X : Cx) (N : Nm) (W : WX) (P : Pg) (G : Gnd) (s : St) (e : List Stmt) : Prop := PSs X e (tS X.K N W G (exec P s))
theorem _root_.L2.PSs.imp {st : List Stmt} {t t' : TS} (h : PSs X st t) (i : ∀ D σ H, t' D σ H → t D σ H) : PSs X st t' := ⟨fun pins s σ H D I q => h.run pins s σ H D I (i D σ H q)⟩
theorem b_nil : OkB X N W P G .pas [] := L2.PSs.imp pss_nil fun D σ H ⟨Z, env, F, s, fr, h⟩ => h σ Z H F s fr
theorem b_one {e : Stmt} (h : OkS X N W P G s e) : OkB X N W P G s [e] := pss_one h
theorem b_cons {e : Stmt} (h1 : OkS X N W P G s e) (h2 : OkB X N W P G t es) : OkB X N W P G (.seq s t) (e :: es) :=
  L2.PSs.imp (pss_cons h1 h2) fun D σ H ⟨Z, env, F, sr, fr, h⟩ => ⟨Z, env, F, sr, fr, by
    simp only [exec] at h
    cases e1 : exec P s env with
    | stuck => rw [e1] at h; exact h
    | exc => rw [e1] at h; exact h
    | ok r env1 =>
      rw [e1] at h
      cases r with
      | nx => exact fun σ Z H F s f => ⟨Z, env1, F, s, f, h⟩
      | brk => exact h
      | cont => exact h
      | ret d => exact h⟩
theorem s_pas : OkS X N W P G .pas (.Pass pos) := L2.PS.imp ps_pass fun D σ H ⟨Z, env, F, s, fr, h⟩ => h σ Z H F s fr
theorem s_doc {x : Str} {j : Nat} : OkS X N W P G .pas (.Expr (.Constant (.str x) j p) pos) := L2.PS.imp ps_doc fun D σ H ⟨Z, env, F, s, fr, h⟩ => h σ Z H F s fr
theorem s_brk : OkS X N W P G .brk (.Break pos) := L2.PS.imp ps_break fun D σ H ⟨Z, env, F, s, fr, h⟩ => h σ Z H F s fr
theorem s_cont : OkS X N W P G .cont (.Continue pos) := L2.PS.imp ps_continue fun D σ H ⟨Z, env, F, s, fr, h⟩ => h σ Z H F s fr
def dropE : Expr → Bool
  | .ListComp .. => false
  | .SetComp .. => false
  | .DictComp .. => false
  | _ => true
theorem drop_ok {e : Expr} {tg : Option Expr} {l : Nat} {env : PySem.Env} (h : dropE e = true) : swapsWith e tg l env = pure false := by
  cases e <;> first | rfl | cases h
theorem s_exp (ha : OkE X N W P a ea) (hd : dropE ea = true) : OkS X N W P G (.exp a) (.Expr ea pos) :=
  L2.PS.imp (ps_expr ha (drop_ok hd)) fun D σ H ⟨Z, env, F, s, fr, h⟩ => ⟨Z, env, F, s, (PostS.post fr h).imp fun d env1 Z1 H1 F1 G1 ⟨f1, h1⟩ v rv => h1 σ Z1 H1 F1 G1.sr f1⟩
theorem s_ret (ha : OkE X N W P a ea) : OkS X N W P G (.ret a) (.Return (some ea) pos) :=
  L2.PS.imp (ps_ret ha.ev) fun D σ H ⟨Z, env, F, s, fr, h⟩ => ⟨Z, env, F, s, (PostS.post fr h).imp fun d env1 Z1 H1 F1 G1 ⟨f1, h1⟩ v ⟨fv, t⟩ =>
    h1 σ Z1 H1 F1 v f1 ⟨⟨fv, t.rep, t.nd, fun c hc => (t.new c hc).elim fr.free fun ⟨i, h⟩ => fr.fr i c h⟩, G1.sr.zh⟩⟩
theorem s_retN : OkS X N W P G (.ret .non) (.Return none pos) := L2.PS.imp ps_retN fun D σ H ⟨Z, env, F, s, fr, h⟩ =>
  h σ Z H F .non fr ⟨⟨[], .non, .nil, fun _ h => (nomatch h)⟩, s.zh⟩
theorem s_ite (ht : OkT X N W P c ec) (h1 : OkB X N W P G s es) (h2 : OkB X N W P G t et) : OkS X N W P G (.ite c s t) (.If ec es et pos) :=
  L2.PS.imp (ps_if ht h1 h2) fun D σ H ⟨Z, env, F, sr, fr, h⟩ => ⟨Z, env, F, sr, by
    simp only [exec, tst, R.bind_assoc] at h
    refine (PostS.post fr h).imp fun d env1 Z1 H1 F1 G1 ⟨f1, h1⟩ => ?_
    cases e : tru d with
    | none => rw [e] at h1; exact h1.elim
    | some k =>
      rw [e] at h1
      refine ⟨k, rfl, ?_⟩
      cases k with
      | true => exact iteT ⟨Z1, env1, F1, G1.sr, f1, h1⟩
      | false => exact iteF ⟨Z1, env1, F1, G1.sr, f1, h1⟩⟩
theorem bnd_ne : ∀ (tg : Ex) (d : D) (env : Env) (c : Nat) (fs : List Nat) (vs : List D) (e : Env), bnd tg d env ≠ .exc c fs vs e := by
  intro tg
  induction tg with
  | var i => intro d env c fs vs e h; simp only [bnd] at h; split at h <;> cases h
  | tup es ih =>
    intro d env c fs vs e h
    cases d with
    | tup xs => simp only [bnd] at h; exact ih _ _ _ _ _ _ h
    | lst o xs =>
      simp only [bnd] at h
      split at h
      · cases h
      · exact ih _ _ _ _ _ _ h
    | _ => simp only [bnd] at h; cases h
  | nil =>
    intro d env c fs vs e h
    cases d with
    | tup xs => cases xs <;> cases h
    | _ => cases h
  | cons a es i1 i2 =>
    intro d env c fs vs e h
    cases d with
    | tup xs =>
      cases xs with
      | nil => cases h
      | cons x xs =>
        simp only [bnd] at h
        cases e1 : bnd a x env with
        | stuck => rw [e1] at h; cases h
        | exc => exact i1 _ _ _ _ _ _ e1
        | ok u env1 => rw [e1] at h; exact i2 _ _ _ _ _ _ h
    | _ => cases h
  | _ => intro d env c fs vs e h; cases h
theorem bnd_run {α : Type} {tg : Ex} {d : D} {env : Env} {D' : Ends} {f : Env → R Fl} {K : PySem.W.Frag} (h : PostS K N W G D' ((bnd tg d env).bind fun _ e => f e)) : ∃ env', bnd tg d env = .ok () env' ∧ PostS K N W G D' (f env') := by
  cases e : bnd tg d env with
  | stuck => rw [e] at h; exact h.elim
  | exc => exact absurd e (bnd_ne _ _ _ _ _ _ _)
  | ok u env' => rw [e] at h; exact ⟨env', rfl, h⟩
theorem Fr.put {F' : Nat → List Addr} {σ σ' : L2.St} {Z H : Hp} {F : Nat → List Addr} {fv : List Addr} (f : Fr G σ Z H F) (h0 : ¬ Np G → 0 ∉ slots a) (m : St1 a σ σ' F F' fv) (nw : ∀ c ∈ fv, G.H c = none ∨ G.O c) : Fr G σ' Z H F' :=
  ⟨fun v hv => by rw [(m.oth 0 (h0 fun h => by rw [h] at hv; cases hv)).1]; exact f.pn v hv, f.zz, f.hh, f.nz, fun i c h => (m.sub i c h).elim (f.fr i c) (nw c)⟩
/-- what an assignment reads -/
theorem asg_read {Dn : Ends} {σ : L2.St} {H : Hp} (h0 : ¬ Np G → 0 ∉ slots a) (h : tS X.K N W G (exec P (.asg a b)) Dn σ H) : tAsg (tV X.K N W none (ev P b)) (gT X.K N a) Dn σ H := by
  obtain ⟨Z, env, F, s, fr, h⟩ := h
  refine ⟨Z, env, F, s, (PostS.post fr h).imp fun d env1 Z1 H1 F1 G1 ⟨f1, h1⟩ v ⟨fv, t⟩ => ?_⟩
  obtain ⟨env', e, h2⟩ := bnd_run (α := Unit) h1
  exact ⟨Z1, env1, F1, d, fv, G1.sr, .inl t.rep, t.nd, t.dj, env', e, fun σ' F' s' m => h2 σ' Z1 H1 F' s' (f1.put h0 m fun c hc => (t.new c hc).elim fr.free fun ⟨i, h⟩ => fr.fr i c h)⟩
theorem s_asg {tg : Expr} (h0 : ¬ Np G → 0 ∉ slots a) (hg : OkG X N a tg) (hb : OkV X N W P b eb) (hs : swapsWithSole [tg] eb pos.line X.env = pure false) (hw : swappedStores [tg] eb X.env = pure none)
    (h1 : (assignEach [tg] X.env).map (·.2) = [assign tg X.env]) : OkS X N W P G (.asg a b) (.Assign [tg] eb pos) :=
  L2.PS.imp (ps_asg hb hg hs hw h1) fun D σ H h => asg_read h0 h
/-- name = [..] on one line -/
theorem s_setLc {i : Nat} {y : Str} {py spos : Pos} {elt tg it cond : Ex} {eelt etg eit : Expr} {ifs : List Expr} {scope : Scope} (h0 : ¬ Np G → 0 ≠ i) (hc : X.calm = true) (hN : X.N.Nodup) (hy : X.N[i]? = some y) (hyl : X.env.scope.names.lookup y = some .local)
    (hsw : swapsWith (.ListComp eelt [⟨etg, eit, ifs, 0⟩] scope pos) (some (.Name y py)) spos.line X.env = pure true) (hi : OkI X N W P etg it eit) (ok : BlkOk X.N X.env.scope scope (ownOf X.N (slots tg))) (hz : isTupE etg = true → ∃ es, tg = .tup es)
    (hg : ∀ (s : Shared) (H : Hp) (C : Addr) (cl : List (Str × Addr)) (fp : List Addr), OkG (X.blk s H scope (compEnvC scope cl C X.env) fp) N tg etg)
    (ht : ∀ (s : Shared) (H : Hp) (C : Addr) (cl : List (Str × Addr)) (fp : List Addr), PTs (X.blk s H scope (compEnvC scope cl C X.env) fp) ifs (tVt X.K N WF (vw P cond)))
    (he : ∀ (s : Shared) (H : Hp) (C : Addr) (cl : List (Str × Addr)) (fp : List Addr), OkE (X.blk s H scope (compEnvC scope cl C X.env) fp) N WF P elt eelt)
    (hs : ∀ x, foldedSetIterable eit X.env x = pure x) : OkS X N W P G (.asg (.var i) (.comp elt tg it cond)) (.Assign [.Name y py] (.ListComp eelt [⟨etg, eit, ifs, 0⟩] scope pos) spos) :=
  L2.PS.imp (ps_setLc (g := gT X.K N tg) (te := tV X.K N WF none (ev P elt)) hc hN hy hyl hsw hi ok hg ht (fun s H C cl fp => (he s H C cl fp).ev) hs) fun D0 σ H ⟨Z, env, F, s, fr, h⟩ => by
    refine comp_read (own_slots _ _) hz ⟨Z, env, F, s, ?_⟩
    have h : PostS X.K N W G D0 ((vw P (.comp elt tg it cond) env).bind fun d env => (take none d env).bind fun d env => (bnd (.var i) d env).bind fun _ env => .ok .nx env) := by
      have e := R.bind_assoc (vw P (.comp elt tg it cond) env) (take none) (fun d env => (bnd (.var i) d env).bind fun _ env => R.ok Fl.nx env)
      rw [← e]
      exact h
    refine (PostS.post fr h).imp fun d env1 Z1 H1 F1 G1 ⟨f1, h1⟩ v ⟨fv, t⟩ => ?_
    have h1 : PostS X.K N W G D0 ((bnd (.var i) d env1).bind fun _ env => .ok .nx env) := by
      unfold take at h1
      split at h1 <;> exact h1
    obtain ⟨env', e, h2⟩ := bnd_run (α := Unit) h1
    simp only [bnd] at e
    split at e
    · rename_i hl
      cases e
      have s1 := G1.sr.put hl t.rep t.nd t.dj
      refine h2 _ _ _ _ s1 ⟨fun v' hv => by rw [List.getElem?_set_ne (Ne.symm (h0 fun h => by rw [h] at hv; cases hv))]; exact f1.pn v' hv, f1.zz, f1.hh, f1.nz, fun k c h => ?_⟩
      split at h
      · exact (t.new c h).elim fr.free fun ⟨i, h⟩ => fr.fr i c h
      · exact f1.fr k c h
    · cases e
/-! for -/
def OkF (X : Cx) (N : Nm) (W : WX) (P : Pg) (tg : Expr) (x : Ex) (e : Expr) : Prop :=
  PI X tg e (fun σ H R => ∃ Z env F, SR X.K N Z H env σ F ∧ Post X.K N W σ Z H env F (forIt P x env) fun xs _ Z' H' F' => ∀ J, Wk X.K N (fun Z2 H2 => Same Z' Z2) (isTupE tg) J xs → R J H')
theorem s_for {tg : Expr} (h0 : ¬ Np G → 0 ∉ slots a) (hp : PassesOwn (model X.prog X.w) X.A X.env X.xe) (hc : X.calm = true) (hi : OkF X N W P tg b eb) (hg : OkG X N a tg) (hb : ∀ G', (Np G → Np G') → OkB X N W P G' s es) (hz : isTupE tg = true → ∃ e, a = .tup e) (hs : ∀ x, foldedSetIterable eb X.env x = pure x) :
    OkS X N W P G (.forr a b s) (.For tg eb es [] pos) :=
  L2.PS.imp (ps_for (tb := fun D σ H => ∃ G', (Np G → Np G') ∧ tS X.K N W G' (exec P s) D σ H) hp hc hi hg ⟨fun pins s' σ H D I ⟨G', hn, h⟩ => (hb G' hn).run pins s' σ H D I h⟩ hs) fun Dn σ H ⟨Z, env, F, sr, fr, h⟩ => by
    refine ⟨Z, env, F, sr, (PostS.post fr h).imp fun xs env1 Z1 H1 F1 G1 ⟨f1, h1⟩ J wk => ?_⟩
    let f : D → Env → R Fl := fun d env => (bnd a d env).bind fun _ env => exec P s env
    refine ⟨fun i m σ H => m = xs.length - i ∧ i ≤ xs.length ∧ ∃ Zi envi Fi, SR X.K N Zi H envi σ Fi ∧ Fr G σ Zi H Fi ∧ Same Z1 Zi ∧ PostS X.K N W G Dn (loop f (xs.drop i) envi), ⟨xs.length, by simp, Nat.zero_le _, Z1, env1, F1, G1.sr, f1, Same.refl _, h1⟩, ?_⟩
    rintro i m σ Hi ⟨rfl, hi, Zi, envi, Fi, sri, fri, zi, hpost⟩
    obtain ⟨wgo, wst⟩ := wk Zi Hi zi sri.zh
    by_cases hlt : i < xs.length
    · refine .inr ?_
      have ex : xs[i]? = some xs[i] := List.getElem?_eq_getElem hlt
      obtain ⟨jg, jy⟩ := wgo i _ ex
      rw [List.drop_eq_getElem_cons hlt] at hpost
      let Nx : L2.St → Hp → Prop := fun σ' H' => ∃ Z' env' F', SR X.K N Z' H' env' σ' F' ∧ Fr G σ' Z' H' F' ∧ Same Z1 Z' ∧ PostS X.K N W G Dn (loop f (xs.drop (i + 1)) env')
      refine ⟨jg, Nx, fun σ' H' ⟨Z', env', F', h1, h2, h3, h4⟩ => ⟨xs.length - (i + 1), by omega, rfl, hlt, Z', env', F', h1, h2, h3, h4⟩, fun x H' hy => ?_⟩
      have item : ∃ fv0 : List Addr, fv0 = [] ∧ Itm X.K N Zi H' a xs[i] x fv0 ∧ Go X.K N σ Zi Hi envi Fi Zi H' envi Fi := by
        rcases jy x H' hy with ⟨rfl, r⟩ | ⟨zt, l, d1, d2, v1, v2, e, rfl, hl, rfl, r1, r2⟩
        · exact ⟨[], rfl, .inl r, Go.refl sri⟩
        · obtain ⟨es, he⟩ := hz zt
          refine ⟨[], rfl, .inr ⟨es, _, l, [v1, v2], he, e, rfl, .inl (.inl upd_same), .cons (f := []) (g := []) ?_ (.cons (f := []) (g := []) ?_ .nil)⟩, Go.newO sri hl⟩
          · exact r1.mono (Same.refl _) fun _ h => nomatch h
          · exact r2.mono (Same.refl _) fun _ h => nomatch h
      obtain ⟨_, rfl, ri, gi⟩ := item
      have fr1 := fri.go gi
      simp only [loop, R.bind_assoc] at hpost
      have hpost : PostS X.K N W G Dn ((bnd a xs[i] envi).bind fun _ e => (exec P s e).bind fun r env => match r with
        | .nx => loop f (xs.drop (i + 1)) env
        | .cont => loop f (xs.drop (i + 1)) env
        | .brk => .ok .nx env
        | .ret d => .ok (.ret d) env) := by
        have := hpost
        rw [show f xs[i] envi = (bnd a xs[i] envi).bind fun _ env => exec P s env from rfl, R.bind_assoc] at this
        exact this
      obtain ⟨envb, eb, hpost⟩ := bnd_run (α := Unit) hpost
      refine ⟨Zi, envi, Fi, xs[i], [], gi.sr, ri, .nil, fun _ h => (nomatch h), envb, eb, fun σ2 F2 s2 m2 => ?_⟩
      have fr2 : Fr G σ2 Zi H' F2 := fr1.put h0 m2 fun _ h => (nomatch h)
      refine ⟨Gnd.at G.pin Zi H' F2, fun h => h, Zi, envb, F2, s2, Fr.at s2 fr2.pn, ?_⟩
      cases e1 : exec P s envb with
      | stuck => rw [e1] at hpost; exact hpost.elim
      | exc c fs vs env2 =>
        rw [e1] at hpost
        exact fun σ Z H F cls dx s f ex => hpost σ Z H F cls dx s (fr2.comp f) ex
      | ok r env2 =>
        rw [e1] at hpost
        cases r with
        | nx => exact fun σ3 Z3 H3 F3 s3 f3 => ⟨Z3, env2, F3, s3, fr2.comp f3, zi.trans f3.zz, hpost⟩
        | cont => exact fun σ3 Z3 H3 F3 s3 f3 => ⟨Z3, env2, F3, s3, fr2.comp f3, zi.trans f3.zz, hpost⟩
        | brk => exact fun σ3 Z3 H3 F3 s3 f3 => hpost σ3 Z3 H3 F3 s3 (fr2.comp f3)
        | ret d => exact fun σ3 Z3 H3 F3 v f3 o => hpost σ3 Z3 H3 F3 v (fr2.comp f3) ⟨by
            obtain ⟨fv, r, nd, nw⟩ := o.ex
            exact ⟨fv, r, nd, fun c hc => (nw c hc).elim (fun h => fr2.free h) fun ⟨j, h⟩ => fr2.fr j c h⟩, o.zh⟩
    · have e : i = xs.length := by omega
      subst e
      refine .inl ⟨wst _ (Nat.le_refl _), ?_⟩
      rw [List.drop_length] at hpost
      exact hpost σ Zi Hi Fi sri fri
/-! while -/
theorem s_whl (hp : PassesOwn (model X.prog X.w) X.A X.env X.xe) (ht : OkT X N W P c ec) (hb : OkB X N W P G s es) : OkS X N W P G (.whl c s) (.While ec es [] pos) :=
  L2.PS.imp (ps_while hp ht hb) fun Dn σ H ⟨Z, env, F, sr, fr, h⟩ => by
    refine ⟨fun m σ H => ∃ Z env F, SR X.K N Z H env σ F ∧ Fr G σ Z H F ∧ PostS X.K N W G Dn (whileF (tst P c) (exec P s) m env), ⟨turns, Z, env, F, sr, fr, h⟩, ?_⟩
    rintro m σ H ⟨Z, env, F, sr, fr, h⟩
    cases m with
    | zero => exact h.elim
    | succ m =>
      simp only [whileF, tst, R.bind_assoc] at h
      refine ⟨Z, env, F, sr, (PostS.post fr h).imp fun d env1 Z1 H1 F1 G1 ⟨f1, h1⟩ => ?_⟩
      cases e : tru d with
      | none => rw [e] at h1; exact h1.elim
      | some k =>
        rw [e] at h1
        refine ⟨k, rfl, ?_⟩
        cases k with
        | false => exact iteF (h1 σ Z1 H1 F1 G1.sr f1)
        | true =>
          refine iteT ⟨fun σ H => ∃ Z env F, SR X.K N Z H env σ F ∧ Fr G σ Z H F ∧ PostS X.K N W G Dn (whileF (tst P c) (exec P s) m env), fun σ' H' h => ⟨m, Nat.lt_succ_self _, h⟩, Z1, env1, F1, G1.sr, f1, ?_⟩
          have h1 : PostS X.K N W G Dn ((exec P s env1).bind fun r env => match r with
            | .nx => whileF (tst P c) (exec P s) m env
            | .cont => whileF (tst P c) (exec P s) m env
            | .brk => .ok .nx env
            | .ret d => .ok (.ret d) env) := h1
          cases e1 : exec P s env1 with
          | stuck => rw [e1] at h1; exact h1.elim
          | exc => rw [e1] at h1; exact h1
          | ok r env2 =>
            rw [e1] at h1
            cases r with
            | nx => exact fun σ3 Z3 H3 F3 s3 f3 => ⟨Z3, env2, F3, s3, f3, h1⟩
            | cont => exact fun σ3 Z3 H3 F3 s3 f3 => ⟨Z3, env2, F3, s3, f3, h1⟩
            | brk => exact h1
            | ret d => exact h1
end
end Q
end
section
set_option linter.all false
set_option autoImplicit false
set_option maxHeartbeats 1000000
/-! What a for walks. -/
namespace Q
open PySem PySem.Spec PyProof.Rows L2
section
variable {K : PySem.W.Frag} {N : Nm} {σ : L2.St} {Z H Z1 H1 : Hp} {env env1 : Env} {F F1 : Nat → List Addr}
/-- a thing beside the names, shared from now on -/
theorem Go.frzT {d : D} {v : V} {fv : List Addr} (g : Go K N σ Z H env F Z1 H1 env1 F1) (t : Tmp K N H F Z1 H1 F1 d v fv) : Go K N σ Z H env F (frz Z1 H1 (fun c => c ∈ fv)) H1 env1 F1 ∧ Rep K N (frz Z1 H1 (fun c => c ∈ fv)) H1 (shr d) v [] := by
  have s := g.sr
  refine ⟨⟨⟨s.len, fun i d e => ?_, s.non, s.nd, s.dj, frz_zh s.zh⟩, g.zz.trans (frz_zz s.zh), g.hh, fun c h => ?_, g.sub, fun i c h => ?_, g.nn⟩, ?_⟩
  · obtain ⟨v, e1, r⟩ := s.som i d e
    refine ⟨v, e1, r.mono (frz_zz s.zh) fun c hc => ⟨rfl, ?_⟩⟩
    rw [frz_out (S := fun c => c ∈ fv) fun h => t.dj c h i hc]
    exact (r.own1 c hc).1
  · by_cases q : c ∈ fv
    · exact (t.new c q).elim (fun h => .inr (.inr h)) fun h => .inr (.inl h)
    · rw [frz_out (S := fun c => c ∈ fv) q] at h
      exact g.nz c h
  · rcases g.gone i c h with h | h | h
    · exact .inl h
    · exact .inr (.inl (Same.some (frz_zz s.zh) h))
    · exact .inr (.inr h)
  · exact Vw.shr (frz_zz s.zh) (frz_zh s.zh) (O := fun c => c ∈ fv) (fun c hc => by rw [frz_in (S := fun c => c ∈ fv) hc]; exact (t.rep.own1 c hc).some) (t.rep.vw fun _ h => h)
end
section
variable {X : Cx} {N : Nm} {W : WX} {P : Pg} {a b : Ex} {ea eb : Expr} {pos p : Pos} {x : Str}
/-- what is walked is no zip -/
def noZip : Ex → Bool
  | .zip .. => false
  | _ => true
theorem forIt_ev {env : Env} (h : noZip a = true) : forIt P a env = (ev P a env).bind fun x env => match els (shr x) with | some xs => .ok xs env | none => .stuck := by
  unfold forIt
  split
  · cases h
  · rfl
theorem f_seq {tg : Expr} (hz : noZip a = true) (ha : OkE X N W P a ea) : OkF X N W P tg a ea :=
  L2.PI.imp (pi_or (pi_list (tg := tg) ha.ev) (pi_tup ha.ev)) fun σ H R ⟨Z, env, F, s, h⟩ => by
    rw [forIt_ev hz] at h
    have key : ∀ d env1 Z1 H1 F1, Go X.K N σ Z H env F Z1 H1 env1 F1 → ∀ v, RV X.K N none H F Z1 H1 F1 d v →
        Post X.K N W σ Z H env F (match els (shr d) with | some xs => (.ok xs env1 : Q.R (List D)) | none => .stuck) (fun xs _ Z' H' F' => ∀ J, Wk X.K N (fun Z2 H2 => Same Z' Z2) (isTupE tg) J xs → R J H') →
        (∃ o ys l, d = .lst o ys ∧ v = .ref l ∧ (∃ vs, SqL X.K H1 l vs) ∧ R (Itl X.K l) H1) ∨ ∃ ys l, d = .tup ys ∧ v = .ref l ∧ (∃ vs, SqT X.K H1 l vs) ∧ R (Itt X.K l) H1 := fun d env1 Z1 H1 F1 G1 v ⟨fv, t⟩ h1 => by
      obtain ⟨g2, r2⟩ := G1.frzT t
      cases d with
      | lst o ys =>
        simp only [shr, els] at h1 r2
        cases r2 with
        | lst hr r =>
          exact .inl ⟨o, ys, _, rfl, rfl, ⟨_, (Ls.mono g2.sr.zh hr).sq⟩, h1 _ H1 F1 g2 _ (wk_list r.length fun Z3 H3 z zh => ⟨(Ls.mono zh (Ls.mono z hr)).sq, r.mono z fun _ h => nomatch h⟩)⟩
      | tup ys =>
        simp only [shr, els] at h1 r2
        cases r2 with
        | tup ht r =>
          exact .inr ⟨ys, _, rfl, rfl, ⟨_, SqT.mono ht.sq g2.sr.zh⟩, h1 _ H1 F1 g2 _ (wk_tup r.length fun Z3 H3 z zh => ⟨SqT.mono (ht.mono z).sq zh, r.mono z fun _ h => nomatch h⟩)⟩
      | _ => simp only [shr, els] at h1; exact h1.elim
    cases e1 : ev P a env with
    | stuck => rw [e1] at h; exact h.elim
    | exc c fs vs env1 => rw [e1] at h; exact .inl ⟨Z, env, F, s, by rw [e1]; exact h⟩
    | ok d env1 =>
      rw [e1] at h
      have h0 := Post.base h
      cases d with
      | lst o ys =>
        refine .inl ⟨Z, env, F, s, ?_⟩
        rw [e1]
        intro Z1 H1 F1 G1 v rv
        rcases key _ _ _ _ _ G1 v rv (h0 Z1 H1 F1 G1) with ⟨_, _, l, _, e, hs, q⟩ | ⟨_, _, e, _⟩
        · exact ⟨l, e, hs, q⟩
        · cases e
      | tup ys =>
        refine .inr ⟨Z, env, F, s, ?_⟩
        rw [e1]
        intro Z1 H1 F1 G1 v rv
        rcases key _ _ _ _ _ G1 v rv (h0 Z1 H1 F1 G1) with ⟨_, _, _, e, _⟩ | ⟨_, l, _, e, hs, q⟩
        · cases e
        · exact ⟨l, e, hs, q⟩
      | _ =>
        refine .inl ⟨Z, env, F, s, ?_⟩
        rw [e1]
        intro Z1 H1 F1 G1 v rv
        exact (h0 Z1 H1 F1 G1).elim
theorem ints_shr (i j : Int) : shrs (ranges i j) = ranges i j := shrs_of (ranges_own i j)
theorem f_rng1 {tg : Expr} (hg : Gl X "range") (hm : X.mg "range" = none) (h1 : plainE ea = true) (ha : OkE X N W P a ea) : OkF X N W P tg (.rng1 a) (.Call (.Name "range" p) [ea] [] pos) :=
  L2.PI.imp (pi_range1 hg hm (pa_cons ha pa_nil (star_cons h1)) (star_cons h1)) fun σ H R ⟨Z, env, F, s, h⟩ => by
    rw [forIt_ev rfl] at h
    refine ⟨Z, env, F, s, (Post.bind (Post.bind (Post.bind h))).imp fun x env1 Z1 H1 F1 G1 h1 v rv => ?_⟩
    obtain ⟨d, e, h1⟩ := Post.noneR h1
    obtain ⟨i, j, e0, rfl, rfl, hb⟩ := rngD_of e
    cases e0
    have := rv.ct.int'
    subst this
    have h2 := h1 Z1 H1 F1 (Go.refl G1.sr)
    have h3 : Post X.K N W σ Z1 H1 env1 F1 (take none (.lst true (ranges 0 j)) env1) _ := h2
    simp only [take, Q.own, Bool.true_or, if_true] at h3
    have h4 := h3 Z1 H1 F1 (Go.refl G1.sr)
    simp only [shr, els, ints_shr] at h4
    refine ⟨j, rfl, hb.2.2.1, hb.2.2.2, ?_⟩
    have := h4 Z1 H1 F1 (Go.refl G1.sr) _ (wk_rng (a := 0) (b := j))
    rwa [Int.sub_zero] at this
theorem f_rng2 {tg : Expr} (hg : Gl X "range") (hm : X.mg "range" = none) (h1 : plainE ea = true) (h2 : plainE eb = true) (ha : OkE X N W P a ea) (hb : OkE X N W P b eb) : OkF X N W P tg (.rng2 a b) (.Call (.Name "range" p) [ea, eb] [] pos) :=
  L2.PI.imp (pi_range2 hg hm (pa_cons ha (pa_cons hb pa_nil (star_cons h2)) (star_cons h1)) (by rw [star_cons h1, star_cons h2]; rfl) (star_cons h2)) fun σ H R ⟨Z, env, F, s, h⟩ => by
    rw [forIt_ev rfl] at h
    refine ⟨Z, env, F, s, (Post.bind (Post.bind (Post.bind h))).imp fun x env1 Z1 H1 F1 G1 h1 v rv => ⟨Z1, env1, F1, G1.sr, (Post.bind h1).imp fun y env2 Z2 H2 F2 G2 h2 u ru => ?_⟩⟩
    obtain ⟨d, e, h2⟩ := Post.noneR h2
    obtain ⟨i, j, rfl, rfl, rfl, hb⟩ := rngD_of e
    have := rv.ct.int'
    subst this
    have := ru.ct.int'
    subst this
    have h2 := h2 Z2 H2 F2 (Go.refl G2.sr)
    have h3 : Post X.K N W σ Z2 H2 env2 F2 (take none (.lst true (ranges i j)) env2) _ := h2
    simp only [take, Q.own, Bool.true_or, if_true] at h3
    have h4 := h3 Z2 H2 F2 (Go.refl G2.sr)
    simp only [shr, els, ints_shr] at h4
    exact ⟨i, j, rfl, hb, h4 Z2 H2 F2 (Go.refl G2.sr) _ wk_rng⟩
end
end Q
end
section
set_option linter.all false
set_option autoImplicit false
set_option maxHeartbeats 1000000
/-! What is changed where it stands. -/
namespace Q
open PySem PySem.Spec PyProof.Rows L2
/-- the keys lead from v to u -/
inductive Pth (H : Hp) : V → List D → V → Prop
  | nil {v : V} : Pth H v [] v
  | cons {a : Addr} {vs : List V} {i : Int} {w u : V} {ks : List D} : H a = some (.lst vs) → L2.atI vs i = some w → Pth H w ks u → Pth H (.ref a) (.int i :: ks) u
  | tup {a : Addr} {o : Obj} {vs : List V} {i : Int} {w u : V} {ks : List D} : H a = some (.frz o (.tup vs)) → L2.atI vs i = some w → Pth H w ks u → Pth H (.ref a) (.int i :: ks) u
theorem Pth.keep {H H' : Hp} (k : Same H H') : ∀ {v : V} {ks : List D} {u : V}, Pth H v ks u → Pth H' v ks u
  | _, _, _, .nil => .nil
  | _, _, _, .cons h e p => .cons (k _ _ h) e (Pth.keep k p)
  | _, _, _, .tup h e p => .tup (k _ _ h) e (Pth.keep k p)
theorem Pth.snoc {H : Hp} {a : Addr} {vs : List V} {i : Int} {w : V} (h : H a = some (.lst vs)) (e : L2.atI vs i = some w) : ∀ {v : V} {ks : List D}, Pth H v ks (.ref a) → Pth H v (ks ++ [.int i]) w
  | _, [], p => by cases p; exact .cons h e .nil
  | _, k :: ks, p => by
    cases p with
    | cons h' e' p => exact .cons h' e' (Pth.snoc h e p)
    | tup h' e' p => exact .tup h' e' (Pth.snoc h e p)
theorem Pth.snocT {H : Hp} {a : Addr} {o : Obj} {vs : List V} {i : Int} {w : V} (h : H a = some (.frz o (.tup vs))) (e : L2.atI vs i = some w) : ∀ {v : V} {ks : List D}, Pth H v ks (.ref a) → Pth H v (ks ++ [.int i]) w
  | _, [], p => by cases p; exact .tup h e .nil
  | _, k :: ks, p => by
    cases p with
    | cons h' e' p => exact .cons h' e' (Pth.snocT h e p)
    | tup h' e' p => exact .tup h' e' (Pth.snocT h e p)
section
variable {K : PySem.W.Frag} {N : Nm} {Z H : Hp} {σ : L2.St} {env : Env} {F : Nat → List Addr}
/-- a row parted at j -/
theorem Reps.part : ∀ {ds : List D} {vs : List V} {fp : List Addr} {j : Nat} {x : D}, Reps K N Z H ds vs fp → ds[j]? = some x → ∃ w fx f1 f2, vs[j]? = some w ∧ fp = f1 ++ fx ++ f2 ∧ Rep K N Z H x w fx ∧
    ∀ {H' : Hp} {y : D} {fy : List Addr}, (∀ c, c ∈ f1 ∨ c ∈ f2 → H' c = H c) → Rep K N Z H' y w fy → Reps K N Z H' (ds.set j y) vs (f1 ++ fy ++ f2)
  | _, _, _, 0, x, .cons (f := f) (g := g) r t, e => by
    cases e
    refine ⟨_, f, [], g, rfl, rfl, r, fun {H' y fy} k r' => ?_⟩
    exact .cons r' (t.mono (Same.refl _) fun c hc => ⟨k c (.inr hc), (t.own1 c hc).1⟩)
  | _, _, _, j + 1, x, .cons (f := f) (g := g) r t, e => by
    obtain ⟨w, fx, f1, f2, e1, e2, r1, k⟩ := Reps.part t (j := j) (by simpa using e)
    refine ⟨w, fx, f ++ f1, f2, by simpa using e1, by rw [e2]; simp [List.append_assoc], r1, fun {H' y fy} k' r' => ?_⟩
    rw [List.set_cons_succ, show f ++ f1 ++ fy ++ f2 = f ++ (f1 ++ fy ++ f2) by simp [List.append_assoc]]
    exact .cons (r.mono (Same.refl _) fun c hc => ⟨k' c (.inl (List.mem_append_left _ hc)), (r.own1 c hc).1⟩)
      (k (fun c hc => k' c (hc.imp_left (List.mem_append_right _))) r')
/-- the list at the end of the keys, and what stands around it -/
theorem Rep.mod (zh : Same Z H) {α : Type} {g : List D → Option (α × List D)} {r : α} : ∀ {ks : List D} {d d' : D} {v u : V} {fp : List Addr}, Rep K N Z H d v fp → Pth H v ks u → modD (atOwn g) ks d = some (r, d') →
    ∃ a vs xs xs' fx f1 f2, u = .ref a ∧ H a = some (.lst vs) ∧ Z a = none ∧ Reps K N Z H xs vs fx ∧ g xs = some (r, xs') ∧ fp = f1 ++ (a :: fx) ++ f2 ∧
      ∀ {H' : Hp} {vs' : List V} {fx' : List Addr}, (∀ c, c ∈ f1 ∨ c ∈ f2 → H' c = H c) → H' a = some (.lst vs') → Reps K N Z H' xs' vs' fx' → Rep K N Z H' d' v (f1 ++ (a :: fx') ++ f2)
  | [], d, d', v, u, fp, rp, p, e => by
    cases p
    simp only [modD] at e
    cases rp with
    | @lstO a vs xs fx h h2 rr =>
      simp only [atOwn, Option.map_eq_some_iff] at e
      obtain ⟨⟨r', xs'⟩, e1, e2⟩ := e
      cases e2
      exact ⟨a, vs, xs, xs', fx, [], [], rfl, h, h2, rr, e1, by simp, fun {H' vs' fx'} _ h' r' => by simpa using Rep.lstO h' h2 r'⟩
    | lst h rr => simp only [atOwn] at e; cases e
    | _ => cases e
  | k :: ks, d, d', v, u, fp, rp, p, e => by
    cases p with
    | @cons a0 vs0 i w0 _ _ ha e0 p =>
      cases rp with
      | @lstO _ vs xs fx h h2 rr =>
        rw [ha] at h
        cases h
        simp only [modD, Option.bind_eq_some_iff, Option.map_eq_some_iff] at e
        obtain ⟨j, ej, x, ex, ⟨r', y⟩, em, e2⟩ := e
        cases e2
        obtain ⟨w, fw, g1, g2, ew, ef, rw', kk⟩ := Reps.part rr ex
        have : w = w0 := by
          have h3 : L2.ixN vs0.length i = some j := by rw [← rr.length]; exact ej
          simp only [L2.atI, h3, Option.bind_some] at e0
          rw [ew] at e0
          exact Option.some.inj e0
        subst this
        obtain ⟨a, vs, ys, ys', fx', f1, f2, e3, e4, e5, e6, e7, e8, k2⟩ := Rep.mod zh rw' p em
        refine ⟨a, vs, ys, ys', fx', a0 :: (g1 ++ f1), f2 ++ g2, e3, e4, e5, e6, e7, by rw [ef, e8]; simp [List.append_assoc], fun {H' vs' fz} k' h' r' => ?_⟩
        have := kk (H' := H') (fun c hc => k' c (hc.elim (fun h => .inl (List.mem_cons_of_mem _ (List.mem_append_left _ h))) fun h => .inr (List.mem_append_right _ h)))
          (k2 (fun c hc => k' c (hc.elim (fun h => .inl (List.mem_cons_of_mem _ (List.mem_append_right _ h))) fun h => .inr (List.mem_append_left _ h))) h' r')
        have e9 : (a0 :: (g1 ++ f1)) ++ (a :: fz) ++ (f2 ++ g2) = a0 :: (g1 ++ (f1 ++ (a :: fz) ++ f2) ++ g2) := by simp [List.append_assoc]
        rw [e9]
        exact .lstO ((k' a0 (.inl List.mem_cons_self)).trans ha) h2 this
      | @tup _ vs xs _ hz rr t =>
        simp only [modD] at e
        split at e
        · rename_i ho
          rcases t with rfl | ⟨o, hz'⟩
          · rw [Reps.own0 rr rfl] at ho; cases ho
          · rw [zh _ _ hz'] at ha; cases ha
        · cases e
      | _ => simp only [modD] at e; cases e
    | @tup a0 o0 vs0 i w0 _ _ ha e0 p =>
      cases rp with
      | @tup _ vs xs _ hz rr t =>
        simp only [modD] at e
        split at e
        · rename_i ho
          rcases t with rfl | ⟨o, hz'⟩
          · rw [Reps.own0 rr rfl] at ho; cases ho
          · rw [zh _ _ hz'] at ha
            cases ha
            simp only [Option.bind_eq_some_iff, Option.map_eq_some_iff] at e
            obtain ⟨j, ej, x, ex, ⟨r', y⟩, em, e2⟩ := e
            cases e2
            obtain ⟨w, fw, g1, g2, ew, ef, rw', kk⟩ := Reps.part rr ex
            have : w = w0 := by
              have h3 : L2.ixN vs0.length i = some j := by rw [← rr.length]; exact ej
              simp only [L2.atI, h3, Option.bind_some] at e0
              rw [ew] at e0
              exact Option.some.inj e0
            subst this
            obtain ⟨a, vs, ys, ys', fx', f1, f2, e3, e4, e5, e6, e7, e8, k2⟩ := Rep.mod zh rw' p em
            refine ⟨a, vs, ys, ys', fx', g1 ++ f1, f2 ++ g2, e3, e4, e5, e6, e7, by rw [ef, e8]; simp [List.append_assoc], fun {H' vs' fz} k' h' r' => ?_⟩
            have := kk (H' := H') (fun c hc => k' c (hc.elim (fun h => .inl (List.mem_append_left _ h)) fun h => .inr (List.mem_append_right _ h)))
              (k2 (fun c hc => k' c (hc.elim (fun h => .inl (List.mem_append_right _ h)) fun h => .inr (List.mem_append_left _ h))) h' r')
            have e9 : (g1 ++ f1) ++ (a :: fz) ++ (f2 ++ g2) = g1 ++ (f1 ++ (a :: fz) ++ f2) ++ g2 := by simp [List.append_assoc]
            rw [e9]
            exact .tup hz this (.inr ⟨_, hz'⟩)
        · cases e
      | @lstO _ vs xs fx h h2 rr => rw [ha] at h; cases h
      | _ => simp only [modD] at e; cases e
/-- a slot's list is changed -/
theorem SR.mod {α : Type} {g : List D → Option (α × List D)} {r : α} {i : Nat} {ks : List D} {d d' : D} {v u : V} (s : SR K N Z H env σ F) (e1 : env[i]? = some (some d)) (e2 : σ[i]? = some (some v)) (p : Pth H v ks u) (em : modD (atOwn g) ks d = some (r, d')) :
    ∃ a vs xs xs' fx, u = .ref a ∧ H a = some (.lst vs) ∧ (∃ j, a ∈ F j) ∧ Reps K N Z H xs vs fx ∧ g xs = some (r, xs') ∧ fx.Nodup ∧ a ∉ fx ∧ (∀ c ∈ fx, ∃ j, c ∈ F j) ∧
      ∀ {vs' : List V} {fx' : List Addr}, Reps K N Z (upd H a (.lst vs')) xs' vs' fx' → fx'.Nodup → a ∉ fx' → (∀ c ∈ fx', c ∈ fx ∨ ∀ j, c ∉ F j) →
        ∃ F', SR K N Z (upd H a (.lst vs')) (env.set i (some d')) σ F' ∧ (∀ j c, c ∈ F' j → c ∈ F j ∨ c ∈ fx') ∧ ∀ c ∈ fx, c ∉ fx' → ∀ j, c ∉ F' j := by
  obtain ⟨v', e3, rp⟩ := s.som i d e1
  rw [e2] at e3
  cases e3
  obtain ⟨a, vs, xs, xs', fx, f1, f2, rfl, ha, hz, rr, eg, ef, kk⟩ := Rep.mod s.zh rp p em
  have nd := s.nd i
  rw [ef] at nd
  have nd' : (f1 ++ ((a :: fx) ++ f2)).Nodup := by rw [← List.append_assoc]; exact nd
  obtain ⟨n1, n2, n12⟩ := List.nodup_append.mp nd'
  obtain ⟨n3, n4, n34⟩ := List.nodup_append.mp n2
  obtain ⟨na, n5⟩ := List.nodup_cons.mp n3
  have inF : ∀ c, c ∈ f1 ∨ c ∈ a :: fx ∨ c ∈ f2 → c ∈ F i := fun c h => by
    rw [ef]
    rcases h with h | h | h
    · exact List.mem_append_left _ (List.mem_append_left _ h)
    · exact List.mem_append_left _ (List.mem_append_right _ h)
    · exact List.mem_append_right _ h
  have ne1 : ∀ c ∈ f1, c ≠ a := fun c hc e => n12 c hc a (List.mem_append_left _ List.mem_cons_self) e
  have ne2 : ∀ c ∈ f2, c ≠ a := fun c hc e => n34 a List.mem_cons_self c hc e.symm
  refine ⟨a, vs, xs, xs', fx, rfl, ha, ⟨i, inF a (.inr (.inl List.mem_cons_self))⟩, rr, eg, n5, na, fun c hc => ⟨i, inF c (.inr (.inl (List.mem_cons_of_mem _ hc)))⟩, fun {vs' fx'} r' nd' nx hsub => ?_⟩
  have hil := (List.getElem?_eq_some_iff.mp e1).1
  have dis : ∀ c ∈ fx', c ∉ f1 ∧ c ∉ f2 := fun c hc => by
    rcases hsub c hc with h | h
    · exact ⟨fun q => n12 c q c (List.mem_append_left _ (List.mem_cons_of_mem _ h)) rfl, fun q => n34 c (List.mem_cons_of_mem _ h) c q rfl⟩
    · exact ⟨fun q => h i (inF c (.inl q)), fun q => h i (inF c (.inr (.inr q)))⟩
  have rep' := kk (H' := upd H a (.lst vs')) (fun c hc => upd_ne (hc.elim (ne1 c) (ne2 c))) upd_same r'
  refine ⟨fun j => if j = i then f1 ++ (a :: fx') ++ f2 else F j, ⟨by rw [List.length_set]; exact s.len, fun j d0 e => ?_, fun j h => ?_, fun j => ?_, fun j k c h1 h2 => ?_, fun c o e => ?_⟩, fun j c h => ?_, fun c hc hn j h => ?_⟩
  · by_cases q : j = i
    · subst q
      rw [List.getElem?_set_self hil] at e
      cases e
      exact ⟨v, e2, by rw [if_pos rfl]; exact rep'⟩
    · rw [List.getElem?_set_ne (Ne.symm q)] at e
      obtain ⟨v0, e4, r0⟩ := s.som j d0 e
      refine ⟨v0, e4, ?_⟩
      rw [if_neg q]
      exact r0.mono (Same.refl _) fun c hc => ⟨upd_ne fun z => q (s.dj _ _ c hc (by rw [z]; exact inF a (.inr (.inl List.mem_cons_self)))), (r0.own1 c hc).1⟩
  · by_cases q : j = i
    · subst q
      exact absurd (List.getElem?_set_self hil) (h d')
    · rw [if_neg q]
      exact s.non j fun d0 e => h d0 (by rw [List.getElem?_set_ne (Ne.symm q)]; exact e)
  · by_cases q : j = i
    · rw [if_pos q, List.append_assoc]
      refine List.nodup_append.mpr ⟨n1, List.nodup_append.mpr ⟨List.nodup_cons.mpr ⟨nx, nd'⟩, n4, fun c hc c' hc' e => ?_⟩, fun c hc c' hc' e => ?_⟩
      · subst e
        rcases List.mem_cons.mp hc with z | z
        · exact ne2 c hc' z
        · exact (dis c z).2 hc'
      · subst e
        rcases List.mem_append.mp hc' with z | z
        · rcases List.mem_cons.mp z with z | z
          · exact ne1 c hc z
          · exact (dis c z).1 hc
        · exact n12 c hc c (List.mem_append_right _ z) rfl
    · rw [if_neg q]; exact s.nd j
  · have key : ∀ c, c ∈ f1 ++ (a :: fx') ++ f2 → ∀ k, k ≠ i → c ∉ F k := fun c hc k hk hck => by
      rcases List.mem_append.mp hc with hc | hc
      · rcases List.mem_append.mp hc with hc | hc
        · exact hk (s.dj _ _ c hck (inF c (.inl hc)))
        · rcases List.mem_cons.mp hc with z | z
          · exact hk (s.dj _ _ c hck (inF c (.inr (.inl (z ▸ List.mem_cons_self)))))
          · rcases hsub c z with h | h
            · exact hk (s.dj _ _ c hck (inF c (.inr (.inl (List.mem_cons_of_mem _ h)))))
            · exact h k hck
      · exact hk (s.dj _ _ c hck (inF c (.inr (.inr hc))))
    by_cases q1 : j = i
    · by_cases q2 : k = i
      · rw [q1, q2]
      · rw [if_pos q1] at h1; rw [if_neg q2] at h2; exact absurd h2 (key c h1 k q2)
    · by_cases q2 : k = i
      · rw [if_neg q1] at h1; rw [if_pos q2] at h2; exact absurd h1 (key c h2 j q1)
      · rw [if_neg q1] at h1; rw [if_neg q2] at h2; exact s.dj j k c h1 h2
  · rw [upd_ne fun z => by rw [z, hz] at e; cases e]; exact s.zh _ _ e
  · dsimp only at h
    by_cases q : j = i
    · rw [if_pos q] at h
      rcases List.mem_append.mp h with h | h
      · rcases List.mem_append.mp h with h | h
        · exact .inl (by rw [q]; exact inF c (.inl h))
        · rcases List.mem_cons.mp h with z | z
          · exact .inl (by rw [q]; exact inF c (.inr (.inl (z ▸ List.mem_cons_self))))
          · exact .inr z
      · exact .inl (by rw [q]; exact inF c (.inr (.inr h)))
    · rw [if_neg q] at h; exact .inl h
  · dsimp only at h
    have hi := inF c (.inr (.inl (List.mem_cons_of_mem _ hc)))
    by_cases q : j = i
    · rw [if_pos q] at h
      rcases List.mem_append.mp h with h | h
      · rcases List.mem_append.mp h with h | h
        · exact n12 c h c (List.mem_append_left _ (List.mem_cons_of_mem _ hc)) rfl
        · rcases List.mem_cons.mp h with z | z
          · exact na (z ▸ hc)
          · exact hn z
      · exact n34 c (List.mem_cons_of_mem _ hc) c h rfl
    · rw [if_neg q] at h
      exact q (s.dj _ _ c h hi)
end
end Q
end
section
set_option linter.all false
set_option autoImplicit false
set_option maxHeartbeats 1000000
/-! Lists that are changed: the rules. -/
namespace Q
open PySem PySem.Spec PyProof.Rows L2
section
variable {K : PySem.W.Frag} {N : Nm} {Z H : Hp}
theorem Reps.ownNe {ds : List D} {vs : List V} {fp : List Addr} (r : Reps K N Z H ds vs fp) (h : owns ds = true) : fp ≠ [] := fun e => by
  rw [Reps.own0 r e] at h; cases h
/-- a list, or a tuple of one's own -/
def LT (H : Hp) (a : Addr) (vs : List V) : Prop := H a = some (.lst vs) ∨ ∃ o, H a = some (.frz o (.tup vs))
theorem Rep.look (zh : Same Z H) : ∀ {ks : List D} {d y k : D} {v u : V} {fp : List Addr}, Rep K N Z H d v fp → Pth H v ks u → atP (ks ++ [k]) d = some y → ∃ a vs i w, k = .int i ∧ u = .ref a ∧ LT H a vs ∧ L2.atI vs i = some w
  | [], d, y, k, v, u, fp, rp, p, e => by
    cases p
    simp only [List.nil_append] at e
    cases rp with
    | @lstO a vs xs fx h h2 rr =>
      cases k with
      | int i =>
        simp only [atP, Option.bind_eq_some_iff] at e
        obtain ⟨x, e1, _⟩ := e
        obtain ⟨j, e2, e3⟩ := atI_nth e1
        obtain ⟨w, _, e4, _, _⟩ := rr.nth e2
        exact ⟨a, vs, i, w, rfl, rfl, .inl h, (e3 vs rr.length.symm).trans e4⟩
      | _ => simp only [atP] at e; cases e
    | @tup a vs xs _ hz rr t =>
      cases k with
      | int i =>
        simp only [atP] at e
        split at e
        · rename_i ho
          rcases t with t | ⟨o, hz'⟩
          · exact absurd t (rr.ownNe ho)
          · simp only [Option.bind_eq_some_iff] at e
            obtain ⟨x, e1, _⟩ := e
            obtain ⟨j, e2, e3⟩ := atI_nth e1
            obtain ⟨w, _, e4, _, _⟩ := rr.nth e2
            exact ⟨a, vs, i, w, rfl, rfl, .inr ⟨o, zh _ _ hz'⟩, (e3 vs rr.length.symm).trans e4⟩
        · cases e
      | _ => simp only [atP] at e; cases e
    | lst h rr => cases k <;> (simp only [atP] at e; cases e)
    | _ => cases k <;> cases e
  | k0 :: ks, d, y, k, v, u, fp, rp, p, e => by
    cases p with
    | @cons a0 vs0 i w0 _ _ ha e0 p =>
      simp only [List.cons_append] at e
      cases rp with
      | @lstO _ vs xs fx h h2 rr =>
        rw [ha] at h
        cases h
        simp only [atP, Option.bind_eq_some_iff] at e
        obtain ⟨x, e1, e5⟩ := e
        obtain ⟨j, e2, e3⟩ := atI_nth e1
        obtain ⟨w, fw, e4, rw', _⟩ := rr.nth e2
        have : w = w0 := by
          rw [e3 vs0 rr.length.symm, e4] at e0
          exact Option.some.inj e0
        subst this
        exact Rep.look zh rw' p e5
      | @tup _ vs xs _ hz rr t =>
        simp only [atP] at e
        split at e
        · rename_i ho
          rcases t with t | ⟨o, hz'⟩
          · exact absurd t (rr.ownNe ho)
          · rw [zh _ _ hz'] at ha; cases ha
        · cases e
      | _ => simp only [atP] at e; cases e
    | @tup a0 o0 vs0 i w0 _ _ ha e0 p =>
      simp only [List.cons_append] at e
      cases rp with
      | @tup _ vs xs _ hz rr t =>
        simp only [atP] at e
        split at e
        · rename_i ho
          rcases t with t | ⟨o, hz'⟩
          · exact absurd t (rr.ownNe ho)
          · rw [zh _ _ hz'] at ha
            cases ha
            simp only [Option.bind_eq_some_iff] at e
            obtain ⟨x, e1, e5⟩ := e
            obtain ⟨j, e2, e3⟩ := atI_nth e1
            obtain ⟨w, fw, e4, rw', _⟩ := rr.nth e2
            have : w = w0 := by
              rw [e3 vs0 rr.length.symm, e4] at e0
              exact Option.some.inj e0
            subst this
            exact Rep.look zh rw' p e5
        · cases e
      | @lstO _ vs xs fx h h2 rr => rw [ha] at h; cases h
      | _ => simp only [atP] at e; cases e
theorem Rep.lookL (zh : Same Z H) : ∀ {ks : List D} {d : D} {xs : List D} {v u : V} {fp : List Addr}, Rep K N Z H d v fp → Pth H v ks u → atP ks d = some (.lst true xs) → ∃ a vs, u = .ref a ∧ H a = some (.lst vs)
  | [], d, xs, v, u, fp, rp, p, e => by
    cases p
    simp only [atP] at e
    cases e
    cases rp with
    | lstO h h2 rr => exact ⟨_, _, rfl, h⟩
  | k0 :: ks, d, y, v, u, fp, rp, p, e => by
    cases p with
    | @cons a0 vs0 i w0 _ _ ha e0 p =>
      cases rp with
      | @lstO _ vs xs fx h h2 rr =>
        rw [ha] at h
        cases h
        simp only [atP, Option.bind_eq_some_iff] at e
        obtain ⟨x, e1, e5⟩ := e
        obtain ⟨j, e2, e3⟩ := atI_nth e1
        obtain ⟨w, fw, e4, rw', _⟩ := rr.nth e2
        have : w = w0 := by
          rw [e3 vs0 rr.length.symm, e4] at e0
          exact Option.some.inj e0
        subst this
        exact Rep.lookL zh rw' p e5
      | @tup _ vs xs _ hz rr t =>
        simp only [atP] at e
        split at e
        · rename_i ho
          rcases t with t | ⟨o, hz'⟩
          · exact absurd t (rr.ownNe ho)
          · rw [zh _ _ hz'] at ha; cases ha
        · cases e
      | _ => simp only [atP] at e; cases e
    | @tup a0 o0 vs0 i w0 _ _ ha e0 p =>
      cases rp with
      | @tup _ vs xs _ hz rr t =>
        simp only [atP] at e
        split at e
        · rename_i ho
          rcases t with t | ⟨o, hz'⟩
          · exact absurd t (rr.ownNe ho)
          · rw [zh _ _ hz'] at ha
            cases ha
            simp only [Option.bind_eq_some_iff] at e
            obtain ⟨x, e1, e5⟩ := e
            obtain ⟨j, e2, e3⟩ := atI_nth e1
            obtain ⟨w, fw, e4, rw', _⟩ := rr.nth e2
            have : w = w0 := by
              rw [e3 vs0 rr.length.symm, e4] at e0
              exact Option.some.inj e0
            subst this
            exact Rep.lookL zh rw' p e5
        · cases e
      | @lstO _ vs xs fx h h2 rr => rw [ha] at h; cases h
      | _ => simp only [atP] at e; cases e
end
section
variable {K : PySem.W.Frag} {N : Nm} {Z H : Hp}
theorem Reps.cutAt : ∀ {ds : List D} {vs : List V} {fp : List Addr}, Reps K N Z H ds vs fp → ∀ n, ∃ f1 f2, fp = f1 ++ f2 ∧ Reps K N Z H (ds.take n) (vs.take n) f1 ∧ Reps K N Z H (ds.drop n) (vs.drop n) f2
  | _, _, _, h, 0 => ⟨[], _, rfl, .nil, h⟩
  | _, _, _, .nil, n + 1 => ⟨[], [], rfl, .nil, .nil⟩
  | _, _, _, .cons (f := f) r t, n + 1 => by
    obtain ⟨f1, f2, e, r1, r2⟩ := Reps.cutAt t n
    exact ⟨f ++ f1, f2, by rw [e, List.append_assoc], .cons r r1, r2⟩
/-- one is taken out -/
theorem Reps.out {ds : List D} {vs : List V} {fp : List Addr} {k : Nat} {d : D} (h : Reps K N Z H ds vs fp) (e : ds[k]? = some d) (nd : fp.Nodup) : ∃ w fw fr, vs[k]? = some w ∧ Rep K N Z H d w fw ∧ Reps K N Z H (ds.eraseIdx k) (vs.eraseIdx k) fr ∧ fw.Nodup ∧ fr.Nodup ∧ (∀ c ∈ fw, c ∈ fp ∧ c ∉ fr) ∧ ∀ c ∈ fr, c ∈ fp := by
  obtain ⟨f1, f2, ef, r1, r2⟩ := h.cutAt k
  have hk := (List.getElem?_eq_some_iff.mp e).1
  have ed := (List.getElem?_eq_some_iff.mp e).2
  have hkv : k < vs.length := by rw [← h.length]; exact hk
  rw [List.drop_eq_getElem_cons hk, List.drop_eq_getElem_cons hkv, ed] at r2
  cases r2 with
  | @cons _ _ _ _ fw f3 rw' r3 =>
    subst ef
    obtain ⟨n1, n2, n3⟩ := List.nodup_append.mp nd
    obtain ⟨n4, n5, n6⟩ := List.nodup_append.mp n2
    refine ⟨vs[k], fw, f1 ++ f3, List.getElem?_eq_getElem hkv, rw', ?_, n4, List.nodup_append.mpr ⟨n1, n5, fun c hc c' hc' => n3 c hc c' (List.mem_append_right _ hc')⟩, fun c hc => ⟨List.mem_append_right _ (List.mem_append_left _ hc), fun q => ?_⟩, fun c hc => ?_⟩
    · rw [List.eraseIdx_eq_take_drop_succ, List.eraseIdx_eq_take_drop_succ]
      exact r1.app r3
    · rcases List.mem_append.mp q with q | q
      · exact n3 c q c (List.mem_append_left _ hc) rfl
      · exact n6 c hc c q rfl
    · rcases List.mem_append.mp hc with q | q
      · exact List.mem_append_left _ q
      · exact List.mem_append_right _ (List.mem_append_right _ q)
end
section
variable {X : Cx} {N : Nm} {W : WX} {P : Pg} {G : Gnd} {a b c : Ex} {ea eb ec : Expr} {pos p : Pos} {x : Str}
/-- a place on its way -/
def OkK (X : Cx) (N : Nm) (W : WX) (P : Pg) (x : Ex) (e : Expr) : Prop :=
  PE X e (fun σ H Q => ∃ Z env F, SR X.K N Z H env σ F ∧ Post X.K N W σ Z H env F (keys P x env) fun q env' Z' H' F' => ∀ u v0, σ[q.1]? = some (some v0) → Pth H' v0 q.2 u → Q u H')
/-- a place where a list stands -/
def OkL (X : Cx) (N : Nm) (W : WX) (P : Pg) (x : Ex) (e : Expr) : Prop :=
  PE X e (fun σ H Q => ∃ Z env F, SR X.K N Z H env σ F ∧ Post X.K N W σ Z H env F (plc P x env) fun q env' Z' H' F' => ∀ a vs v0, σ[q.1]? = some (some v0) → Pth H' v0 q.2 (.ref a) → H' a = some (.lst vs) → Q (.ref a) H')
theorem seen_of {i : Nat} {ks : List D} {env : Env} (h : seen i ks env = true) : ∃ d y, env[i]? = some (some d) ∧ atP ks d = some y := by
  unfold seen at h
  split at h
  · rename_i d e
    obtain ⟨y, hy⟩ := Option.isSome_iff_exists.mp h
    exact ⟨d, y, e, hy⟩
  · cases h
theorem k_var {i : Nat} {y : Str} (hN : X.N[i]? = some y) (hv : Vis X.env.scope y) (hd : (y == ("__debug__" : Str)) = false) (hcd : (y == ("__classdict__" : Str)) = false) : OkK X N W P (.var i) (.Name y pos) :=
  L2.PE.imp (pe_var hN hv hd hcd) fun σ H Q ⟨Z, env, F, s, h⟩ => by
    simp only [keys] at h
    split at h
    · rename_i hs
      obtain ⟨d, _, e, _⟩ := seen_of hs
      obtain ⟨v, e1, r⟩ := s.som i d e
      exact ⟨v, e1, h Z H F (Go.refl s) v v e1 .nil⟩
    · exact h.elim
theorem k_ix (h1 : ixE eb = true) (ha : OkK X N W P a ea) (hb : OkE X N W P b eb) : OkK X N W P (.ix a b) (.Subscript ea eb pos) :=
  L2.PE.imp (pe_ix ix_seq ha hb (ix_ok h1)) fun σ H Q ⟨Z, env, F, s, h⟩ => by
    refine ⟨Z, env, F, s, (Post.bind h).imp fun q env1 Z1 H1 F1 G1 h1 u v0 ev hp => ⟨Z1, env1, F1, G1.sr, (Post.bind h1).imp fun y env2 Z2 H2 F2 G2 h2 w rw' => ?_⟩⟩
    cases hs : seen q.1 (q.2 ++ [y]) env2 with
    | false => rw [hs] at h2; exact h2.elim
    | true =>
      rw [hs, if_pos rfl] at h2
      obtain ⟨d, z, e, ez⟩ := seen_of hs
      obtain ⟨v, e1, r⟩ := G2.sr.som _ d e
      rw [ev] at e1
      cases e1
      obtain ⟨l, vs, i, w', rfl, rfl, hl, hi⟩ := Rep.look G2.sr.zh r (hp.keep G2.hh) ez
      have := rw'.ct.int'
      subst this
      rcases hl with hl | ⟨o, hl⟩
      · exact .inl ⟨l, vs, i, w', rfl, rfl, .inl (.inl hl), hi, h2 Z2 H2 F2 (Go.refl G2.sr) w' v0 ev (Pth.snoc hl hi (hp.keep G2.hh))⟩
      · exact .inr (.inl ⟨l, vs, i, w', rfl, rfl, .inl (.inr ⟨o, hl⟩), hi, h2 Z2 H2 F2 (Go.refl G2.sr) w' v0 ev (Pth.snocT hl hi (hp.keep G2.hh))⟩)
theorem l_of (h : OkK X N W P a ea) : OkL X N W P a ea := L2.PE.imp h fun σ H Q ⟨Z, env, F, s, h⟩ => ⟨Z, env, F, s, (Post.bind h).imp fun q env1 Z1 H1 F1 G1 h1 u v0 ev hp => by
    cases hs : seenL q.1 q.2 env1 with
    | false => rw [hs] at h1; exact h1.elim
    | true =>
      rw [hs, if_pos rfl] at h1
      unfold seenL at hs
      split at hs
      · rename_i d e
        split at hs
        · rename_i xs ex
          obtain ⟨v, e1, r⟩ := G1.sr.som _ d e
          rw [ev] at e1
          cases e1
          obtain ⟨l, vs, rfl, hl⟩ := Rep.lookL G1.sr.zh r hp ex
          exact h1 Z1 H1 F1 (Go.refl G1.sr) l vs v0 ev hp hl
        · cases hs
      · cases hs⟩
theorem modE_of {α : Type} {g : List D → Option (α × List D)} {i : Nat} {ks : List D} {env : Env} {f : α → Env → R Fl} {D0 : Ends} {K : PySem.W.Frag} (h : PostS K N W G D0 ((modE (atOwn g) i ks env).bind f)) :
    ∃ d r d', env[i]? = some (some d) ∧ modD (atOwn g) ks d = some (r, d') ∧ PostS K N W G D0 (f r (env.set i (some d'))) := by
  unfold modE at h
  split at h
  · rename_i d e
    split at h
    · rename_i r d' em
      exact ⟨d, r, d', e, em, h⟩
    · exact h.elim
  · exact h.elim
theorem Fr.mod {Z H : Hp} {F F' : Nat → List Addr} {l : Addr} {o : HO} {fx' : List Addr} {σ : L2.St} (f : Fr G σ Z H F) (hl : ∃ j, l ∈ F j) (hF : ∀ j c, c ∈ F' j → c ∈ F j ∨ c ∈ fx') (hx : ∀ c ∈ fx', G.H c = none ∨ G.O c) : Fr G σ Z (upd H l o) F' := by
  refine ⟨f.pn, f.zz, fun c u h e => ?_, f.nz, fun i c h => (hF i c h).elim (f.fr i c) (hx c)⟩
  rw [upd_ne]
  · exact f.hh c u h e
  · intro z
    subst z
    obtain ⟨j, hj⟩ := hl
    rcases f.fr j c hj with q | q
    · rw [q] at e; cases e
    · exact h q
theorem mutate {α : Type} {g : List D → Option (α × List D)} {i : Nat} {ks : List D} {f : α → Env → R Fl} {D0 : Ends} {σ : L2.St} {Z H : Hp} {env : Env} {F : Nat → List Addr} {v0 u : V} (s : SR X.K N Z H env σ F) (fr : Fr G σ Z H F) (ev : σ[i]? = some (some v0)) (hp : Pth H v0 ks u)
    (h : PostS X.K N W G D0 ((modE (atOwn g) i ks env).bind f)) : ∃ l vs xs xs' r fx, u = .ref l ∧ H l = some (.lst vs) ∧ Reps X.K N Z H xs vs fx ∧ g xs = some (r, xs') ∧ fx.Nodup ∧ l ∉ fx ∧ (∀ c ∈ fx, ∃ j, c ∈ F j) ∧ (∃ j, l ∈ F j) ∧
      ∀ {vs' : List V} {fx' : List Addr}, Reps X.K N Z (upd H l (.lst vs')) xs' vs' fx' → fx'.Nodup → l ∉ fx' → (∀ c ∈ fx', c ∈ fx ∨ ((∀ j, c ∉ F j) ∧ (G.H c = none ∨ G.O c))) →
        ∃ env' F', SR X.K N Z (upd H l (.lst vs')) env' σ F' ∧ Fr G σ Z (upd H l (.lst vs')) F' ∧ PostS X.K N W G D0 (f r env') ∧ (∀ c ∈ fx, c ∉ fx' → ∀ j, c ∉ F' j) ∧ ∀ j c, c ∈ F' j → c ∈ F j ∨ c ∈ fx' := by
  obtain ⟨d, r, d', e, em, h1⟩ := modE_of h
  obtain ⟨l, vs, xs, xs', fx, rfl, hl, hlF, rr, eg, nd, nl, hfx, kk⟩ := s.mod e ev hp em
  refine ⟨l, vs, xs, xs', r, fx, rfl, hl, rr, eg, nd, nl, hfx, hlF, fun {vs' fx'} r' nd' nl' hs => ?_⟩
  obtain ⟨F', s', hF, hfree⟩ := kk r' nd' nl' fun c hc => (hs c hc).imp_right (·.1)
  exact ⟨_, F', s', fr.mod hlF hF fun c hc => (hs c hc).elim (fun h => let ⟨j, hj⟩ := hfx c h; fr.fr j c hj) (·.2), h1, hfree, hF⟩
theorem ty_list {K : PySem.W.Frag} {l : Addr} {vs : List V} {H : Hp} (h : H l = some (.lst vs)) : tyV K "list" (.ref l) H := .inl ⟨rfl, vs, SqL.of h⟩
theorem upd_reps {K : PySem.W.Frag} {Z H : Hp} {l : Addr} {o : HO} {ds : List D} {vs : List V} {f : List Addr} (r : Reps K N Z H ds vs f) (h : l ∉ f) : Reps K N Z (upd H l o) ds vs f := r.mono (Same.refl _) fun c hc => ⟨upd_ne fun z => h (z ▸ hc), (r.own1 c hc).1⟩
theorem upd_rep {K : PySem.W.Frag} {Z H : Hp} {l : Addr} {o : HO} {d : D} {v : V} {f : List Addr} (r : Rep K N Z H d v f) (h : l ∉ f) : Rep K N Z (upd H l o) d v f := r.mono (Same.refl _) fun c hc => ⟨upd_ne fun z => h (z ▸ hc), (r.own1 c hc).1⟩
theorem Reps.one {K : PySem.W.Frag} {Z H : Hp} {d : D} {v : V} {f : List Addr} (r : Rep K N Z H d v f) : Reps K N Z H [d] [v] f := by
  have := Reps.cons r .nil
  rwa [List.append_nil] at this
/-- xs.m(..), its arguments plain -/
theorem pe_mut {n : Str} {id : String} {es : List Expr} {t : TA} {to : TE} {r : V → List V → Hp → VK → Prop} (slot : Slot "list" n id) (hty : typeOf (.builtin id) = pure (.type "method_descriptor")) (hm : MtR X id r) (hl : (p.endLine == pos.line) = true) (h0 : baseE ea = true) (h1 : (eb :: es).all plainE = true) (hf : (eb :: es).length < 30) (ho : PE X ea to) (ha : PA X (eb :: es) t) :
    PE X (.Call (.Attribute ea n p) (eb :: es) [] pos) (tBM X.K "list" r to t) := by
  have h2 := h1
  rw [List.all_cons, Bool.and_eq_true] at h2
  exact pe_bm PySem.F.plainAttrs_list slot hty hm ho ha (base_ok h0) (star_few h1 hf) hl (star_cons h2.1) (star_any h2.2)
theorem Fr.tmp {K : PySem.W.Frag} {Z H : Hp} {F : Nat → List Addr} {Z' H' : Hp} {F' : Nat → List Addr} {d : D} {v : V} {fv : List Addr} {σ : L2.St} (f : Fr G σ Z H F) (t : Tmp K N H F Z' H' F' d v fv) : ∀ c ∈ fv, G.H c = none ∨ G.O c := fun c hc => (t.new c hc).elim f.free fun ⟨i, h⟩ => f.fr i c h
theorem s_app (hl : (p.endLine == pos.line) = true) (h0 : baseE ea = true) (h1 : plainE eb = true) {pos' : Pos} (ha : OkL X N W P a ea) (hb : OkE X N W P b eb) : OkS X N W P G (.app a b) (.Expr (.Call (.Attribute ea "append" p) [eb] [] pos) pos') :=
  L2.PS.imp (ps_expr (pe_mut PySem.F.slot_list_append PySem.F.type_list_append mt_append hl h0 (by simp [h1]) (Nat.lt_of_sub_eq_succ rfl) ha (pa_cons hb.ev pa_nil (star_cons h1)))) fun D0 σ H ⟨Z, env, F, s, fr, h⟩ =>
    ⟨Z, env, F, s, (PostS.post fr h).imp fun q env1 Z1 H1 F1 G1 ⟨f1, h1⟩ l vs v0 ev hp hl => ⟨ty_list hl, Z1, env1, F1, G1.sr, (PostS.post f1 h1).imp fun d env2 Z2 H2 F2 G2 ⟨f2, h2⟩ v ⟨fv, t⟩ => by
      obtain ⟨l', vs', xs, xs', r, fx, e, hl', rr, eg, nd, nl, hfx, hlF, kk⟩ := mutate G2.sr f2 ev (hp.keep G2.hh) h2
      cases e
      simp only [fApp] at eg
      split at eg
      · rename_i hlen
        cases eg
        have nlf : l ∉ fv := fun h => let ⟨j, hj⟩ := hlF; t.dj l h j hj
        obtain ⟨env', F', s', fr', h3, _⟩ := kk (vs' := vs' ++ [v]) (fx' := fx ++ fv) ((upd_reps rr nl).app (Reps.one (upd_rep t.rep nlf))) (List.nodup_append.mpr ⟨nd, t.nd, fun c hc c' hc' e => by
          subst e
          obtain ⟨j, hj⟩ := hfx c hc
          exact t.dj c hc' j hj⟩) (fun h => (List.mem_append.mp h).elim nl nlf) fun c hc => (List.mem_append.mp hc).imp_right fun h => ⟨t.dj c h, f1.tmp t c h⟩
        exact ⟨l, vs', v, rfl, rfl, hl', by rw [← rr.length, ← line_eq]; exact hlen, h3 σ _ _ F' s' fr'⟩
      · cases eg⟩⟩
theorem s_clr (hl : (p.endLine == pos.line) = true) (h0 : baseE ea = true) {pos' : Pos} (ha : OkL X N W P a ea) : OkS X N W P G (.clr a) (.Expr (.Call (.Attribute ea "clear" p) [] [] pos) pos') :=
  L2.PS.imp (ps_expr (pe_bm0 PySem.F.plainAttrs_list PySem.F.slot_list_clear PySem.F.type_list_clear mt_clear ha (base_ok h0) hl)) fun D0 σ H ⟨Z, env, F, s, fr, h⟩ =>
    ⟨Z, env, F, s, (PostS.post fr h).imp fun q env1 Z1 H1 F1 G1 ⟨f1, h1⟩ l vs v0 ev hp hl => ⟨ty_list hl, by
      obtain ⟨l', vs', xs, xs', r, fx, e, hl', rr, eg, nd, nl, hfx, hlF, kk⟩ := mutate G1.sr f1 ev hp h1
      cases e
      cases eg
      obtain ⟨env', F', s', fr', h3, _⟩ := kk (vs' := []) (fx' := []) .nil .nil (fun h => nomatch h) fun c hc => nomatch hc
      exact ⟨l, vs', rfl, rfl, hl', h3 σ _ _ F' s' fr'⟩⟩⟩
theorem s_ins (hl : (p.endLine == pos.line) = true) (h0 : baseE ea = true) (h1 : plainE eb = true) (h2 : plainE ec = true) {pos' : Pos} (ha : OkL X N W P a ea) (hb : OkE X N W P b eb) (hc : OkE X N W P c ec) : OkS X N W P G (.ins a b c) (.Expr (.Call (.Attribute ea "insert" p) [eb, ec] [] pos) pos') :=
  L2.PS.imp (ps_expr (pe_mut PySem.F.slot_list_insert PySem.F.type_list_insert mt_insert hl h0 (by simp [h1, h2]) (Nat.lt_of_sub_eq_succ rfl) ha (pa_cons hb (pa_cons hc.ev pa_nil (star_cons h2)) (star_cons h1)))) fun D0 σ H ⟨Z, env, F, s, fr, h⟩ =>
    ⟨Z, env, F, s, (PostS.post fr h).imp fun q env1 Z1 H1 F1 G1 ⟨f1, h1⟩ l vs v0 ev hp hl => ⟨ty_list hl, Z1, env1, F1, G1.sr, (PostS.post f1 h1).imp fun k env2 Z2 H2 F2 G2 ⟨f2, h2⟩ vk rk => ⟨Z2, env2, F2, G2.sr, (PostS.post f2 h2).imp fun d env3 Z3 H3 F3 G3 ⟨f3, h3⟩ v ⟨fv, t⟩ => by
      obtain ⟨l', vs', xs, xs', r, fx, e, hl', rr, eg, nd, nl, hfx, hlF, kk⟩ := mutate G3.sr f3 ev ((hp.keep G2.hh).keep G3.hh) h3
      cases e
      cases k with
      | int i =>
        have := rk.ct.int'
        subst this
        simp only [fIns] at eg
        split at eg
        · rename_i hlen
          cases eg
          have nlf : l ∉ fv := fun h => let ⟨j, hj⟩ := hlF; t.dj l h j hj
          obtain ⟨g1, g2, e, r1, r2⟩ := rr.cutAt i.toNat
          subst e
          obtain ⟨n1, n2, n3⟩ := List.nodup_append.mp nd
          have nl1 : l ∉ g1 := fun h => nl (List.mem_append_left _ h)
          have nl2 : l ∉ g2 := fun h => nl (List.mem_append_right _ h)
          have dj : ∀ c ∈ g1 ++ g2, ∀ c' ∈ fv, c ≠ c' := fun c hc c' hc' e => by
            subst e
            obtain ⟨j, hj⟩ := hfx c hc
            exact t.dj c hc' j hj
          obtain ⟨env', F', s', fr', h4, _⟩ := kk (vs' := vs'.take i.toNat ++ [v] ++ vs'.drop i.toNat) (fx' := g1 ++ fv ++ g2) (((upd_reps r1 nl1).app (Reps.one (upd_rep t.rep nlf))).app (upd_reps r2 nl2))
            (List.nodup_append.mpr ⟨List.nodup_append.mpr ⟨n1, t.nd, fun c hc c' hc' => dj c (List.mem_append_left _ hc) c' hc'⟩, n2, fun c hc c' hc' e => (List.mem_append.mp hc).elim (fun h => n3 c h c' hc' e) fun h => dj c' (List.mem_append_right _ hc') c h e.symm⟩)
            (fun h => (List.mem_append.mp h).elim (fun h => (List.mem_append.mp h).elim nl1 nlf) nl2) fun c hc => by
              rcases List.mem_append.mp hc with h | h
              · rcases List.mem_append.mp h with h | h
                · exact .inl (List.mem_append_left _ h)
                · exact .inr ⟨t.dj c h, f2.tmp t c h⟩
              · exact .inl (List.mem_append_right _ h)
          exact ⟨l, vs', i, v, rfl, rfl, hl', by rw [← rr.length, ← line_eq]; exact hlen.2.2, hlen.1, by omega, h4 σ _ _ F' s' fr'⟩
        · cases eg
      | _ => cases eg⟩⟩⟩
theorem last_at {α : Type} {xs : List α} {y : α} (h : xs[xs.length - 1]? = some y) : xs.dropLast = xs.eraseIdx (xs.length - 1) := by
  rw [List.eraseIdx_eq_take_drop_succ, List.dropLast_eq_take]
  have := (List.getElem?_eq_some_iff.mp h).1
  rw [show xs.length - 1 + 1 = xs.length by omega]
  simp
/-- a pop, by what is wanted of what comes out -/
theorem pop_core {i : Nat} {ks : List D} {f : D → Env → R Fl} {g : List D → Option (D × List D)} {D0 : Ends} {σ : L2.St} {Z H : Hp} {env : Env} {F : Nat → List Addr} {v0 : V} {l : Addr} {vs : List V} (s : SR X.K N Z H env σ F) (fr : Fr G σ Z H F) (ev : σ[i]? = some (some v0)) (hp : Pth H v0 ks (.ref l)) (hl : H l = some (.lst vs))
    (kf : Nat → Nat) (hg : ∀ xs r xs', g xs = some (r, xs') → xs[kf xs.length]? = some r ∧ xs' = xs.eraseIdx (kf xs.length))
    (h : PostS X.K N W G D0 ((modE (atOwn g) i ks env).bind f)) : ∃ k, k = kf vs.length ∧ ∃ r w fw env' F' xs xs', g xs = some (r, xs') ∧ xs.length = vs.length ∧ vs[k]? = some w ∧ SR X.K N Z (upd H l (.lst (vs.eraseIdx k))) env' σ F' ∧ Fr G σ Z (upd H l (.lst (vs.eraseIdx k))) F' ∧
      Rep X.K N Z (upd H l (.lst (vs.eraseIdx k))) r w fw ∧ fw.Nodup ∧ (∀ c ∈ fw, ∀ j, c ∉ F' j) ∧ (∀ c ∈ fw, G.H c = none ∨ G.O c) ∧ PostS X.K N W G D0 (f r env') := by
  obtain ⟨l', vs', xs, xs', r, fx, e, hl', rr, eg, nd, nl, hfx, hlF, kk⟩ := mutate s fr ev hp h
  cases e
  rw [hl] at hl'
  cases hl'
  obtain ⟨ek, rfl⟩ := hg _ _ _ eg
  obtain ⟨k, hk⟩ : ∃ k, k = kf xs.length := ⟨_, rfl⟩
  rw [← hk] at ek eg kk
  obtain ⟨w, fw, f2, ew, rw', r2, n1, n2, s1, s2⟩ := rr.out ek nd
  obtain ⟨env', F', s', fr', h3, hfree, _⟩ := kk (vs' := vs.eraseIdx k) (fx' := f2) (upd_reps r2 fun h => nl (s2 l h)) n2 (fun h => nl (s2 l h)) fun c hc => .inl (s2 c hc)
  exact ⟨k, by rw [hk, rr.length], r, w, fw, env', F', xs, _, eg, rr.length, ew, s', fr', upd_rep rw' fun h => nl (s1 l h).1, n1, fun c hc => hfree c (s1 c hc).1 (s1 c hc).2, fun c hc => let ⟨j, hj⟩ := hfx c (s1 c hc).1; fr.fr j c hj, h3⟩
theorem pop_g (xs : List D) (r : D) (xs' : List D) (h : fPop xs = some (r, xs')) : xs[xs.length - 1]? = some r ∧ xs' = xs.dropLast := by
  simp only [fPop, Option.map_eq_some_iff] at h
  obtain ⟨y, e, h⟩ := h
  cases h
  exact ⟨e, rfl⟩
theorem popA_g (k : D) (xs : List D) (r : D) (xs' : List D) (h : fPopA k xs = some (r, xs')) : ∃ i j, k = .int i ∧ -(2 ^ 63) ≤ i ∧ i < 2 ^ 63 ∧ Q.ixN xs.length i = some j ∧ xs[j]? = some r ∧ xs' = xs.eraseIdx j := by
  cases k with
  | int i =>
    simp only [fPopA] at h
    split at h
    · rename_i hi
      simp only [Option.bind_eq_some_iff, Option.map_eq_some_iff] at h
      obtain ⟨j, e1, y, e2, h⟩ := h
      cases h
      exact ⟨i, j, rfl, hi.1, hi.2, e1, e2, rfl⟩
    · cases h
  | _ => cases h
theorem seq_ix {n j : Nat} {i : Int} (h : Q.ixN n i = some j) : seqIndex? i n = some j := by
  unfold Q.ixN at h
  split at h
  · rename_i h0
    split at h
    · rename_i h1
      cases h
      have hi : (if i < 0 then i + (n : Int) else i) = i := if_neg (by omega)
      simp only [seqIndex?, hi]
      simp [h0, h1]
    · cases h
  · rename_i h0
    split at h
    · rename_i h1
      cases h
      have hi : (if i < 0 then i + (n : Int) else i) = i + n := if_pos (by omega)
      have h2 : 0 ≤ i + (n : Int) := by omega
      have h3 : i + (n : Int) < n := by omega
      simp only [seqIndex?, hi]
      simp [h2, h3]
    · cases h
theorem last_ok (xs : List D) (r : D) (xs' : List D) (h : fPop xs = some (r, xs')) : xs[xs.length - 1]? = some r ∧ xs' = xs.eraseIdx (xs.length - 1) := by
  obtain ⟨h1, h2⟩ := pop_g xs r xs' h
  exact ⟨h1, h2.trans (last_at h1)⟩
theorem popA_ok {i : Int} (xs : List D) (r : D) (xs' : List D) (h : fPopA (.int i) xs = some (r, xs')) : xs[(Q.ixN xs.length i).getD 0]? = some r ∧ xs' = xs.eraseIdx ((Q.ixN xs.length i).getD 0) := by
  obtain ⟨i', j, e, _, _, e1, e2, e3⟩ := popA_g _ xs r xs' h
  cases e
  rw [e1]
  exact ⟨e2, e3⟩
theorem s_pop (hl : (p.endLine == pos.line) = true) (h0 : baseE ea = true) {pos' : Pos} (ha : OkL X N W P a ea) : OkS X N W P G (.pop a) (.Expr (.Call (.Attribute ea "pop" p) [] [] pos) pos') :=
  L2.PS.imp (ps_expr (pe_bm0 PySem.F.plainAttrs_list PySem.F.slot_list_pop PySem.F.type_list_pop mt_pop ha (base_ok h0) hl)) fun D0 σ H ⟨Z, env, F, s, fr, h⟩ =>
    ⟨Z, env, F, s, (PostS.post fr h).imp fun q env1 Z1 H1 F1 G1 ⟨f1, h1⟩ l vs v0 ev hp hl => ⟨ty_list hl, by
      obtain ⟨k, hk, r, w, fw, env', F', xs, xs', eg, el, ew, s', fr', rp, nd, dj, nw, h3⟩ := pop_core G1.sr f1 ev hp hl (fun n => n - 1) last_ok h1
      subst hk
      refine ⟨l, vs, w, rfl, rfl, hl, ew, ?_⟩
      rw [last_at ew]
      exact h3 σ _ _ F' s' fr'⟩⟩
theorem s_popA (hl : (p.endLine == pos.line) = true) (h0 : baseE ea = true) (h1 : plainE eb = true) {pos' : Pos} (ha : OkL X N W P a ea) (hb : OkE X N W P b eb) : OkS X N W P G (.popA a b) (.Expr (.Call (.Attribute ea "pop" p) [eb] [] pos) pos') :=
  L2.PS.imp (ps_expr (pe_mut PySem.F.slot_list_pop PySem.F.type_list_pop mt_popAt hl h0 (by simp [h1]) (Nat.lt_of_sub_eq_succ rfl) ha (pa_cons hb pa_nil (star_cons h1)))) fun D0 σ H ⟨Z, env, F, s, fr, h⟩ =>
    ⟨Z, env, F, s, (PostS.post fr h).imp fun q env1 Z1 H1 F1 G1 ⟨f1, h1⟩ l vs v0 ev hp hl => ⟨ty_list hl, Z1, env1, F1, G1.sr, (PostS.post f1 h1).imp fun k env2 Z2 H2 F2 G2 ⟨f2, h2⟩ vk rk => by
      cases k with
      | int i =>
        have := rk.ct.int'
        subst this
        obtain ⟨k, hk, r, w, fw, env', F', xs, xs', eg, el, ew, s', fr', rp, nd, dj, nw, h3⟩ := pop_core G2.sr f2 ev (hp.keep G2.hh) (G2.hh _ _ hl) (fun n => (Q.ixN n i).getD 0) popA_ok h2
        obtain ⟨i', j, e, hi1, hi2, e1, _, _⟩ := popA_g _ _ _ _ eg
        cases e
        have hj : k = j := by rw [hk, ← el, e1]; rfl
        subst hj
        exact ⟨l, vs, i, k, w, rfl, rfl, G2.hh _ _ hl, hi1, hi2, seq_ix (el ▸ e1), ew, h3 σ _ _ F' s' fr'⟩
      | _ =>
        obtain ⟨_, _, _, _, _, _, _, _, _, eg, _⟩ := mutate G2.sr f2 ev (hp.keep G2.hh) h2
        cases eg⟩⟩
theorem findI_ok {k : Int} : ∀ {ns : List Int} {a j : Nat}, findI k ns a = some j → a ≤ j ∧ ns[j - a]? = some k ∧ ∀ m, m < j - a → ns[m]? ≠ some k
  | [], _, _, e => by simp [findI] at e
  | n :: ns, a, j, e => by
    simp only [findI] at e
    split at e
    · rename_i h
      cases e
      rw [Nat.sub_self]
      exact ⟨Nat.le_refl _, by rw [h]; rfl, fun m h => absurd h (Nat.not_lt_zero _)⟩
    · rename_i h
      obtain ⟨h1, h2, h3⟩ := findI_ok e
      have e1 : j - a = (j - (a + 1)) + 1 := by omega
      refine ⟨by omega, by rw [e1]; exact h2, fun m hm => ?_⟩
      cases m with
      | zero => intro q; exact h (Option.some.inj q)
      | succ m => exact h3 m (by omega)
theorem s_rem (hl : (p.endLine == pos.line) = true) (h0 : baseE ea = true) (h1 : plainE eb = true) {pos' : Pos} (ha : OkL X N W P a ea) (hb : OkE X N W P b eb) : OkS X N W P G (.rem a b) (.Expr (.Call (.Attribute ea "remove" p) [eb] [] pos) pos') :=
  L2.PS.imp (ps_expr (pe_mut PySem.F.slot_list_remove PySem.F.type_list_remove mt_remove hl h0 (by simp [h1]) (Nat.lt_of_sub_eq_succ rfl) ha (pa_cons hb pa_nil (star_cons h1)))) fun D0 σ H ⟨Z, env, F, s, fr, h⟩ =>
    ⟨Z, env, F, s, (PostS.post fr h).imp fun q env1 Z1 H1 F1 G1 ⟨f1, h1⟩ l vs v0 ev hp hl => ⟨ty_list hl, Z1, env1, F1, G1.sr, (PostS.post f1 h1).imp fun k env2 Z2 H2 F2 G2 ⟨f2, h2⟩ vk rk => by
      obtain ⟨l', vs', xs, xs', r, fx, e, hl', rr, eg, nd, nl, hfx, hlF, kk⟩ := mutate G2.sr f2 ev (hp.keep G2.hh) h2
      cases e
      cases k with
      | int i =>
        have := rk.ct.int'
        subst this
        simp only [fRem, Option.bind_eq_some_iff, Option.map_eq_some_iff] at eg
        obtain ⟨ns, e1, j, e2, e3⟩ := eg
        cases e3
        have hvs := ints_of (Reps.vws rr (O := fun _ => True) fun _ _ => trivial) e1
        subst hvs
        obtain ⟨_, h3, h4⟩ := findI_ok e2
        rw [Nat.sub_zero] at h3 h4
        have hx : ∃ d, xs[j]? = some d := by
          have := (List.getElem?_eq_some_iff.mp h3).1
          have hl2 := rr.length
          rw [List.length_map] at hl2
          exact ⟨_, List.getElem?_eq_getElem (by omega)⟩
        obtain ⟨d, hd⟩ := hx
        obtain ⟨w, fw, fr', e4, _, r4, _, nd4, hfw, hfr⟩ := Reps.out rr hd nd
        obtain ⟨env', F', s', fr2, h5, _⟩ := kk (vs' := (ns.map V.int).eraseIdx j) (fx' := fr') (upd_reps r4 fun h => nl (hfr l h)) nd4 (fun h => nl (hfr l h)) fun c hc => .inl (hfr c hc)
        refine ⟨l, ns, i, j, rfl, rfl, hl', h3, h4, ?_⟩
        rw [← erase_mapI]
        exact h5 σ _ _ F' s' fr2
      | _ => cases eg⟩⟩
theorem popG_fin {i : Nat} (h0 : ¬ Np G → 0 ∉ slots (.var i)) {r : D} {w : V} {fw : List Addr} {D0 : Ends} {σ : L2.St} {Z H : Hp} {env : Env} {F : Nat → List Addr} (s : SR X.K N Z H env σ F) (fr : Fr G σ Z H F) (rp : Rep X.K N Z H r w fw) (nd : fw.Nodup) (dj : ∀ c ∈ fw, ∀ j, c ∉ F j) (nw : ∀ c ∈ fw, G.H c = none ∨ G.O c)
    (h : PostS X.K N W G D0 ((bnd (.var i) r env).bind fun _ env => .ok .nx env)) : gT X.K N (.var i) w σ H D0.nx := by
  obtain ⟨env', e, h2⟩ := bnd_run (α := Unit) h
  exact ⟨Z, env, F, r, fw, s, .inl rp, nd, dj, env', e, fun σ' F' s' m => h2 σ' Z H F' s' (fr.put h0 m nw)⟩
theorem s_popG {i : Nat} {tg : Expr} (h0' : ¬ Np G → 0 ∉ slots (.var i)) (hl : (p.endLine == pos.line) = true) (h0 : baseE ea = true) {pos' : Pos} (ha : OkL X N W P a ea) (hg : OkG X N (.var i) tg)
    (hs : swapsWithSole [tg] (.Call (.Attribute ea "pop" p) [] [] pos) pos'.line X.env = pure false) (hw : swappedStores [tg] (.Call (.Attribute ea "pop" p) [] [] pos) X.env = pure none)
    (ht : (assignEach [tg] X.env).map (·.2) = [assign tg X.env]) : OkS X N W P G (.popG i a) (.Assign [tg] (.Call (.Attribute ea "pop" p) [] [] pos) pos') :=
  L2.PS.imp (ps_asg (pe_bm0 PySem.F.plainAttrs_list PySem.F.slot_list_pop PySem.F.type_list_pop mt_pop ha (base_ok h0) hl) hg hs hw ht) fun D0 σ H ⟨Z, env, F, s, fr, h⟩ =>
    ⟨Z, env, F, s, (PostS.post fr h).imp fun q env1 Z1 H1 F1 G1 ⟨f1, h1⟩ l vs v0 ev hp hl => ⟨ty_list hl, by
      obtain ⟨k, hk, r, w, fw, env', F', xs, xs', eg, el, ew, s', fr', rp, nd, dj, nw, h3⟩ := pop_core G1.sr f1 ev hp hl (fun n => n - 1) last_ok h1
      subst hk
      refine ⟨l, vs, w, rfl, rfl, hl, ew, ?_⟩
      rw [last_at ew]
      exact popG_fin h0' s' fr' rp nd dj nw h3⟩⟩
theorem s_popAG {i : Nat} {tg : Expr} (h0' : ¬ Np G → 0 ∉ slots (.var i)) (hl : (p.endLine == pos.line) = true) (h0 : baseE ea = true) (h1 : plainE eb = true) {pos' : Pos} (ha : OkL X N W P a ea) (hb : OkE X N W P b eb) (hg : OkG X N (.var i) tg)
    (hs : swapsWithSole [tg] (.Call (.Attribute ea "pop" p) [eb] [] pos) pos'.line X.env = pure false) (hw : swappedStores [tg] (.Call (.Attribute ea "pop" p) [eb] [] pos) X.env = pure none)
    (ht : (assignEach [tg] X.env).map (·.2) = [assign tg X.env]) : OkS X N W P G (.popAG i a b) (.Assign [tg] (.Call (.Attribute ea "pop" p) [eb] [] pos) pos') :=
  L2.PS.imp (ps_asg (pe_mut PySem.F.slot_list_pop PySem.F.type_list_pop mt_popAt hl h0 (by simp [h1]) (Nat.lt_of_sub_eq_succ rfl) ha (pa_cons hb pa_nil (star_cons h1))) hg hs hw ht) fun D0 σ H ⟨Z, env, F, s, fr, h⟩ =>
    ⟨Z, env, F, s, (PostS.post fr h).imp fun q env1 Z1 H1 F1 G1 ⟨f1, h1⟩ l vs v0 ev hp hl => ⟨ty_list hl, Z1, env1, F1, G1.sr, (PostS.post f1 h1).imp fun k env2 Z2 H2 F2 G2 ⟨f2, h2⟩ vk rk => by
      cases k with
      | int i =>
        have := rk.ct.int'
        subst this
        obtain ⟨k, hk, r, w, fw, env', F', xs, xs', eg, el, ew, s', fr', rp, nd, dj, nw, h3⟩ := pop_core G2.sr f2 ev (hp.keep G2.hh) (G2.hh _ _ hl) (fun n => (Q.ixN n i).getD 0) popA_ok h2
        obtain ⟨i', j, e, hi1, hi2, e1, _, _⟩ := popA_g _ _ _ _ eg
        cases e
        have hj : k = j := by rw [hk, ← el, e1]; rfl
        subst hj
        exact ⟨l, vs, i, k, w, rfl, rfl, G2.hh _ _ hl, hi1, hi2, seq_ix (el ▸ e1), ew, popG_fin h0' s' fr' rp nd dj nw h3⟩
      | _ =>
        obtain ⟨_, _, _, _, _, _, _, _, _, eg, _⟩ := mutate G2.sr f2 ev (hp.keep G2.hh) h2
        cases eg⟩⟩
theorem plc_here {i : Nat} {env : Env} (h : seenL i [] env = true) : plc P (.var i) env = .ok (i, []) env := by
  have h2 : seen i [] env = true := by
    unfold seenL at h
    unfold seen
    split at h
    · rename_i d e
      simp only [e, atP, Option.isSome_some]
    · cases h
  simp only [plc, keys, h2, h, R.bind, if_true]
/-- found.append(left.pop(k)) -/
theorem s_appP {i j : Nat} {ec : Expr} {c : Ex} {p2 q2 : Pos} (hl : (p.endLine == pos.line) = true) (h0 : baseE ea = true) (hl2 : (p2.endLine == q2.line) = true) (h02 : baseE eb = true) (h1 : plainE ec = true) {pos' : Pos} (ha : OkL X N W P (.var i) ea) (hb : OkL X N W P (.var j) eb) (hc : OkE X N W P c ec) :
    OkS X N W P G (.appP i j c) (.Expr (.Call (.Attribute ea "append" p) [.Call (.Attribute eb "pop" p2) [ec] [] q2] [] pos) pos') :=
  L2.PS.imp (ps_expr (pe_mut PySem.F.slot_list_append PySem.F.type_list_append mt_append hl h0 (by rfl) (Nat.lt_of_sub_eq_succ rfl) ha (pa_cons (pe_mut PySem.F.slot_list_pop PySem.F.type_list_pop mt_popAt hl2 h02 (by simp [h1]) (Nat.lt_of_sub_eq_succ rfl) hb (pa_cons hc pa_nil (star_cons h1))) pa_nil (star_cons rfl)))) fun D0 σ H ⟨Z, env, F, s, fr, h⟩ => by
    simp only [exec] at h
    split at h
    · rename_i hs
      rw [Bool.and_eq_true] at hs
      refine ⟨Z, env, F, s, ?_⟩
      rw [plc_here hs.1]
      intro Z1 H1 F1 G1 l vs v0 ev hp hl0
      cases hp
      refine ⟨ty_list hl0, Z1, env, F1, G1.sr, ?_⟩
      rw [plc_here hs.2]
      intro Z2 H2 F2 G2 l2 vs2 v2 ev2 hp2 hl3
      cases hp2
      refine ⟨ty_list hl3, Z2, env, F2, G2.sr, (PostS.post ((fr.go G1).go G2) h).imp fun k env3 Z3 H3 F3 G3 ⟨f3, h3⟩ vk rk => ?_⟩
      cases k with
      | int iv =>
        have := rk.ct.int'
        subst this
        obtain ⟨k, hk, r, w, fw, env', F', xs, xs', eg, el, ew, s', fr', rp, nd, dj, nw, h4⟩ := pop_core G3.sr f3 ev2 .nil (G3.hh _ _ hl3) (fun n => (Q.ixN n iv).getD 0) popA_ok h3
        obtain ⟨i', j', e, hi1, hi2, e1, _, _⟩ := popA_g _ _ _ _ eg
        cases e
        have hj : k = j' := by rw [hk, ← el, e1]; rfl
        subst hj
        refine ⟨l2, vs2, iv, k, w, rfl, rfl, G3.hh _ _ hl3, hi1, hi2, seq_ix (el ▸ e1), ew, ?_⟩
        obtain ⟨l', vs', ys, ys', r', fx, e, hl', rr, eg', nd', nl, hfx, hlF, kk⟩ := mutate s' fr' ev .nil h4
        cases e
        simp only [fApp] at eg'
        split at eg'
        · rename_i hlen
          cases eg'
          have nlf : l ∉ fw := fun h => let ⟨m, hm⟩ := hlF; dj l h m hm
          obtain ⟨env5, F5, s5, fr5, h5, _⟩ := kk (vs' := vs' ++ [w]) (fx' := fx ++ fw) ((upd_reps rr nl).app (Reps.one (upd_rep rp nlf))) (List.nodup_append.mpr ⟨nd', nd, fun c hc c' hc' e => by
            subst e
            obtain ⟨m, hm⟩ := hfx c hc
            exact dj c hc' m hm⟩) (fun h => (List.mem_append.mp h).elim nl nlf) fun c hc => (List.mem_append.mp hc).imp_right fun h => ⟨dj c h, nw c h⟩
          exact ⟨l, vs', w, rfl, rfl, hl', by rw [← rr.length, ← line_eq]; exact hlen, h5 σ _ _ F5 s5 fr5⟩
        · cases eg'
      | _ =>
        obtain ⟨_, _, _, _, _, _, _, _, _, eg, _⟩ := mutate G3.sr f3 ev2 .nil h3
        cases eg
    · exact h.elim
def rExtR (K : PySem.W.Frag) : V → List V → Hp → VK → Prop := fun x vs H Q => ∃ l b xs zs, x = .ref l ∧ vs = [.ref b] ∧ H l = some (.lst xs) ∧ Ls K H b zs ∧ xs.length + zs.length ≤ sizeLine ∧ Q .non (upd H l (.lst (xs ++ zs)))
theorem mt_extR : MtR X "list.extend" (rExtR X.K) := by
  rintro pins s σ H x vs v us Q I rx rv ⟨l, b, xs, zs, rfl, rfl, hH, hB, hz, q⟩
  cases rx
  obtain ⟨u, rfl, ru⟩ := vals1 rv
  cases ru
  obtain ⟨_, its, n, r, e⟩ := rd_lst I (.of hH)
  obtain ⟨_, jts, m, r2, e2⟩ := rd_lst I hB
  have hl := r.length
  have hl2 := r2.length
  have hsz : its.toArray.size + jts.toArray.size ≤ sizeLine := by rw [List.size_toArray, List.size_toArray]; omega
  have no : ¬ (!its.toArray.isEmpty && Builtin.List.listTooLong (its.toArray.size + jts.toArray.size)) = true := fun h => by
    rw [Bool.and_eq_true] at h
    have h2 := h.2
    unfold Builtin.List.listTooLong at h2
    have := of_decide_eq_true h2
    have := sizeLine_eq
    omega
  refine call_meets PySem.F.slot_list_extend ⟨_, e, rfl⟩ PySem.F.entry_list_extend (PySem.F.args_list_extend_2 _ _) (AutoSeq1.list_extend_list_list_0 l its.toArray n b jts.toArray m no (by rw [List.size_toArray]; omega) (by omega)) ⟨e, e2, ?_⟩
  exact ⟨.non, _, I.lset (its' := its ++ jts) hH e (by simp) (r.append r2) (by rw [List.length_append]; exact hz), rfl, q⟩
theorem s_ext (hl : (p.endLine == pos.line) = true) (h0 : baseE ea = true) (h1 : plainE eb = true) {pos' : Pos} (ha : OkL X N W P a ea) (hb : OkE X N W P b eb) : OkS X N W P G (.ext a b) (.Expr (.Call (.Attribute ea "extend" p) [eb] [] pos) pos') :=
  L2.PS.imp (ps_expr (pe_mut PySem.F.slot_list_extend PySem.F.type_list_extend mt_extR hl h0 (by simp [h1]) (Nat.lt_of_sub_eq_succ rfl) ha (pa_cons hb pa_nil (star_cons h1)))) fun D0 σ H ⟨Z, env, F, s, fr, h⟩ =>
    ⟨Z, env, F, s, (PostS.post fr h).imp fun q env1 Z1 H1 F1 G1 ⟨f1, h1⟩ l vs v0 ev hp hl => ⟨ty_list hl, Z1, env1, F1, G1.sr, (PostS.post f1 h1).imp fun d env2 Z2 H2 F2 G2 ⟨f2, h2⟩ v rv => by
      cases d with
      | lst o ys =>
        simp only [isLst, if_true] at h2
        refine cont_of G2 rv (PostS.post f2 h2) fun ds env3 Z3 F3 G3 it ⟨f3, h3⟩ => ?_
        obtain ⟨b', us, rfl, ru, sh⟩ := it
        obtain ⟨l', vs', xs, xs', r, fx, e, hl', rr, eg, nd, nl, hfx, hlF, kk⟩ := mutate G3.sr f3 ev ((hp.keep G2.hh).keep G3.hh) h3
        cases e
        simp only [fExt] at eg
        split at eg
        · rename_i hlen
          cases eg
          obtain ⟨env', F', s', fr', h4, _⟩ := kk (vs' := vs' ++ us) (fx' := fx ++ []) ((upd_reps rr nl).app (upd_reps ru fun h => nomatch h)) (by rw [List.append_nil]; exact nd) (by rw [List.append_nil]; exact nl) fun c hc => .inl (by rw [List.append_nil] at hc; exact hc)
          rcases sh with ⟨_, _, _, k1⟩ | ⟨_, e, _⟩
          · exact ⟨l, b', vs', us, rfl, rfl, hl', k1, by rw [← rr.length, ← ru.length, ← line_eq]; exact hlen, h4 σ _ _ F' s' fr'⟩
          · cases e
        · cases eg
      | _ => exact h2.elim⟩⟩
end
end Q
end
section
set_option linter.all false
set_option autoImplicit false
set_option maxHeartbeats 1000000
/-! Items that are set; pairs of names; errors raised. -/
namespace Q
open PySem PySem.Spec PyProof.Rows L2
section
variable {X : Cx} {N : Nm} {W : WX} {P : Pg} {G : Gnd} {a b c : Ex} {ea eb ec : Expr} {pos p : Pos} {x : Str}
theorem assign_sub {o i : Expr} {v : Value} {env : PySem.Env} (h : ixE i = true) : assign (.Subscript o i pos) env v = (do
      let ov ← holding [v] (eval o env)
      let iv ← holding [v, ov] (eval i env)
      standAt pos
      holding [v, ov, iv] (setItem ov iv v)
      release [v, ov, iv] []) := by
  cases i <;> first | rfl | cases h
theorem s_sti {sp : Pos} (h1 : ixE ec = true) (ha : OkL X N W P a ea) (hc : OkE X N W P c ec) (hb : OkE X N W P b eb)
    (hs : swapsWithSole [.Subscript ea ec sp] eb pos.line X.env = pure false) (hw : swappedStores [.Subscript ea ec sp] eb X.env = pure none)
    (ht : (assignEach [.Subscript ea ec sp] X.env).map (·.2) = [assign (.Subscript ea ec sp) X.env]) : OkS X N W P G (.sti a c b) (.Assign [.Subscript ea ec sp] eb pos) :=
  L2.PS.imp (ps_asg hb.ev (pg_sub ha hc set_list (fun v => assign_sub h1)) hs hw ht) fun D0 σ H ⟨Z, env, F, s, fr, h⟩ =>
    ⟨Z, env, F, s, (PostS.post fr h).imp fun d env1 Z1 H1 F1 G1 ⟨f1, h1⟩ v ⟨fv, t⟩ => ⟨Z1, env1, F1, G1.sr, (PostS.post f1 h1).imp fun q env2 Z2 H2 F2 G2 ⟨f2, h2⟩ l vs v0 ev hp hl => ⟨Z2, env2, F2, G2.sr, (PostS.post f2 h2).imp fun k env3 Z3 H3 F3 G3 ⟨f3, h3⟩ vk rk => by
      obtain ⟨l', vs', xs, xs', r, fx, e, hl', rr, eg, nd, nl, hfx, hlF, kk⟩ := mutate G3.sr f3 ev (hp.keep G3.hh) h3
      cases e
      cases k with
      | int i =>
        have := rk.ct.int'
        subst this
        simp only [fSet, Option.map_eq_some_iff] at eg
        obtain ⟨j, ej, eg⟩ := eg
        cases eg
        have t3 := (t.keep G2).keep G3
        have hjx : j < xs.length := by
          unfold Q.ixN at ej
          split at ej
          · split at ej
            · cases ej; omega
            · cases ej
          · split at ej
            · cases ej; omega
            · cases ej
        have hjv : j < vs'.length := by rw [← rr.length]; exact hjx
        obtain ⟨w, fw, g, _, _, ro, _, nf, _, hsub⟩ := rr.out (List.getElem?_eq_getElem hjx) nd
        obtain ⟨g1, g2, e, r1, r2⟩ := ro.cutAt j
        subst e
        obtain ⟨n1, n2, n3⟩ := List.nodup_append.mp nf
        have tk : ∀ {α : Type} (ys : List α) (y : α), j < ys.length → ys.set j y = (ys.eraseIdx j).take j ++ [y] ++ (ys.eraseIdx j).drop j := fun ys y hy => by
          rw [List.eraseIdx_eq_take_drop_succ, List.set_eq_take_append_cons_drop, if_pos hy, List.take_left' (by rw [List.length_take]; omega), List.drop_left' (by rw [List.length_take]; omega)]
          simp
        have nlf : l ∉ fv := fun h => let ⟨j, hj⟩ := hlF; t3.dj l h j hj
        have dj : ∀ c ∈ g1 ++ g2, ∀ c' ∈ fv, c ≠ c' := fun c hc c' hc' e => by
          subst e
          obtain ⟨j, hj⟩ := hfx c (hsub c hc)
          exact t3.dj c hc' j hj
        have nl1 : l ∉ g1 := fun h => nl (hsub l (List.mem_append_left _ h))
        have nl2 : l ∉ g2 := fun h => nl (hsub l (List.mem_append_right _ h))
        obtain ⟨env', F', s', fr', h4, _⟩ := kk (vs' := vs'.set j v) (fx' := g1 ++ fv ++ g2) (by
            rw [tk xs d hjx, tk vs' v hjv]
            exact ((upd_reps r1 nl1).app (Reps.one (upd_rep t3.rep nlf))).app (upd_reps r2 nl2))
          (List.nodup_append.mpr ⟨List.nodup_append.mpr ⟨n1, t.nd, fun c hc c' hc' => dj c (List.mem_append_left _ hc) c' hc'⟩, n2, fun c hc c' hc' e => (List.mem_append.mp hc).elim (fun h => n3 c h c' hc' e) fun h => dj c' (List.mem_append_right _ hc') c h e.symm⟩)
          (fun h => (List.mem_append.mp h).elim (fun h => (List.mem_append.mp h).elim nl1 nlf) nl2) fun c hc => by
            rcases List.mem_append.mp hc with h | h
            · rcases List.mem_append.mp h with h | h
              · exact .inl (hsub c (List.mem_append_left _ h))
              · exact .inr ⟨t3.dj c h, fr.tmp t c h⟩
            · exact .inl (hsub c (List.mem_append_right _ h))
        exact ⟨l, vs', i, j, rfl, rfl, hl', by rw [← rr.length]; exact ej, h4 σ _ _ F' s' fr'⟩
      | _ => cases eg⟩⟩⟩
/-! two names at once -/
theorem s_par2 {i j : Nat} {x y : Str} {px py pt pt2 : Pos} {kt k2 : Nat} (h0 : ¬ Np G → 0 ≠ i ∧ 0 ≠ j) (hc : X.calm = true) (hN : X.N.Nodup) (hi : X.N[i]? = some x) (hj : X.N[j]? = some y) (hij : i ≠ j)
    (hx : X.env.scope.names.lookup x = some .local) (hy : X.env.scope.names.lookup y = some .local) (hA : OkA X N W P (.cons a (.cons b .nil)) [ea, eb])
    (hw : swappedStores [.Tuple [.Name x px, .Name y py] kt pt] (.Tuple [ea, eb] k2 pt2) X.env = pure (some [x, y])) :
    OkS X N W P G (.par (.cons (.var i) (.cons (.var j) .nil)) (.cons a (.cons b .nil))) (.Assign [.Tuple [.Name x px, .Name y py] kt pt] (.Tuple [ea, eb] k2 pt2) pos) :=
  L2.PS.imp (ps_par hc hN hi hj hij hx hy hA hw) fun D0 σ H ⟨Z, env, F, s, fr, h⟩ => ⟨Z, env, F, s, (PostS.post fr h).imp fun ds env1 Z1 H1 F1 G1 ⟨f1, h1⟩ vs ⟨fv, r, nd, dj, nw⟩ => by
    have nw' : ∀ c ∈ fv, G.H c = none ∨ G.O c := fun c hc => (nw c hc).elim fr.free fun ⟨i, h⟩ => fr.fr i c h
    have h2 : PostS X.K N W G D0 ((bnds P (.cons (.var i) (.cons (.var j) .nil)) ds env1).bind fun _ env => .ok .nx env) := h1
    cases r with
    | nil => exact h2.elim
    | @cons d1 ds1 v1 vs1 g1 g2 r1 r =>
      simp only [bnds, R.bind_assoc] at h2
      obtain ⟨e1, b1, h2⟩ := bnd_run (α := Unit) h2
      cases r with
      | nil => exact h2.elim
      | @cons d2 ds2 v2 vs2 g3 g4 r2 r =>
        simp only [bnds, R.bind_assoc] at h2
        obtain ⟨e2, b2, h2⟩ := bnd_run (α := Unit) h2
        cases r with
        | cons r3 r => exact h2.elim
        | nil =>
          rw [List.append_nil] at nd dj nw nw'
          obtain ⟨n1, n2, n3⟩ := List.nodup_append.mp nd
          simp only [bnd] at b1 b2
          split at b1
          · rename_i l1
            cases b1
            split at b2
            · rename_i l2
              cases b2
              have s1 := G1.sr.put l1 r1 n1 fun c hc => dj c (List.mem_append_left _ hc)
              have s2 := s1.put l2 r2 n2 fun c hc k h => by
                split at h
                · exact n3 c h c hc rfl
                · exact dj c (List.mem_append_right _ hc) k h
              refine ⟨v1, v2, rfl, h2 _ _ _ _ s2 ⟨fun v hv => by
                obtain ⟨q1, q2⟩ := h0 fun h => by rw [h] at hv; cases hv
                rw [List.getElem?_set_ne (Ne.symm q2), List.getElem?_set_ne (Ne.symm q1)]
                exact f1.pn v hv, f1.zz, f1.hh, f1.nz, fun k c h => ?_⟩⟩
              split at h
              · exact nw' c (List.mem_append_right _ h)
              · split at h
                · exact nw' c (List.mem_append_left _ h)
                · exact f1.fr k c h
            · cases b2
          · cases b1⟩
/-! errors -/
/-- what an error's __init__ does: the fields' names, the last stored first -/
def spX (C : Addr) (ns : List Str) : Sp := fun vs H Q _ => ∃ a ws, vs = V.ref a :: ws ∧ ws.length = ns.length ∧ H a = some (exo a C none) ∧
  ∀ dx H', H dx = none → dx ≠ a → H' a = some (exo a C (some dx)) → H' dx = some (exd dx (ns.zip ws.reverse)) → (∀ b, b ≠ a → b ≠ dx → H' b = H b) → Q .non H'
structure ExcT (X : Cx) (N : Nm) (c n : Nat) (fs : List Nat) (x : Str) : Prop where
  ex : ∃ (k : Nat) (fI : Addr) (fd : FuncData) (ps : List Str), OexC X.K (N.cls c) ∧ PySem.W.findIn X.K (.ref (N.cls c)) "__init__" = some (some (.ref fI)) ∧ PySem.W.typeIn X.K (.ref fI) = some (.type "function") ∧
    FnOk X.prog X.w X.K X.mg X.base (L2.CX X.prog X.w) k fI fd ps (spX (N.cls c) (fs.map N.fld)) ∧ Room (k + 1) X.A ∧ Binds X.K fd ps [] ∧ X.mg x = some (.ref (N.cls c))
  gl : Gl X x
  db : (x == ("__debug__" : Str)) = false
  nf : fs.length = n
  sm : n ≤ 1000
theorem passF {X : Cx} : Passes (L2.CX X.prog X.w) X (fun _ _ _ => False) := fun _ _ _ _ _ _ _ h => by
  obtain ⟨_, _, _, _, _, _, _, _, _, _, _, _, h⟩ := h
  exact h.elim
theorem s_rai {k n : Nat} {fs : List Nat} {es : List Expr} {pos' : Pos} (C : ExcT X N k n fs x) (hP : P.excF k = some fs) (hD : ∀ m, P.excD k m = []) (hc : X.calm = true) (tk : Takes X W) (h1 : (ea :: es).all plainE = true) (ha : OkA X N W P a (ea :: es)) :
    OkS X N W P G (.rai k a) (.Raise (some (.Call (.Name x p) (ea :: es) [] pos)) none pos') := by
  obtain ⟨j, fI, fd, ps, T, iC, tI, F, hroom, hb, hm⟩ := C.ex
  rw [List.all_cons, Bool.and_eq_true] at h1
  refine L2.PS.imp (ps_raise hc tk (pmk_oex T iC tI F hroom hb .nil passF C.gl hm ha C.db (star_cons h1.1) (star_any h1.2))) fun D0 σ H ⟨Z, env, Fr, s, fr, h⟩ => ?_
  simp only [exec, hP] at h
  refine ⟨Z, env, Fr, s, (PostS.post fr h).imp fun ds env1 Z1 H1 F1 G1 ⟨f1, h1⟩ vs ⟨fv, r, nd, dj, nw⟩ => ?_⟩
  simp only [mkExc, hD, List.append_nil] at h1
  split at h1
  · rename_i c' fs' xs' e
    split at e
    · rename_i hds
      cases e
      have hl := r.length
      have hfv := r.noOwn hds.2
      subst hfv
      refine ⟨by have := C.nf; have := C.sm; omega, fun l hn => ?_⟩
      refine ⟨l, vs ++ [], rfl, by rw [List.append_nil, List.length_map]; omega, upd_same, fun dx H2 hdx hne h2 h3 h4 => ⟨rfl, dx, _, h2, h3, ?_, ?_⟩⟩
      · rwa [upd_ne hne] at hdx
      · rw [List.append_nil] at h3 ⊢
        have hd1 : H1 dx = none := by rwa [upd_ne hne] at hdx
        have eH : upd (del H2 l) dx (.xd ((fs.map N.fld).zip vs.reverse)) = upd H1 dx (.xd ((fs.map N.fld).zip vs.reverse)) := by
          funext b
          by_cases q : b = dx
          · rw [q, upd_same, upd_same]
          · rw [upd_ne q, upd_ne q]
            by_cases q2 : b = l
            · rw [q2, del_same, hn]
            · rw [del_ne q2, h4 b q2 q, upd_ne q2]
        rw [eH]
        have g := Go.newZ (o := .xd ((fs.map N.fld).zip vs.reverse)) G1.sr hd1
        refine h1 σ _ _ F1 _ _ g.sr (f1.go g) ⟨rfl, .inl ⟨dx, vs.reverse, rfl, upd_same, by rw [List.length_reverse]; omega, ?_⟩⟩
        exact (Reps.rev r).mono g.zz fun _ h => nomatch h
    · cases e
  · exact h1.elim
end
end Q
end
section
set_option linter.all false
set_option autoImplicit false
set_option maxHeartbeats 1000000
/-! Several targets, items among them. -/
namespace Q
open PySem PySem.Spec PyProof.Rows L2
section
variable {X : Cx} {N : Nm} {W : WX} {P : Pg} {G : Gnd} {a b c ts : Ex} {ea eb ec : Expr} {pos p : Pos} {x : Str}
/-- an item is set -/
theorem set_core {i : Int} {m : Nat} {ks : List D} {d : D} {f : Unit → Env → R Fl} {D0 : Ends} {σ : L2.St} {Z H : Hp} {env : Env} {F : Nat → List Addr} {v0 u v : V} {fv : List Addr} (s : SR X.K N Z H env σ F) (fr : Fr G σ Z H F) (ev : σ[m]? = some (some v0)) (hp : Pth H v0 ks u)
    (r : Rep X.K N Z H d v fv) (nd : fv.Nodup) (dj : ∀ c ∈ fv, ∀ j, c ∉ F j) (nw : ∀ c ∈ fv, G.H c = none ∨ G.O c) (h : PostS X.K N W G D0 ((modE (atOwn (fSet (.int i) d)) m ks env).bind f)) :
    ∃ l vs j env' F', u = .ref l ∧ H l = some (.lst vs) ∧ (∃ j, l ∈ F j) ∧ L2.ixN vs.length i = some j ∧ SR X.K N Z (upd H l (.lst (vs.set j v))) env' σ F' ∧ Fr G σ Z (upd H l (.lst (vs.set j v))) F' ∧ PostS X.K N W G D0 (f () env') ∧ ∀ j c, c ∈ F' j → (∃ k, c ∈ F k) ∨ c ∈ fv := by
  obtain ⟨l, vs, xs, xs', r0, fx, e, hl', rr, eg, ndx, nl, hfx, hlF, kk⟩ := mutate s fr ev hp h
  simp only [fSet, Option.map_eq_some_iff] at eg
  obtain ⟨j, ej, eg⟩ := eg
  cases eg
  have hjx : j < xs.length := by
    unfold Q.ixN at ej
    split at ej
    · split at ej
      · cases ej; omega
      · cases ej
    · split at ej
      · cases ej; omega
      · cases ej
  have hjv : j < vs.length := by rw [← rr.length]; exact hjx
  obtain ⟨w, fw, g, _, _, ro, _, nf, _, hsub⟩ := rr.out (List.getElem?_eq_getElem hjx) ndx
  obtain ⟨g1, g2, eg, r1, r2⟩ := ro.cutAt j
  subst eg
  obtain ⟨n1, n2, n3⟩ := List.nodup_append.mp nf
  have tk : ∀ {α : Type} (ys : List α) (y : α), j < ys.length → ys.set j y = (ys.eraseIdx j).take j ++ [y] ++ (ys.eraseIdx j).drop j := fun ys y hy => by
    rw [List.eraseIdx_eq_take_drop_succ, List.set_eq_take_append_cons_drop, if_pos hy, List.take_left' (by rw [List.length_take]; omega), List.drop_left' (by rw [List.length_take]; omega)]
    simp
  have nlf : l ∉ fv := fun h => let ⟨j, hj⟩ := hlF; dj l h j hj
  have dd : ∀ c ∈ g1 ++ g2, ∀ c' ∈ fv, c ≠ c' := fun c hc c' hc' e => by
    subst e
    obtain ⟨j, hj⟩ := hfx c (hsub c hc)
    exact dj c hc' j hj
  have nl1 : l ∉ g1 := fun h => nl (hsub l (List.mem_append_left _ h))
  have nl2 : l ∉ g2 := fun h => nl (hsub l (List.mem_append_right _ h))
  obtain ⟨env', F', s', fr', h4, _, hF⟩ := kk (vs' := vs.set j v) (fx' := g1 ++ fv ++ g2) (by
      rw [tk xs d hjx, tk vs v hjv]
      exact ((upd_reps r1 nl1).app (Reps.one (upd_rep r nlf))).app (upd_reps r2 nl2))
    (List.nodup_append.mpr ⟨List.nodup_append.mpr ⟨n1, nd, fun c hc c' hc' => dd c (List.mem_append_left _ hc) c' hc'⟩, n2, fun c hc c' hc' e => (List.mem_append.mp hc).elim (fun h => n3 c h c' hc' e) fun h => dd c' (List.mem_append_right _ hc') c h e.symm⟩)
    (fun h => (List.mem_append.mp h).elim (fun h => (List.mem_append.mp h).elim nl1 nlf) nl2) fun c hc => by
      rcases List.mem_append.mp hc with h | h
      · rcases List.mem_append.mp h with h | h
        · exact .inl (hsub c (List.mem_append_left _ h))
        · exact .inr ⟨dj c h, nw c h⟩
      · exact .inl (hsub c (List.mem_append_right _ h))
  refine ⟨l, vs, j, env', F', e, hl', hlF, by rw [← rr.length]; exact ej, s', fr', h4, fun k c hc => ?_⟩
  rcases hF k c hc with h | h
  · exact .inl ⟨k, h⟩
  · rcases List.mem_append.mp h with h | h
    · rcases List.mem_append.mp h with h | h
      · exact .inl (hfx c (hsub c (List.mem_append_left _ h)))
      · exact .inr h
    · exact .inl (hfx c (hsub c (List.mem_append_right _ h)))
/-- stores, the one behind the other -/
def gXs (K : PySem.W.Frag) (N : Nm) (W : WX) (P : Pg) (G : Gnd) (ts : Ex) : TGs := fun vs σ H Q => ∃ Z env F ds fv, SR K N Z H env σ F ∧ Fr G σ Z H F ∧ Reps K N Z H ds vs fv ∧ fv.Nodup ∧ (∀ c ∈ fv, ∀ i, c ∉ F i) ∧ (∀ c ∈ fv, G.H c = none ∨ G.O c) ∧
  PostS K N W G { nx := Q, rt := fun _ _ => False } ((bnds P ts ds env).bind fun _ env => .ok .nx env)
def OkX (X : Cx) (N : Nm) (W : WX) (P : Pg) (G : Gnd) (ts : Ex) (es : List Expr) : Prop := PGs X es (gXs X.K N W P G ts)
theorem x_nil : OkX X N W P G .nil [] := L2.PGs.imp pgs_nil fun vs σ H Q ⟨Z, env, F, ds, fv, s, fr, r, nd, dj, nw, h⟩ => by
  cases r with
  | nil => exact ⟨rfl, h σ Z H F s fr⟩
  | cons r t => exact h.elim
theorem x_var {i : Nat} {es : List Expr} (h0 : ¬ Np G → 0 ∉ slots (.var i)) (hg : OkG X N (.var i) ea) (h2 : OkX X N W P G ts es) (hs : (assignEach (ea :: es) X.env).map (·.2) = assign ea X.env :: (assignEach es X.env).map (·.2)) : OkX X N W P G (.cons (.var i) ts) (ea :: es) :=
  L2.PGs.imp (pgs_cons hg h2 hs) fun vs σ H Q ⟨Z, env, F, ds, fv, s, fr, r, nd, dj, nw, h⟩ => by
    cases r with
    | nil => exact h.elim
    | @cons d ds v vs f g r t =>
      obtain ⟨n1, n2, n3⟩ := List.nodup_append.mp nd
      simp only [bnds, R.bind_assoc] at h
      obtain ⟨env1, e1, h⟩ := bnd_run (α := Unit) h
      refine ⟨v, vs, rfl, Z, env, F, d, f, s, .inl r, n1, fun c hc => dj c (List.mem_append_left _ hc), env1, e1, fun σ1 F1 s1 m1 => ?_⟩
      refine ⟨Z, env1, F1, ds, g, s1, fr.put h0 m1 fun c hc => nw c (List.mem_append_left _ hc), t, n2, fun c hc i h => ?_, fun c hc => nw c (List.mem_append_right _ hc), h⟩
      rcases m1.sub i c h with h | h
      · exact dj c (List.mem_append_right _ hc) i h
      · exact n3 c h c hc rfl
theorem x_ix {es : List Expr} {sp : Pos} (h1 : ixE ec = true) (ha : OkL X N W P a ea) (hc : OkE X N W P c ec) (h2 : OkX X N W P G ts es) (hs : (assignEach (.Subscript ea ec sp :: es) X.env).map (·.2) = assign (.Subscript ea ec sp) X.env :: (assignEach es X.env).map (·.2)) :
    OkX X N W P G (.cons (.ix a c) ts) (.Subscript ea ec sp :: es) :=
  L2.PGs.imp (pgs_cons (pg_sub ha hc set_list fun v => assign_sub h1) h2 hs) fun vs σ H Q ⟨Z, env, F, ds, fv, s, fr, r, nd, dj, nw, h⟩ => by
    cases r with
    | nil => exact h.elim
    | @cons d ds v vs f g r t =>
      obtain ⟨n1, n2, n3⟩ := List.nodup_append.mp nd
      simp only [bnds, R.bind_assoc] at h
      refine ⟨v, vs, rfl, Z, env, F, s, (PostS.post fr h).imp fun q env1 Z1 H1 F1 G1 ⟨f1, h1⟩ l ws v0 ev hp hl => ⟨Z1, env1, F1, G1.sr, (PostS.post f1 h1).imp fun k env2 Z2 H2 F2 G2 ⟨f2, h2⟩ vk rk => ?_⟩⟩
      have GG := G1.trans G2
      have kp := keep_cells (fv := f ++ g) GG (fun c hc => (List.mem_append.mp hc).elim (r.own1 c) (t.own1 c)) dj
      have r' : Rep X.K N Z2 H2 d v f := r.mono GG.zz fun c hc => kp c (List.mem_append_left _ hc)
      have t' : Reps X.K N Z2 H2 ds vs g := t.mono GG.zz fun c hc => kp c (List.mem_append_right _ hc)
      have dj2 : ∀ c ∈ f ++ g, ∀ j, c ∉ F2 j := fun c hc j hj => dj c hc j (GG.sub j c hj)
      cases k with
      | int i =>
        have := rk.ct.int'
        subst this
        obtain ⟨l', ws', j, env', F', e, hl', hlF, hj, s', fr', h3, hF⟩ := set_core G2.sr f2 ev (hp.keep G2.hh) r' n1 (fun c hc => dj2 c (List.mem_append_left _ hc)) (fun c hc => nw c (List.mem_append_left _ hc)) h2
        cases e
        refine ⟨l, ws', i, j, rfl, rfl, hl', hj, Z2, env', F', ds, g, s', fr', upd_reps t' fun h => let ⟨k, hk⟩ := hlF; dj2 l (List.mem_append_right _ h) k hk, n2, fun c hc k h => ?_, fun c hc => nw c (List.mem_append_right _ hc), h3⟩
        rcases hF k c h with ⟨m, h⟩ | h
        · exact dj2 c (List.mem_append_right _ hc) m h
        · exact n3 c h c hc rfl
      | _ =>
        obtain ⟨_, _, _, _, _, _, _, _, _, eg, _⟩ := mutate G2.sr f2 ev (hp.keep G2.hh) h2
        cases eg
theorem evs_len : ∀ {es : Ex} {env env' : Env} {ds : List D}, row es = true → evs P es env = .ok ds env' → ds.length = arity es
  | .nil, env, env', ds, _, h => by
    simp only [evs] at h
    cases h; rfl
  | .cons e es, env, env', ds, hr, h => by
    simp only [evs] at h
    obtain ⟨d, env1, e1, h⟩ := R.bind_ok h
    obtain ⟨q, env2, e2, h⟩ := R.bind_ok h
    cases h
    simp only [List.length_cons, arity, evs_len (es := es) hr e2]
theorem s_parX {tes es : List Expr} {kt k2 : Nat} {pt pt2 : Pos} (hc : X.calm = true) (hX : OkX X N W P G ts tes) (hA : OkA X N W P b es) (hn : (assignEach tes X.env).length = tes.length) (hst : (assignEach tes X.env).findIdx? (·.1) = none) (hl : tes.length < 30) (hb : arity b = tes.length) (hr : row b = true)
    (hs : swapsWithSole [.Tuple tes kt pt] (.Tuple es k2 pt2) pos.line X.env = pure false) (hw : swappedStores [.Tuple tes kt pt] (.Tuple es k2 pt2) X.env = pure none) (h1 : (assignEach [.Tuple tes kt pt] X.env).map (·.2) = [assign (.Tuple tes kt pt) X.env]) :
    OkS X N W P G (.par ts b) (.Assign [.Tuple tes kt pt] (.Tuple es k2 pt2) pos) :=
  L2.PS.imp (ps_asg (pe_tupF hA) (pg_tup hc hX hn hst) hs hw h1) fun D0 σ H ⟨Z, env, F, s, fr, h⟩ => ⟨Z, env, F, s, (post_ok (PostS.post fr h)).imp fun ds env1 Z1 H1 F1 G1 ⟨eq, f1, h1⟩ vs ⟨fv, r, nd, dj, nw⟩ => by
    have nw' : ∀ c ∈ fv, G.H c = none ∨ G.O c := fun c hc => (nw c hc).elim fr.free fun ⟨i, h⟩ => fr.fr i c h
    have hlen : vs.length = tes.length := by rw [← r.length, evs_len hr eq, hb]
    refine ⟨by rw [hlen, sizeLine_eq]; omega, fun l o hn ho => ?_⟩
    have go := Go.newO (o := .frz o (.tup vs)) G1.sr hn
    refine ⟨l, vs, rfl, .inl (.inr ⟨o, upd_same⟩), hlen, Z1, env1, F1, ds, fv, go.sr, f1.go go, r.mono (Same.refl _) fun c hc => ⟨upd_ne fun q => (r.own1 c hc).some (by rw [q]; exact hn), (r.own1 c hc).1⟩, nd, dj, nw', ?_⟩
    have h1 : PostS X.K N W G D0 ((bnds P ts ds env1).bind fun _ env => .ok .nx env) := h1
    cases e : bnds P ts ds env1 with
    | stuck => rw [e] at h1; exact h1.elim
    | exc => rw [e] at h1; exact h1
    | ok u env2 => rw [e] at h1; exact h1⟩
end
end Q
end
section
set_option linter.all false
set_option autoImplicit false
set_option maxHeartbeats 1000000
/-! raise X(), X an own exception class without own __init__. -/
namespace Q
open PySem PySem.Spec PyProof.Rows L2
section
variable {X : Cx} {N : Nm} {P : Pg} {W : WX} {G : Gnd} {x : Str} {p pos : Pos}
theorem pmk_own0 {C : Addr} {bmB : List Value} {B newId initId : String} (F : ExcBaseFacts B newId initId bmB) (q : PySem.W.excIn X.K C bmB newId = true) (gC : X.mg x = some (.ref C))
    (kC : PySem.W.keepIn X.K (.ref C) = true) (r : Raises X (.ref C)) (hg : Gl X x) (hdb : (x == ("__debug__" : Str)) = false) :
    PMk X (.Call (.Name x p) [] [] pos) (fun _ H Q => Q (.ref C) none H) := by
  intro pins s σ H Q I h
  refine wpAny_Call_Name_kw (ld_glob I hg gC ?_ hdb)
  refine PySem.W.callWith_K0 I.kIn kC ?_
  show wpAny _ _ (call (.ref C) []) _ _ _
  obtain ⟨bm, N, nm, qn, bs, hdct, sn, sub, ab, col, dd, k0, k1, k2, k3, k5, mN, hC, hN, hni, T⟩ := exc_obj I.kIn q
  refine wpAny_call_exc_subT F T hC hN hni (fun h' e hm => ?_) (Nat.zero_le _)
  exact mk_of I hm r h (I.hok.gone hm.new)
/-- such a class -/
structure Exc0 (K : PySem.W.Frag) (mg : Str → Option Value) (N : Nm) (P : Pg) (c : Nat) (x : Str) : Prop where
  q : PySem.W.excIn K (N.cls c) [.type "ValueError", .type "Exception", .type "BaseException", .type "object"] "ValueError.__new__" = true
  gC : mg x = some (.ref (N.cls c))
  kC : PySem.W.keepIn K (.ref (N.cls c)) = true
  sb : PySem.W.subIn K (.ref (N.cls c)) (.type "BaseException") = some true
  ty : PySem.W.typeIn K (.ref (N.cls c)) = some (.type "type")
  hP : P.excF c = some []
  hN : N.excF c = some []
  hD : ∀ m, P.excD c m = []
theorem s_rai0 {k : Nat} {pos' : Pos} (C : Exc0 X.K X.mg N P k x) (hg : Gl X x) (hd : (x == ("__debug__" : Str)) = false) (hc : X.calm = true) (tk : Takes X W) :
    OkS X N W P G (.rai k .nil) (.Raise (some (.Call (.Name x p) [] [] pos)) none pos') :=
  L2.PS.imp (ps_raise hc tk (pmk_own0 PySem.F.excBase_ValueError C.q C.gC C.kC (raises_own C.sb C.ty) hg hd)) fun D0 σ H ⟨Z, env, Fr, s, fr, h⟩ => by
    simp only [exec, C.hP, evs, R.bind, mkExc, C.hD, List.append_nil, List.length_nil, owns, and_self, if_true, List.reverse_nil] at h
    exact h σ Z H Fr _ _ s fr ⟨rfl, .inr ⟨rfl, rfl, rfl⟩⟩
end
end Q
end
section
set_option linter.all false
set_option autoImplicit false
set_option maxHeartbeats 1000000
/-! Defs. -/
namespace Q
open PySem PySem.Spec PyProof.Rows L2
section
variable {P : Program} {w : World} {K : PySem.W.Frag} {mg : Str → Option Value} {base : Heap} {N : Nm} {Pg : Q.Pg}
theorem start_at {ds : List D} {n : Nat} {i : Nat} {d : D} (h : (ds.map some ++ List.replicate n none)[i]? = some (some d)) : ds[i]? = some d := by
  by_cases hi : i < ds.length
  · rw [List.getElem?_append_left (by simpa using hi), List.getElem?_map] at h
    cases e : ds[i]? with
    | none => rw [e] at h; cases h
    | some x => rw [e] at h; cases h; rfl
  · rw [List.getElem?_append_right (by simpa using hi)] at h
    obtain ⟨_, e⟩ := List.getElem?_eq_some_iff.mp h
    rw [List.getElem_replicate] at e
    cases e
theorem start_sr {Z H : Hp} {ds : List D} {vs : List V} {n m : Nat} (zh : Same Z H) (r : Reps K N Z H ds vs []) (h : n = m) : SR K N Z H (ds.map some ++ List.replicate n none) (vs.map some ++ List.replicate m none) (fun _ => []) := by
  subst h
  refine ⟨by simp [r.length], fun i d e => ?_, fun _ _ => rfl, fun _ => .nil, fun _ _ _ h => (nomatch h), zh⟩
  have e1 := start_at e
  obtain ⟨v, fv, e2, r2, s⟩ := r.nth e1
  have hi := (List.getElem?_eq_some_iff.mp e2).1
  refine ⟨v, ?_, r.at e1 e2⟩
  rw [List.getElem?_append_left (by simpa using hi), List.getElem?_map, e2]
  rfl
theorem fn_ok {F : Fn} {x qual : Str} {st : Stmt} {f : Addr} {fd : FuncData} {Nl ps : List Str} {k : Nat} (FF : Fun K x qual st f fd) (S : FnScope Nl ps (defScope st)) (hi : F.init = none) (hnp : F.np = ps.length) (hns : F.ns = Nl.length)
    (hb : ∀ (cdv : Value) (A : Around) (outer : List PySem.Env) (s : Shared) (H : Hp) (E : XK), Room k (A.deeper (envOfC qual (defScope st) s.heap.objs.size f cdv)) →
      ∀ G, Np G → OkB (cxOf (L2.CX P w) P w K mg base Nl qual (defScope st) f cdv A outer s H E) N (fun cls d _ H => E cls d H) Pg G F.body (defBody st)) : FnOk P w K mg base (L2.CX P w) (k + 1) f fd ps (spT K N ps.length (runFn Pg F)) := by
  refine FF.okX S (fun vs H Q E h => h.1) fun cdv A outer s H vs Q E hr h => ?_
  obtain ⟨hl, Z, ds, zh, r, h⟩ := h
  refine ⟨_, hb cdv A outer s H E hr ⟨Z, H, fun _ => False, none⟩ rfl, Z, ds.map some ++ List.replicate (F.ns - F.np) none, fun _ => [], start_sr zh r (by rw [hns, hnp, hl]), ⟨fun _ h => (nomatch h), Same.refl _, fun _ _ _ e => e, fun _ h => .inl h, fun _ _ h => (nomatch h)⟩, ?_⟩
  have nz : ∀ {σ' : L2.St} {Z' H' : Hp} {F' : Nat → List Addr}, Fr ⟨Z, H, fun _ => False, none⟩ σ' Z' H' F' → Same Z Z' ∧ Same H H' ∧ ∀ c, Z' c ≠ none → Z c ≠ none ∨ H c = none := fun {σ' Z' H' F'} f =>
    ⟨f.zz, fun c o e => f.hh c o (fun h => h) e, fun c h => (f.nz c h).imp_right fun h => h.resolve_right fun h => h⟩
  simp only [runFn, hi, hnp, r.length, hl, if_true] at h
  cases e : exec Pg F.body (ds.map some ++ List.replicate (F.ns - ps.length) none) with
  | stuck => rw [e] at h; exact h.elim
  | exc c fs xs env =>
    rw [e] at h
    rw [hnp, e]
    intro σ' Z' H' F' cls dx s' f' ex
    obtain ⟨h1, h2, h3⟩ := nz f'
    exact h Z' H' cls dx h1 h2 s'.zh h3 ex
  | ok a env =>
    rw [e] at h
    rw [hnp, e]
    cases a with
    | nx =>
      intro σ' Z' H' F' s' f'
      obtain ⟨h1, h2, h3⟩ := nz f'
      exact h Z' H' .non [] h1 h2 s'.zh h3 .non .nil fun _ h => nomatch h
    | brk => exact h.elim
    | cont => exact h.elim
    | ret d =>
      intro σ' Z' H' F' v f' o
      obtain ⟨h1, h2, h3⟩ := nz f'
      obtain ⟨fv, r', nd, nw⟩ := o.ex
      exact h Z' H' v fv h1 h2 o.zh h3 r' nd fun c hc => (nw c hc).resolve_right fun h => h
end
/-! what is not come to -/
theorem s_nev {X : Cx} {N : Nm} {W : WX} {P : Pg} {G : Gnd} {e : Stmt} : OkS X N W P G .nev e := ⟨fun pins s σ H D I ⟨_, _, _, _, _, h⟩ => h.elim⟩
theorem e_nev {X : Cx} {N : Nm} {W : WX} {P : Pg} {e : Expr} : OkE X N W P .nev e := ⟨fun pins s σ H D I ⟨_, _, _, _, h⟩ => h.elim⟩
end Q
end
section
set_option linter.all false
set_option autoImplicit false
set_option maxHeartbeats 1000000
/-! Instances made. -/
namespace Q
open PySem PySem.Spec PyProof.Rows L2
section
variable {K : PySem.W.Frag} {N : Nm} {Z H : Hp} {σ : L2.St} {env : Env} {F : Nat → List Addr}
theorem SR.repl {i : Nat} {d d' : D} {v : V} {a : Addr} {o : HO} {f' : List Addr} (s : SR K N Z H env σ F) (e1 : env[i]? = some (some d)) (e2 : σ[i]? = some (some v)) (ha : a ∈ F i) (r : Rep K N Z (upd H a o) d' v f') (nd : f'.Nodup) (hs : ∀ c ∈ f', c ∈ F i ∨ ∀ j, c ∉ F j) :
    SR K N Z (upd H a o) (env.set i (some d')) σ (fun j => if j = i then f' else F j) := by
  have hil := (List.getElem?_eq_some_iff.mp e1).1
  refine ⟨by rw [List.length_set]; exact s.len, fun j d0 e => ?_, fun j h => ?_, fun j => ?_, fun j k c h1 h2 => ?_, fun c u e => ?_⟩
  · by_cases q : j = i
    · subst q
      rw [List.getElem?_set_self hil] at e
      cases e
      exact ⟨v, e2, by rw [if_pos rfl]; exact r⟩
    · rw [List.getElem?_set_ne (Ne.symm q)] at e
      obtain ⟨v0, e4, r0⟩ := s.som j d0 e
      refine ⟨v0, e4, ?_⟩
      rw [if_neg q]
      exact r0.mono (Same.refl _) fun c hc => ⟨upd_ne fun z => q (s.dj _ _ c hc (z ▸ ha)), (r0.own1 c hc).1⟩
  · by_cases q : j = i
    · subst q
      exact absurd (List.getElem?_set_self hil) (h d')
    · rw [if_neg q]
      exact s.non j fun d0 e => h d0 (by rw [List.getElem?_set_ne (Ne.symm q)]; exact e)
  · by_cases q : j = i
    · rw [if_pos q]; exact nd
    · rw [if_neg q]; exact s.nd j
  · have key : ∀ c, c ∈ f' → ∀ k, k ≠ i → c ∉ F k := fun c hc k hk hck => by
      rcases hs c hc with h | h
      · exact hk (s.dj _ _ c hck h)
      · exact h k hck
    by_cases q1 : j = i
    · by_cases q2 : k = i
      · rw [q1, q2]
      · rw [if_pos q1] at h1; rw [if_neg q2] at h2; exact absurd h2 (key c h1 k q2)
    · by_cases q2 : k = i
      · rw [if_neg q1] at h1; rw [if_pos q2] at h2; exact absurd h1 (key c h2 j q1)
      · rw [if_neg q1] at h1; rw [if_neg q2] at h2; exact s.dj j k c h1 h2
  · rw [upd_ne fun z => by rw [z, (s.own1 ha).1] at e; cases e]; exact s.zh _ _ e
theorem putF_new {f : Str} {y : V} : ∀ {fs : List (Str × V)}, (∀ p ∈ fs, p.1 ≠ f) → putF f y fs = fs ++ [(f, y)]
  | [], _ => rfl
  | (g, v) :: r, h => by
    have h1 : ¬ g = f := h (g, v) List.mem_cons_self
    simp only [putF, if_neg h1, List.cons_append]
    rw [putF_new fun p hp => h p (List.mem_cons_of_mem _ hp)]
end
section
variable {X : Cx} {N : Nm} {W : WX} {P : Pg} {G : Gnd} {a b : Ex} {ea eb : Expr} {pos p : Pos} {x : Str}
theorem s_stf {i f : Nat} {y n : Str} {np ap : Pos} (hN : NmOk X.K N) (hI : ∀ c g, P.insF c g = true → N.insF c g = true) (hn : N.fld f = n) (hi : X.N[i]? = some y) (hv : Vis X.env.scope y) (hd : (y == ("__debug__" : Str)) = false) (hcd : (y == ("__classdict__" : Str)) = false)
    (hs : swapsWith eb (some (.Attribute (.Name y np) n ap)) pos.line X.env = pure false) (hb : OkE X N W P b eb) : OkS X N W P G (.stf i f b) (.Assign [.Attribute (.Name y np) n ap] eb pos) := by
  subst hn
  refine L2.PS.imp (ps_fld (pe_var hi hv hd hcd) hb.ev hs) fun D0 σ H ⟨Z, env, F, s, fr, h⟩ => ⟨Z, env, F, s, (PostS.post fr h).imp fun d env1 Z1 H1 F1 G1 ⟨f1, h1⟩ w ⟨fv, t⟩ => ?_⟩
  split at h1
  · rename_i x0 e0
    split at h1
    · rename_i y0 e1
      obtain ⟨v, ev, r⟩ := G1.sr.som i x0 e0
      refine ⟨v, ev, ?_⟩
      generalize hF : F1 i = f0 at r
      cases r with
      | @insO l dx c fs xs vs fp hl hlen hfs hz rr =>
        simp only [setF] at e1
        split at e1
        · rename_i hc
          cases e1
          have hcN := hI c f hc.2.2
          have key : putF (N.fld f) w ((fs.map N.fld).zip vs) = ((fs ++ [f]).map N.fld).zip (vs ++ [w]) := by
            rw [putF_new, List.map_append, List.zip_append (by rw [List.length_map]; exact hlen)]
            · rfl
            · intro p hp e
              have := (List.of_mem_zip hp).1
              obtain ⟨g, hg, eg⟩ := List.mem_map.mp this
              rw [e] at eg
              have := N.inj _ _ eg
              subst this
              exact hc.2.1 hg
          refine ⟨l, N.cls c, dx, _, rfl, hl, (hN.ins c f hcN).1.cls, (hN.ins c f hcN).2, by rw [List.length_zip, List.length_map]; omega, ?_⟩
          rw [key]
          have nd := G1.sr.nd i
          rw [hF] at nd
          obtain ⟨nl, nfp⟩ := List.nodup_cons.mp nd
          have lF : l ∈ F1 i := by rw [hF]; exact List.mem_cons_self
          have nlf : l ∉ fv := fun h => t.dj l h i lF
          have s' := G1.sr.repl (o := .ins (N.cls c) dx (((fs ++ [f]).map N.fld).zip (vs ++ [w]))) (d' := .ins true c (fs ++ [f]) (xs ++ [d])) (f' := l :: (fp ++ fv)) e0 ev lF
            (.insO upd_same (by simp [hlen]) (fun g hg => (List.mem_append.mp hg).elim (hfs g) fun h => by rw [List.mem_singleton.mp h]; exact hcN) hz ((upd_reps rr nl).app (Reps.one (upd_rep t.rep nlf))))
            (List.nodup_cons.mpr ⟨fun h => (List.mem_append.mp h).elim nl nlf, List.nodup_append.mpr ⟨nfp, t.nd, fun c hc c' hc' e => by
              subst e
              exact t.dj c hc' i (by rw [hF]; exact List.mem_cons_of_mem _ hc)⟩⟩)
            fun c hc => by
              rcases List.mem_cons.mp hc with e | h
              · exact .inl (e ▸ lF)
              · rcases List.mem_append.mp h with h | h
                · exact .inl (by rw [hF]; exact List.mem_cons_of_mem _ h)
                · exact .inr (t.dj c h)
          refine h1 σ Z1 _ _ s' (f1.mod (fx' := l :: (fp ++ fv)) ⟨i, lF⟩ (fun j c h => ?_) fun c hc => ?_)
          · split at h
            · exact .inr h
            · exact .inl h
          · rcases List.mem_cons.mp hc with e | h
            · exact f1.fr i c (e ▸ lF)
            · rcases List.mem_append.mp h with h | h
              · exact f1.fr i c (by rw [hF]; exact List.mem_cons_of_mem _ h)
              · exact fr.tmp t c h
        · cases e1
      | _ => cases e1
    · exact h1.elim
  · exact h1.elim
end
section
variable {P : Program} {w : World} {K : PySem.W.Frag} {mg : Str → Option Value} {base : Heap} {N : Nm} {Pg : Q.Pg}
/-- what a class's __init__ promises -/
def spI (K : PySem.W.Frag) (N : Nm) (n cl : Nat) (c : List D → CR) : Sp := fun vs H Q E => vs.length = n + 1 ∧ ∃ Z ds a dx us, vs = .ref a :: us ∧ Same Z H ∧ Z a = none ∧ H a = some (.ins (N.cls cl) dx []) ∧ Reps K N Z H ds us [] ∧
  match c ds with
  | .ok d => ∀ Z' H' fv, Same Z Z' → (∀ b o, b ≠ a → H b = some o → H' b = some o) → Same Z' H' → (∀ c, Z' c ≠ none → Z c ≠ none ∨ H c = none ∨ c = a) → Rep K N Z' H' d (.ref a) fv → fv.Nodup → (∀ c ∈ fv, c = a ∨ H c = none) → Q .non H'
  | .exc c fs xs => ∀ Z' H' cls dx, Same Z Z' → (∀ b o, b ≠ a → H b = some o → H' b = some o) → Same Z' H' → (∀ c, Z' c ≠ none → Z c ≠ none ∨ H c = none ∨ c = a) → ExR K N Z' H' c fs xs cls dx → E cls dx H'
  | .stuck => False
theorem spI_le {n cl : Nat} {f g : List D → CR} (h : ∀ ds, g ds ≠ .stuck → f ds = g ds) {vs : List V} {H : Hp} {Q : VK} {E : XK} (s : spI K N n cl g vs H Q E) : spI K N n cl f vs H Q E := by
  obtain ⟨h1, Z, ds, a, dx, us, e0, h2, h3, h5, h6, h4⟩ := s
  refine ⟨h1, Z, ds, a, dx, us, e0, h2, h3, h5, h6, ?_⟩
  cases e : g ds with
  | stuck => rw [e] at h4; exact h4.elim
  | ok d => rw [h ds (by rw [e]; exact fun h => nomatch h), e]; rw [e] at h4; exact h4
  | exc c fs xs => rw [h ds (by rw [e]; exact fun h => nomatch h), e]; rw [e] at h4; exact h4
theorem fn_init {F : Fn} {x qual : Str} {st : Stmt} {f : Addr} {fd : FuncData} {Nl ps : List Str} {k cl n : Nat} (FF : Fun K x qual st f fd) (S : FnScope Nl ps (defScope st)) (hi : F.init = some cl) (hn : n + 1 = ps.length) (hnp : F.np = ps.length) (hns : F.ns = Nl.length)
    (hb : ∀ (cdv : Value) (A : Around) (outer : List PySem.Env) (s : Shared) (H : Hp) (E : XK), Room k (A.deeper (envOfC qual (defScope st) s.heap.objs.size f cdv)) →
      ∀ G, OkB (cxOf (L2.CX P w) P w K mg base Nl qual (defScope st) f cdv A outer s H E) N (fun cls d _ H => E cls d H) Pg G F.body (defBody st)) : FnOk P w K mg base (L2.CX P w) (k + 1) f fd ps (spI K N n cl (runFn Pg F)) := by
  refine FF.okX S (fun vs H Q E h => h.1.trans hn) fun cdv A outer s H vs Q E hr h => ?_
  obtain ⟨hl, Z, ds, a, dx, us, rfl, zh, za, ha, r, h⟩ := h
  have hus : us.length = n := by simpa using hl
  let G : Gnd := ⟨Z, H, fun c => c = a, some (.ref a)⟩
  have sr0 := start_sr (n := F.ns - F.np) (m := F.ns - F.np) zh r rfl
  have est : L2.start Nl (V.ref a :: us) = some (.ref a) :: (us.map some ++ List.replicate (F.ns - F.np) none) := by
    simp only [L2.start, List.map_cons, List.cons_append, List.length_cons]
    rw [hns, hnp, ← hn, hus]
  have sr : SR K N Z H (some (.ins true cl [] []) :: (ds.map some ++ List.replicate (F.ns - F.np) none)) (L2.start Nl (V.ref a :: us)) (fun i => if i = 0 then [a] else []) := by
    rw [est]
    refine ⟨by simpa using sr0.len, fun i d e => ?_, fun i hh => ?_, fun i => ?_, fun i j c h1 h2 => ?_, zh⟩
    · cases i with
      | zero => cases e; exact ⟨_, rfl, .insO ha rfl (fun _ h => nomatch h) za .nil⟩
      | succ i =>
        obtain ⟨v, e1, r1⟩ := sr0.som i d (by simpa using e)
        exact ⟨v, by simpa using e1, r1⟩
    · cases i with
      | zero => exact absurd rfl (hh (.ins true cl [] []))
      | succ i => rfl
    · split
      · simp
      · exact .nil
    · split at h1
      · split at h2
        · omega
        · cases h2
      · cases h1
  have fr : Fr G (L2.start Nl (V.ref a :: us)) Z H (fun i => if i = 0 then [a] else []) := ⟨fun v hv => by cases hv; rw [est]; rfl, Same.refl _, fun _ _ _ e => e, fun _ h => .inl h, fun i c h => by
    split at h
    · exact .inr (List.mem_singleton.mp h)
    · cases h⟩
  refine ⟨_, hb cdv A outer s H E hr G, Z, _, _, sr, fr, ?_⟩
  have nz : ∀ {σ' : L2.St} {Z' H' : Hp} {F' : Nat → List Addr}, Fr G σ' Z' H' F' → Same Z Z' ∧ (∀ b o, b ≠ a → H b = some o → H' b = some o) ∧ ∀ c, Z' c ≠ none → Z c ≠ none ∨ H c = none ∨ c = a := fun {σ' Z' H' F'} f => ⟨f.zz, fun b o hb e => f.hh b o hb e, f.nz⟩
  have hc : ds.length + 1 = F.np := by rw [hnp, ← hn, r.length, hus]
  simp only [runFn, hi, hc, if_true] at h
  cases e : exec Pg F.body (some (.ins true cl [] []) :: (ds.map some ++ List.replicate (F.ns - F.np) none)) with
  | stuck => rw [e] at h; exact h.elim
  | exc c fs xs env =>
    rw [e] at h
    intro σ' Z' H' F' cls dx s' f' ex
    obtain ⟨h1, h2, h3⟩ := nz f'
    exact h Z' H' cls dx h1 h2 s'.zh h3 ex
  | ok b env =>
    rw [e] at h
    cases b with
    | nx =>
      cases env with
      | nil => exact h.elim
      | cons o env =>
        cases o with
        | none => exact h.elim
        | some d =>
          intro σ' Z' H' F' s' f'
          obtain ⟨h1, h2, h3⟩ := nz f'
          obtain ⟨v, e1, r1⟩ := s'.som 0 d rfl
          have := f'.pn (.ref a) rfl
          rw [this] at e1
          cases e1
          exact h Z' H' (F' 0) h1 h2 s'.zh h3 r1 (s'.nd 0) fun c hc => (f'.fr 0 c hc).symm
    | brk => exact h.elim
    | cont => exact h.elim
    | ret d => exact h.elim
end
section
variable {X : Cx} {CX : CXT} {k : Nat} {f C : Addr} {fd : FuncData} {ps : List Str} {sp : Sp}
/-- a class is called; what its __init__ raises is wished for at the caller's slots -/
theorem run_makeS {pins : List (Addr × Obj)} {σ : L2.St} {H : Hp} {s : Shared} {Q : VK} {us : List Value} {vs : List V} {E : XK} (M : Mk X.K C f) (F : FnOk X.prog X.w X.K X.mg X.base CX k f fd ps sp) (hr : Room (k + 1) X.A) (hb : Binds X.K fd ps []) (hx : PassesAt CX X σ E) (I : Inv X pins σ H s) (r : Vals vs us)
    (h : ∀ x dx, H x = none → H dx = none → dx ≠ x → sp (.ref x :: vs) (upd (upd H dx (.own x)) x (.ins C dx [])) (fun v H2 => v = .non ∧ Q (.ref x) H2) E) : wpAny (model X.prog X.w) X.A (call (.ref C) us) (EP X pins σ Q) X.xe s := by
  have n0 : H s.heap.objs.size = none := I.hok.fresh (Nat.le_refl _)
  have n1 : H (s.heap.objs.size + 1) = none := I.hok.fresh (Nat.le_succ _)
  have hq := h _ _ n1 n0 (Nat.ne_of_lt (Nat.lt_succ_self _))
  have J := Inv.made (C := C) I
  have rv : Vals (V.ref (s.heap.objs.size + 1) :: vs) (Value.ref (s.heap.objs.size + 1) :: us) := .cons rfl r
  have hl : (Value.ref (s.heap.objs.size + 1) :: us).length = ps.length := by rw [← rv.length]; exact F.len _ _ _ _ hq
  have b := hb _ (Value.ref (s.heap.objs.size + 1) :: us) J.kIn (by rw [List.append_nil]; exact hl)
  rw [List.append_nil] at b
  refine wpAny_call (make_map (f := f) I.kIn M.makes M.init (beq_iff_eq.mp M.fn) (codeAny_mono (F.run _ X.stack _ _ ⟨Value.ref (s.heap.objs.size + 1) :: us, []⟩ _ _ _ E (hr.make C us []) (J.env0.make C us []) b rv hq) fun r s' hq' => ?_))
  cases r with
  | error e => exact hx pins _ _ e s' J hq'
  | ok fl =>
    cases fl with
    | ret u =>
      obtain ⟨v, H', I3, rv, ev, q3⟩ := J.after hq'
      subst ev
      exact ⟨rv, ⟨V.ref (s.heap.objs.size + 1), H', I3, rfl, q3⟩⟩
    | next => exact hq'.elim
    | brk => exact hq'.elim
    | cont => exact hq'.elim
end
section
variable {X : Cx} {N : Nm} {W : WX} {P : Pg} {a b : Ex} {ea eb : Expr} {pos p : Pos} {x : Str}
theorem spI_of {K : PySem.W.Frag} {n cl : Nat} {f : List D → CR} {vs : List V} {H : Hp} {Q : VK} {E : XK} {l dx : Addr} (h : spT K N n f vs H Q E) (hl : H l = none) (hd : H dx = none) (hne : dx ≠ l) :
    spI K N n cl f (.ref l :: vs) (upd (upd H dx (.own l)) l (.ins (N.cls cl) dx [])) (fun v H2 => v = .non ∧ Q (.ref l) H2) E := by
  obtain ⟨hn, Z, ds, zh, r, h⟩ := h
  have up : ∀ c o, H c = some o → upd (upd H dx (.own l)) l (.ins (N.cls cl) dx []) c = some o := fun c o e => by rw [upd_ne (ne_of_none e hl), upd_ne (ne_of_none e hd)]; exact e
  have dn : ∀ c, upd (upd H dx (.own l)) l (.ins (N.cls cl) dx []) c = none → H c = none := fun c e => by
    cases q : H c with
    | none => rfl
    | some o => rw [up c o q] at e; cases e
  refine ⟨by rw [List.length_cons, hn], Z, ds, l, dx, vs, rfl, fun c o e => up c o (zh _ _ e), zh.free hl, upd_same, r.mono (Same.refl _) (fun _ h => nomatch h), ?_⟩
  cases e : f ds with
  | stuck => rw [e] at h; exact h.elim
  | ok d =>
    rw [e] at h
    intro Z' H' fv zz hh z2 nz rp nd nw
    exact ⟨rfl, h Z' H' _ fv zz (fun b o eb => hh b o (ne_of_none eb hl) (up b o eb)) z2 (fun c hc => (nz c hc).imp_right fun h => h.elim (dn c) fun h => h ▸ hl) rp nd fun c hc => (nw c hc).elim (fun h => h ▸ hl) (dn c)⟩
  | exc c fs xs =>
    rw [e] at h
    intro Z' H' cls d zz hh z2 nz ex
    exact h Z' H' cls d zz (fun b o eb => hh b o (ne_of_none eb hl) (up b o eb)) z2 (fun c hc => (nz c hc).imp_right fun h => h.elim (dn c) fun h => h ▸ hl) ex
structure MkT (X : Cx) (N : Nm) (P : Pg) (f n cl : Nat) (x : Str) : Prop where
  ex : ∃ (k : Nat) (fa : Addr) (fd : FuncData) (ps : List Str), Mk X.K (N.cls cl) fa ∧ FnOk X.prog X.w X.K X.mg X.base (L2.CX X.prog X.w) k fa fd ps (spI X.K N n cl (P.call f)) ∧ Room (k + 1) X.A ∧ X.mg x = some (.ref (N.cls cl)) ∧ Binds X.K fd ps []
  gl : Gl X x
  db : (x == ("__debug__" : Str)) = false
theorem e_new {f n cl : Nat} {es : List Expr} (C : MkT X N P f n cl x) (hx : ∀ σ, PassesAt (L2.CX X.prog X.w) X σ (WE W σ)) (hr : row a = true) (hn : arity a = n) (hes : es.length = arity a)
    (h1 : es.all plainE = true) (ha : OkAr X N W P a es) : OkE X N W P (.new f a) (.Call (.Name x p) es [] pos) := by
  obtain ⟨k, fa, fd, ps, M, F, hroom, hm, hb⟩ := C.ex
  have key : PE X (.Call (.Name x p) es [] pos) (fun σ H Q => tAr X.K N W (rts a) (args P a) σ H fun vs H1 => spT X.K N n (P.call f) vs H1 Q (WE W σ)) := by
    refine ⟨fun pins s σ H Q I h => ?_⟩
    refine wpAny_Call_Name_kw (ld_glob I C.gl hm ?_ C.db)
    cases es with
    | nil =>
      refine PySem.W.callWith_K0 I.kIn M.kp ?_
      obtain ⟨Z, env, F0, s0, h0⟩ := h
      cases a with
      | nil =>
        have h2 := h0 Z H F0 (Go.refl s0) [] [] ⟨fun _ h => (nomatch h), fun _ h => (nomatch h), fun _ h => (nomatch h), [], rfl, .nil⟩
        exact run_makeS (us := []) (vs := []) M F hroom hb (hx σ) I .nil fun l dx hl hd hne => spI_of h2 hl hd hne
      | cons e r => cases hes
      | _ => cases hr
    | cons ea es =>
      rw [List.all_cons, Bool.and_eq_true] at h1
      refine PySem.W.callWith_K (h₀ := X.base) I.ok.mod.kin M.kp (thn (ha.run pos pins s σ H _ I h) fun us s1 ⟨vs, H1, I1, r, q⟩ => ⟨I1.kIn, ?_⟩) (star_cons h1.1) (star_any h1.2)
      exact run_makeS M F hroom hb (hx σ) I1 r fun l dx hl hd hne => spI_of q hl hd hne
  refine L2.PE.imp key fun σ H Q ⟨Z, env, Fr, s, h⟩ => ⟨Z, env, Fr, s, (post_ok (Post.base h)).imp fun q env1 Z1 H1 F1 G1 ⟨eq, h1⟩ vs S ar => ?_⟩
  exact call_post G1 ar (by rw [← ar.length, args_len hr eq, hn]) h1
structure IniOk (P : Program) (w : World) (K : PySem.W.Frag) (mg : Str → Option Value) (base : Heap) (N : Nm) (Pg : Q.Pg) (k f n cl : Nat) (x : Str) : Prop where
  ex : ∃ (fa : Addr) (fd : FuncData) (ps : List Str), Mk K (N.cls cl) fa ∧ FnOk P w K mg base (L2.CX P w) k fa fd ps (spI K N n cl (Pg.call f)) ∧ mg x = some (.ref (N.cls cl)) ∧ Binds K fd ps []
theorem mk_of {k f n cl : Nat} (D : IniOk X.prog X.w X.K X.mg X.base N P k f n cl x) (hr : Room (k + 1) X.A) (hg : Gl X x) (hd : (x == ("__debug__" : Str)) = false) : MkT X N P f n cl x := by
  obtain ⟨fa, fd, ps, h1, h2, h3, h4⟩ := D.ex
  exact ⟨⟨k, fa, fd, ps, h1, h2, hr, h3, h4⟩, hg, hd⟩
/-- a method as its callers see it -/
structure MetOk (P : Program) (w : World) (K : PySem.W.Frag) (mg : Str → Option Value) (base : Heap) (N : Nm) (Pg : Q.Pg) (k m n : Nat) (x : Str) : Prop where
  ex : ∃ (c f : Nat) (fa : Addr) (fd : FuncData) (ps : List Str), ps.length = n + 1 ∧ (∀ c' f', Pg.mth c' m = some f' → c' = c ∧ f' = f) ∧ Cls K (N.cls c) ∧ Meth K (N.cls c) x fa ∧ FnOk P w K mg base (L2.CX P w) k fa fd ps (spT K N (n + 1) (Pg.call f)) ∧ Binds K fd ps [] ∧ ∀ g, N.insF c g = true → N.fld g ≠ x
theorem met_of {k m n : Nat} (D : MetOk X.prog X.w X.K X.mg X.base N P k m n x) (hr : Room k X.A) : MetT X N P m n x := by
  obtain ⟨c, f, fa, fd, ps, h1, h2, h3, h4, h5, h6, h7⟩ := D.ex
  exact ⟨⟨k, c, f, fa, fd, ps, h1, h2, h3, h4, h5, hr, h6, h7⟩⟩
end
end Q
end
section
set_option linter.all false
set_option autoImplicit false
set_option maxHeartbeats 1000000
/-! for x in xs: x.append(e), xs a list of lists of one's own. -/
namespace Q
open PySem PySem.Spec PyProof.Rows L2
section
variable {X : Cx} {N : Nm} {P : Pg} {W : WX} {G : Gnd} {x : Str} {p pos : Pos}
/-- a slot of which nothing is known takes anything -/
theorem SR.any {K : PySem.W.Frag} {Z H : Hp} {env : Env} {σ : L2.St} {F : Nat → List Addr} {c : Nat} {v : Option V} (s : SR K N Z H env σ F) (h : env[c]? = some none) : SR K N Z H env (σ.set c v) F :=
  ⟨by rw [List.length_set]; exact s.len, fun i d e => by
    have : i ≠ c := fun z => by rw [z, h] at e; cases e
    rw [List.getElem?_set_ne (Ne.symm this)]
    exact s.som i d e, s.non, s.nd, s.dj, s.zh⟩
theorem Fr.any {Z H : Hp} {F : Nat → List Addr} {σ : L2.St} {c : Nat} {v : Option V} (f : Fr G σ Z H F) (h0 : ¬ Np G → c ≠ 0) : Fr G (σ.set c v) Z H F :=
  ⟨fun u hu => by
    have : c ≠ 0 := h0 fun h => by rw [h] at hu; cases hu
    rw [List.getElem?_set_ne this]
    exact f.pn u hu, f.zz, f.hh, f.nz, f.fr⟩
theorem all_set {xs : List D} {i : Nat} {d : D} (h : xs.all ownL = true) (hd : ownL d = true) : (xs.set i d).all ownL = true :=
  List.all_eq_true.mpr fun y hy => by
    rcases List.mem_or_eq_of_mem_set hy with hy | rfl
    · exact List.all_eq_true.mp h y hy
    · exact hd
theorem modD_all {α : Type} {g : List D → Option (α × List D)} {i : Int} {xs : List D} {r : α} {d' : D} (h : modD (atOwn g) [.int i] (.lst true xs) = some (r, d')) (ha : xs.all ownL = true) : ∃ xs', d' = .lst true xs' ∧ xs'.length = xs.length ∧ xs'.all ownL = true := by
  simp only [modD, Option.bind_eq_some_iff, Option.map_eq_some_iff] at h
  obtain ⟨j, e1, y, e2, p, e3, e4⟩ := h
  cases e4
  refine ⟨_, rfl, by simp, all_set ha ?_⟩
  unfold atOwn at e3
  split at e3
  · simp only [Option.map_eq_some_iff] at e3
    obtain ⟨q, _, e⟩ := e3
    subst e
    rfl
  · cases e3
theorem reps_at {K : PySem.W.Frag} {Z H : Hp} : ∀ {xs : List D} {vs : List V} {f : List Addr} {i : Nat} {d : D}, Reps K N Z H xs vs f → xs[i]? = some d → ∃ v fi, vs[i]? = some v ∧ Rep K N Z H d v fi
  | _, _, _, 0, _, .cons r _, e => by cases e; exact ⟨_, _, rfl, r⟩
  | _, _, _, i + 1, _, .cons _ t, e => reps_at (i := i) t e
theorem s_forA {i h : Nat} {cn hn : Str} {e : Ex} {ee : Expr} {d : D} {p1 p2 p3 p4 p5 p6 : Pos} (hd : ∀ env, ev P e env = .ok d env) (hp : PassesOwn (model X.prog X.w) X.A X.env X.xe) (hc : X.calm = true) (hN : X.N.Nodup)
    (hi : X.N[i]? = some cn) (hh : X.N[h]? = some hn) (hx : Loc X.env.scope cn) (hv : Vis X.env.scope cn) (hvh : Vis X.env.scope hn) (hf : X.fn cn = true ∨ X.env.scope.names.lookup cn = some .local)
    (hd1 : (cn == ("__debug__" : Str)) = false) (hd2 : (cn == ("__classdict__" : Str)) = false) (hd3 : (hn == ("__debug__" : Str)) = false) (hd4 : (hn == ("__classdict__" : Str)) = false) (h0 : ¬ Np G → i ≠ 0) (hl : (p4.endLine == p5.line) = true) (h1 : plainE ee = true)
    (he : OkE X N W P e ee) (hs : ∀ x, foldedSetIterable (.Name hn p2) X.env x = pure x) :
    OkS X N W P G (.forA i h e) (.For (.Name cn p1) (.Name hn p2) [.Expr (.Call (.Attribute (.Name cn p3) "append" p4) [ee] [] p5) p6] [] pos) :=
  L2.PS.imp (ps_for hp hc (pi_list (pe_var hh hvh hd3 hd4)) (pg_name hN hi hx hf) (pss_one (ps_expr (pe_mut PySem.F.slot_list_append PySem.F.type_list_append mt_append hl (by rfl) (by simp [h1]) (Nat.lt_of_sub_eq_succ rfl) (pe_var hi hv hd1 hd2) (pa_cons he.ev pa_nil (star_cons h1))))) hs) fun D0 σ H ⟨Z, env, F, sr, fr, hpost⟩ => by
    simp only [exec] at hpost
    split at hpost
    · rename_i xs exs
      split at hpost
      · rename_i hcond
        obtain ⟨hci, hne, hall⟩ := hcond
        obtain ⟨v, ev, rp⟩ := sr.som h _ exs
        obtain ⟨fp0, hfp0⟩ : ∃ f, f = F h := ⟨_, rfl⟩
        rw [← hfp0] at rp
        cases rp with
        | @lstO a vs _ _ hl hz rr =>
          have g := sr.gone (i := i)
          refine ⟨.ref a, ev, a, rfl, ⟨vs, SqL.of hl⟩, ?_⟩
          refine ⟨fun k m σ H => m = xs.length - k ∧ k ≤ xs.length ∧ ∃ Zk envk Fk xk, SR X.K N Zk H envk σ Fk ∧ Fr G σ Zk H Fk ∧ envk[h]? = some (some (.lst true xk)) ∧ xk.length = xs.length ∧ xk.all ownL = true ∧ envk[i]? = some none ∧ σ[h]? = some (some (.ref a)) ∧
            PostS X.K N W G D0 (loop (appA (Q.ev P e) h) ((List.range' k (xs.length - k)).map fun (j : Nat) => D.int (j : Int)) envk), ⟨xs.length, by simp, Nat.zero_le _, Z, env.set i none, _, xs, g.sr, fr.go g, by rw [List.getElem?_set_ne hne]; exact exs, rfl, hall, List.getElem?_set_self hci, ev, by rw [Nat.sub_zero, ← List.range_eq_range']; exact hpost⟩, ?_⟩
          rintro k m σ Hk ⟨rfl, hk, Zk, envk, Fk, xk, sk, fk, ek, lk, ak, ck, vk, hpost⟩
          obtain ⟨v', e', rk⟩ := sk.som h _ ek
          rw [vk] at e'
          cases e'
          obtain ⟨fpk, hfpk⟩ : ∃ f, f = Fk h := ⟨_, rfl⟩
          rw [← hfpk] at rk
          cases rk with
          | @lstO _ vs' _ _ hlk hzk rrk =>
            have len := rrk.length
            by_cases hlt : k < xs.length
            · have hlv : k < vs'.length := by omega
              refine .inr ⟨⟨vs', vs'[k], SqL.of hlk, List.getElem?_eq_getElem hlv⟩, fun σ' H' => ∃ Z' env' F' x', SR X.K N Z' H' env' σ' F' ∧ Fr G σ' Z' H' F' ∧ env'[h]? = some (some (.lst true x')) ∧ x'.length = xs.length ∧ x'.all ownL = true ∧ env'[i]? = some none ∧ σ'[h]? = some (some (.ref a)) ∧
                PostS X.K N W G D0 (loop (appA (Q.ev P e) h) ((List.range' (k + 1) (xs.length - (k + 1))).map fun (j : Nat) => D.int (j : Int)) env'), fun σ' H' ⟨Z', env', F', x', q⟩ => ⟨xs.length - (k + 1), by omega, rfl, hlt, Z', env', F', x', q⟩, fun x H' hy => ?_⟩
              obtain ⟨rfl, hy⟩ := hy
              have hx := hy vs' (SqL.of hlk)
              have hxk : xk[k]? = some xk[k] := List.getElem?_eq_getElem (by omega)
              obtain ⟨w, fi, hw, ri⟩ := reps_at rrk hxk
              rw [hx] at hw
              cases hw
              have hown : ownL xk[k] = true := List.all_eq_true.mp ak _ (List.getElem_mem _)
              obtain ⟨y, hyk⟩ : ∃ y, y = xk[k] := ⟨_, rfl⟩
              rw [← hyk] at ri hown
              have hli : ∃ li ws, x = .ref li ∧ H' li = some (.lst ws) := by
                unfold ownL at hown
                split at hown
                · cases ri with
                  | lstO hl _ _ => exact ⟨_, _, rfl, hl⟩
                · cases hown
              obtain ⟨li, ws, rfl, hli⟩ := hli
              have hil : i < σ.length := by rw [← sk.len]; exact (List.getElem?_eq_some_iff.mp ck).1
              have s2 := sk.any (v := some (.ref li)) ck
              have f2 := fk.any (c := i) (v := some (.ref li)) h0
              have erange : (List.range' k (xs.length - k)).map (fun (j : Nat) => D.int (j : Int)) = D.int k :: (List.range' (k + 1) (xs.length - (k + 1))).map fun (j : Nat) => D.int (j : Int) := by
                rw [show xs.length - k = (xs.length - (k + 1)) + 1 by omega, List.range'_succ, List.map_cons]
              rw [erange] at hpost
              have hp2 : PostS X.K N W G D0 ((modE (atOwn (fApp d)) h [.int k] envk).bind fun _ env => loop (appA (Q.ev P e) h) ((List.range' (k + 1) (xs.length - (k + 1))).map fun (j : Nat) => D.int (j : Int)) env) := by
                simp only [loop, appA, hd, R.bind_assoc] at hpost
                exact hpost
              refine ⟨.ref li, List.getElem?_set_self hil, ty_list hli, Zk, envk, Fk, s2, ?_⟩
              rw [hd]
              intro Z2 H2 F2 G2 v ⟨fv, t⟩
              obtain ⟨d0, r, d', e0, em, h1'⟩ := modE_of hp2
              rw [ek] at e0
              cases e0
              obtain ⟨xs', rfl, lx', ax'⟩ := modD_all em ak
              obtain ⟨l', ws', ys0, ys', fx, e, hl', hlF, rr', eg, nd, nl, hfx, kk⟩ := G2.sr.mod ek (by rw [List.getElem?_set_ne hne]; exact vk) (.cons (G2.hh _ _ hlk) (L2.atI_nat hx) .nil) em
              cases e
              simp only [fApp] at eg
              split at eg
              · rename_i hlen
                cases eg
                have nlf : li ∉ fv := fun h => let ⟨j, hj⟩ := hlF; t.dj li h j hj
                obtain ⟨F', s', hF, _⟩ := kk (vs' := ws' ++ [v]) (fx' := fx ++ fv) ((upd_reps rr' nl).app (Reps.one (upd_rep t.rep nlf))) (List.nodup_append.mpr ⟨nd, t.nd, fun c hc c' hc' e => by
                  subst e
                  obtain ⟨j, hj⟩ := hfx c hc
                  exact t.dj c hc' j hj⟩) (fun h => (List.mem_append.mp h).elim nl nlf) fun c hc => (List.mem_append.mp hc).imp_right fun h => t.dj c h
                refine ⟨li, ws', v, rfl, rfl, hl', by rw [← rr'.length, ← line_eq]; exact hlen, Z2, envk.set h (some (.lst true xs')), F', xs', s', (f2.go G2).mod hlF hF fun c hc => (List.mem_append.mp hc).elim (fun h => let ⟨j, hj⟩ := hfx c h; (f2.go G2).fr j c hj) fun h => f2.tmp t c h, List.getElem?_set_self (List.getElem?_eq_some_iff.mp ek).1, by omega, ax', by rw [List.getElem?_set_ne (Ne.symm hne)]; exact ck, by rw [List.getElem?_set_ne hne]; exact vk, h1'⟩
              · cases eg
            · refine .inl ⟨⟨vs', SqL.of hlk, by omega⟩, ?_⟩
              rw [show xs.length - k = 0 by omega] at hpost
              exact hpost σ Zk Hk Fk sk fk
      · exact hpost.elim
    · exact hpost.elim
end
end Q
end
section
set_option linter.all false
set_option autoImplicit false
set_option maxHeartbeats 1000000
/-! list(range(n)). -/
namespace Q
open PySem PySem.Spec PyProof.Rows L2
section
variable {X : Cx} {N : Nm} {P : Pg} {W : WX} {a : Ex} {ea : Expr} {p pos pos' : Pos}
theorem reps_rg {K : PySem.W.Frag} {Z H : Hp} (i j : Int) : Reps K N Z H (ranges i j) (rgV i j) [] := by
  unfold ranges rgV
  generalize List.range (j - i).toNat = l
  induction l with
  | nil => exact .nil
  | cons k l ih => exact .cons (.int _) ih
theorem e_lisR {p2 : Pos} (hc : X.calm = true) (hg : Gl X "list") (hm : X.mg "list" = none) (hg2 : Gl X "range") (hm2 : X.mg "range" = none) (h1 : plainE ea = true) (ha : OkE X N W P a ea) :
    OkE X N W P (.lisR a) (.Call (.Name "list" p) [.Call (.Name "range" p2) [ea] [] pos'] [] pos) :=
  L2.PE.imp (pe_listRg hc hg hm (prg_1 hg2 hm2 ha (star_cons h1)) (star_cons rfl)) fun σ H Q ⟨Z, env, F, s, h⟩ => ⟨Z, env, F, s, (Post.bind h).imp fun x env1 Z1 H1 F1 G1 h1 v rv => by
    obtain ⟨d, e, h1⟩ := Post.noneR h1
    cases x with
    | int n =>
      have := rv.ct.int'
      subst this
      simp only [lisRD] at e
      split at e
      · rename_i hb
        cases e
        exact ⟨n, rfl, ⟨by omega, by omega, by omega, by omega, by omega⟩, fun q hq => fin_list G1 (reps_rg _ _) h1 hq⟩
      · cases e
    | _ => cases e⟩
end
end Q
end
section
set_option linter.all false
set_option autoImplicit false
set_option maxHeartbeats 1000000
/-! except .. as e: kept = e. The thing that was raised is tracked from then on. -/
namespace Q
open PySem PySem.Spec PyProof.Rows L2
section
variable {X : Cx} {pins : List (Addr × Obj)} {σ : L2.St} {H : Hp} {s : Shared}
theorem frs_env {l : PySem.Env} {r : List PySem.Env} {L : Addr} (hf : l.frame = some L) {b : Addr} (h1 : b ≠ L) (h2 : b ∉ frs r) : b ∉ frs (l :: r) := fun hm => by
  obtain ⟨e, he, q⟩ := List.mem_filterMap.mp hm
  rcases List.mem_cons.mp he with rfl | he
  · rw [hf] at q; cases q; exact h1 rfl
  · exact h2 (List.mem_filterMap.mpr ⟨e, he, q⟩)
/-- an exception's object is tracked -/
theorem track {a : Addr} {oe : Obj} {vs : Array Value} {cls : Value} {d : Option Addr} (I : Inv X pins σ H s) (he : s.heap.get? a = some oe) (hz : Zc cls d oe) (hd : oe.data = .fields vs) (na : H a = none) (nL : a ≠ X.env.locals)
    (np : ∀ p ∈ X.pn ++ pins, p.1 ≠ a) (n0 : a ∈ X.ex ∨ X.s_0.heap.get? a = none) : Inv X pins σ (upd H a (exHO cls d a)) s := by
  have off : ∀ {b : Addr} {o : HO}, H b = some o → b ≠ a := fun e z => by rw [z, na] at e; cases e
  refine ⟨I.ok, I.os, I.bare, ⟨I.base.keep, I.base.slot, fun b o q n hx => ?_, I.base.there, fun b xs e => ?_, fun b o u e => ?_, fun b ps e => ?_⟩, I.loc, I.cell, ?_, fun x c e => ?_, fun p hp => ?_, fun b o e => ?_, I.len⟩
  · have : b ≠ a := fun z => by
      subst z
      rcases n0 with n0 | n0
      · exact hx n0
      · rw [n0] at q; cases q
    rw [upd_ne this]
    exact I.base.free b o q n hx
  · have h := I.base.tups b xs e
    rw [upd_ne (off h)]; exact h
  · have h := I.base.frzs b o u e
    rw [upd_ne (off h)]; exact h
  · obtain ⟨m, h⟩ := I.base.tbls b ps e
    exact ⟨m, by rw [upd_ne (off h)]; exact h⟩
  · rw [upd_ne nL.symm]; exact I.free
  · have : c ≠ a := fun z => by
      subst z
      obtain ⟨v, o, ho, hdd⟩ := I.cell x c e
      rw [he] at ho; cases ho
      rw [hd] at hdd; cases hdd
    rw [upd_ne this]; exact I.freeC x c e
  · obtain ⟨h1, h2, h3⟩ := I.pin p hp
    exact ⟨h1, by rw [upd_ne (np p hp)]; exact h2, h3⟩
  · by_cases hb : b = a
    · subst hb
      rw [upd_same] at e
      cases e
      exact ⟨⟨oe, vs, he, hz, hd⟩, ⟨oe, he⟩, fun h1 h2 ⟨o1, w1, e1, z1, d1⟩ k => ⟨o1, w1, k _ e1, z1, d1⟩⟩
    · rw [upd_ne hb] at e
      exact (I.hok b o e).stay (fun c u _ q => q) (fun q => by
        first
          | exact fun z => (upd_ne (off z)).trans z
          | (rw [upd_ne (off q)]; exact q)) fun c xs q => (upd_ne (off q)).trans q
end
/-- what the body's exceptions are asked -/
def wKeep (K : PySem.W.Frag) (c : Value) (i j : Nat) (Wout : WX) (D : Ends) : WX := fun cls d σ H =>
  ∃ b, PySem.W.exmOne K cls c = some b ∧ (b = true → ∀ a, H a = none → D.nx (((σ.set i (some (.ref a))).set j (some (.ref a))).set i none) (upd H a (exHO cls d a))) ∧ (b = false → Wout cls d σ H)
section
variable {X : Cx} {x n m : Str} {c : Value} {i j : Nat} {body : List Stmt} {np p1 p2 p3 pos pos' : Pos} {tb : WX → TS} {Wout : WX}
theorem ps_try_keep (hs : X.stack = X.env :: X.outer) (hf : X.env.frame = some X.env.locals) (hN : X.N.Nodup) (hi : X.N[i]? = some n) (hj : X.N[j]? = some m) (hln : X.env.kindOf n = some .local) (hlm : X.env.kindOf m = some .local) (hc : Names X x c) (tk : Takes X Wout)
    (hdn : (n == ("__debug__" : Str)) = false) (hcn : (n == ("__classdict__" : Str)) = false)
    (hsw : swapsWith (.Name n p2) (some (.Name m p1)) p3.line X.env = pure false) (hfm : X.fn m = true ∨ X.env.scope.names.lookup m = some .local)
    (hb : ∀ (W : WX) (pn : List (Addr × Obj)) (xe : Value → Shared → Prop), Takes (X.tr pn xe) W → PassesOwn (model X.prog X.w) X.A X.env xe → PSs (X.tr pn xe) body (tb W)) :
    PS X (.Try body [.ExceptHandler (some (.Name x np)) (some n) [.Assign [.Name m p1] (.Name n p2) p3] pos'] [] [] pos) (fun D σ H => tb (wKeep X.K c i j Wout D) D σ H) := by
  constructor
  intro pins s σ H D I h
  have okX := I.ok
  have frame1 : X.A.frames = some (X.env :: X.outer) := okX.frames.trans (by rw [hs])
  apply wpAny_Try_except
  -- what an exception of the body comes to
  have run := (hb (wKeep X.K c i j Wout D) (X.pn ++ pins) (fun e s₁ => wpAny (model X.prog X.w) X.A (noteFrame e X.env) (fun _ s₂ => wpAny (model X.prog X.w) X.A (setFlight e none) (fun _ s₃ =>
    wpAny (model X.prog X.w) X.A (handleBy e X.env [.ExceptHandler (some (.Name x np)) (some n) [.Assign [.Name m p1] (.Name n p2) p3] pos']) (SP X pins D) X.xe s₃) X.xe s₂) X.xe s₁)
    (fun u s' caught => ?_) PassesOwn.looking).run [] s σ H D (I.toTry _) h
  · refine wpAny_mono run (fun f s1 hsp => ?_) (fun _ _ he => he)
    cases f with
    | next => obtain ⟨σ', H', J', q⟩ := hsp; exact wpAny_execs_nil ⟨σ', H', J'.ofTry okX, q⟩
    | brk => obtain ⟨σ', H', J', q⟩ := hsp; exact ⟨σ', H', J'.ofTry okX, q⟩
    | cont => obtain ⟨σ', H', J', q⟩ := hsp; exact ⟨σ', H', J'.ofTry okX, q⟩
    | ret u => obtain ⟨v, σ', H', J', r, q⟩ := hsp; exact ⟨v, σ', H', J'.ofTry okX, r, q⟩
  · obtain ⟨a, B, sI, pins', σ', H', cls, d, rfl, J', ground, up, sky, na, os, ag, b, hb1, hyes, hno⟩ := caught
    have J : Inv X pins σ' H' sI := J'.ofTry okX
    rw [hs] at ground sky
    show wpAny (model X.prog X.w) X.A (noteFrame (.ref a) X.env) _ _ _
    refine Sky.land Zc.steady frame1 hf sky fun h3 fl3 up3 => ?_
    have J3 : Inv X pins σ' H' { s' with heap := h3 } := J.landed (by rw [hs]; exact ground) fl3.1 (up.trans up3) os ag
    obtain ⟨oe3, vs3, he3, hz3, hd3⟩ := fl3.there
    have offFrames : a ∉ frs (X.env :: X.outer) := fun hm => by
      obtain ⟨_, o', e', hnf⟩ := fl3.2.2.1.mem hm
      rw [he3] at e'; cases e'
      exact hnf _ hd3
    have nL : a ≠ X.env.locals := fun z => offFrames (List.mem_filterMap.mpr ⟨X.env, List.mem_cons_self, by rw [hf, z]⟩)
    have nF : a ∉ X.fs := fun hm => by
      obtain ⟨e, he, q⟩ := List.mem_filterMap.mp hm
      exact offFrames (List.mem_filterMap.mpr ⟨e, List.mem_cons_of_mem _ he, q⟩)
    -- it is no thing of before
    have notOld : ∀ o, sI.heap.get? a = some o → False := fun o q => by
      have := ground a o q offFrames
      rw [fl3.2.1] at this; cases this
    have n0 : a ∈ X.ex ∨ X.s_0.heap.get? a = none := by
      by_cases hx : a ∈ X.ex
      · exact .inl hx
      · cases q : X.s_0.heap.get? a with
        | none => exact .inr rfl
        | some o =>
          obtain ⟨o', q'⟩ := J.base.there a o q hx
          exact (notOld o' q').elim
    have np' : ∀ p ∈ X.pn ++ pins, p.1 ≠ a := fun p hp z => by
      obtain ⟨q, _⟩ := J.pin p hp
      rw [z] at q
      exact notOld _ q
    have S3 := J3.suite he3 hd3 na nL nF
    refine wpAny_handleBy_cons (codeAny_handlers_test ?_) (by intro q; cases q)
    have typ : PySem.W.Looks (model X.prog X.w) h3 (typeOf (.ref a)) cls := fun A Q E s k q => wpAny_typeOf_ref (k _ _ he3) (by rw [hz3.1]; exact q)
    have asked := PySem.W.exm_one (M := model X.prog X.w) (J3.kIn) typ hb1
    have named : ∀ {Q : Value → Shared → Prop} {E : Value → Shared → Prop}, Q c { s' with heap := h3 } → wpAny (model X.prog X.w) (X.A.mark (some (.ref a))) (eval (.Name x np) X.env) Q E { s' with heap := h3 } := fun {Q E} q => by
      obtain ⟨hg, hdbg, hm | ⟨hm, hv, hnn⟩⟩ := hc
      · exact ld_glob (X := X.suite a ((a, oe3) :: (X.pn ++ pins))) S3 hg hm q hdbg
      · exact ld_blt (X := X.suite a ((a, oe3) :: (X.pn ++ pins))) S3 hg hm hv q hnn hdbg
    refine named (asked.here ?_)
    cases b with
    | true =>
      refine codeAny_handlers_suite_as ?_
      refine HandSPX.lands_againZ fl3 fun h4 fl4 up4 => ?_
      have J4 : Inv X pins σ' H' { s' with heap := h4 } := J.landed (by rw [hs]; exact ground) fl4.1 ((up.trans up3).trans up4) os ag
      obtain ⟨oe4, vs4, he4, hz4, hd4⟩ := fl4.there
      have S4 := J4.suite he4 hd4 na nL nF
      refine store_ok (X := X.suite a ((a, oe4) :: (X.pn ++ pins))) (v := .ref a) S4 hN hi (.inl hln) rfl (fun s5 S5 => ?_) (.inr hln)
      have hil : i < σ'.length := by rw [J.len]; exact (List.getElem?_eq_some_iff.mp hi).1
      have keep : PS (X.suite a ((a, oe4) :: (X.pn ++ pins))) (.Assign [.Name m p1] (.Name n p2) p3) (tAsg (tVar i) (gName j)) := ps_set hN hj (.inl hlm) (pe_var hi (.inl hln) hdn hcn) hsw hfm
      refine wpAny_mono ((pss_one keep).run [] s5 _ H' { nx := fun σ6 H6 => σ6 = (σ'.set i (some (.ref a))).set j (some (.ref a)) ∧ H6 = H', rt := fun _ _ => False, bk := fun _ _ => False, ct := fun _ _ => False } S5 ⟨.ref a, List.getElem?_set_self hil, rfl, rfl⟩) (fun f s6 hsp => ?_) (fun _ _ z => False.elim z)
      cases f with
      | next =>
        obtain ⟨σ6, H6, S6, rfl, rfl⟩ := hsp
        have he6 := (S6.pin (a, oe4) (List.mem_append_left _ List.mem_cons_self)).1
        have J6 := track (S6.unsuite okX) he6 hz4 hd4 na nL np' n0
        exact gone_ok J6 hN hi hln fun s7 J7 => ⟨_, _, J7, hyes rfl a na⟩
      | brk => obtain ⟨_, _, _, z⟩ := hsp; exact z.elim
      | cont => obtain ⟨_, _, _, z⟩ := hsp; exact z.elim
      | ret u => obtain ⟨_, _, _, _, _, z⟩ := hsp; exact z.elim
    | false =>
      show wpAny _ X.A (handleBy (.ref a) X.env []) _ _ _
      refine wpAny_handleBy_nil ?_
      obtain ⟨_, _, _, oe, vs, T, oT, ts', he, _, hd, h1, _⟩ := id fl3
      unfold PySem.passOn
      refine wpAny_bind (wpAny_field he hd h1 ?_)
      rw [if_neg (show ¬ ((Value.ref T == Value.none) = true) from by simp)]
      have out : wpAny (model X.prog X.w) X.A (setFlight (.ref a) X.env.frame) (fun _ s4 => wpAny (model X.prog X.w) X.A (throw (.ref a) : Sem Flow) (SP X pins D) X.xe s4) X.xe { s' with heap := h3 } := by
        rw [hf]
        refine HandSPX.setFlight_upZ fl3 fun h4 held up4 => wpAny_throw (tk _ _ ?_)
        exact ⟨a, B, sI, pins, σ', H', cls, d, rfl, J, by rw [hs]; exact ground, (up.trans up3).trans up4, .inr (.inr (by rw [hs]; exact held)), na, os, ag, hno rfl⟩
      first
        | exact wpAny_bind (wpAny_pure (wpAny_bind out))
        | exact wpAny_bind out
end
end Q
end
section
set_option linter.all false
set_option autoImplicit false
set_option maxHeartbeats 1000000
/-! try: .. except x as n: m = n -/
namespace Q
open PySem PySem.Spec PyProof.Rows L2
theorem SR.clr {K : PySem.W.Frag} {N : Nm} {Z H : Hp} {env : Env} {σ : L2.St} {F : Nat → List Addr} (s : SR K N Z H env σ F) (i : Nat) : SR K N Z H (env.set i none) (σ.set i none) (fun k => if k = i then [] else F k) := by
  refine ⟨by rw [List.length_set, List.length_set]; exact s.len, fun k d e => ?_, fun k h => ?_, fun k => ?_, fun k l c h1 h2 => ?_, s.zh⟩
  · by_cases q : k = i
    · subst q
      by_cases hl : k < env.length
      · rw [List.getElem?_set_self hl] at e; cases e
      · rw [List.getElem?_eq_none (by rw [List.length_set]; omega)] at e; cases e
    · rw [List.getElem?_set_ne (Ne.symm q)] at e ⊢
      rw [if_neg q]
      exact s.som k d e
  · by_cases q : k = i
    · rw [if_pos q]
    · rw [if_neg q]
      exact s.non k fun d e => h d (by rw [List.getElem?_set_ne (Ne.symm q)]; exact e)
  · by_cases q : k = i
    · rw [if_pos q]; exact List.nodup_nil
    · rw [if_neg q]; exact s.nd k
  · by_cases q1 : k = i
    · rw [if_pos q1] at h1; cases h1
    · rw [if_neg q1] at h1
      by_cases q2 : l = i
      · rw [if_pos q2] at h2; cases h2
      · rw [if_neg q2] at h2; exact s.dj k l c h1 h2
section
variable {X : Cx} {N : Nm} {W : WX} {P : Pg} {G : Gnd} {b : St} {x n m : Str} {c i j : Nat} {body : List Stmt} {np p1 p2 p3 pos pos' : Pos}
theorem s_tryA (hs : X.stack = X.env :: X.outer) (hf : X.env.frame = some X.env.locals) (hN : X.N.Nodup) (hi : X.N[i]? = some n) (hj : X.N[j]? = some m) (hln : X.env.kindOf n = some .local) (hlm : X.env.kindOf m = some .local) (hc : Names X x (.ref (N.cls c))) (tk : Takes X W)
    (hdn : (n == ("__debug__" : Str)) = false) (hcn : (n == ("__classdict__" : Str)) = false)
    (hsw : swapsWith (.Name n p2) (some (.Name m p1)) p3.line X.env = pure false) (hfm : X.fn m = true ∨ X.env.scope.names.lookup m = some .local)
    (h0 : ¬ Np G → i ≠ 0 ∧ j ≠ 0) (hX : ∀ k fs, P.excF k = some fs → N.excF k = some fs ∧ PySem.W.exmOne X.K (.ref (N.cls k)) (.ref (N.cls c)) = some (P.sub k c))
    (hb : ∀ (W : WX) (pn : List (Addr × Obj)) (xe : Value → Shared → Prop), Takes (X.tr pn xe) W → PassesOwn (model X.prog X.w) X.A X.env xe → OkB (X.tr pn xe) N W P G b body) :
    OkS X N W P G (.tryA c i j b) (.Try body [.ExceptHandler (some (.Name x np)) (some n) [.Assign [.Name m p1] (.Name n p2) p3] pos'] [] [] pos) :=
  L2.PS.imp (ps_try_keep hs hf hN hi hj hln hlm hc tk hdn hcn hsw hfm (tb := fun W => tS X.K N W G (exec P b)) fun W pn xe t q => hb W pn xe t q) fun D0 σ H ⟨Z, env, F, s, fr, h⟩ => ⟨Z, env, F, s, fr, by
    simp only [exec] at h
    cases e : exec P b env with
    | ok r env' => rw [e] at h; cases r <;> exact h
    | stuck => rw [e] at h; exact h.elim
    | exc k fs vs env' =>
      rw [e] at h
      simp only at h
      split at h
      · rename_i hx
        obtain ⟨hx1, hx2⟩ := hX k fs hx
        intro σ1 Z1 H1 F1 cls dx s1 f1 ex
        obtain ⟨rfl, ex⟩ := ex
        refine ⟨P.sub k c, hx2, fun hsub a na => ?_, fun hsub => ?_⟩
        · rw [if_pos hsub] at h
          split at h
          · rename_i hij
            obtain ⟨hil, hjl, hne⟩ := hij
            have g := Go.newZ (o := exHO (.ref (N.cls k)) dx a) s1 na
            have rep : Rep X.K N (upd Z1 a (exHO (.ref (N.cls k)) dx a)) (upd H1 a (exHO (.ref (N.cls k)) dx a)) (.exc k fs vs) (.ref a) [] := by
              rcases ex with ⟨d, ws, rfl, h1, h2, h3⟩ | ⟨rfl, rfl, rfl⟩
              · have : d ≠ a := fun z => by
                  subst z
                  have := s1.zh _ _ h1
                  rw [na] at this; cases this
                exact .exc upd_same ((upd_ne this).trans h1) h2 hx1 (h3.mono g.zz fun c hc => nomatch hc)
              · exact .excN upd_same hx1
            have s2 := (g.sr.put hjl rep List.nodup_nil fun c hc => nomatch hc).clr i
            have eσ : ((σ1.set i (some (V.ref a))).set j (some (V.ref a))).set i none = (σ1.set j (some (V.ref a))).set i none := by
              rw [List.set_comm (i := i) (j := j) _ _ hne, List.set_set]
            rw [eσ]
            have f2 := f1.go g
            refine h _ _ _ _ s2 ⟨fun v hv => ?_, f2.zz, f2.hh, f2.nz, fun l c hc => ?_⟩
            · obtain ⟨h1, h2⟩ := h0 fun z => by rw [z] at hv; cases hv
              rw [List.getElem?_set_ne h1, List.getElem?_set_ne h2]
              exact f2.pn v hv
            · by_cases q : l = i
              · rw [if_pos q] at hc; cases hc
              · rw [if_neg q] at hc
                by_cases q2 : l = j
                · rw [if_pos q2] at hc; cases hc
                · rw [if_neg q2] at hc
                  exact f2.fr l c hc
          · exact h.elim
        · rw [if_neg (by rw [hsub]; exact fun z => nomatch z)] at h
          exact h σ1 Z1 H1 F1 _ dx s1 f1 ⟨rfl, ex⟩
      · exact h.elim⟩
end
end Q
end
section
set_option linter.all false
set_option autoImplicit false
set_option maxHeartbeats 1000000
/-! The walk through a text: which rule serves which form. -/
namespace Q
open PySem PySem.Spec PyProof.Rows L2
section
variable {X : Cx} {N : Nm} {W : WX} {P : Pg} {a b c : Ex} {ea eb ec : Expr} {pos p : Pos} {x : Str}
theorem t_isN {j : Nat} {p : Pos} (ha : OkE X N W P a ea) : OkT X N W P (.isN a) (.Compare ea [.Is] [.Constant .none j p] pos) :=
  L2.PT.imp (pt_cmp (pc_isN ha) rfl) fun σ H Q ⟨Z, env, F, s, h⟩ => ⟨Z, env, F, s, (Post.bind h).imp fun x env1 Z1 H1 F1 G1 h1 v rv => by
    obtain ⟨b, e, q⟩ := h1 Z1 H1 F1 (Go.refl G1.sr)
    have c := rv.ct
    cases c <;> (cases e; exact ⟨_, rfl, q⟩)⟩
theorem t_notN {j : Nat} {p : Pos} (ha : OkE X N W P a ea) : OkT X N W P (.notN a) (.Compare ea [.IsNot] [.Constant .none j p] pos) :=
  L2.PT.imp (pt_cmp (pc_notN ha) rfl) fun σ H Q ⟨Z, env, F, s, h⟩ => ⟨Z, env, F, s, (Post.bind h).imp fun x env1 Z1 H1 F1 G1 h1 v rv => by
    obtain ⟨b, e, q⟩ := h1 Z1 H1 F1 (Go.refl G1.sr)
    have c := rv.ct
    cases c <;> (cases e; exact ⟨_, rfl, q⟩)⟩
theorem OkT.pw {op : BoolOp} {vs : List Expr} (h : PW X (.BoolOp op vs pos) (tVt X.K N W (vw P a))) : OkT X N W P a (.BoolOp op vs pos) := h.pt
theorem v_pe {x : Ex} {e : Expr} (h : PE X e (tV X.K N W none (vw P x))) (hr : root x = none) : OkE X N W P x e := by
  unfold OkE
  rw [hr]
  exact h
theorem v_ev {x : Ex} {e : Expr} (h : PE X e (tV X.K N W none (vw P x))) (hr : root x = none) : PE X e (tV X.K N W none (ev P x)) := OkE.ev (v_pe h hr)
theorem e_cmp2' {k : Nat} {o q : CmpOp} (hr : Room (k + 1) X.A) (ha : OkE X N W P a ea) (hb : OkE X N W P b eb) (hc : OkE X N W P c ec) (hm : lastMarks [o, q] [eb, ec] = false) : OkE X N W P (.cmp2 o q a b c) (.Compare ea [o, q] [eb, ec] pos) :=
  e_cmp2 hr ha hb hc fun _ _ _ _ _ h1 h2 h3 h4 h5 => pe_chain h1 h2 h3 h4 h5 hm
theorem t_cmp2' {k : Nat} {o q : CmpOp} (hr : Room (k + 1) X.A) (ha : OkE X N W P a ea) (hb : OkE X N W P b eb) (hc : OkE X N W P c ec) (hm : lastMarks [o, q] [eb, ec] = false) : OkT X N W P (.cmp2 o q a b c) (.Compare ea [o, q] [eb, ec] pos) :=
  t_cmp2 hr ha hb hc fun _ _ _ _ _ h1 h2 h3 h4 h5 => pt_chain h1 h2 h3 h4 h5 hm
theorem ts_nil : PTs X [] (tVt X.K N W (vw P (.bl true))) := ⟨fun pins s σ H Q I ⟨Z, env, F, sr, h⟩ => pts_nil.run pins s σ H Q I (by
  obtain ⟨b, e, q⟩ := h Z H F (Go.refl sr)
  cases e
  exact q)⟩
/-- a constant of the module, as its readers see it -/
structure GlT (K : PySem.W.Frag) (N : Nm) (mg : Str → Option Value) (Pg : Q.Pg) (g : Nat) (y : Str) : Prop where
  ex : ∃ (d : D) (v : V) (u : Value), Pg.glob g = some d ∧ mg y = some u ∧ RelV v u ∧ ∀ Z H, Rep K N Z H d v []
theorem e_glb' {g : Nat} {y : Str} (D : GlT X.K N X.mg P g y) (hg : Gl X y) (hdb : (y == ("__debug__" : Str)) = false) : OkE X N W P (.glb g) (.Name y pos) := by
  obtain ⟨d, v, u, h1, h2, h3, h4⟩ := D.ex
  exact e_glb hg h1 ⟨v, u, h2, h3, h4⟩ hdb
theorem ts_one (h : OkT X N WF P a ea) : PTs X [ea] (tVt X.K N WF (vw P a)) := pts_one h
/-- a def as its callers see it -/
structure DefOk (P : Program) (w : World) (K : PySem.W.Frag) (mg : Str → Option Value) (base : Heap) (N : Nm) (Pg : Q.Pg) (k f n : Nat) (x : Str) : Prop where
  ex : ∃ (fa : Addr) (fd : FuncData) (ps : List Str), ps.length = n ∧ FnOk P w K mg base (L2.CX P w) k fa fd ps (spT K N n (Pg.call f)) ∧ mg x = some (.ref fa) ∧ PySem.W.keepIn K (.ref fa) = true ∧ Binds K fd ps []
theorem cal_of {k f n : Nat} (D : DefOk X.prog X.w X.K X.mg X.base N P k f n x) (hr : Room k X.A) (hg : Gl X x) (hd : (x == ("__debug__" : Str)) = false) : CalT X N P f n x := by
  obtain ⟨fa, fd, ps, h1, h2, h3, h4, h5⟩ := D.ex
  exact ⟨⟨k, fa, fd, ps, h1, h2, hr, h3, h4, h5⟩, hg, hd⟩
theorem room_le {j k : Nat} {A : Around} (hr : Room k A) (h : j ≤ k) : Room j A := hr.mono h
theorem pass_F (σ : L2.St) : PassesAt (L2.CX X.prog X.w) X σ (WE WF σ) := fun _ _ _ _ _ _ h => by
  obtain ⟨_, _, _, _, _, _, _, _, _, _, _, _, h⟩ := h
  exact h.elim
/-- a weaker promise: what is told of fewer inputs -/
theorem spT_le {K : PySem.W.Frag} {n : Nat} {f g : List D → CR} (h : ∀ ds, g ds ≠ .stuck → f ds = g ds) {vs : List V} {H : Hp} {Q : VK} {E : XK} (s : spT K N n g vs H Q E) : spT K N n f vs H Q E := by
  obtain ⟨h1, Z, ds, h2, h3, h4⟩ := s
  refine ⟨h1, Z, ds, h2, h3, ?_⟩
  cases e : g ds with
  | stuck => rw [e] at h4; exact h4.elim
  | ok d => rw [h ds (by rw [e]; exact fun h => nomatch h), e]; rw [e] at h4; exact h4
  | exc c fs xs => rw [h ds (by rw [e]; exact fun h => nomatch h), e]; rw [e] at h4; exact h4
end

end Q
end
section
set_option linter.all false
set_option autoImplicit false
set_option maxHeartbeats 1000000
/-! Errors: what they are asked, how they are made; the empty dict. -/
namespace Q
open PySem PySem.Spec PyProof.Rows L2
section
variable {X : Cx} {N : Nm} {W : WX} {P : Pg} {G : Gnd} {a b c : Ex} {ea eb ec : Expr} {pos p q : Pos} {x : Str}
theorem e_dcl : OkE X N W P .dcl (.Dict [] [] pos) :=
  L2.PE.imp pe_dnewK fun σ H Q ⟨Z, env, F, s, h⟩ => fun p hp => by
    have g := Go.newO (o := .dK []) s hp
    refine h _ _ F g _ ⟨[p], .dctO upd_same (s.zh.free hp), by simp, fun c hc i h => ?_, fun c hc => ?_⟩
    · rw [List.mem_singleton.mp hc] at h
      exact (s.own1 h).some hp
    · rw [List.mem_singleton.mp hc]
      exact .inl hp
/-- a list that nobody changes: shared from the first -/
theorem e_lstZ {es : List Expr} (h : OkA X N W P a es) : OkE X N W P (.lstZ a) (.List es pos) :=
  L2.PE.imp (pe_lst h) fun σ H Q ⟨Z, env, F, s, h⟩ => ⟨Z, env, F, s, (Post.bind h).imp fun ds env1 Z1 H1 F1 G1 h1 vs ⟨fv, r, nd, dj, nw⟩ => by
    split at h1
    · rename_i hl
      have hfv := r.noOwn hl.2
      subst hfv
      refine ⟨by rw [← r.length, ← line_eq]; exact hl.1, fun p hp => ?_⟩
      have g := Go.newZ (o := .lst vs) G1.sr hp
      exact h1 _ _ F1 g _ (RV.flat (.lst (.of upd_same) (r.mono g.zz fun _ h => nomatch h)))
    · exact h1.elim⟩
open Classical in
/-- one name lent alone: what comes of it shares nothing -/
theorem lend_read {i : Nat} (hr : root a = none) {σ : L2.St} {H : Hp} {Q : VK} (h : tV X.K N W none (vw P (.lend i a)) σ H Q) : tV X.K N W (root a) (vw P a) σ H Q := by
    obtain ⟨Z, env, F, s, h⟩ := h
    rw [vw] at h
    cases e1 : env[i]? with
    | none => rw [e1] at h; exact h.elim
    | some o =>
      cases o with
      | none => rw [e1] at h; exact h.elim
      | some d =>
        rw [e1] at h
        simp only at h
        obtain ⟨v0, hσ, r0⟩ := s.som i d e1
        have hil : i < env.length := (List.getElem?_eq_some_iff.mp e1).1
        have hget : ∀ j, (onlyE i (shr d) env)[j]? = if j = i then some (some (shr d)) else if j < env.length then some none else none := fun j => by
          unfold onlyE
          by_cases q : j = i
          · subst q
            rw [if_pos rfl, List.getElem?_set_self (by simpa using hil)]
          · rw [if_neg q, List.getElem?_set_ne (Ne.symm q)]
            by_cases q2 : j < env.length
            · rw [if_pos q2, List.getElem?_replicate, if_pos q2]
            · rw [if_neg q2, List.getElem?_replicate, if_neg q2]
        have sf : SR X.K N (frz Z H (fun c => c ∈ F i)) H (onlyE i (shr d) env) σ (fun _ => []) := by
          refine ⟨by simp [onlyE, s.len], fun j d' e => ?_, fun _ _ => rfl, fun _ => .nil, fun _ _ _ h => (nomatch h), frz_zh s.zh⟩
          rw [hget] at e
          split at e
          · rename_i q
            subst q
            cases e
            refine ⟨v0, hσ, ?_⟩
            exact Vw.shr (frz_zz s.zh) (frz_zh s.zh) (O := fun c => c ∈ F j) (fun c hc => by
              rw [frz_in (S := fun c => c ∈ F j) hc]; exact (r0.own1 c hc).some) (r0.vw fun _ h => h)
          · split at e <;> cases e
        refine ⟨_, _, _, sf, ?_⟩
        cases e2 : vw P a (onlyE i (shr d) env) with
        | stuck => rw [e2] at h; exact h.elim
        | exc => rw [e2] at h; exact h.elim
        | ok y env2 =>
          rw [e2] at h
          simp only at h
          split at h
          · rename_i hs
            intro Z2 H2 F2 G v rv
            rw [hr] at rv
            obtain ⟨fv, t⟩ := rv
            have hn : ∀ j c, c ∈ F j → c ∉ F i → Z2 c = none := fun j c hc hi => by
              cases q : Z2 c with
              | none => rfl
              | some o =>
                exfalso
                rcases G.nz c (by rw [q]; exact fun h => nomatch h) with h2 | ⟨k, h2⟩ | h2
                · rw [frz_out (S := fun c => c ∈ F i) hi] at h2
                  exact h2 (s.own1 hc).1
                · cases h2
                · exact (s.own1 hc).some h2
            let Z3 : Hp := fun c => if c ∈ F i then none else Z2 c
            have zin : ∀ c, c ∈ F i → Z3 c = none := fun c hc => if_pos hc
            have zout : ∀ c, c ∉ F i → Z3 c = Z2 c := fun c hc => if_neg hc
            have z3 : Same Z Z3 := fun c o e => by
              have hc : c ∉ F i := fun hc => by have := (s.own1 hc).1; rw [e] at this; cases this
              rw [zout c hc]
              exact G.zz _ _ (frz_zz s.zh _ _ e)
            have kk : ∀ c o, Z2 c = some o → (∀ vs, o ≠ .lst vs) → o ≠ .dK [] → (∀ C dx fs, o ≠ .ins C dx fs) → Z3 c = some o := fun c o e h1 h2 h3 => by
              rw [zout c, e]
              intro hi
              rcases (s.own1 hi).2 with ⟨vs, q⟩ | q | ⟨C, dx, fs, q⟩
              · have e2 := G.hh _ _ q
                rw [G.sr.zh _ _ e] at e2
                cases e2
                exact h1 _ rfl
              · have e2 := G.hh _ _ q
                rw [G.sr.zh _ _ e] at e2
                cases e2
                exact h2 rfl
              · have e2 := G.hh _ _ q
                rw [G.sr.zh _ _ e] at e2
                cases e2
                exact h3 _ _ _ rfl
            have zn : ∀ c, Z2 c = none → Z3 c = none := fun c h => by
              by_cases q : c ∈ F i
              · exact zin c q
              · rw [zout c q]; exact h
            refine h Z3 H2 F ⟨⟨s.len, fun j d' e => ?_, s.non, s.nd, s.dj, fun c o e => ?_⟩, z3, G.hh, fun c hc => ?_, fun _ _ h => h, fun _ _ h => .inl h, fun _ h => h⟩ v ⟨fv, Rep.unf kk zn t.rep hs, t.nd, fun c hc j hj => ?_, fun c hc => ?_⟩
            · obtain ⟨v, e1, r⟩ := s.som j d' e
              refine ⟨v, e1, r.mono z3 fun c hc => ⟨?_, ?_⟩⟩
              · cases q : H c with
                | none => exact absurd q (s.own1 hc).some
                | some o => exact G.hh _ _ q
              · by_cases q : c ∈ F i
                · exact zin c q
                · rw [zout c q]; exact hn j c hc q
            · by_cases q : c ∈ F i
              · rw [zin c q] at e; cases e
              · rw [zout c q] at e; exact G.sr.zh _ _ e
            · by_cases q : c ∈ F i
              · exact absurd (zin c q) hc
              · rw [zout c q] at hc
                rcases G.nz c hc with h2 | ⟨k, h2⟩ | h2
                · rw [frz_out (S := fun c => c ∈ F i) q] at h2
                  exact .inl h2
                · cases h2
                · exact .inr (.inr h2)
            · rcases t.new c hc with h2 | ⟨k, h2⟩
              · exact (s.own1 hj).some h2
              · cases h2
            · rcases t.new c hc with h2 | ⟨k, h2⟩
              · exact .inl h2
              · cases h2
          · exact h.elim
theorem e_lend {i : Nat} (hr : root a = none) (ha : OkE X N W P a ea) : OkE X N W P (.lend i a) ea :=
  L2.PE.imp ha fun σ H Q h => lend_read hr h
section
open Classical
theorem lendA_sr {K : PySem.W.Frag} {Z H : Hp} {env : Env} {σ : L2.St} {F : Nat → List Addr} (s : SR K N Z H env σ F) : SR K N (frz Z H (fun c => ∃ i, c ∈ F i)) H (env.map (Option.map shr)) σ (fun _ => []) := by
  have hget : ∀ j : Nat, (env.map (Option.map shr))[j]? = (env[j]?).map (Option.map shr) := fun j => List.getElem?_map
  refine ⟨by simp [s.len], fun j d' e => ?_, fun _ _ => rfl, fun _ => .nil, fun _ _ _ h => (nomatch h), frz_zh s.zh⟩
  rw [hget] at e
  cases e1 : env[j]? with
  | none => rw [e1] at e; cases e
  | some o =>
    cases o with
    | none => rw [e1] at e; cases e
    | some d =>
      rw [e1] at e
      cases e
      obtain ⟨v0, hσ, r0⟩ := s.som j d e1
      refine ⟨v0, hσ, ?_⟩
      exact Vw.shr (frz_zz s.zh) (frz_zh s.zh) (O := fun c => c ∈ F j) (fun c hc => by
        rw [frz_in (S := fun c => ∃ i, c ∈ F i) ⟨j, hc⟩]; exact (r0.own1 c hc).some) (r0.vw fun _ h => h)
/-- .. and one's own again -/
noncomputable def unfA (F : Nat → List Addr) (Z : Hp) : Hp := fun c => if ∃ i, c ∈ F i then none else Z c
section
variable {K : PySem.W.Frag} {Z H Z2 H2 : Hp} {env : Env} {σ : L2.St} {F : Nat → List Addr}
theorem unfA_in {c : Addr} (hc : ∃ i, c ∈ F i) : unfA F Z2 c = none := if_pos hc
theorem unfA_out {c : Addr} (hc : ¬ ∃ i, c ∈ F i) : unfA F Z2 c = Z2 c := if_neg hc
theorem unfA_zz (s : SR K N Z H env σ F) (zz : Same (frz Z H (fun c => ∃ i, c ∈ F i)) Z2) : Same Z (unfA F Z2) := fun c o e => by
  have hc : ¬ ∃ i, c ∈ F i := fun ⟨i, hc⟩ => by have := (s.own1 hc).1; rw [e] at this; cases this
  rw [unfA_out hc]
  exact zz _ _ (frz_zz s.zh _ _ e)
theorem unfA_kk (s : SR K N Z H env σ F) (hh : Same H H2) (zh : Same Z2 H2) : ∀ c o, Z2 c = some o → (∀ vs, o ≠ .lst vs) → o ≠ .dK [] → (∀ C dx fs, o ≠ .ins C dx fs) → unfA F Z2 c = some o := fun c o e h1 h2 h3 => by
  rw [unfA_out, e]
  rintro ⟨i, hi⟩
  rcases (s.own1 hi).2 with ⟨vs, q⟩ | q | ⟨C, dx, fs, q⟩
  · have e2 := hh _ _ q
    rw [zh _ _ e] at e2
    cases e2
    exact h1 _ rfl
  · have e2 := hh _ _ q
    rw [zh _ _ e] at e2
    cases e2
    exact h2 rfl
  · have e2 := hh _ _ q
    rw [zh _ _ e] at e2
    cases e2
    exact h3 _ _ _ rfl
theorem unfA_zn : ∀ c, Z2 c = none → unfA F Z2 c = none := fun c h => by
  by_cases q : ∃ i, c ∈ F i
  · exact unfA_in q
  · rw [unfA_out q]; exact h
theorem unfA_zh (zh : Same Z2 H2) : Same (unfA F Z2) H2 := fun c o e => by
  by_cases q : ∃ i, c ∈ F i
  · rw [unfA_in q] at e; cases e
  · rw [unfA_out q] at e; exact zh _ _ e
theorem unfA_rep (s : SR K N Z H env σ F) (zz : Same (frz Z H (fun c => ∃ i, c ∈ F i)) Z2) (hh : Same H H2) {j : Nat} {d : D} (e : env[j]? = some (some d)) : ∃ v, σ[j]? = some (some v) ∧ Rep K N (unfA F Z2) H2 d v (F j) := by
  obtain ⟨v, e1, r⟩ := s.som j d e
  refine ⟨v, e1, r.mono (unfA_zz s zz) fun c hc => ⟨?_, unfA_in ⟨j, hc⟩⟩⟩
  cases q : H c with
  | none => exact absurd q (s.own1 hc).some
  | some o => exact hh _ _ q
theorem lendA_go {env2 : Env} {F2 : Nat → List Addr} (s : SR K N Z H env σ F) (G : Go K N σ (frz Z H (fun c => ∃ i, c ∈ F i)) H (env.map (Option.map shr)) (fun _ => []) Z2 H2 env2 F2) : Go K N σ Z H env F (unfA F Z2) H2 env F := by
  refine ⟨⟨s.len, fun j d' e => unfA_rep s G.zz G.hh e, s.non, s.nd, s.dj, unfA_zh G.sr.zh⟩, unfA_zz s G.zz, G.hh, fun c hc => ?_, fun _ _ h => h, fun _ _ h => .inl h, fun _ h => h⟩
  by_cases q : ∃ i, c ∈ F i
  · exact absurd (unfA_in q) hc
  · rw [unfA_out q] at hc
    rcases G.nz c hc with h2 | ⟨k, h2⟩ | h2
    · rw [frz_out (S := fun c => ∃ i, c ∈ F i) q] at h2
      exact .inl h2
    · cases h2
    · exact .inr (.inr h2)
end
/-- all names lent: what comes of it shares nothing -/
theorem lendA_read (hr : root a = none) {σ : L2.St} {H : Hp} {Q : VK} (h : tV X.K N W none (vw P (.lendA a)) σ H Q) : tV X.K N W (root a) (vw P a) σ H Q := by
    obtain ⟨Z, env, F, s, h⟩ := h
    rw [vw] at h
    refine ⟨_, _, _, lendA_sr s, ?_⟩
    cases e2 : vw P a (env.map (Option.map shr)) with
    | stuck => rw [e2] at h; exact h.elim
    | exc => rw [e2] at h; exact h.elim
    | ok y env2 =>
      rw [e2] at h
      simp only at h
      split at h
      · rename_i hs
        intro Z2 H2 F2 G v rv
        rw [hr] at rv
        obtain ⟨fv, t⟩ := rv
        refine h _ H2 F (lendA_go s G) v ⟨fv, Rep.unf (unfA_kk s G.hh G.sr.zh) unfA_zn t.rep hs, t.nd, fun c hc j hj => ?_, fun c hc => ?_⟩
        · rcases t.new c hc with h2 | ⟨k, h2⟩
          · exact (s.own1 hj).some h2
          · cases h2
        · rcases t.new c hc with h2 | ⟨k, h2⟩
          · exact .inl h2
          · cases h2
      · exact h.elim
theorem e_lendA (hr : root a = none) (ha : OkE X N W P a ea) : OkE X N W P (.lendA a) ea :=
  L2.PE.imp ha fun σ H Q h => lendA_read hr h
theorem t_lendA (ha : OkT X N W P a ea) : OkT X N W P (.lendA a) ea :=
  L2.PT.imp ha fun σ H Q ⟨Z, env, F, s, h⟩ => by
    rw [vw] at h
    refine ⟨_, _, _, lendA_sr s, ?_⟩
    cases e2 : vw P a (env.map (Option.map shr)) with
    | stuck => rw [e2] at h; exact h.elim
    | exc => rw [e2] at h; exact h.elim
    | ok y env2 =>
      rw [e2] at h
      simp only at h
      split at h
      · exact fun Z2 H2 F2 G => h _ H2 F (lendA_go s G)
      · exact h.elim
end
/-- name = [..] over a name lent alone -/
theorem s_setLcL {G : Gnd} {k i : Nat} {y : Str} {py spos : Pos} {elt tg it cond : Ex} {eelt etg eit : Expr} {ifs : List Expr} {scope : Scope} (h0 : ¬ Np G → 0 ≠ i) (hc : X.calm = true) (hN : X.N.Nodup) (hy : X.N[i]? = some y) (hyl : X.env.scope.names.lookup y = some .local)
    (hsw : swapsWith (.ListComp eelt [⟨etg, eit, ifs, 0⟩] scope pos) (some (.Name y py)) spos.line X.env = pure true) (hi : OkI X N W P etg it eit) (ok : BlkOk X.N X.env.scope scope (ownOf X.N (slots tg))) (hz : isTupE etg = true → ∃ es, tg = .tup es)
    (hg : ∀ (s : Shared) (H : Hp) (C : Addr) (cl : List (Str × Addr)) (fp : List Addr), OkG (X.blk s H scope (compEnvC scope cl C X.env) fp) N tg etg)
    (ht : ∀ (s : Shared) (H : Hp) (C : Addr) (cl : List (Str × Addr)) (fp : List Addr), PTs (X.blk s H scope (compEnvC scope cl C X.env) fp) ifs (tVt X.K N WF (vw P cond)))
    (he : ∀ (s : Shared) (H : Hp) (C : Addr) (cl : List (Str × Addr)) (fp : List Addr), OkE (X.blk s H scope (compEnvC scope cl C X.env) fp) N WF P elt eelt)
    (hs : ∀ x, foldedSetIterable eit X.env x = pure x) : OkS X N W P G (.asg (.var i) (.lend k (.comp elt tg it cond))) (.Assign [.Name y py] (.ListComp eelt [⟨etg, eit, ifs, 0⟩] scope pos) spos) :=
  L2.PS.imp (ps_setLc (g := gT X.K N tg) (te := tV X.K N WF none (ev P elt)) hc hN hy hyl hsw hi ok hg ht (fun s H C cl fp => (he s H C cl fp).ev) hs) fun D0 σ H ⟨Z, env, F, s, fr, h⟩ => by
    refine comp_read (own_slots _ _) hz (lend_read (i := k) rfl ⟨Z, env, F, s, ?_⟩)
    have h : PostS X.K N W G D0 ((vw P (.lend k (.comp elt tg it cond)) env).bind fun d env => (take none d env).bind fun d env => (bnd (.var i) d env).bind fun _ env => .ok .nx env) := by
      have e := R.bind_assoc (vw P (.lend k (.comp elt tg it cond)) env) (take none) (fun d env => (bnd (.var i) d env).bind fun _ env => R.ok Fl.nx env)
      rw [← e]
      exact h
    refine (PostS.post fr h).imp fun d env1 Z1 H1 F1 G1 ⟨f1, h1⟩ v ⟨fv, t⟩ => ?_
    have h1 : PostS X.K N W G D0 ((bnd (.var i) d env1).bind fun _ env => .ok .nx env) := by
      unfold take at h1
      split at h1 <;> exact h1
    obtain ⟨env', e, h2⟩ := bnd_run (α := Unit) h1
    simp only [bnd] at e
    split at e
    · rename_i hl
      cases e
      have s1 := G1.sr.put hl t.rep t.nd t.dj
      refine h2 _ _ _ _ s1 ⟨fun v' hv => by rw [List.getElem?_set_ne (Ne.symm (h0 fun h => by rw [h] at hv; cases hv))]; exact f1.pn v' hv, f1.zz, f1.hh, f1.nz, fun k c h => ?_⟩
      split at h
      · exact (t.new c h).elim fr.free fun ⟨i, h⟩ => fr.fr i c h
      · exact f1.fr k c h
    · cases e
/-! isinstance of an exception -/
structure IsxC (K : PySem.W.Frag) (C : Addr) : Prop where
  x : XfC K C
  ha : PySem.W.findIn K (.ref C) "__class__" = some (some (.builtin "object.__class__"))
  hn : PySem.W.specialIn K (.builtin "object.__class__") "__get__" = some (some (.builtin "getset_descriptor.__get__"))
  ht : PySem.W.takesIn K (.builtin "object.__class__") = some true
  hm : PySem.W.mroIn K C (.type "object") = some true
/-- an exception that is known, its class -/
def ExV (K : PySem.W.Frag) (H : Hp) (v : V) (C : Addr) : Prop := IsxC K C ∧ ∃ (a : Addr) (d : Option Addr), v = .ref a ∧ H a = some (exHO (.ref C) d a) ∧ ∀ dd, d = some dd → ∃ fs, H dd = some (.xd fs)
theorem ExV.kit {pins : List (Addr × Obj)} {σ : L2.St} {H : Hp} {s : Shared} {v : V} {u : Value} {C : Addr} (h : ExV X.K H v C) (I : Inv X pins σ H s) (r : RelV v u) :
    ∃ P : Heap → Prop, PySem.W.KitX X.K u (.ref C) P ∧ P s.heap ∧ u ≠ .builtin "__main__.__loader__#opaque" := by
  obtain ⟨T, a, d, rfl, ha, hd⟩ := h
  cases (show u = Value.ref a from r)
  obtain ⟨⟨oe, vs, h1, h2, h3⟩, _⟩ := (show ObjOk X.prog X.w H s.heap a (exHO (.ref C) d a) from I.hok a _ ha)
  obtain ⟨cd, hc, _⟩ := PySem.W.any_some T.x.hdC
  have hcl : (PySem.W.clsIn X.K C).isSome = true := by rw [hc]; rfl
  have notc : PySem.W.notCls oe = true := by unfold PySem.W.notCls; rw [h3]
  cases d with
  | none => exact ⟨_, PySem.W.kitx_exc (od := none) hcl T.x.ga T.x.gg T.x.exC T.ha T.hn T.ht T.hm, ⟨h1, h2.1, notc, by rw [h2.2]; trivial⟩, fun z => nomatch z⟩
  | some dd =>
    obtain ⟨fs, hx⟩ := hd dd rfl
    obtain ⟨mA, ⟨o, es, ep, e1, _⟩, _⟩ := (show ObjOk X.prog X.w H s.heap dd (.xd fs) from I.hok dd _ hx)
    exact ⟨_, PySem.W.kitx_exc (od := some o) hcl T.x.ga T.x.gg T.x.exC T.ha T.hn T.ht T.hm, ⟨h1, h2.1, notc, by rw [h2.2]; exact e1⟩, fun z => nomatch z⟩
def rIsX (K : PySem.W.Frag) : List V → Hp → VK → Prop := fun xs H Q => ∃ (x c : V) (C : Addr) (u : Value) (b : Bool), xs = [x, c] ∧ ClsV c u ∧ ExV K H x C ∧ PySem.W.kitOne K (.ref C) u = some b ∧ Q (.bl b) H
def rIsXT (K : PySem.W.Frag) : List V → Hp → VK → Prop := fun xs H Q => ∃ (x : V) (tp : Addr) (cs : List V) (C : Addr) (us : List Value) (b : Bool), xs = [x, .ref tp] ∧ H tp = some (.tup cs) ∧ Paired ClsV cs us ∧ ExV K H x C ∧ PySem.W.kitAny K (.ref C) us = some b ∧ Q (.bl b) H
theorem call_isX : CallR X (.builtin "isinstance") (rIsX X.K) := by
  rintro pins s σ H xs us Q I r ⟨x, c, C, u, b, rfl, k, ex, e, q⟩
  obtain ⟨u1, u2, rfl, r1, r2⟩ := vals2 r
  cases k.eq r2
  obtain ⟨P, Z, p, hx⟩ := ex.kit I r1
  exact PySem.W.kia_one Z I.kIn p e hx fun tk => ⟨.bl b, H, I.tok tk, rfl, q⟩
theorem call_isXT : CallR X (.builtin "isinstance") (rIsXT X.K) := by
  rintro pins s σ H xs us Q I r ⟨x, tp, cs, C, ws, b, rfl, hT, k, ex, e, q⟩
  obtain ⟨u1, u2, rfl, r1, r2⟩ := vals2 r
  cases (show u2 = Value.ref tp from r2)
  obtain ⟨P, Z, p, hx⟩ := ex.kit I r1
  obtain ⟨_, its, rv, ⟨oc, od, dt, sl⟩, h1, h2, n, h3⟩ := (show ObjOk X.prog X.w H s.heap tp (.tup cs) from I.hok tp _ hT)
  cases ClsV.all k rv
  dsimp only at h2 h3
  subst h2 h3
  exact PySem.W.kia_tup Z I.kIn p h1 e hx fun tk => ⟨.bl b, H, I.tok tk, rfl, q⟩
theorem exc_ty {K : PySem.W.Frag} {Z H : Hp} {k : Nat} {fs : List Nat} {vs : List D} {v : V} (T : IsxC K (N.cls k)) (zh : Same Z H) (cx : Ct K N Z H (.exc k fs vs) v) : ExV K H v (N.cls k) := by
  cases cx with
  | exc h1 h2 h3 h4 r => exact ⟨T, _, _, rfl, zh _ _ h1, fun dd e => by cases e; exact ⟨_, zh _ _ h2⟩⟩
  | excN h1 h2 => exact ⟨T, _, _, rfl, zh _ _ h1, fun dd e => nomatch e⟩
/-- what isinstance asks of the class c -/
structure IsxOk (K : PySem.W.Frag) (N : Nm) (P : Pg) (mg : Str → Option Value) (c : Nat) (y : Str) : Prop where
  ex : ∀ k fs, P.excF k = some fs → IsxC K (N.cls k) ∧ PySem.W.kitOne K (.ref (N.cls k)) (.ref (N.cls c)) = some (P.sub k c)
  mg : mg y = some (.ref (N.cls c))
structure IsvOk (K : PySem.W.Frag) (N : Nm) (P : Pg) : Prop where
  ex : ∀ k fs, P.excF k = some fs → IsxC K (N.cls k) ∧ PySem.W.kitOne K (.ref (N.cls k)) (.type "ValueError") = some true
theorem e_isX1 {k : Nat} {y : Str} (I : IsxOk X.K N P X.mg k y) (B : Blt X x (.builtin "isinstance")) (hg : Gl X y) (hdb : (y == ("__debug__" : Str)) = false) (h1 : plainE ea = true) (ha : OkE X N W P a ea) : OkE X N W P (.isX a [k] false) (.Call (.Name x p) [ea, .Name y q] [] pos) :=
  L2.PE.imp (pe_callB call_isX B.gl B.mg B.bo (pa_cons ha (pa_cons (pe_glob (v := .ref (N.cls k)) hg I.mg rfl hdb) pa_nil rfl) (star_cons h1)) B.nn B.db (star_cons h1) rfl) fun σ H Q ⟨Z, env, F, s, h⟩ => by
    refine ⟨Z, env, F, s, (Post.bind h).imp fun x env1 Z1 H1 F1 G1 h1 v rv => ?_⟩
    obtain ⟨d, e, h1⟩ := Post.noneR h1
    unfold isXD at e
    split at e
    · rename_i j fs vs
      split at e
      · rename_i he
        cases e
        obtain ⟨T, hk⟩ := I.ex j fs he
        have r := h1 Z1 H1 F1 (Go.refl G1.sr) _ (RV.flat (.bl _))
        simp only [List.any_cons, List.any_nil, Bool.or_false, Bool.false_or] at r
        exact ⟨v, .ref (N.cls k), _, _, _, rfl, .own _, exc_ty T G1.sr.zh rv.ct, hk, r⟩
      · cases e
    · cases e
theorem e_isXV {y : Str} (I : IsvOk X.K N P) (B : Blt X x (.builtin "isinstance")) (B2 : Blt X y (.type "ValueError")) (h1 : plainE ea = true) (ha : OkE X N W P a ea) : OkE X N W P (.isX a [] true) (.Call (.Name x p) [ea, .Name y q] [] pos) :=
  L2.PE.imp (pe_callB call_isX B.gl B.mg B.bo (pa_cons ha (pa_cons (pe_tyname B2) pa_nil rfl) (star_cons h1)) B.nn B.db (star_cons h1) rfl) fun σ H Q ⟨Z, env, F, s, h⟩ => by
    refine ⟨Z, env, F, s, (Post.bind h).imp fun x env1 Z1 H1 F1 G1 h1 v rv => ?_⟩
    obtain ⟨d, e, h1⟩ := Post.noneR h1
    unfold isXD at e
    split at e
    · rename_i j fs vs
      split at e
      · rename_i he
        cases e
        obtain ⟨T, hk⟩ := I.ex j fs he
        exact ⟨v, .ty "ValueError", _, _, _, rfl, .ty _, exc_ty T G1.sr.zh rv.ct, hk, h1 Z1 H1 F1 (Go.refl G1.sr) _ (RV.flat (.bl _))⟩
      · cases e
    · cases e
/-! a tuple of classes -/
def tCsN (N : Nm) : List Nat → TA
  | [] => tNil
  | c :: cs => tCons (tC (.ref (N.cls c))) (tCsN N cs)
theorem tCsN_run {N : Nm} : ∀ (cs : List Nat) {σ : L2.St} {H : Hp} {Q : List V → Hp → Prop}, Q (cs.map fun c => .ref (N.cls c)) H → tCsN N cs σ H Q
  | [], _, _, _, q => q
  | c :: cs, σ, H, Q, q => tCsN_run cs (σ := σ) (H := H) (Q := fun vs H1 => Q (.ref (N.cls c) :: vs) H1) q
/-- the names of such a tuple -/
structure IsxsOk (X : Cx) (N : Nm) (P : Pg) (cs : List Nat) (es : List Expr) : Prop where
  pa : PA X es (tCsN N cs)
  ex : ∀ k fs, P.excF k = some fs → IsxC X.K (N.cls k)
  kit : ∀ k fs, P.excF k = some fs → PySem.W.kitAny X.K (.ref (N.cls k)) (cs.map fun c => .ref (N.cls c)) = some (cs.any (P.sub k))
theorem kitAny_of {K : PySem.W.Frag} {t u : Value} {b r : Bool} {us : List Value} (h : PySem.W.kitOne K t u = some b) (g : PySem.W.kitAny K t us = some r) : PySem.W.kitAny K t (u :: us) = some (b || r) := by
  unfold PySem.W.kitAny
  rw [h]
  cases b
  · exact g
  · rfl
theorem isxs_one {k : Nat} {y : Str} (I : IsxOk X.K N P X.mg k y) (hg : Gl X y) (hdb : (y == ("__debug__" : Str)) = false) : IsxsOk X N P [k] [.Name y q] :=
  ⟨pa_cons (pe_glob hg I.mg rfl hdb) pa_nil rfl, fun k fs h => (I.ex k fs h).1, fun k fs h => kitAny_of (I.ex k fs h).2 rfl⟩
theorem isxs_cons {k : Nat} {y : Str} {cs : List Nat} {es : List Expr} (I : IsxOk X.K N P X.mg k y) (hg : Gl X y) (hdb : (y == ("__debug__" : Str)) = false) (J : IsxsOk X N P cs es) : IsxsOk X N P (k :: cs) (.Name y q :: es) :=
  ⟨pa_cons (pe_glob hg I.mg rfl hdb) J.pa (star_cons rfl), fun k fs h => (I.ex k fs h).1, fun k fs h => kitAny_of (I.ex k fs h).2 (J.kit k fs h)⟩
theorem clsV_all {N : Nm} : ∀ cs : List Nat, Paired ClsV (cs.map fun c => V.ref (N.cls c)) (cs.map fun c => Value.ref (N.cls c))
  | [] => .nil
  | c :: cs => .cons (.own _) (clsV_all cs)
theorem e_isXT {cs : List Nat} {es : List Expr} {j : Nat} (I : IsxsOk X N P cs es) (hl : cs.length ≤ 1000) (B : Blt X x (.builtin "isinstance")) (h1 : plainE ea = true) (ha : OkE X N W P a ea) : OkE X N W P (.isX a cs false) (.Call (.Name x p) [ea, .Tuple es j q] [] pos) :=
  L2.PE.imp (pe_callB call_isXT B.gl B.mg B.bo (pa_cons ha (pa_cons (pe_tup I.pa) pa_nil rfl) (star_cons h1)) B.nn B.db (star_cons h1) rfl) fun σ H Q ⟨Z, env, F, s, h⟩ => by
    refine ⟨Z, env, F, s, (Post.bind h).imp fun x env1 Z1 H1 F1 G1 h1 v rv => ?_⟩
    obtain ⟨d, e, h1⟩ := Post.noneR h1
    refine tCsN_run cs ⟨by rw [List.length_map, sizeLine_eq]; omega, fun tp hp => ?_⟩
    unfold isXD at e
    split at e
    · rename_i j fs vs
      split at e
      · rename_i he
        cases e
        have g := Go.newO (o := .tup (cs.map fun c => V.ref (N.cls c))) G1.sr hp
        have r := h1 _ _ F1 g _ (RV.flat (.bl _))
        rw [Bool.false_or] at r
        have T := I.ex j fs he
        exact ⟨v, tp, _, _, _, _, rfl, upd_same, clsV_all cs, exc_ty T g.sr.zh (rv.ct.keep g), I.kit j fs he, r⟩
      · cases e
    · cases e
theorem kit_ref {K : PySem.W.Frag} {E C : Addr} {b : Bool} (hd : PySem.W.hasDictIn K C = true) (ht : PySem.W.typeIn K (.ref C) = some (.type "type")) (hs : PySem.W.subIn K (.ref E) (.ref C) = some b) (h : (Value.ref E == Value.ref C) = false ∨ b = true) : PySem.W.kitOne K (.ref E) (.ref C) = some b := by
  obtain ⟨cd, hc, _⟩ := PySem.W.any_some hd
  have e2 : ((PySem.W.clsIn K C).isSome && PySem.W.typeIn K (.ref C) == some (.type "type")) = true := by rw [hc, ht] <;> rfl
  unfold PySem.W.kitOne
  split
  · rename_i q
    rcases h with h | rfl
    · rw [h] at q; cases q
    · rfl
  · show (if ((PySem.W.clsIn K C).isSome && PySem.W.typeIn K (.ref C) == some (.type "type")) = true then PySem.W.subIn K (.ref E) (.ref C) else none) = some b
    rw [if_pos e2]
    exact hs
/-! making them -/
structure ExcOk (P : Program) (w : World) (K : PySem.W.Frag) (mg : Str → Option Value) (base : Heap) (N : Nm) (Pg : Q.Pg) (k c n : Nat) (x : Str) : Prop where
  ex : ∃ (fs : List Nat) (fI : Addr) (fd : FuncData) (ps : List Str), OexC K (N.cls c) ∧ PySem.W.findIn K (.ref (N.cls c)) "__init__" = some (some (.ref fI)) ∧ PySem.W.typeIn K (.ref fI) = some (.type "function") ∧
    FnOk P w K mg base (L2.CX P w) k fI fd ps (spX (N.cls c) (fs.map N.fld)) ∧ Binds K fd ps [] ∧ mg x = some (.ref (N.cls c)) ∧ Pg.excF c = some fs ∧ fs.length = n ∧ (∀ m, Pg.excD c m = []) ∧ n ≤ 1000
theorem s_raiT {k c n : Nat} {es : List Expr} {pos' : Pos} (D : ExcOk X.prog X.w X.K X.mg X.base N P k c n x) (hr : Room (k + 1) X.A) (hg : Gl X x) (hd : (x == ("__debug__" : Str)) = false) (hc : X.calm = true) (tk : Takes X W) (h1 : (ea :: es).all plainE = true)
    (ha : OkA X N W P a (ea :: es)) : OkS X N W P G (.rai c a) (.Raise (some (.Call (.Name x p) (ea :: es) [] pos)) none pos') := by
  obtain ⟨fs, fI, fd, ps, T, iC, tI, F, hb, hm, hP, hl, hD, h2⟩ := D.ex
  exact s_rai ⟨⟨k, fI, fd, ps, T, iC, tI, F, hr, hb, hm⟩, hg, hd, hl, h2⟩ hP hD hc tk h1 ha
/-- what a try asks -/
structure TryOk (K : PySem.W.Frag) (N : Nm) (P : Pg) (mg : Str → Option Value) (c : Nat) (y : Str) : Prop where
  ex : ∀ k fs, P.excF k = some fs → N.excF k = some fs ∧ PySem.W.exmOne K (.ref (N.cls k)) (.ref (N.cls c)) = some (P.sub k c)
  mg : mg y = some (.ref (N.cls c))
theorem s_tryT {n m : Str} {c i j : Nat} {b : St} {body : List Stmt} {np p1 p2 p3 pos' : Pos} (D : TryOk X.K N P X.mg c x) (hg : Gl X x) (hdb : (x == ("__debug__" : Str)) = false) (hs : X.stack = X.env :: X.outer) (hf : X.env.frame = some X.env.locals) (hN : X.N.Nodup) (hi : X.N[i]? = some n) (hj : X.N[j]? = some m)
    (hln : X.env.kindOf n = some .local) (hlm : X.env.kindOf m = some .local) (tk : Takes X W) (hdn : (n == ("__debug__" : Str)) = false) (hcn : (n == ("__classdict__" : Str)) = false) (hsw : swapsWith (.Name n p2) (some (.Name m p1)) p3.line X.env = pure false)
    (hfm : X.fn m = true ∨ X.env.scope.names.lookup m = some .local) (h0 : ¬ Np G → i ≠ 0 ∧ j ≠ 0)
    (hb : ∀ (W : WX) (pn : List (Addr × Obj)) (xe : Value → Shared → Prop), Takes (X.tr pn xe) W → PassesOwn (model X.prog X.w) X.A X.env xe → OkB (X.tr pn xe) N W P G b body) :
    OkS X N W P G (.tryA c i j b) (.Try body [.ExceptHandler (some (.Name x np)) (some n) [.Assign [.Name m p1] (.Name n p2) p3] pos'] [] [] pos) :=
  s_tryA hs hf hN hi hj hln hlm ⟨hg, hdb, .inl D.mg⟩ tk hdn hcn hsw hfm h0 D.ex hb
end
section
variable {P : Program} {w : World} {K : PySem.W.Frag} {mg : Str → Option Value} {base : Heap}
theorem fx1 {st : Stmt} {qual g : Str} {f C : Addr} {fd : FuncData} {k : Nat} (FF : Fun K "__init__" qual st f fd) (S : FnScope ["self", g] ["self", g] (defScope st)) (T : OexC K C) (hno : PySem.W.findIn K (.ref C) g = some none)
    (hb : ∀ (cdv : Value) (A : Around) (outer : List PySem.Env) (s : Shared) (H : Hp) (E : XK), PSs (cxOf (L2.CX P w) P w K mg base ["self", g] qual (defScope st) f cdv A outer s H E) (defBody st) (tOst K g (tVar 0) (tVar 1))) :
    FnOk P w K mg base (L2.CX P w) (k + 1) f fd ["self", g] (spX C [g]) := by
  refine FF.okX S (fun vs H Q E ⟨a, ws, e, hl, _⟩ => by rw [e, List.length_cons, hl]; rfl) fun cdv A outer s H vs Q E hr ⟨a, ws, e, hl, ha, hq⟩ => ?_
  subst e
  match ws, hl with
  | [y], _ =>
    refine ⟨_, hb cdv A outer s H E, y, rfl, .ref a, rfl, a, C, rfl, T, hno, .inl ⟨ha, fun dx hd hne => hq dx _ hd hne upd_same ?_ fun b h1 h2 => by rw [upd_ne h1, upd_ne h2]⟩⟩
    rw [upd_ne hne, upd_same]; rfl
theorem fx2 {st : Stmt} {qual g h : Str} {f C : Addr} {fd : FuncData} {k : Nat} (FF : Fun K "__init__" qual st f fd) (S : FnScope ["self", g, h] ["self", g, h] (defScope st)) (T : OexC K C) (hno : PySem.W.findIn K (.ref C) g = some none) (hno2 : PySem.W.findIn K (.ref C) h = some none)
    (hb : ∀ (cdv : Value) (A : Around) (outer : List PySem.Env) (s : Shared) (H : Hp) (E : XK), PSs (cxOf (L2.CX P w) P w K mg base ["self", g, h] qual (defScope st) f cdv A outer s H E) (defBody st) (tSeq (tOst K g (tVar 0) (tVar 1)) (tOst K h (tVar 0) (tVar 2)))) :
    FnOk P w K mg base (L2.CX P w) (k + 1) f fd ["self", g, h] (spX C [h, g]) := by
  refine FF.okX S (fun vs H Q E ⟨a, ws, e, hl, _⟩ => by rw [e, List.length_cons, hl]; rfl) fun cdv A outer s H vs Q E hr ⟨a, ws, e, hl, ha, hq⟩ => ?_
  subst e
  match ws, hl with
  | [y, z], _ =>
    refine ⟨_, hb cdv A outer s H E, y, rfl, .ref a, rfl, a, C, rfl, T, hno, .inl ⟨ha, fun dx hd hne => ⟨z, rfl, .ref a, rfl, a, C, rfl, T, hno2, .inr ⟨dx, [(g, y)], upd_same, by rw [upd_ne hne, upd_same], by show 1 ≤ 900; omega, ?_⟩⟩⟩⟩
    refine hq dx _ hd hne (by rw [upd_ne (Ne.symm hne), upd_same]) (by rw [upd_same]; rfl) fun b h1 h2 => by rw [upd_ne h2, upd_ne h1, upd_ne h2]
end
end Q
end
section
set_option linter.all false
set_option autoImplicit false
set_option maxHeartbeats 1000000
/-! for over a zip; a for that only asks: its lists are lent. -/
namespace Q
open PySem PySem.Spec PyProof.Rows L2
section
variable {X : Cx} {N : Nm} {W : WX} {P : Pg} {G : Gnd} {a b c : Ex} {ea eb ec ee : Expr} {pos p q : Pos} {x : Str}
theorem f_zip {elts : List Expr} {kk : Nat} {tpos : Pos} (hg : Gl X "zip") (hm : X.mg "zip" = none) (h1 : plainE ea = true) (h2 : plainE eb = true) (ha : OkE X N W P a ea) (hb : OkE X N W P b eb) :
    OkF X N W P (.Tuple elts kk tpos) (.zip a b) (.Call (.Name "zip" p) [ea, eb] [] pos) :=
  L2.PI.imp (pi_zip hg hm (pa_cons ha.ev (pa_cons hb.ev pa_nil (star_cons h2)) (star_cons h1)) (star_cons h1) (star_any (es := [eb]) (by simp [h2]))) fun σ H R ⟨Z, env, F, s, h⟩ => by
    refine ⟨Z, env, F, s, ?_⟩
    rw [forIt] at h
    cases e1 : ev P a env with
    | stuck => rw [e1] at h; exact h.elim
    | exc c fs vs env1 => rw [e1] at h; exact h
    | ok d env1 =>
      rw [e1] at h
      intro Z1 H1 F1 G1 v ⟨fv, t⟩
      obtain ⟨g2, r2⟩ := G1.frzT t
      have h := Post.shift h g2
      cases d with
      | lst o xs =>
        simp only [Q.R.bind, shr] at h r2
        cases r2 with
        | lst hr r =>
          refine ⟨_, env1, F1, g2.sr, ?_⟩
          cases e2 : ev P b env1 with
          | stuck => rw [e2] at h; exact h.elim
          | exc c fs vs env2 => rw [e2] at h; exact h
          | ok d2 env2 =>
            rw [e2] at h
            intro Z2 H2 F2 G2 u ⟨fu, tu⟩
            obtain ⟨g3, r3⟩ := G2.frzT tu
            have h := Post.shift h g3
            cases d2 with
            | lst o2 ys =>
              simp only [Q.R.bind, shr] at h r3
              cases r3 with
              | lst hr2 r' =>
                have hrl := (hr.mono g3.zz)
                refine ⟨_, _, _, _, rfl, (Ls.mono g3.sr.zh hrl).sq, (Ls.mono g3.sr.zh hr2).sq, h _ H2 F2 (Go.refl g3.sr) _ (wk_zip (fun Z5 H5 z zh => ⟨(Ls.mono zh (hrl.mono z)).sq, (Ls.mono zh (hr2.mono z)).sq, r.mono (g3.zz.trans z) (fun _ h => nomatch h), r'.mono z (fun _ h => nomatch h)⟩) r.length r'.length)⟩
            | _ => simp only [Q.R.bind, shr] at h; exact h.elim
      | _ => simp only [Q.R.bind, shr] at h; exact h.elim

/-- a for's turns that only ask -/
abbrev askT (P : Pg) (a c : Ex) (v : Bool) (d : D) (env : Env) : Q.R Fl := (bnd a d env).bind fun _ e => (tst P c e).bind fun t e => if t then .ok (.ret (.bl v)) e else .ok .nx e
/-- what a for that only asks comes to -/
def Kk (K : PySem.W.Frag) (N : Nm) (W : WX) (G : Gnd) (D0 : Ends) (v : Bool) (env : Env) : Q.R Fl → Prop
  | .ok .nx _ => PostS K N W G D0 (.ok .nx env)
  | .ok (.ret _) _ => PostS K N W G D0 (.ok (.ret (.bl v)) env)
  | _ => False
section
open Classical
/-- the turns' state: all lent, nothing of what was there changed -/
structure Lent (K : PySem.W.Frag) (N : Nm) (a : Ex) (Z H : Hp) (env : Env) (F : Nat → List Addr) (σ : L2.St) (Zi Hi : Hp) (envi : Env) (Fi : Nat → List Addr) (σi : L2.St) : Prop where
  sr : SR K N Zi Hi envi σi Fi
  zz : Same (frz Z H (fun c => ∃ i, c ∈ F i)) Zi
  hh : Same H Hi
  nz : ∀ c, Zi c ≠ none → frz Z H (fun c => ∃ i, c ∈ F i) c ≠ none ∨ H c = none
  f0 : ∀ i, Fi i = []
  σl : σi.length = σ.length
  σe : ∀ j : Nat, j ∉ slots a → σi[j]? = σ[j]?
section
variable {K : PySem.W.Frag} {Z H Zi Hi Z2 H2 : Hp} {env envi env2 : Env} {F Fi F2 : Nat → List Addr} {σ σi σ2 : L2.St}
theorem Lent.go (l : Lent K N a Z H env F σ Zi Hi envi Fi σi) (g : Go K N σi Zi Hi envi Fi Z2 H2 env2 F2) : Lent K N a Z H env F σ Z2 H2 env2 F2 σi := by
  refine ⟨g.sr, l.zz.trans g.zz, fun c o e => g.hh _ _ (l.hh _ _ e), fun c hc => ?_, fun i => ?_, l.σl, l.σe⟩
  · rcases g.nz c hc with h | ⟨i, h⟩ | h
    · exact l.nz c h
    · rw [l.f0 i] at h; cases h
    · refine .inr ?_
      cases e : H c with
      | none => rfl
      | some o => rw [l.hh _ _ e] at h; cases h
  · refine List.eq_nil_iff_forall_not_mem.mpr fun c hc => ?_
    have := g.sub i c hc
    rw [l.f0 i] at this
    cases this
theorem Lent.back (s : SR K N Z H env σ F) (fr : Fr G σ Z H F) (h0 : ¬ Np G → 0 ∉ slots a) (l : Lent K N a Z H env F σ Zi Hi envi Fi σi) : SR K N (unfA F Zi) Hi (Q.wipe (slots a) env) σi (out (slots a) F) ∧ Fr G σi (unfA F Zi) Hi (out (slots a) F) := by
  have os : ∀ i c, c ∈ out (slots a) F i → c ∈ F i := fun i c h => by
    unfold out at h
    split at h
    · cases h
    · exact h
  refine ⟨⟨by rw [wipe_len, s.len]; exact l.σl.symm, fun j d e => ?_, fun i h => ?_, fun i => ?_, fun i j c h1 h2 => s.dj i j c (os i c h1) (os j c h2), unfA_zh l.sr.zh⟩, fun v hv => ?_, fr.zz.trans (unfA_zz s l.zz), fun c o hc e => l.hh _ _ (fr.hh c o hc e), fun c hc => ?_, fun i c h => fr.fr i c (os i c h)⟩
  · rw [wipe_at] at e
    by_cases hj : j ∈ slots a
    · by_cases hl : j < env.length
      · rw [if_pos ⟨hj, hl⟩] at e; cases e
      · rw [if_neg (fun q => hl q.2), List.getElem?_eq_none (by omega)] at e; cases e
    · rw [if_neg (fun q => hj q.1)] at e
      rw [l.σe j hj, out, if_neg hj]
      exact unfA_rep s l.zz l.hh e
  · unfold out
    by_cases hi : i ∈ slots a
    · rw [if_pos hi]
    · rw [if_neg hi]
      refine s.non i fun d e => h d ?_
      rw [wipe_at, if_neg (fun q => hi q.1)]; exact e
  · unfold out
    split
    · exact .nil
    · exact s.nd i
  · rw [l.σe 0 (h0 fun h => by rw [h] at hv; cases hv)]; exact fr.pn v hv
  · by_cases q : ∃ i, c ∈ F i
    · exact absurd (unfA_in q) hc
    · rw [unfA_out q] at hc
      rcases l.nz c hc with h | h
      · rw [frz_out (S := fun c => ∃ i, c ∈ F i) q] at h
        exact fr.nz c h
      · exact .inr (fr.free h)
end
theorem s_forT {tg : Expr} {v : Bool} {p1 p2 : Pos} (h0 : ¬ Np G → 0 ∉ slots a) (hp : PassesOwn (model X.prog X.w) X.A X.env X.xe) (hc : X.calm = true) (hi : OkF X N W P tg b eb) (hg : OkG X N a tg) (ht : OkT X N W P c ec) (he : OkE X N W P (.bl v) ee) (hz : isTupE tg = true → ∃ e, a = .tup e) (hs : ∀ x, foldedSetIterable eb X.env x = pure x) :
    OkS X N W P G (.forT a b c v) (.For tg eb [.If ec [.Return (some ee) p1] [] p2] [] pos) :=
  L2.PS.imp (ps_for hp hc hi hg (pss_one (ps_if ht (pss_one (ps_ret he.ev)) pss_nil)) hs) fun Dn σ H ⟨Z, env, F, sr, fr, h⟩ => by
    have hx : ∃ xs e1, forIt P b (shrA env) = .ok xs e1 ∧ Kk X.K N W G Dn v (Q.wipe (slots a) env) (loop (askT P a c v) xs e1) := by
      simp only [exec] at h
      split at h
      · rename_i xs e1 e
        refine ⟨xs, e1, e, ?_⟩
        split at h
        · rename_i e2; show Kk _ _ _ _ _ _ _ (loop _ xs e1); rw [show loop (askT P a c v) xs e1 = _ from e2]; exact h
        · rename_i e2; show Kk _ _ _ _ _ _ _ (loop _ xs e1); rw [show loop (askT P a c v) xs e1 = _ from e2]; exact h
        · exact h.elim
      · exact h.elim
    obtain ⟨xs, e1, hfor, hk⟩ := hx
    refine ⟨_, _, _, lendA_sr sr, ?_⟩
    rw [show (env.map (Option.map shr)) = shrA env from rfl, hfor]
    intro Z1 H1 F1 G1 J wk
    have l0 : Lent X.K N a Z H env F σ (frz Z H (fun c => ∃ i, c ∈ F i)) H (shrA env) (fun _ => []) σ := ⟨lendA_sr sr, Same.refl _, Same.refl _, fun c h => .inl h, fun _ => rfl, rfl, fun _ _ => rfl⟩
    have l1 := l0.go G1
    refine ⟨fun i m σi Hi => m = xs.length - i ∧ i ≤ xs.length ∧ ∃ Zi envi Fi, Lent X.K N a Z H env F σ Zi Hi envi Fi σi ∧ Same Z1 Zi ∧ Kk X.K N W G Dn v (Q.wipe (slots a) env) (loop (askT P a c v) (xs.drop i) envi), ⟨xs.length, by simp, Nat.zero_le _, Z1, e1, F1, l1, Same.refl _, by rw [List.drop_zero]; exact hk⟩, ?_⟩
    rintro i m σi Hi ⟨rfl, hil, Zi, envi, Fi, li, zi, hki⟩
    obtain ⟨wgo, wst⟩ := wk Zi Hi zi li.sr.zh
    by_cases hlt : i < xs.length
    · refine .inr ?_
      have ex : xs[i]? = some xs[i] := List.getElem?_eq_getElem hlt
      obtain ⟨jg, jy⟩ := wgo i _ ex
      rw [List.drop_eq_getElem_cons hlt] at hki
      let Nx : L2.St → Hp → Prop := fun σ' H' => ∃ Z' env' F', Lent X.K N a Z H env F σ Z' H' env' F' σ' ∧ Same Z1 Z' ∧ Kk X.K N W G Dn v (Q.wipe (slots a) env) (loop (askT P a c v) (xs.drop (i + 1)) env')
      refine ⟨jg, Nx, fun σ' H' ⟨Z', env', F', h1, h2, h3⟩ => ⟨xs.length - (i + 1), by omega, rfl, hlt, Z', env', F', h1, h2, h3⟩, fun x H' hy => ?_⟩
      have item : Itm X.K N Zi H' a xs[i] x [] ∧ Go X.K N σi Zi Hi envi Fi Zi H' envi Fi := by
        rcases jy x H' hy with ⟨rfl, r⟩ | ⟨zt, l, d1, d2, v1, v2, e, rfl, hl, rfl, r1, r2⟩
        · exact ⟨.inl r, Go.refl li.sr⟩
        · obtain ⟨es, he⟩ := hz zt
          refine ⟨.inr ⟨es, _, l, [v1, v2], he, e, rfl, .inl (.inl upd_same), .cons (f := []) (g := []) ?_ (.cons (f := []) (g := []) ?_ .nil)⟩, Go.newO li.sr hl⟩
          · exact r1.mono (Same.refl _) fun _ h => nomatch h
          · exact r2.mono (Same.refl _) fun _ h => nomatch h
      obtain ⟨ri, gi⟩ := item
      have lg := li.go gi
      have hb : ∃ envb, bnd a xs[i] envi = .ok () envb ∧ Kk X.K N W G Dn v (Q.wipe (slots a) env) (((tst P c envb).bind fun t e => if t then (.ok (.ret (.bl v)) e : Q.R Fl) else .ok .nx e).bind fun r e => match r with
          | .nx => loop (askT P a c v) (xs.drop (i + 1)) e
          | .cont => loop (askT P a c v) (xs.drop (i + 1)) e
          | .brk => .ok .nx e
          | .ret d => .ok (.ret d) e) := by
        simp only [loop, askT] at hki
        cases e : bnd a xs[i] envi with
        | stuck => rw [e] at hki; exact hki.elim
        | exc => exact absurd e (bnd_ne _ _ _ _ _ _ _)
        | ok u envb => rw [e] at hki; exact ⟨envb, rfl, hki⟩
      obtain ⟨envb, eb, hkb⟩ := hb
      refine ⟨Zi, envi, Fi, xs[i], [], gi.sr, ri, .nil, fun _ h => (nomatch h), envb, eb, fun σ2 F2 s2 m2 => ?_⟩
      have f2 : ∀ i, F2 i = [] := fun i => List.eq_nil_iff_forall_not_mem.mpr fun c hc => by
        rcases m2.sub i c hc with h | h
        · rw [lg.f0 i] at h; cases h
        · cases h
      have l2 : Lent X.K N a Z H env F σ Zi H' envb F2 σ2 := ⟨s2, lg.zz, lg.hh, lg.nz, f2, by rw [m2.len]; exact lg.σl, fun j hj => by rw [(m2.oth j hj).1]; exact lg.σe j hj⟩
      refine ⟨Zi, envb, F2, s2, ?_⟩
      cases e2 : vw P c envb with
      | stuck => simp only [tst, e2, Q.R.bind] at hkb; exact hkb.elim
      | exc => simp only [tst, e2, Q.R.bind] at hkb; exact hkb.elim
      | ok y env2 =>
        simp only [tst, e2, Q.R.bind] at hkb
        intro Z3 H3 F3 G3
        have l3 := l2.go G3
        cases e3 : tru y with
        | none => rw [e3] at hkb; exact hkb.elim
        | some k =>
          rw [e3] at hkb
          refine ⟨k, rfl, ?_⟩
          cases k with
          | false =>
            exact iteF ⟨Z3, env2, F3, l3, zi.trans G3.zz, hkb⟩
          | true =>
            refine iteT ⟨Z3, env2, F3, l3.sr, ?_⟩
            have ev1 : ev P (.bl v) env2 = .ok (.bl v) env2 := rfl
            rw [ev1]
            intro Z4 H4 F4 G4 w ⟨fv, t⟩
            have l4 := l3.go G4
            obtain ⟨s5, fr5⟩ := l4.back sr fr h0
            have hw : fv = [] ∧ w = .bl v := by cases t.rep; exact ⟨rfl, rfl⟩
            obtain ⟨rfl, rfl⟩ := hw
            exact hkb σ2 _ H4 _ _ fr5 ⟨⟨[], .bl _, .nil, fun _ h => (nomatch h)⟩, s5.zh⟩
    · have e : i = xs.length := by omega
      subst e
      refine .inl ⟨wst _ (Nat.le_refl _), ?_⟩
      rw [List.drop_length] at hki
      obtain ⟨s5, fr5⟩ := li.back sr fr h0
      exact hki σi _ Hi _ s5 fr5
end
end
end Q
end
section
set_option linter.all false
set_option autoImplicit false
set_option maxHeartbeats 1000000
set_option maxRecDepth 100000
/-! sorted(set(xs)) of whole numbers: the set that the list gives can be walked. -/
namespace Q
open PySem PySem.Spec PyProof.Rows L2
section
variable {prog : Program} {w : World} {A : Around} {R : Result → Shared → Prop} {I : Addr} {fp wr : List Addr} {G : Array GenState → Array GenState → Prop} {n : Nat} {P : Nat → Value → Prop} {St : Nat → Shared → Prop}
theorem fill_walk (W : WalksS prog w A.in1 I fp wr G n P St) (S : Addr) (hSf : S ∉ fp) (ns : List Int) (hsz : ns.length = n)
    (hval : ∀ i v, P i v → ∃ t, v = .int (ns.getD i 0) t) (hb : n + 1 < scanBound) :
    ∀ (k i : Nat) (s : Shared), n - i = k → i ≤ n → St i s →
      (∃ m, m ≤ i ∧ SetR w s.heap S (fun j => decide (j ∈ ns.take i)) m) →
      (∀ s', Moved (S :: wr) G s s' → (∃ m, m ≤ n ∧ SetR w s'.heap S (fun j => decide (j ∈ ns.take n)) m) → R (.ok (.ret .none)) s') →
      codeAny (model prog w) A (.builtin "set.update.loop" ⟨[.ref S, .ref I], []⟩) R s := by
  have hSw : S ∉ wr := fun h => hSf (W.sub _ h)
  have hsub : ∀ b ∈ wr, b ∈ S :: wr := fun b hb => List.mem_cons_of_mem _ hb
  intro k
  induction k with
  | zero =>
    intro i s hk hi hst hS hR
    have hin : i = n := by omega
    subst hin
    refine codeAny_builtin F.entry_set_update_loop ?_
    rw [Around.under_plainId F.plain_set_update_loop _]
    show wpAny _ A.in1 (pyNext (.ref I) >>= _) _ _ s
    refine wpAny_bind (W.done s _ _ hst fun s' hm => ?_)
    show wpAny _ A.in1 (ret Value.none) _ _ s'
    obtain ⟨m, h1, r⟩ := hS
    exact wpAny_pure (hR s' (hm.mono hsub) ⟨m, h1, r.at fun o e => hm.heap S _ hSw e⟩)
  | succ k ih =>
    intro i s hk hi hst hS hR
    have hlt : i < n := by omega
    refine codeAny_builtin F.entry_set_update_loop ?_
    rw [Around.under_plainId F.plain_set_update_loop _]
    show wpAny _ A.in1 (pyNext (.ref I) >>= _) _ _ s
    refine wpAny_bind (W.item i s _ _ hlt hst fun v s' hP hst' hm => ?_)
    obtain ⟨t, rfl⟩ := hval i v hP
    obtain ⟨m, h1, r⟩ := hS
    have r' := r.at (h' := s'.heap) fun o e => hm.heap S _ hSw e
    show wpAny _ A.in1 (holding [Value.int (ns.getD i 0) t] (setAdd S (.int (ns.getD i 0) t)) >>= _) _ _ s'
    refine wpAny_bind (wpAny_holding ?_)
    unfold setAdd
    refine wpAny_holding ?_
    refine wpAny_bind ((intKind prog w).pyHash (k := ns.getD i 0) (intKind_is _ _ _ _) ?_)
    refine setR_add_hashed (s := { s' with toks := s'.toks + 1 }) r' (by omega) fun h' hsb r2 => ?_
    have e1 : ns.take (i + 1) = ns.take i ++ [ns.getD i 0] := by
      have hl : i < ns.length := by omega
      rw [List.take_add_one, List.getElem?_eq_getElem hl, List.getD_eq_getElem?_getD, List.getElem?_eq_getElem hl]
      rfl
    have r3 : ∃ m, m ≤ i + 1 ∧ SetR w h' S (fun j => decide (j ∈ ns.take (i + 1))) m := by
      refine ⟨_, ?_, r2.congr fun j => ?_⟩
      · split <;> omega
      · rw [e1]
        simp only [List.mem_append, List.mem_singleton, Bool.decide_or]
    refine wpAny_pure ⟨plainId_quiet F.plain_set_update_loop _, ih (i + 1) _ (by omega) hlt (W.frame _ s' _ _ hst' (Nat.le_succ _) fun b hb o e => ?_) r3 fun s'' hm'' hS'' => ?_⟩
    · rw [hsb.2 b (fun h : b = S => hSf (by rw [← h]; exact hb))]; exact e
    · refine hR s'' (Moved.trans W.gtrans ((hm.mono hsub).then_heap (Nat.le_succ _) fun b o hb e => ?_) hm'') hS''
      rw [hsb.2 b (fun h : b = S => hb (by rw [h]; exact List.mem_cons_self))]; exact e
end
section
variable {prog : Program} {w : World} {A : Around} {E : Value → Shared → Prop} {s : Shared}
theorem new_set_led (a : Value) {Q₁ : Value → Shared → Prop}
    (h : Q₁ (.ref s.heap.objs.size) { s with heap := s.heap.push { cls := .type "set", dict := none, data := .set #[] 0 (.fresh 0 0 (!w.params.followText "set-order")) } }) :
    codeAny (model prog w) A (.call (.builtin "set.__new__") ⟨[.type "set", a], []⟩) (wants Q₁ E) s := by
  refine codeAny_of_tree ?_
  show wpAny _ A.in1 (do checkBuiltinCall "set.__new__" ⟨[.type "set", a], []⟩; again (.builtin "set.__new__" ⟨[.type "set", a], []⟩)) _ _ s
  refine wpAny_bind (wpAny_of_eq (PySem.F.newCall_set_1 a) (wpAny_pure ⟨plainId_quiet F.plain_set_new _, codeAny_builtin F.entry_set_new ?_⟩))
  rw [Around.under_plainId F.plain_set_new _]
  unfold Builtin.«set.__new__» Builtin.Frozenset.newClass
  have hsub := sub_set_self
  obtain ⟨hp, g, d, tk, os⟩ := s
  dsimp only
  wp_walk
  refine wpAny_askSetting (wpAny_pure ?_)
  dsimp only
  simp only [newObj]
  refine wpAny_bind (wpAny_alloc (wpAny_pure ?_))
  exact wpAny_pure h
set_option maxHeartbeats 3200000 in
theorem set_of_list {l : Addr} {items : Array Value} {ns : List Int} {Q : Value → Shared → Prop}
    (hh : A.handled = none) (hl : s.heap.IsList l items) (hi : IntsAre items.toList ns) (hb : items.size + 1 < scanBound)
    (h : ∀ (h' : Heap) (tk m : Nat), m ≤ ns.length → SetR w h' s.heap.objs.size (fun j => decide (j ∈ ns)) m →
      (∀ b o, b < s.heap.objs.size → s.heap.get? b = some o → h'.get? b = some o) → Q (.ref s.heap.objs.size) { s with heap := h', toks := tk }) :
    wpAny (model prog w) A (call (.type "set") [.ref l]) Q E s := by
  have hsz : ns.length = items.size := by rw [← hi.length, Array.length_toList]
  obtain ⟨c, tl, hmro⟩ := PySem.F.called_set.mro
  have hmade := PySem.F.called_set.made
  have hsub := PySem.F.called_set.sub
  refine wpAny_call (codeAny_of_tree ?_)
  show wpAny _ _ (callAny (.type "set") _) _ _ _
  refine wpAny_pure ⟨Code.quiet_builtin _ (by decide +kernel), codeAny_builtin PySem.F.entry_type_call ?_⟩
  rw [Around.under_plain (weight_type_call_type "set" [.ref l] []) rfl]
  have h1 := PySem.F.called_set.notType
  have h2 := PySem.F.called_set.canCreate
  have hct := PySem.F.typeCall_set_1 (.ref l)
  repeat (any_goals (first | assumption | wp_step))
  refine codeAny_mono (new_set_led (.ref l) (E := E) (Q₁ := fun obj s₁ => obj = .ref s.heap.objs.size ∧ s₁ = { s with heap := s.heap.push { cls := .type "set", dict := none, data := .set #[] 0 (.fresh 0 0 (!w.params.followText "set-order")) } }) ⟨rfl, rfl⟩) fun r s₁ hr => ?_
  cases r with
  | error e => exact hr
  | ok fl =>
    cases fl with
    | ret obj =>
      obtain ⟨rfl, rfl⟩ := hr
      have r0 := setR_fresh (h := s.heap) w
      generalize hled : (!w.params.followText "set-order") = led at *
      have hS : (s.heap.push { cls := .type "set", dict := none, data := .set #[] 0 (.fresh 0 0 led) }).get? s.heap.objs.size = some { cls := .type "set", dict := none, data := .set #[] 0 (.fresh 0 0 led) } := Heap.get?_push_size _ rfl
      have hT : Shared.TypeIs { s with heap := s.heap.push { cls := .type "set", dict := none, data := .set #[] 0 (.fresh 0 0 led) } } (.ref s.heap.objs.size) "set" := ⟨_, hS, rfl⟩
      have hli := PySem.F.called_set.init.lookup
      have hbi := PySem.F.called_set.init.bind (.ref s.heap.objs.size)
      repeat (any_goals (first | assumption | wp_step))
      refine codeAny_mono (codeAny_call_builtin (R := wants (fun r s₂ => r = .none ∧ ∃ h' tk, s₂ = { s with heap := h', toks := tk } ∧
          (∃ m, m ≤ items.size ∧ SetR w h' s.heap.objs.size (fun j => decide (j ∈ ns.take items.size)) m) ∧
          (∀ b o, b < s.heap.objs.size → s.heap.get? b = some o → h'.get? b = some o)) E) PySem.F.called_set.init.plain PySem.F.entry_set_init (check_set_init_1 hT ?_)) fun r₂ s₂ hr₂ => ?_
      · obtain ⟨ol, hol, hcl, nl, hdl⟩ := hl
        obtain ⟨ocls, odict, odata, oslots⟩ := ol
        simp only at hcl hdl
        subst hcl; subst hdl
        have hol' : (s.heap.push { cls := .type "set", dict := none, data := .set #[] 0 (.fresh 0 0 led) }).get? l = some { cls := .type "list", dict := odict, data := .seq items nl, slots := oslots } := Heap.get?_push_of_some _ hol
        have hsls := PySem.F.sub_list_set
        have hslf := PySem.F.sub_list_frozenset
        have hne : (Value.type "list" == Value.type "dict") = false := by decide
        have hl1 : (s.heap.push { cls := .type "set", dict := none, data := .set #[] 0 (.fresh 0 0 led) }).IsList l items := ⟨_, hol', rfl, nl, rfl⟩
        unfold Builtin.«set.__init__» noKeywords Builtin.Frozenset.updateFrom
        generalize hPI : pyIter = PI
        wp_walk
        subst hPI
        refine wpAny_pyIter_list hl1 ?_
        refine wpAny_bind (wpAny_runValue ?_)
        have hlS : l < s.heap.objs.size := Heap.lt_size hol
        have hh3 : A.in1.in1.in1.handled = none := by simp [hh]
        have hneI : l ≠ (s.heap.push { cls := .type "set", dict := none, data := .set #[] 0 (.fresh 0 0 led) }).objs.size := by
          rw [Heap.size_push]; exact Nat.ne_of_lt (Nat.lt_succ_of_lt hlS)
        have hSf : s.heap.objs.size ∉ [(s.heap.push { cls := .type "set", dict := none, data := .set #[] 0 (.fresh 0 0 led) }).objs.size, l] := by
          rw [Heap.size_push]; simp only [List.mem_cons, List.mem_singleton, List.not_mem_nil, or_false, not_or]
          exact ⟨Nat.ne_of_lt (Nat.lt_succ_self _), Nat.ne_of_gt hlS⟩
        have hval : ∀ (i : Nat) (v : Value), items[i]? = some v → ∃ t, v = .int (ns.getD i 0) t := fun i v hv =>
          IntsAre.int_at hi i v (by rw [Array.getElem?_toList]; exact hv)
        refine fill_walk ((Walks.list hh3 _ l hneI items).toS) s.heap.objs.size
          hSf ns hsz hval hb (items.size - 0) 0 _ (by omega) (Nat.zero_le _)
          ⟨⟨_, Heap.get?_push_size _ rfl, rfl, rfl⟩, (hl1.push _)⟩ ?hS0 ?hR
        case hS0 =>
          exact ⟨0, Nat.le_refl _, (r0.at fun o e => Heap.get?_push_of_some _ e).congr fun j => by simp⟩
        case hR =>
          intro s' hm hS'
          obtain ⟨h', g', d', tk', os'⟩ := s'
          have eg : g' = s.gens := hm.gens
          have ed : d' = s.drawn := hm.drawn
          have eo : os' = s.os := hm.os
          subst eg; subst ed; subst eo
          show wpAny _ _ _ _ _ _
          refine wpAny_pure ?_
          show wpAny _ _ (ret Value.none) _ _ _
          refine wpAny_pure ⟨rfl, h', tk', rfl, hS', fun b o hb e => ?_⟩
          have hb1 : b ≠ s.heap.objs.size := Nat.ne_of_lt hb
          have hb2 : b ≠ (s.heap.push { cls := .type "set", dict := none, data := .set #[] 0 (.fresh 0 0 led) }).objs.size := by
            rw [Heap.size_push]; exact Nat.ne_of_lt (Nat.lt_succ_of_lt hb)
          exact hm.heap b o (by simp only [List.mem_cons, List.mem_singleton, List.not_mem_nil, or_false, not_or]; exact ⟨hb1, hb2⟩) (Heap.get?_push_of_some _ (Heap.get?_push_of_some _ e))
      · cases r₂ with
        | error e => exact hr₂
        | ok fl₂ =>
          cases fl₂ with
          | ret r =>
            obtain ⟨rfl, h', tk, rfl, ⟨m, hm, hS'⟩, hk'⟩ := hr₂
            repeat (any_goals (first | assumption | wp_step))
            rw [← hsz, List.take_length] at hS'
            exact h _ _ m (by omega) hS' hk'
          | _ => exact hr₂.elim
    | _ => exact hr.elim
end
theorem mem_insU {x y : Int} : ∀ {l : List Int}, y ∈ insU x l ↔ y = x ∨ y ∈ l
  | [] => by simp [insU]
  | z :: l => by
    unfold insU
    split
    · simp
    · split
      · rename_i h
        subst h
        simp
      · simp only [List.mem_cons, mem_insU (l := l)]
        constructor
        · rintro (h | h | h)
          · exact .inr (.inl h)
          · exact .inl h
          · exact .inr (.inr h)
        · rintro (h | h | h)
          · exact .inr (.inl h)
          · exact .inl h
          · exact .inr (.inr h)
theorem insU_lt (x : Int) : ∀ {l : List Int}, l.Pairwise (· < ·) → (insU x l).Pairwise (· < ·)
  | [], _ => by simp [insU]
  | y :: ys, h => by
    obtain ⟨h1, h2⟩ := List.pairwise_cons.mp h
    unfold insU
    split
    · rename_i hm
      exact List.pairwise_cons.mpr ⟨fun z hz => (List.mem_cons.mp hz).elim (fun e => by omega) fun e => by have := h1 z e; omega, h⟩
    · rename_i hm
      split
      · exact h
      · rename_i hne
        refine List.pairwise_cons.mpr ⟨fun z hz => ?_, insU_lt x h2⟩
        rcases mem_insU.mp hz with e | e
        · omega
        · exact h1 z e
theorem mem_sortU {y : Int} : ∀ {l : List Int}, y ∈ sortU l ↔ y ∈ l
  | [] => by simp [sortU]
  | x :: xs => by rw [sortU, mem_insU, List.mem_cons, mem_sortU (l := xs)]
theorem sortU_lt : ∀ l : List Int, (sortU l).Pairwise (· < ·)
  | [] => by simp [sortU]
  | x :: xs => by rw [sortU]; exact insU_lt x (sortU_lt xs)
theorem lt_one : ∀ {a b : List Int}, a.Pairwise (· < ·) → b.Pairwise (· < ·) → (∀ k, k ∈ a ↔ k ∈ b) → a = b
  | [], [], _, _, _ => rfl
  | [], y :: b, _, _, h => absurd ((h y).mpr List.mem_cons_self) (by simp)
  | x :: a, [], _, _, h => absurd ((h x).mp List.mem_cons_self) (by simp)
  | x :: a, y :: b, h1, h2, h => by
    obtain ⟨p1, p2⟩ := List.pairwise_cons.mp h1
    obtain ⟨q1, q2⟩ := List.pairwise_cons.mp h2
    have e : x = y := by
      rcases List.mem_cons.mp ((h x).mp List.mem_cons_self) with e | e
      · exact e
      · rcases List.mem_cons.mp ((h y).mpr List.mem_cons_self) with e' | e'
        · exact e'.symm
        · have := q1 x e; have := p1 y e'; omega
    subst e
    rw [lt_one p2 q2 fun k => ?_]
    constructor
    · intro hk
      rcases List.mem_cons.mp ((h k).mp (List.mem_cons_of_mem _ hk)) with e | e
      · have := p1 k hk; omega
      · exact e
    · intro hk
      rcases List.mem_cons.mp ((h k).mpr (List.mem_cons_of_mem _ hk)) with e | e
      · have := q1 k hk; omega
      · exact e
section
variable {X : Cx} {N : Nm} {W : WX} {P : Pg} {a b : Ex} {ea eb : Expr} {pos pos2 p p2 : Pos} {x y : Str}
def rSetL (X : Cx) : List V → Hp → VK → Prop := fun vs H Q => ∃ (l : Addr) (ns : List Int), vs = [V.ref l] ∧ SqL X.K H l (ns.map V.int) ∧ ns.length < 64 ∧
  ∀ (p : Addr) (m : Nat), m ≤ ns.length → H p = none → Q (.ref p) (upd H p (SetO X.w p (fun j => decide (j ∈ ns)) m))
theorem cr_setL (hc : X.calm = true) : CallR X (.type "set") (rSetL X) := by
  intro pins s σ H xs us Q I r h
  obtain ⟨l, ns, rfl, hq, h64, q⟩ := h
  obtain ⟨its, rv, pl, hz⟩ := I.list hq
  rw [Vals.ref1 r]
  have hlen : its.toArray.size = ns.length := by rw [List.size_toArray, ← rv.length, List.length_map]
  refine set_of_list (I.ok.hd hc) pl.isList (by simpa using RZ.intsAre_vals rv) (by rw [hlen]; unfold scanBound; omega) fun h' tk m hm hS hk => ?_
  exact ⟨.ref _, upd H s.heap.objs.size (SetO X.w s.heap.objs.size (fun j => decide (j ∈ ns)) m), I.laid (fun b u e => hk b u (Heap.lt_size e) e) (Nat.le_refl _) (setO_new hS), rfl, q _ _ hm (I.hok.fresh (Nat.le_refl _))⟩
theorem e_sset (hcalm : X.calm = true) (B : Blt X x (.builtin "sorted")) (B2 : Blt X y (.type "set")) (ha : OkE X N W P a ea) (h1 : plainE ea = true) :
    OkE X N W P (.sset a) (.Call (.Name x p) [.Call (.Name y p2) [ea] [] pos2] [] pos) :=
  L2.PE.imp (pe_callB (cr_sortedSet hcalm) B.gl B.mg B.bo (pa_cons (e_ty1 (p := p2) (pos := pos2) (cr_setL hcalm) B2 ha h1) pa_nil (star_cons rfl)) B.nn B.db (star_cons rfl) rfl) fun σ H Q ⟨Z, env, F, s, h⟩ => ⟨Z, env, F, s, (Post.bind h).imp fun y env1 Z1 H1 F1 G1 h1 v rv => by
    obtain ⟨d, e, h1⟩ := Post.noneR h1
    unfold ssetD at e
    obtain ⟨ns, l, e, rfl, hl⟩ := onInts_of G1.sr.zh rv.ct e
    split at e
    · rename_i h64
      cases e
      refine ⟨l, ns, rfl, hl.sq, h64, fun p m hm hp => ⟨p, _, m, rfl, upd_same, by omega, fun ns' p' hs hmem hlen hp' => ?_⟩⟩
      rw [lt_one hs (sortU_lt ns) fun k => by rw [hmem k, decide_eq_true_eq, mem_sortU]]
      exact fin_list (G1.trans (Go.newO (o := SetO X.w p (fun j => decide (j ∈ ns)) m) G1.sr hp)) (reps_ints _) (fun Z' H' F' g v r => h1 Z' H' F' ((Go.newO (o := SetO X.w p (fun j => decide (j ∈ ns)) m) G1.sr hp).trans g) v r) hp'
    · cases e⟩
end
end Q
end
section
set_option linter.all false
set_option autoImplicit false
set_option maxHeartbeats 1000000
/-! Defs that change what their first name holds. -/
namespace Q
open PySem PySem.Spec PyProof.Rows L2
/-- what such a def promises -/
def spM (K : PySem.W.Frag) (N : Nm) (n : Nat) (c : List D → CR) : Sp := fun vs H Q E => vs.length = n + 1 ∧ ∃ Z d ds v us fp, vs = v :: us ∧ Same Z H ∧ Rep K N Z H d v fp ∧ fp.Nodup ∧ Reps K N Z H ds us [] ∧
  match c (d :: ds) with
  | .ok d' => ∀ Z' H' fv, Same Z Z' → (∀ b o, b ∉ fp → H b = some o → H' b = some o) → Same Z' H' → (∀ c, Z' c ≠ none → Z c ≠ none ∨ H c = none ∨ c ∈ fp) → Rep K N Z' H' d' v fv → fv.Nodup → (∀ c ∈ fv, c ∈ fp ∨ H c = none) → Q .non H'
  | _ => False
theorem spM_le {K : PySem.W.Frag} {N : Nm} {n : Nat} {f g : List D → CR} (h : ∀ ds, g ds ≠ .stuck → f ds = g ds) {vs : List V} {H : Hp} {Q : VK} {E : XK} (s : spM K N n g vs H Q E) : spM K N n f vs H Q E := by
  obtain ⟨h1, Z, d, ds, v, us, fp, e0, h2, h3, h5, h6, h4⟩ := s
  refine ⟨h1, Z, d, ds, v, us, fp, e0, h2, h3, h5, h6, ?_⟩
  cases e : g (d :: ds) with
  | stuck => rw [e] at h4; exact h4.elim
  | ok d' => rw [h _ (by rw [e]; exact fun h => nomatch h), e]; rw [e] at h4; exact h4
  | exc c fs xs => rw [e] at h4; exact h4.elim
section
variable {P : Program} {w : World} {K : PySem.W.Frag} {mg : Str → Option Value} {base : Heap} {N : Nm} {Pg : Q.Pg}
theorem fn_mut {F : Fn} {x qual : Str} {st : Stmt} {f : Addr} {fd : FuncData} {Nl ps : List Str} {k n : Nat} (FF : Fun K x qual st f fd) (S : FnScope Nl ps (defScope st)) (hn : n + 1 = ps.length) (hnp : F.np = ps.length) (hns : F.ns = Nl.length)
    (hb : ∀ (cdv : Value) (A : Around) (outer : List PySem.Env) (s : Shared) (H : Hp) (E : XK), Room k (A.deeper (envOfC qual (defScope st) s.heap.objs.size f cdv)) →
      ∀ G, OkB (cxOf (L2.CX P w) P w K mg base Nl qual (defScope st) f cdv A outer s H E) N (fun cls d _ H => E cls d H) Pg G F.body (defBody st)) : FnOk P w K mg base (L2.CX P w) (k + 1) f fd ps (spM K N n (runM Pg F)) := by
  refine FF.okX S (fun vs H Q E h => h.1.trans hn) fun cdv A outer s H vs Q E hr h => ?_
  obtain ⟨hl, Z, d0, ds, v0, us, fp, rfl, zh, r0, nd0, r, h⟩ := h
  have hus : us.length = n := by simpa using hl
  let G : Gnd := ⟨Z, H, fun c => c ∈ fp, some v0⟩
  have sr0 := start_sr (n := F.ns - F.np) (m := F.ns - F.np) zh r rfl
  have est : L2.start Nl (v0 :: us) = some v0 :: (us.map some ++ List.replicate (F.ns - F.np) none) := by
    simp only [L2.start, List.map_cons, List.cons_append, List.length_cons]
    rw [hns, hnp, ← hn, hus]
  have sr : SR K N Z H (some d0 :: (ds.map some ++ List.replicate (F.ns - F.np) none)) (L2.start Nl (v0 :: us)) (fun i => if i = 0 then fp else []) := by
    rw [est]
    refine ⟨by simpa using sr0.len, fun i d e => ?_, fun i hh => ?_, fun i => ?_, fun i j c h1 h2 => ?_, zh⟩
    · cases i with
      | zero => cases e; exact ⟨_, rfl, r0⟩
      | succ i =>
        obtain ⟨v, e1, r1⟩ := sr0.som i d (by simpa using e)
        exact ⟨v, by simpa using e1, r1⟩
    · cases i with
      | zero => exact absurd rfl (hh d0)
      | succ i => rfl
    · split
      · exact nd0
      · exact .nil
    · split at h1
      · split at h2
        · omega
        · cases h2
      · cases h1
  have fr : Fr G (L2.start Nl (v0 :: us)) Z H (fun i => if i = 0 then fp else []) := ⟨fun v hv => by cases hv; rw [est]; rfl, Same.refl _, fun _ _ _ e => e, fun _ h => .inl h, fun i c h => by
    split at h
    · exact .inr h
    · cases h⟩
  refine ⟨_, hb cdv A outer s H E hr G, Z, _, _, sr, fr, ?_⟩
  have hc : (d0 :: ds).length = F.np := by rw [hnp, ← hn, List.length_cons, r.length, hus]
  simp only [runM, hc, if_true] at h
  have e0 : (d0 :: ds).map some ++ List.replicate (F.ns - F.np) none = some d0 :: (ds.map some ++ List.replicate (F.ns - F.np) none) := rfl
  rw [e0] at h
  cases e : exec Pg F.body (some d0 :: (ds.map some ++ List.replicate (F.ns - F.np) none)) with
  | stuck => rw [e] at h; exact h.elim
  | exc c fs xs env => rw [e] at h; exact h.elim
  | ok b env =>
    rw [e] at h
    cases b with
    | nx =>
      cases env with
      | nil => exact h.elim
      | cons o env =>
        cases o with
        | none => exact h.elim
        | some d =>
          intro σ' Z' H' F' s' f'
          obtain ⟨v, e1, r1⟩ := s'.som 0 d rfl
          have := f'.pn v0 rfl
          rw [this] at e1
          cases e1
          exact h Z' H' (F' 0) f'.zz (fun b o hb e => f'.hh b o hb e) s'.zh f'.nz r1 (s'.nd 0) fun c hc => (f'.fr 0 c hc).symm
    | brk => exact h.elim
    | cont => exact h.elim
    | ret d => exact h.elim
end
section
variable {X : Cx} {N : Nm} {W : WX} {P : Pg} {G : Gnd} {a : Ex} {pos p yp cpos : Pos} {x y : Str}
structure CaM (X : Cx) (N : Nm) (P : Pg) (f n : Nat) (x : Str) : Prop where
  ex : ∃ (k : Nat) (fa : Addr) (fd : FuncData) (ps : List Str), ps.length = n + 1 ∧ FnOk X.prog X.w X.K X.mg X.base (L2.CX X.prog X.w) k fa fd ps (spM X.K N n (P.call f)) ∧ Room k X.A ∧ X.mg x = some (.ref fa) ∧ PySem.W.keepIn X.K (.ref fa) = true ∧ Binds X.K fd ps []
  gl : Gl X x
  db : (x == ("__debug__" : Str)) = false
open Classical in
theorem s_callM {f i n : Nat} {es : List Expr} (C : CaM X N P f n x) (hx : ∀ σ, PassesAt (L2.CX X.prog X.w) X σ (WE W σ)) (hr : row a = true) (hn : arity a = n) (hes : es.length = arity a) (h1 : es.all plainE = true)
    (hi : X.N[i]? = some y) (hv : Vis X.env.scope y) (hd : (y == ("__debug__" : Str)) = false) (hcd : (y == ("__classdict__" : Str)) = false) (ha : OkAr X N W P a es) :
    OkS X N W P G (.callM f i a) (.Expr (.Call (.Name x p) (.Name y yp :: es) [] cpos) pos) := by
  obtain ⟨k, fa, fd, ps, hl, F, hroom, hm, hk, hb⟩ := C.ex
  have key : PE X (.Call (.Name x p) (.Name y yp :: es) [] cpos) (tCallSD (spM X.K N n (P.call f)) [] (WE W) (tCons (tVar i) (tAr X.K N W (rts a) (args P a)))) :=
    pe_callSD (dvs := []) (ds := []) F hroom C.gl hm hk hb .nil hx (pa_cons (pe_var hi hv hd hcd) ha (star_cons rfl)) C.db (star_cons rfl) (star_any h1)
  refine L2.PS.imp (ps_expr key (drop_ok rfl)) fun D σ H ⟨Z, env, Fr0, s, fr, h⟩ => ?_
  simp only [exec] at h
  cases e0 : env[i]? with
  | none => rw [e0] at h; exact h.elim
  | some o0 =>
    cases o0 with
    | none => rw [e0] at h; exact h.elim
    | some d0 =>
      rw [e0] at h
      obtain ⟨v, ev, _⟩ := s.som i d0 e0
      refine ⟨v, ev, Z, env, Fr0, s, (post_ok (PostS.post fr h)).imp fun q env1 Z1 H1 F1 G1 ⟨eq, f1, h1⟩ vs S ar => ?_⟩
      show spM X.K N n (P.call f) ((v :: vs) ++ []) H1 _ (WE W σ)
      rw [List.append_nil]
      cases e1 : env1[i]? with
      | none => rw [e1] at h1; exact h1.elim
      | some o1 =>
        cases o1 with
        | none => rw [e1] at h1; exact h1.elim
        | some d1 =>
          rw [e1] at h1
          simp only at h1
          cases hrt : (rts a).contains i with
          | true => rw [hrt] at h1; exact h1.elim
          | false =>
            rw [hrt] at h1
            obtain ⟨v', ev', r1⟩ := G1.sr.som i d1 e1
            rw [ev] at ev'
            cases ev'
            have sr := G1.sr
            obtain ⟨z1, z2, rr⟩ := ar.reps sr
            have hir : i ∉ rts a := fun h => by simp [h] at hrt
            have gout : ∀ c, c ∈ F1 i → gnd Z1 H1 S q.2 (rts a) F1 c = Z1 c := fun c hc => frz_out (S := lentS S q.2 (rts a) F1) fun h => by
              rcases h with h | ⟨_, j, hj, h⟩
              · exact ar.dj c h i hc
              · exact hir (sr.dj _ _ c hc h ▸ hj)
            have r1' : Rep X.K N (gnd Z1 H1 S q.2 (rts a) F1) H1 d1 v (F1 i) := r1.mono z1 fun c hc => ⟨rfl, by rw [gout c hc]; exact (r1.own1 c hc).1⟩
            refine ⟨by rw [List.length_cons, ← ar.length, args_len hr eq, hn], gnd Z1 H1 S q.2 (rts a) F1, d1, q.1, v, vs, F1 i, rfl, z2, r1', sr.nd i, rr, ?_⟩
            cases ec : P.call f (d1 :: q.1) with
            | stuck => rw [ec] at h1; exact h1.elim
            | exc c fs xs => rw [ec] at h1; exact h1.elim
            | ok d2 =>
              rw [ec] at h1
              simp only at h1
              cases hs : sha d2 with
              | true => rw [hs] at h1; exact h1.elim
              | false =>
                rw [hs] at h1
                intro Z2 H2 fv zz hh zh nz rv nd nw
                have h1 : ∀ σ Z H F, SR X.K N Z H (env1.set i (some d2)) σ F → Fr G σ Z H F → D.nx σ H := h1
                have hil := (List.getElem?_eq_some_iff.mp e1).1
                have dj : ∀ j c, j ≠ i → c ∈ F1 j → c ∉ F1 i := fun j c hj h h' => hj (sr.dj _ _ c h h')
                have hin : ∀ j c, j ≠ i → c ∈ F1 j → unf Z2 (fun j => if j = i then [] else F1 j) c = none := fun j c hj h => if_pos ⟨j, by show c ∈ (if j = i then [] else F1 j); rw [if_neg hj]; exact h⟩
                have hno : ∀ c, (∀ j, j ≠ i → c ∉ F1 j) → unf Z2 (fun j => if j = i then [] else F1 j) c = Z2 c := fun c h => if_neg fun ⟨j, q⟩ => by
                  have q : c ∈ (if j = i then [] else F1 j) := q
                  split at q
                  · cases q
                  · rename_i hj; exact h j hj q
                have keep : ∀ j c, j ≠ i → c ∈ F1 j → H2 c = H1 c := fun j c hj h => by
                  cases q : H1 c with
                  | none => exact absurd q (sr.own1 h).some
                  | some o => exact hh _ _ (dj j c hj h) q
                have kk : ∀ c o, Z2 c = some o → (∀ vs, o ≠ .lst vs) → o ≠ .dK [] → (∀ C dx fs, o ≠ .ins C dx fs) → unf Z2 (fun j => if j = i then [] else F1 j) c = some o := fun c o e n1 n2 n3 => by
                  rw [hno c, e]
                  intro j hj hc
                  have e3 := zh _ _ e
                  rw [keep j c hj hc] at e3
                  rcases (sr.own1 hc).2 with ⟨vs, q⟩ | q | ⟨C, dx, fs, q⟩
                  · rw [q] at e3; cases e3; exact n1 _ rfl
                  · rw [q] at e3; cases e3; exact n2 rfl
                  · rw [q] at e3; cases e3; exact n3 _ _ _ rfl
                have zn : ∀ c, Z2 c = none → unf Z2 (fun j => if j = i then [] else F1 j) c = none := fun c h => by
                  unfold unf; split
                  · rfl
                  · exact h
                have zs : Same Z1 (unf Z2 (fun j => if j = i then [] else F1 j)) := fun c o e => by
                  rw [hno c fun j _ hc => by have := (sr.own1 hc).1; rw [e] at this; cases this]
                  exact zz _ _ (z1 _ _ e)
                refine h1 σ (unf Z2 (fun j => if j = i then [] else F1 j)) H2 (fun j => if j = i then fv else F1 j) ⟨by rw [List.length_set]; exact sr.len, fun j d e => ?_, fun j hh' => ?_, fun j => ?_, fun j k c q1 q2 => ?_, fun c o e => ?_⟩ ⟨f1.pn, f1.zz.trans zs, fun c o ho e => ?_, fun c hc => ?_, fun j c hc => ?_⟩
                · by_cases q : j = i
                  · subst q
                    rw [List.getElem?_set_self hil] at e
                    cases e
                    exact ⟨v, ev, by rw [if_pos rfl]; exact Rep.unf kk zn rv hs⟩
                  · rw [List.getElem?_set_ne (Ne.symm q)] at e
                    obtain ⟨v0, e4, r0⟩ := sr.som j d e
                    refine ⟨v0, e4, ?_⟩
                    rw [if_neg q]
                    exact r0.mono zs fun c hc => ⟨keep j c q hc, hin j c q hc⟩
                · by_cases q : j = i
                  · subst q
                    exact absurd (List.getElem?_set_self hil) (hh' d2)
                  · rw [if_neg q]
                    exact sr.non j fun d e => hh' d (by rw [List.getElem?_set_ne (Ne.symm q)]; exact e)
                · show (if j = i then fv else F1 j).Nodup
                  split
                  · exact nd
                  · exact sr.nd j
                · have q1 : c ∈ (if j = i then fv else F1 j) := q1
                  have q2 : c ∈ (if k = i then fv else F1 k) := q2
                  have cr : ∀ c, c ∈ fv → ∀ m, m ≠ i → c ∉ F1 m := fun c hc m hm hcm => by
                    rcases nw c hc with h | h
                    · exact dj m c hm hcm h
                    · exact (sr.own1 hcm).some h
                  by_cases p1 : j = i
                  · by_cases p2 : k = i
                    · rw [p1, p2]
                    · rw [if_pos p1] at q1; rw [if_neg p2] at q2; exact absurd q2 (cr c q1 k p2)
                  · by_cases p2 : k = i
                    · rw [if_neg p1] at q1; rw [if_pos p2] at q2; exact absurd q1 (cr c q2 j p1)
                    · rw [if_neg p1] at q1; rw [if_neg p2] at q2; exact sr.dj j k c q1 q2
                · unfold unf at e
                  split at e
                  · cases e
                  · exact zh _ _ e
                · have := f1.hh c o ho e
                  refine hh c o (fun hc => ?_) this
                  rcases f1.fr i c hc with q | q
                  · rw [q] at e; cases e
                  · exact ho q
                · unfold unf at hc
                  split at hc
                  · exact absurd rfl hc
                  · rename_i hnj
                    rcases nz c hc with h | h | h
                    · unfold gnd frz at h
                      split at h
                      · rename_i hc'
                        rcases hc' with hc' | ⟨_, j, hj, hc'⟩
                        · rcases ar.new c hc' with h | ⟨j, h⟩
                          · exact .inr (fr.free h)
                          · exact .inr (fr.fr j c h)
                        · exact absurd ⟨j, by show c ∈ (if j = i then [] else F1 j); rw [if_neg fun e : j = i => hir (by rw [← e]; exact hj)]; exact hc'⟩ hnj
                      · exact f1.nz c h
                    · exact .inr (f1.free h)
                    · exact .inr (f1.fr i c h)
                · have hc : c ∈ (if j = i then fv else F1 j) := hc
                  split at hc
                  · rcases nw c hc with h | h
                    · exact f1.fr i c h
                    · exact f1.free h
                  · exact f1.fr j c hc
/-- such a def as its callers see it -/
structure MutOk (P : Program) (w : World) (K : PySem.W.Frag) (mg : Str → Option Value) (base : Heap) (N : Nm) (Pg : Q.Pg) (k f n : Nat) (x : Str) : Prop where
  ex : ∃ (fa : Addr) (fd : FuncData) (ps : List Str), ps.length = n + 1 ∧ FnOk P w K mg base (L2.CX P w) k fa fd ps (spM K N n (Pg.call f)) ∧ mg x = some (.ref fa) ∧ PySem.W.keepIn K (.ref fa) = true ∧ Binds K fd ps []
theorem cam_of {k f n : Nat} (D : MutOk X.prog X.w X.K X.mg X.base N P k f n x) (hr : Room k X.A) (hg : Gl X x) (hd : (x == ("__debug__" : Str)) = false) : CaM X N P f n x := by
  obtain ⟨fa, fd, ps, h1, h2, h3, h4, h5⟩ := D.ex
  exact ⟨⟨k, fa, fd, ps, h1, h2, hr, h3, h4, h5⟩, hg, hd⟩
end
end Q
end
section
set_option linter.all false
set_option autoImplicit false
set_option maxHeartbeats 1000000
/-! raise X(), X an own exception class whose __init__ has one parameter with the default None. -/
namespace Q
open PySem PySem.Spec PyProof.Rows L2
section
variable {X : Cx} {N : Nm} {P : Pg} {W : WX} {G : Gnd} {x : Str} {p pos : Pos}
/-- an error made without arguments: the defaults fill up -/
theorem pmk_oexD {CX : CXT} {C fI : Addr} {k : Nat} {fd : FuncData} {ps : List Str} {sp : Sp} {ds : List Value} {dvs : List V} (T : OexC X.K C) (iC : PySem.W.findIn X.K (.ref C) "__init__" = some (some (.ref fI))) (tI : PySem.W.typeIn X.K (.ref fI) = some (.type "function"))
    (F1 : FnOk X.prog X.w X.K X.mg X.base CX k fI fd ps sp) (hr : Room (k + 1) X.A) (hb : Binds X.K fd ps ds) (hd : Vals dvs ds) (hx : Passes CX X (fun _ _ _ => False)) (hg : Gl X x) (hm : X.mg x = some (.ref C)) (hdb : (x == ("__debug__" : Str)) = false) :
    PMk X (.Call (.Name x p) [] [] pos) (tMkO C sp dvs (fun _ H Q => Q [] H)) := by
  intro pins s σ H Q I ⟨hz, q1⟩
  obtain ⟨nm, q, M, bs, bm, sn, sub, ab, col, dd, k0, k1, k2, k3, k5, hC, hbm⟩ := T.cls
  refine wpAny_Call_Name_kw (ld_glob I hg hm ?_ hdb)
  refine PySem.W.callWith_K0 I.kIn T.kC ?_
  show wpAny _ _ (call (.ref C) []) _ _ _
  obtain ⟨hp, g, dr, tk, os⟩ := s
  have hsz : hp.objs.size ≤ hp.objs.size + 1 := Nat.le_succ _
  have hn : H (hp.objs.size + 1) = none := I.hok.fresh hsz
  have hq := q1 (hp.objs.size + 1) hn
  have kk : ∀ b o, hp.get? b = some o → ((hp.push (PySem.W.kdv_tup [])).push (PySem.HandSPX.excO C hp.objs.size)).get? b = some o := fun b o e => Heap.get?_push_of_some _ (Heap.get?_push_of_some _ e)
  have hget : ((hp.push (PySem.W.kdv_tup [])).push (PySem.HandSPX.excO C hp.objs.size)).get? (hp.objs.size + 1) = some (PySem.HandSPX.excO C hp.objs.size) := by heap_get
  have I2 : Inv X pins σ (upd H (hp.objs.size + 1) (exo (hp.objs.size + 1) C none)) ⟨(hp.push (PySem.W.kdv_tup [])).push (PySem.HandSPX.excO C hp.objs.size), g, dr, tk, os⟩ :=
    I.laid (t' := tk) (a := hp.objs.size + 1) (o := exo (hp.objs.size + 1) C none) (h' := (hp.push (PySem.W.kdv_tup [])).push (PySem.HandSPX.excO C hp.objs.size)) kk hsz (exo_ok hget)
  have r2 : Vals (V.ref (hp.objs.size + 1) :: dvs) (Value.ref (hp.objs.size + 1) :: ds) := .cons rfl hd
  have hl : ([Value.ref (hp.objs.size + 1)] ++ ds).length = ps.length := by
    have e := r2.length
    have e2 := F1.len _ _ _ _ hq
    simp only [List.length_cons, List.length_append, List.length_nil] at e e2 ⊢
    omega
  refine wpAny_call (PySem.HandSPX.call_own F.excBase_ValueError (fun Y => PySem.HandSPX.refsVE_contains Y bm hbm) (I.kIn _ _ hC) (PySem.W.looks_findIn I.kIn iC) (fun self => PySem.W.bind_fn I.kIn self tI) (show ([] : List Value).length ≤ sizeLine from Nat.zero_le _)
    (codeAny_mono (F1.run _ X.stack _ _ ⟨[Value.ref (hp.objs.size + 1)], []⟩ (Value.ref (hp.objs.size + 1) :: ds) _ _ (fun _ _ _ => False) (hr.make C [] []) (I2.env0.make C [] []) (hb _ [Value.ref (hp.objs.size + 1)] I2.kIn hl) r2 hq) fun r s' hq' => ?_))
  cases r with
  | error er => exact hx pins σ _ _ er s' I2 hq'
  | ok fl =>
    cases fl with
    | ret u =>
      obtain ⟨v, H2, os2, bare2, un2, hok2, rv, ev, d, fs, ea, ed, hd1, q2⟩ := hq'
      subst ev
      obtain ⟨h2, g2, d2, t2, os'⟩ := s'
      exact ⟨rv, mk_end (raises_own T.exC T.tyC) I hsz kk un2 hok2 os2 bare2 ea ed hd1 q2⟩
    | next => exact False.elim hq'
    | brk => exact False.elim hq'
    | cont => exact False.elim hq'
/-- such a class: one field, None where nothing is given -/
structure ExcD (Pr : Program) (w : World) (K : PySem.W.Frag) (mg : Str → Option Value) (base : Heap) (N : Nm) (P : Pg) (k c : Nat) (x : Str) : Prop where
  ex : ∃ (f : Nat) (fI : Addr) (fd : FuncData) (ps : List Str) (ds : List Value), OexC K (N.cls c) ∧ PySem.W.findIn K (.ref (N.cls c)) "__init__" = some (some (.ref fI)) ∧ PySem.W.typeIn K (.ref fI) = some (.type "function") ∧
    FnOk Pr w K mg base (L2.CX Pr w) k fI fd ps (spX (N.cls c) [N.fld f]) ∧ Vals [V.non] ds ∧ Binds K fd ps ds ∧ mg x = some (.ref (N.cls c)) ∧ P.excF c = some [f] ∧ P.excD c 0 = [.non]
theorem s_raiD {k c : Nat} {pos' : Pos} (D : ExcD X.prog X.w X.K X.mg X.base N P k c x) (hr : Room (k + 1) X.A) (hg : Gl X x) (hdb : (x == ("__debug__" : Str)) = false) (hc : X.calm = true) (tk : Takes X W) :
    OkS X N W P G (.rai c .nil) (.Raise (some (.Call (.Name x p) [] [] pos)) none pos') := by
  obtain ⟨f, fI, fd, ps, dsv, T, iC, tI, F, hds, hb, hm, hP, hD⟩ := D.ex
  refine L2.PS.imp (ps_raise hc tk (pmk_oexD T iC tI F hr hb hds passF hg hm hdb)) fun D0 σ H ⟨Z, env, Fr, s, fr, h⟩ => ?_
  simp only [exec, hP, evs, R.bind, mkExc, List.length_nil, hD, List.nil_append, List.length_cons, owns, Q.own, Bool.or_self, and_self, if_true, List.reverse_cons, List.reverse_nil] at h
  refine ⟨Nat.zero_le _, fun l hn => ?_⟩
  refine ⟨l, [.non], rfl, rfl, upd_same, fun dx H2 hdx hne h2 h3 h4 => ⟨rfl, dx, _, h2, h3, ?_, ?_⟩⟩
  · rwa [upd_ne hne] at hdx
  · have hd1 : H dx = none := by rwa [upd_ne hne] at hdx
    have eH : upd (del H2 l) dx (.xd ([N.fld f].zip [V.non].reverse)) = upd H dx (.xd ([N.fld f].zip [V.non].reverse)) := by
      funext b
      by_cases q : b = dx
      · rw [q, upd_same, upd_same]
      · rw [upd_ne q, upd_ne q]
        by_cases q2 : b = l
        · rw [q2, del_same, hn]
        · rw [del_ne q2, h4 b q2 q, upd_ne q2]
    rw [eH]
    have g := Go.newZ (o := .xd ([N.fld f].zip [V.non].reverse)) s hd1
    exact h σ _ _ Fr _ _ g.sr (fr.go g) ⟨rfl, .inl ⟨dx, [V.non], rfl, upd_same, rfl, .cons .non .nil⟩⟩
end
section
variable {P : Program} {w : World} {K : PySem.W.Frag} {mg : Str → Option Value} {base : Heap}
/-- an error's __init__ with one field, whose parameter has the default None -/
theorem fx1D {st : Stmt} {qual g : Str} {f C : Addr} {fd : FuncData} {k : Nat} (FF : FunD K "__init__" qual (defArgs st) (defBody st) (defScope st) [V.non] [] f fd) (S : FnScope ["self", g] ["self", g] (defScope st)) (T : OexC K C) (hno : PySem.W.findIn K (.ref C) g = some none)
    (hb : ∀ (cdv : Value) (A : Around) (outer : List PySem.Env) (s : Shared) (H : Hp) (E : XK), PSs (cxOf (L2.CX P w) P w K mg base ["self", g] qual (defScope st) f cdv A outer s H E) (defBody st) (tOst K g (tVar 0) (tVar 1))) :
    FnOk P w K mg base (L2.CX P w) (k + 1) f fd ["self", g] (spX C [g]) := by
  refine FF.ok S (fun vs H Q E ⟨a, ws, e, hl, _⟩ => by rw [e, List.length_cons, hl]; rfl) fun cdv A outer s H vs Q E hr ⟨a, ws, e, hl, ha, hq⟩ => ?_
  subst e
  match ws, hl with
  | [y], _ =>
    refine ⟨_, hb cdv A outer s H E, y, rfl, .ref a, rfl, a, C, rfl, T, hno, .inl ⟨ha, fun dx hd hne => hq dx _ hd hne upd_same ?_ fun b h1 h2 => by rw [upd_ne h1, upd_ne h2]⟩⟩
    rw [upd_ne hne, upd_same]; rfl
/-- the word of K that the def stands with its default -/
theorem funD_mk {x qual : Str} {params : Arguments} {body : List Stmt} {scope : Scope} {f T : Addr} {oc : Value} {od an : Option Addr} {osl : Array (Option Value)} {kV doc pm cdv ct tc : Value} {td : Option Addr} {tsl : Array (Option Value)} {n : Nat} (l : K.lookup f = some ⟨oc, od, .func (PySem.W.fnOf x qual params body scope (.ref T) kV doc pm an cdv ct), osl⟩)
    (lT : K.lookup T = some ⟨tc, td, .seq #[Value.none] n, tsl⟩) (c : PySem.W.codeIn K cdv qual = true) (k : PySem.W.keepIn K (.ref f) = true) : FunD K x qual params body scope [V.non] [] f (PySem.W.fnOf x qual params body scope (.ref T) kV doc pm an cdv ct) :=
  ⟨⟨oc, od, .ref T, kV, doc, pm, an, cdv, ct, osl, rfl, l, c, .inr ⟨by simp, T, _, [Value.none], n, rfl, lT, rfl, .cons rfl .nil⟩, .inl rfl⟩, k⟩
end
end Q
end
section
set_option linter.all false
set_option autoImplicit false
set_option maxHeartbeats 1000000
/-! The head of a law. -/
namespace Q
open PySem PySem.Spec PyProof.Rows L2
theorem walk_T {l : PySem.W.OpenLaw} {n k : Nat} {q : Program} {loose : List Str} {XP : (Str → Option Value) → Heap → Prop} {YP : World → Heap → Prop} {d : DefRec} {K : Params → PySem.W.Frag} {x : Str}
    (hn : l.most = some n) (hn2 : n ≤ sizeLine) (hdf : d.params.defaults = []) (hr : Room k callerA) (hY : ∀ (w : World) (h : Heap), YP w h → (K w.params).In h)
    (F : ∀ (w : World) (mg : Str → Option Value) (fa : Addr) (h : Heap), (K w.params).In h → h.Ns mainGlobals mg → mg d.name = some (.ref fa) →
      ∃ fd : FuncData, (∀ (s : Shared) (u : Value), BindsTo s fd ⟨[u], []⟩ [(x, u)]) ∧ ∃ (N : Nm) (c : List D → CR), (∀ ns : List Int, ns.length ≤ n → c [.lst false (ns.map .int)] = .ok (.bl true)) ∧
        ∀ base : Heap, (K w.params).In base → base.Ns mainGlobals mg → FnOk l.prog w (K w.params) mg base (L2.CX l.prog w) k fa fd [x] (spT (K w.params) N 1 c)) :
    PySem.W.WalkO q loose XP YP l.row.toRowW d [] (fun f vs => PySem.call f vs) := by
  refine Att.attach_call hn hdf fun w s₀ s₁ mg mb fa o pm cd doc a vs ns G Y ho hd hcd hmg hobj hints hlen hg => ?_
  have KX := hY w _ Y
  obtain ⟨fd, hb, N, c, hc, hF⟩ := F w mg fa _ KX G.T.g hmg
  refine law_call KX G.T.g G.T.b G.T.builtins G.T.nolimit hg hobj hints (Nat.le_trans hlen hn2) hr hF hb (fun H hO hS => ?_) fun H e s' h => by
    obtain ⟨_, _, _, _, _, _, _, _, _, _, _, _, h⟩ := h
    exact h.elim
  have ls : Ls (K w.params) H a (ns.map V.int) := by
    rcases hS with h | ⟨ob, its, m, hk, _⟩
    · exact .inl h
    · have e := KX a ob hk
      rw [hobj] at e
      cases e
      exact .inr ⟨vs, _, hk, by rw [List.length_map]; exact Nat.le_trans hlen hn2, vals_ints hints⟩
  refine ⟨rfl, H, [.lst false (ns.map .int)], Same.refl _, .cons (f := []) (g := []) (.lst ls (reps_ints ns)) .nil, ?_⟩
  rw [hc ns hlen]
  intro Z' H' v fv _ _ _ _ r _ _
  cases r
  rfl
end Q
end
section
set_option linter.all false
set_option autoImplicit false
set_option maxHeartbeats 1000000
/-! What the top has written: names, classes, defs. -/
namespace Q
open PySem PySem.Spec PyProof.Rows L2
/-- names for all field numbers: the text's own ones, then ones that no text has -/
def fldN (names : List Str) (f : Nat) : Str := names.getD f ⟨#[1114112 + f]⟩
theorem fldN_inj {names : List Str} (h1 : names.Nodup) (h2 : (names.all fun s => s.cps.all fun c => decide (c < 1114112)) = true) (f g : Nat) (e : fldN names f = fldN names g) : f = g := by
  have big : ∀ s ∈ names, ∀ k, s ≠ ⟨#[1114112 + k]⟩ := fun s hs k q => by
    have := List.all_eq_true.mp h2 s hs
    rw [q] at this
    simp at this
    omega
  unfold fldN at e
  rw [List.getD, List.getD] at e
  cases hf : names[f]? with
  | some a =>
    cases hg : names[g]? with
    | some b =>
      rw [hf, hg] at e
      simp only [Option.getD_some] at e
      subst e
      obtain ⟨l1, e1⟩ := List.getElem?_eq_some_iff.mp hf
      obtain ⟨l2, e2⟩ := List.getElem?_eq_some_iff.mp hg
      exact (List.getElem_inj h1).mp (e1.trans e2.symm)
    | none =>
      rw [hf, hg] at e
      exact absurd e (big a (List.mem_of_getElem? hf) g)
  | none =>
    cases hg : names[g]? with
    | some b =>
      rw [hf, hg] at e
      exact absurd e.symm (big b (List.mem_of_getElem? hg) f)
    | none =>
      rw [hf, hg] at e
      simp at e
      exact e
theorem ty_all {K : PySem.W.Frag} : ∀ t T, t < 7 → T < 6 → PySem.W.kitOne K (.type (tyN t)) (.type (tyN T)) = some (t == T || (t == 1 && T == 0)) := by
  have h : ∀ t : Fin 7, ∀ T : Fin 6, kitB (tyN t) (tyN T) = some (t.val == T.val || (t.val == 1 && T.val == 0)) := by decide +kernel
  exact fun t T ht hT => kit_ty (h ⟨t, ht⟩ ⟨T, hT⟩)
theorem kit_sub {K : PySem.W.Frag} {C : Addr} {T : String} {b : Bool} (h : PySem.W.subIn K (.ref C) (.type T) = some b) (hm : PySem.W.kitMeta T = true) : PySem.W.kitOne K (.ref C) (.type T) = some b := by
  have ne : ¬ (Value.ref C == Value.type T) = true := fun q => by cases eq_of_beq q
  unfold PySem.W.kitOne
  rw [if_neg ne]
  unfold PySem.W.kitCls
  simp only []
  rw [if_pos hm]
  exact h
section
variable {P : Program} {w : World} {K : PySem.W.Frag} {mg : Str → Option Value} {base : Heap} {N : Nm} {Pg : Q.Pg} {k f n : Nat} {x : Str} {fa : Addr} {fd : FuncData} {ps : List Str} {c : List D → CR}
theorem DefOk.of (h : FnOk P w K mg base (L2.CX P w) k fa fd ps (spT K N n c)) (e : Pg.call f = c) (hl : ps.length = n) (hm : mg x = some (.ref fa)) (hk : PySem.W.keepIn K (.ref fa) = true) (hb : Binds K fd ps []) : DefOk P w K mg base N Pg k f n x :=
  ⟨fa, fd, ps, hl, by rw [e]; exact h, hm, hk, hb⟩
theorem MutOk.of (h : FnOk P w K mg base (L2.CX P w) k fa fd ps (spM K N n c)) (e : Pg.call f = c) (hl : ps.length = n + 1) (hm : mg x = some (.ref fa)) (hk : PySem.W.keepIn K (.ref fa) = true) (hb : Binds K fd ps []) : MutOk P w K mg base N Pg k f n x :=
  ⟨fa, fd, ps, hl, by rw [e]; exact h, hm, hk, hb⟩
theorem IniOk.of {cl : Nat} (h : FnOk P w K mg base (L2.CX P w) k fa fd ps (spI K N n cl c)) (e : Pg.call f = c) (hM : Mk K (N.cls cl) fa) (hm : mg x = some (.ref (N.cls cl))) (hb : Binds K fd ps []) : IniOk P w K mg base N Pg k f n cl x :=
  ⟨fa, fd, ps, hM, by rw [e]; exact h, hm, hb⟩
theorem MetOk.of {cl m : Nat} (h : FnOk P w K mg base (L2.CX P w) k fa fd ps (spT K N (n + 1) c)) (e : Pg.call f = c) (hl : ps.length = n + 1) (hu : ∀ c' f', Pg.mth c' m = some f' → c' = cl ∧ f' = f) (hc : Cls K (N.cls cl)) (hM : Meth K (N.cls cl) x fa) (hb : Binds K fd ps []) (hx : ∀ g, N.insF cl g = true → N.fld g ≠ x) : MetOk P w K mg base N Pg k m n x :=
  ⟨cl, f, fa, fd, ps, hl, hu, hc, hM, by rw [e]; exact h, hb, hx⟩
theorem GlT.int {g : Nat} {y : Str} {i : Int} {v : Value} (h : Pg.glob g = some (.int i)) (hm : mg y = some v) (hv : RelV (.int i) v) : GlT K N mg Pg g y := ⟨.int i, .int i, v, h, hm, hv, fun _ _ => .int i⟩
end
end Q
end
section
set_option linter.all false
set_option autoImplicit false
set_option maxHeartbeats 1000000
/-! Laws of the interpreter: blocks, loops. No program in sight. -/
namespace Q
section
variable {P : Pg} {env : Env} {x : D} {xs : List D}
theorem cont_flat {r : Option Nat} (h : els x = some xs) (ho : owns xs = false) : cont r x env = .ok xs env := by
  simp [cont, h, ho]
theorem take_flat {r : Option Nat} (h : own x = false) : take r x env = .ok x env := by
  simp [take, h]
theorem take_none : take none x env = .ok x env := by
  unfold take; split <;> rfl
/-- keeps a law from being taken for a mere unfolding -/
theorem nr {α : Type} {a b : α} (h : a = b) : a = b := h
theorem bindE {α β : Type} {a : α} {e : Env} {f : α → Env → R β} : (R.ok a e).bind f = f a e := nr rfl
/-- a walk whose turns change nothing but the block's own slot -/
theorem walk_of {f : D → Env → R (Option D)} {g : D → Option D} {I : Env → Prop} : ∀ {xs : List D} {env : Env}, I env → (∀ d ∈ xs, ∀ e, I e → ∃ e', f d e = .ok (g d) e' ∧ I e') → ∃ e', walk f xs env = .ok (xs.filterMap g) e' ∧ I e'
  | [], env, h, _ => ⟨env, rfl, h⟩
  | d :: ds, env, h, k => by
    obtain ⟨e1, h1, i1⟩ := k d List.mem_cons_self env h
    obtain ⟨e2, h2, i2⟩ := walk_of (xs := ds) i1 fun d hd => k d (List.mem_cons_of_mem _ hd)
    refine ⟨e2, ?_, i2⟩
    simp only [walk, h1, R.bind, h2]
    cases e : g d <;> simp [List.filterMap_cons, e]
/-- a comprehension over one name, its parts without a trace -/
theorem comp_var {i : Nat} {elt it cond : Ex} {o : Option D} {g : D → Option D} (hi : env[i]? = some o) (hit : vw P it env = .ok x env) (hc : els x = some xs) (ho : owns xs = false)
    (hf : ∀ d ∈ xs, ∃ c, vw P cond (env.set i (some d)) = .ok c (env.set i (some d)) ∧ ((tru c = some true ∧ ∃ y, ev P elt (env.set i (some d)) = .ok y (env.set i (some d)) ∧ g d = some y) ∨ (tru c = some false ∧ g d = none)))
    (hl : (xs.filterMap g).length ≤ line) : vw P (.comp elt (.var i) it cond) env = .ok (.lst true (xs.filterMap g)) env := by
  have hil := (List.getElem?_eq_some_iff.mp hi).1
  have hw : ∀ e : Env, (∃ o', e = env.set i o') → wipe [i] e = env.set i none := fun e ⟨o', h⟩ => by
    subst h
    show (env.set i o').set i none = _
    rw [List.set_set]
  obtain ⟨e', h1, o', h2⟩ := walk_of (f := fun d env => noX ((bnd (.var i) d (wipe [i] env)).bind fun _ env => (vw P cond env).bind fun c env => match tru c with
        | some true => ((vw P elt env).bind (take (root elt))).bind fun y env => .ok (some y) env
        | some false => .ok none env
        | none => .stuck)) (g := g) (I := fun e => ∃ o', e = env.set i o') (xs := xs) (env := env) ⟨o, by
    refine List.ext_getElem? fun j => ?_
    by_cases q : j = i
    · subst q; rw [hi, List.getElem?_set_self hil]
    · rw [List.getElem?_set_ne (Ne.symm q)]⟩ fun d hd e he => by
    obtain ⟨c, c1, c2⟩ := hf d hd
    refine ⟨env.set i (some d), ?_, some d, rfl⟩
    have e0 : (bnd (.var i) d (wipe [i] e)) = .ok () (env.set i (some d)) := by
      rw [hw e he]
      simp only [bnd, List.length_set, hil, if_true, List.set_set]
    simp only [e0, bindE, c1]
    rcases c2 with ⟨t, y, e1, e2⟩ | ⟨t, e2⟩
    · have e1 : (vw P elt (env.set i (some d))).bind (take (root elt)) = .ok y (env.set i (some d)) := e1
      simp only [t, e1, bindE, e2, noX]
    · simp only [t, e2, noX]
  simp only [vw, hit, bindE, cont_flat hc ho, slots]
  refine Eq.trans (congrArg (fun r => R.bind r fun ys env' => if ys.length ≤ line then R.ok (D.lst true ys) (back [i] env (wipe [i] env')) else .stuck) h1) ?_
  simp only [bindE, hl, if_true]
  congr 1
  rw [hw e' ⟨o', h2⟩]
  show (match env[i]? with | some o => (env.set i none).set i o | none => env.set i none) = env
  rw [hi]
  simp only [List.set_set]
  refine List.ext_getElem? fun j => ?_
  by_cases q : j = i
  · subst q; rw [List.getElem?_set_self hil, hi]
  · rw [List.getElem?_set_ne (Ne.symm q)]
/-- a for whose turns all go on -/
theorem loop_of {f : D → Env → R Fl} (I : Nat → Env → Prop) : ∀ {xs : List D} {k : Nat} {env : Env}, I k env → (∀ (j : Nat) d e, xs[j]? = some d → I (k + j) e → ∃ e', (f d e = .ok .nx e' ∨ f d e = .ok .cont e') ∧ I (k + j + 1) e') → ∃ e', loop f xs env = .ok .nx e' ∧ I (k + xs.length) e'
  | [], k, env, h, _ => ⟨env, rfl, h⟩
  | d :: ds, k, env, h, t => by
    obtain ⟨e1, h1, i1⟩ := t 0 d env rfl h
    obtain ⟨e2, h2, i2⟩ := loop_of I (xs := ds) (k := k + 1) i1 fun j d e hj hi => by
      have := t (j + 1) d e (by simpa using hj) (by rw [show k + (j + 1) = k + 1 + j by omega]; exact hi)
      rwa [show k + (j + 1) + 1 = k + 1 + j + 1 by omega] at this
    refine ⟨e2, ?_, by rw [List.length_cons, show k + (ds.length + 1) = k + 1 + ds.length by omega]; exact i2⟩
    rcases h1 with h1 | h1 <;> simp only [loop, h1, R.bind, h2]
/-- a for that gives back at the first turn that asks for it -/
theorem loop_find {f : D → Env → R Fl} (I : Env → Prop) {p : D → Option D} : ∀ {xs : List D} {env : Env}, I env → (∀ d ∈ xs, ∀ e, I e → ∃ e', I e' ∧ match p d with | some r => f d e = .ok (.ret r) e' | none => f d e = .ok .nx e' ∨ f d e = .ok .cont e') →
    ∃ e', I e' ∧ match xs.findSome? p with | some r => loop f xs env = .ok (.ret r) e' | none => loop f xs env = .ok .nx e'
  | [], env, h, _ => ⟨env, h, rfl⟩
  | d :: ds, env, h, t => by
    obtain ⟨e1, i1, h1⟩ := t d List.mem_cons_self env h
    cases e : p d with
    | some r =>
      rw [e] at h1
      refine ⟨e1, i1, ?_⟩
      simp only [List.findSome?_cons, e, loop, h1, R.bind]
    | none =>
      rw [e] at h1
      obtain ⟨e2, i2, h2⟩ := loop_find I (xs := ds) i1 fun d hd => t d (List.mem_cons_of_mem _ hd)
      refine ⟨e2, i2, ?_⟩
      simp only [List.findSome?_cons, e]
      cases q : ds.findSome? p with
      | some r =>
        rw [q] at h2
        rcases h1 with h1 | h1 <;> simp only [loop, h1, R.bind, h2]
      | none =>
        rw [q] at h2
        rcases h1 with h1 | h1 <;> simp only [loop, h1, R.bind, h2]
end
end Q
end
section
set_option linter.all false
set_option autoImplicit false
set_option maxHeartbeats 1000000
/-! Values that hold no list of one's own; comprehensions and loops by lists. -/
namespace Q
section
variable {α : Type} {P : Pg} {env : Env} {x : D} {xs : List D}
theorem owns_map {f : α → D} {l : List α} (h : ∀ a, own (f a) = false) : owns (l.map f) = false := by
  induction l with
  | nil => rfl
  | cons a l ih => simp [owns, h, ih]
theorem shas_map {f : α → D} {l : List α} (h : ∀ a, sha (f a) = false) : shas (l.map f) = false := by
  induction l with
  | nil => rfl
  | cons a l ih => simp [shas, h, ih]
theorem shrs_map {f g : α → D} {l : List α} (h : ∀ a, shr (f a) = g a) : shrs (l.map f) = l.map g := by
  induction l with
  | nil => rfl
  | cons a l ih => simp [shrs, h, ih]
theorem dats_map {n : Nat} {f : α → D} {l : List α} (h : ∀ a, dat n (f a) = true) : dats n (l.map f) = true := by
  induction l with
  | nil => rfl
  | cons a l ih => simp [dats, h, ih]
theorem dats0_map {n : Nat} {f : α → D} {l : List α} (h : ∀ a, dat0 n (f a) = true) : dats0 n (l.map f) = true := by
  induction l with
  | nil => rfl
  | cons a l ih => simp [dats0, h, ih]
theorem boolsOf_map {f : α → Bool} {l : List α} : boolsOf (l.map fun a => .bl (f a)) = some (l.map f) := by
  induction l with
  | nil => rfl
  | cons a l ih => simp [boolsOf, ih]
theorem intsOf_map {f : α → Int} {l : List α} : intsOf (l.map fun a => .int (f a)) = some (l.map f) := by
  induction l with
  | nil => rfl
  | cons a l ih => simp [intsOf, ih]
theorem eqvs_map [DecidableEq α] {f : α → D} (h : ∀ a b, eqv (f a) (f b) = decide (a = b)) : ∀ {l m : List α}, eqvs (l.map f) (m.map f) = decide (l = m)
  | [], [] => rfl
  | [], b :: m => by simp [eqvs]
  | a :: l, [] => by simp [eqvs]
  | a :: l, b :: m => by simp [eqvs, h, eqvs_map h (l := l) (m := m)]
theorem any_map [DecidableEq α] {f : α → D} (h : ∀ a b, eqv (f a) (f b) = decide (a = b)) {a : α} {l : List α} : (l.map f).any (fun z => eqv z (f a)) = decide (a ∈ l) := by
  induction l with
  | nil => rfl
  | cons b l ih => simp only [List.map_cons, List.any_cons, ih, h]; by_cases q : b = a <;> simp [q, eq_comm]; intro e; exact absurd e.symm q
theorem ranges_nat {n : Nat} : ranges 0 (n : Int) = (List.range n).map fun (i : Nat) => D.int i := by
  simp [ranges]
theorem cut_map {f : α → D} {l : List α} {lo hi : Option Int} : cut (l.map f) lo hi = (cut l lo hi).map f := by
  simp [cut, List.map_take, List.map_drop]
/-- a comprehension without a condition -/
theorem comp_map {i : Nat} {elt it : Ex} {o : Option D} {l : List α} {φ ψ : α → D} (hi : env[i]? = some o) (hit : vw P it env = .ok x env) (hc : els x = some (l.map φ)) (ho : owns (l.map φ) = false)
    (hf : ∀ a ∈ l, ev P elt (env.set i (some (φ a))) = .ok (ψ a) (env.set i (some (φ a)))) (hl : l.length ≤ line) : vw P (.comp elt (.var i) it (.bl true)) env = .ok (.lst true (l.map ψ)) env := by
  have hil := (List.getElem?_eq_some_iff.mp hi).1
  have hw : ∀ e : Env, (∃ o', e = env.set i o') → wipe [i] e = env.set i none := fun e ⟨o', h⟩ => by
    subst h
    show (env.set i o').set i none = _
    rw [List.set_set]
  have key : ∀ (m : List α) (e : Env), (∀ a ∈ m, a ∈ l) → (∃ o', e = env.set i o') → ∃ e', (walk (fun d env => noX ((bnd (.var i) d (wipe [i] env)).bind fun _ env => match tru (.bl true) with
        | some true => ((vw P elt env).bind (take (root elt))).bind fun y env => .ok (some y) env
        | some false => .ok none env
        | none => .stuck)) (m.map φ) e) = .ok (m.map ψ) e' ∧ ∃ o', e' = env.set i o' := by
    intro m
    induction m with
    | nil => exact fun e _ h => ⟨e, rfl, h⟩
    | cons a m ih =>
      intro e hm he
      obtain ⟨e', h1, h2⟩ := ih (env.set i (some (φ a))) (fun b hb => hm b (List.mem_cons_of_mem _ hb)) ⟨_, rfl⟩
      refine ⟨e', ?_, h2⟩
      have e0 : (bnd (.var i) (φ a) (wipe [i] e)) = .ok () (env.set i (some (φ a))) := by
        rw [hw e he]
        simp only [bnd, List.length_set, hil, if_true, List.set_set]
      have e1 : (vw P elt (env.set i (some (φ a)))).bind (take (root elt)) = .ok (ψ a) (env.set i (some (φ a))) := hf a (hm a List.mem_cons_self)
      simp only [List.map_cons, walk, bindE, tru, noX] at h1 ⊢
      simp only [e0, bindE, e1, h1]
  obtain ⟨e', h1, h2⟩ := key l env (fun _ h => h) ⟨o, by
    refine List.ext_getElem? fun j => ?_
    by_cases q : j = i
    · subst q; rw [hi, List.getElem?_set_self hil]
    · rw [List.getElem?_set_ne (Ne.symm q)]⟩
  simp only [vw, hit, bindE, cont_flat hc ho, slots]
  refine Eq.trans (congrArg (fun r => R.bind r fun (ys : List D) env' => if ys.length ≤ line then R.ok (D.lst true ys) (back [i] env (wipe [i] env')) else .stuck) h1) ?_
  simp only [bindE, List.length_map, hl, if_true]
  congr 1
  rw [hw e' h2]
  show (match env[i]? with | some o => (env.set i none).set i o | none => env.set i none) = env
  rw [hi]
  simp only [List.set_set]
  refine List.ext_getElem? fun j => ?_
  by_cases q : j = i
  · subst q; rw [List.getElem?_set_self hil, hi]
  · rw [List.getElem?_set_ne (Ne.symm q)]
/-- a comprehension with a condition -/
theorem comp_filt {i : Nat} {elt it cond : Ex} {o : Option D} {l : List α} {φ ψ : α → D} {p : α → Bool} (hi : env[i]? = some o) (hit : vw P it env = .ok x env) (hc : els x = some (l.map φ)) (ho : owns (l.map φ) = false)
    (hf : ∀ a ∈ l, vw P cond (env.set i (some (φ a))) = .ok (.bl (p a)) (env.set i (some (φ a))) ∧ ev P elt (env.set i (some (φ a))) = .ok (ψ a) (env.set i (some (φ a)))) (hl : l.length ≤ line) : vw P (.comp elt (.var i) it cond) env = .ok (.lst true ((l.filter p).map ψ)) env := by
  have hil := (List.getElem?_eq_some_iff.mp hi).1
  have hw : ∀ e : Env, (∃ o', e = env.set i o') → wipe [i] e = env.set i none := fun e ⟨o', h⟩ => by
    subst h
    show (env.set i o').set i none = _
    rw [List.set_set]
  have key : ∀ (m : List α) (e : Env), (∀ a ∈ m, a ∈ l) → (∃ o', e = env.set i o') → ∃ e', (walk (fun d env => noX ((bnd (.var i) d (wipe [i] env)).bind fun _ env => (vw P cond env).bind fun c env => match tru c with
        | some true => ((vw P elt env).bind (take (root elt))).bind fun y env => .ok (some y) env
        | some false => .ok none env
        | none => .stuck)) (m.map φ) e) = .ok ((m.filter p).map ψ) e' ∧ ∃ o', e' = env.set i o' := by
    intro m
    induction m with
    | nil => exact fun e _ h => ⟨e, rfl, h⟩
    | cons a m ih =>
      intro e hm he
      obtain ⟨e', h1, h2⟩ := ih (env.set i (some (φ a))) (fun b hb => hm b (List.mem_cons_of_mem _ hb)) ⟨_, rfl⟩
      refine ⟨e', ?_, h2⟩
      have e0 : (bnd (.var i) (φ a) (wipe [i] e)) = .ok () (env.set i (some (φ a))) := by
        rw [hw e he]
        simp only [bnd, List.length_set, hil, if_true, List.set_set]
      have e1 : (vw P elt (env.set i (some (φ a)))).bind (take (root elt)) = .ok (ψ a) (env.set i (some (φ a))) := (hf a (hm a List.mem_cons_self)).2
      have e2 := (hf a (hm a List.mem_cons_self)).1
      have tb : ∀ b : Bool, tru (.bl b) = some b := fun _ => rfl
      cases q : p a with
      | true =>
        rw [q] at e2
        simp only [List.map_cons, walk, noX] at h1 ⊢
        simp only [e0, bindE, e2, tb, e1, h1, List.filter_cons, q, if_true, List.map_cons]
      | false =>
        rw [q] at e2
        simp only [List.map_cons, walk, noX] at h1 ⊢
        simp only [e0, bindE, e2, tb, h1, List.filter_cons, q]
        rfl
  obtain ⟨e', h1, h2⟩ := key l env (fun _ h => h) ⟨o, by
    refine List.ext_getElem? fun j => ?_
    by_cases q : j = i
    · subst q; rw [hi, List.getElem?_set_self hil]
    · rw [List.getElem?_set_ne (Ne.symm q)]⟩
  simp only [vw, hit, bindE, cont_flat hc ho, slots]
  refine Eq.trans (congrArg (fun r => R.bind r fun (ys : List D) env' => if ys.length ≤ line then R.ok (D.lst true ys) (back [i] env (wipe [i] env')) else .stuck) h1) ?_
  simp only [bindE, List.length_map, Nat.le_trans (List.length_filter_le p l) hl, if_true]
  congr 1
  rw [hw e' h2]
  show (match env[i]? with | some o => (env.set i none).set i o | none => env.set i none) = env
  rw [hi]
  simp only [List.set_set]
  refine List.ext_getElem? fun j => ?_
  by_cases q : j = i
  · subst q; rw [List.getElem?_set_self hil, hi]
  · rw [List.getElem?_set_ne (Ne.symm q)]
/-- a comprehension over pairs -/
theorem comp_pair {env0 : Env} {i j : Nat} (hij : i ≠ j) {elt it : Ex} {o o' : Option D} {l : List α} {φ χ ψ : α → D} (hit : vw P it env0 = .ok x env) (hi : env[i]? = some o) (hj : env[j]? = some o') (hc : els x = some (l.map fun a => .tup [φ a, χ a])) (ho : owns (l.map fun a => .tup [φ a, χ a]) = false)
    (hf : ∀ a ∈ l, ev P elt ((env.set i (some (φ a))).set j (some (χ a))) = .ok (ψ a) ((env.set i (some (φ a))).set j (some (χ a)))) (hl : l.length ≤ line) : vw P (.comp elt (.tup (.cons (.var i) (.cons (.var j) .nil))) it (.bl true)) env0 = .ok (.lst true (l.map ψ)) env := by
  have hil := (List.getElem?_eq_some_iff.mp hi).1
  have hjl := (List.getElem?_eq_some_iff.mp hj).1
  have hw : ∀ e : Env, (∃ a b, e = (env.set i a).set j b) → wipe [i, j] e = (env.set i none).set j none := fun e ⟨a, b, h⟩ => by
    subst h
    show (((env.set i a).set j b).set i none).set j none = _
    rw [List.set_comm (i := i) (j := j) a b hij, List.set_set, List.set_comm (i := j) (j := i) b none hij.symm, List.set_set]
  have he0 : ∃ a b, env = (env.set i a).set j b := ⟨o, o', by
    refine List.ext_getElem? fun k => ?_
    by_cases q : k = j
    · subst q; rw [hj, List.getElem?_set_self (by rw [List.length_set]; exact hjl)]
    · rw [List.getElem?_set_ne (Ne.symm q)]
      by_cases q : k = i
      · subst q; rw [hi, List.getElem?_set_self hil]
      · rw [List.getElem?_set_ne (Ne.symm q)]⟩
  have key : ∀ (m : List α) (e : Env), (∀ a ∈ m, a ∈ l) → (∃ a b, e = (env.set i a).set j b) → ∃ e', (walk (fun d env => noX ((bnd (.tup (.cons (.var i) (.cons (.var j) .nil))) d (wipe [i, j] env)).bind fun _ env => match tru (.bl true) with
        | some true => ((vw P elt env).bind (take (root elt))).bind fun y env => .ok (some y) env
        | some false => .ok none env
        | none => .stuck)) (m.map fun a => .tup [φ a, χ a]) e) = .ok (m.map ψ) e' ∧ ∃ a b, e' = (env.set i a).set j b := by
    intro m
    induction m with
    | nil => exact fun e _ h => ⟨e, rfl, h⟩
    | cons a m ih =>
      intro e hm he
      obtain ⟨e', h1, h2⟩ := ih ((env.set i (some (φ a))).set j (some (χ a))) (fun b hb => hm b (List.mem_cons_of_mem _ hb)) ⟨_, _, rfl⟩
      refine ⟨e', ?_, h2⟩
      have e0 : bnd (.tup (.cons (.var i) (.cons (.var j) .nil))) (.tup [φ a, χ a]) (wipe [i, j] e) = .ok () ((env.set i (some (φ a))).set j (some (χ a))) := by
        rw [hw e he]
        simp only [bnd, R.bind, List.length_set, hil, hjl, if_true, List.set_set]
        rw [List.set_comm (i := i) (j := j) none none hij, List.set_set, List.set_comm (i := j) (j := i) none _ hij.symm, List.set_set]
      have e1 : (vw P elt ((env.set i (some (φ a))).set j (some (χ a)))).bind (take (root elt)) = .ok (ψ a) ((env.set i (some (φ a))).set j (some (χ a))) := hf a (hm a List.mem_cons_self)
      simp only [List.map_cons, walk, bindE, tru, noX] at h1 ⊢
      simp only [e0, bindE, e1, h1]
  obtain ⟨e', h1, h2⟩ := key l env (fun _ h => h) he0
  simp only [vw, hit, bindE, cont_flat hc ho, slots, List.append_nil]
  refine Eq.trans (congrArg (fun r => R.bind r fun (ys : List D) env' => if ys.length ≤ line then R.ok (D.lst true ys) (back [i, j] env (wipe [i, j] env')) else .stuck) h1) ?_
  simp only [bindE, List.length_map, hl, if_true]
  congr 1
  rw [hw e' h2]
  show (match env[j]? with | some o => (match env[i]? with | some o => ((env.set i none).set j none).set i o | none => ((env.set i none).set j none)).set j o | none => (match env[i]? with | some o => ((env.set i none).set j none).set i o | none => ((env.set i none).set j none))) = env
  rw [hi, hj]
  simp only []
  rw [List.set_comm (i := i) (j := j) none none hij, List.set_set, List.set_comm (i := j) (j := i) none o hij.symm, List.set_set]
  refine List.ext_getElem? fun k => ?_
  by_cases q : k = j
  · subst q; rw [hj, List.getElem?_set_self (by rw [List.length_set]; exact hjl)]
  · rw [List.getElem?_set_ne (Ne.symm q)]
    by_cases q : k = i
    · subst q; rw [hi, List.getElem?_set_self hil]
    · rw [List.getElem?_set_ne (Ne.symm q)]
/-- a for over a mapped list whose turns all go on -/
theorem loop_map {f : D → Env → R Fl} {φ : α → D} (I : Nat → Env → Prop) {l : List α} {env : Env} (h0 : I 0 env) (t : ∀ (j : Nat) a e, l[j]? = some a → I j e → ∃ e', (f (φ a) e = .ok .nx e' ∨ f (φ a) e = .ok .cont e') ∧ I (j + 1) e') : ∃ e', loop f (l.map φ) env = .ok .nx e' ∧ I l.length e' := by
  obtain ⟨e', h1, h2⟩ := loop_of (f := f) I (xs := l.map φ) (k := 0) h0 fun j d e hj hi => by
    rw [List.getElem?_map, Option.map_eq_some_iff] at hj
    obtain ⟨a, ha, rfl⟩ := hj
    rw [Nat.zero_add] at hi ⊢
    exact t j a e ha hi
  exact ⟨e', h1, by simpa using h2⟩
/-- .. that gives back at the first that is asked for -/
theorem loop_findM {f : D → Env → R Fl} {φ : α → D} (I : Env → Prop) {p : α → Option D} {l : List α} {env : Env} (h0 : I env) (t : ∀ a ∈ l, ∀ e, I e → ∃ e', I e' ∧ match p a with | some r => f (φ a) e = .ok (.ret r) e' | none => f (φ a) e = .ok .nx e' ∨ f (φ a) e = .ok .cont e') :
    ∃ e', I e' ∧ match l.findSome? p with | some r => loop f (l.map φ) env = .ok (.ret r) e' | none => loop f (l.map φ) env = .ok .nx e' := by
  induction l generalizing env with
  | nil => exact ⟨env, h0, rfl⟩
  | cons a l ih =>
    obtain ⟨e1, i1, h1⟩ := t a List.mem_cons_self env h0
    cases e : p a with
    | some r =>
      rw [e] at h1
      refine ⟨e1, i1, ?_⟩
      simp only [List.findSome?_cons, e, List.map_cons, loop, h1, R.bind]
    | none =>
      rw [e] at h1
      obtain ⟨e2, i2, h2⟩ := ih i1 fun b hb => t b (List.mem_cons_of_mem _ hb)
      refine ⟨e2, i2, ?_⟩
      simp only [List.findSome?_cons, e]
      cases q : l.findSome? p with
      | some r =>
        rw [q] at h2
        rcases h1 with h1 | h1 <;> simp only [List.map_cons, loop, h1, R.bind, h2]
      | none =>
        rw [q] at h2
        rcases h1 with h1 | h1 <;> simp only [List.map_cons, loop, h1, R.bind, h2]
end
end Q
end
section
set_option linter.all false
set_option autoImplicit false
set_option maxHeartbeats 1000000
/-! The interpreter step by step: one law a form; blocks and loops stay whole. -/
namespace Q
theorem bind_congr {α β : Type} {r r' : R α} {f : α → Env → R β} (h : r = r') : r.bind f = r'.bind f := by rw [h]
theorem bindX {α β : Type} {c : Nat} {fs : List Nat} {vs : List D} {e : Env} {f : α → Env → R β} : (R.exc c fs vs e : R α).bind f = .exc c fs vs e := nr rfl
/-- one turn of a for -/
def turnL (P : Pg) (tg : Ex) (b : St) (d : D) (env : Env) : R Fl := (bnd tg d env).bind fun _ env => exec P b env
section
variable {P : Pg} {env : Env} {a b c e es t i k it lo hi : Ex}
theorem x_seq {a b : St} : exec P (.seq a b) env = (exec P a env).bind fun r env => match r with | .nx => exec P b env | r => .ok r env := nr rfl
theorem x_pas : exec P .pas env = .ok .nx env := nr rfl
theorem x_asg : exec P (.asg t e) env = (ev P e env).bind fun d env => (bnd t d env).bind fun _ env => .ok .nx env := nr rfl
theorem x_exp : exec P (.exp e) env = (vw P e env).bind fun _ env => .ok .nx env := nr rfl
theorem x_ret : exec P (.ret e) env = (ev P e env).bind fun d env => .ok (.ret d) env := nr rfl
theorem x_ite {a b : St} : exec P (.ite c a b) env = (tst P c env).bind fun t env => if t then exec P a env else exec P b env := nr rfl
theorem x_for {b : St} : exec P (.forr t it b) env = (forIt P it env).bind fun xs env => loop (turnL P t b) xs env := nr rfl
theorem x_brk : exec P .brk env = .ok .brk env := nr rfl
theorem x_cont : exec P .cont env = .ok .cont env := nr rfl
theorem x_app : exec P (.app t e) env = (plc P t env).bind fun q env => (ev P e env).bind fun d env => (modE (atOwn (fApp d)) q.1 q.2 env).bind fun _ env => .ok .nx env := nr rfl
theorem x_callM {f i : Nat} : exec P (.callM f i es) env = match env[i]? with
    | some (some _) => (args P es env).bind fun q env1 => match env1[i]? with
      | some (some d) => if (rts es).contains i then .stuck else match P.call f (d :: q.1) with
        | .ok d2 => if sha d2 then .stuck else .ok .nx (env1.set i (some d2))
        | _ => .stuck
      | _ => .stuck
    | _ => .stuck := nr rfl
theorem x_stf {i f : Nat} : exec P (.stf i f e) env = (ev P e env).bind fun d env => match env[i]? with
    | some (some x) => match setF P f d x with | some y => .ok .nx (env.set i (some y)) | none => .stuck
    | _ => .stuck := nr rfl
theorem x_tst : tst P e env = (vw P e env).bind fun x env => noneR (tru x) env := nr rfl
theorem x_ev : ev P e env = (vw P e env).bind (take (root e)) := nr rfl
theorem v_var {i : Nat} : vw P (.var i) env = match env[i]? with | some (some d) => .ok d env | _ => .stuck := by rw [vw]; first | done | rfl
theorem v_mov {i : Nat} : vw P (.mov i) env = match env[i]? with | some (some d) => .ok d (env.set i none) | _ => .stuck := by rw [vw]; first | done | rfl
theorem v_non : vw P .non env = .ok .non env := by rw [vw]; first | done | rfl
theorem v_bl {b : Bool} : vw P (.bl b) env = .ok (.bl b) env := by rw [vw]; first | done | rfl
theorem v_int {i : Int} : vw P (.int i) env = .ok (.int i) env := by rw [vw]; first | done | rfl
theorem v_str {s : List Nat} : vw P (.str s) env = .ok (.str s) env := by rw [vw]; first | done | rfl
theorem v_glb {g : Nat} : vw P (.glb g) env = noneR (P.glob g) env := by rw [vw]; first | done | rfl
theorem v_tup : vw P (.tup es) env = (evs P es env).bind fun ds env => if ds.length ≤ line then .ok (.tup ds) env else .stuck := by rw [vw]; first | done | rfl
theorem v_lst : vw P (.lst es) env = (evs P es env).bind fun ds env => if ds.length ≤ line then .ok (.lst true ds) env else .stuck := by rw [vw]; first | done | rfl
theorem v_bin {op : PySem.Operator} : vw P (.bin op a b) env = (vw P a env).bind fun x env => (vw P b env).bind fun y env => noneR (bin2 op x y) env := by rw [vw]; first | done | rfl
theorem v_neg : vw P (.neg a) env = (vw P a env).bind fun x env => noneR (negD x) env := by rw [vw]; first | done | rfl
theorem v_not : vw P (.not a) env = (vw P a env).bind fun x env => noneR (notD x) env := by rw [vw]; first | done | rfl
theorem v_andL : vw P (.and a b) env = (vw P a env).bind fun x env => match x with | .bl true => (vw P b env).bind (take (root b)) | .bl false => .ok (.bl false) env | _ => .stuck := by rw [vw]; first | done | rfl
theorem v_orL : vw P (.or a b) env = (vw P a env).bind fun x env => match x with | .bl false => (vw P b env).bind (take (root b)) | .bl true => .ok (.bl true) env | _ => .stuck := by rw [vw]; first | done | rfl
theorem v_cmp {op : PySem.CmpOp} : vw P (.cmp op a b) env = (vw P a env).bind fun x env => (vw P b env).bind fun y env => noneR ((cmpOp op x y).map .bl) env := by rw [vw]; first | done | rfl
theorem v_cmp2 {o p : PySem.CmpOp} : vw P (.cmp2 o p a b c) env = (vw P a env).bind fun x env => (vw P b env).bind fun y env => match cmpOp o x y with
    | some true => (vw P c env).bind fun z env => noneR ((cmpOp p y z).map .bl) env
    | some false => .ok (.bl false) env
    | none => .stuck := by rw [vw]; first | done | rfl
theorem v_isN : vw P (.isN a) env = (vw P a env).bind fun x env => .ok (isND x) env := by rw [vw]; first | done | rfl
theorem v_notN : vw P (.notN a) env = (vw P a env).bind fun x env => .ok (notND x) env := by rw [vw]; first | done | rfl
theorem v_ife : vw P (.ife t a b) env = (vw P t env).bind fun x env => match tru x with
    | some true => (vw P a env).bind (take (root a)) | some false => (vw P b env).bind (take (root b)) | none => .stuck := by rw [vw]; first | done | rfl
theorem v_fld {f : Nat} : vw P (.fld e f) env = (vw P e env).bind fun x env => noneR (getF x f) env := by rw [vw]; first | done | rfl
theorem v_ix : vw P (.ix e i) env = (vw P e env).bind fun x env => (vw P i env).bind fun k env => if here (root e) env then noneR (item x k) env else .stuck := by rw [vw]; first | done | rfl
theorem v_rev : vw P (.rev e) env = (vw P e env).bind fun x env => if isLst x then (cont (root e) x env).bind fun xs env => .ok (.lst true xs.reverse) env else .stuck := by rw [vw]; first | done | rfl
/-- a prt of a slice -/
def prt (P : Pg) (e : Ex) (env : Env) : R (Option Int) :=
  match e with | .nil => .ok none env | _ => (vw P e env).bind fun l env => noneR (partD l) env
theorem prt_nil : prt P .nil env = .ok none env := nr rfl
theorem prt_int {i : Int} : prt P (.int i) env = .ok (some i) env := by simp [prt, vw, partD, noneR, bindE]
theorem prt_var {i : Nat} : prt P (.var i) env = (vw P (.var i) env).bind fun l env => noneR (partD l) env := nr rfl
theorem prt_neg : prt P (.neg e) env = (vw P (.neg e) env).bind fun l env => noneR (partD l) env := nr rfl
theorem prt_bin {op : PySem.Operator} : prt P (.bin op a b) env = (vw P (.bin op a b) env).bind fun l env => noneR (partD l) env := nr rfl
theorem prt_call {f : Nat} : prt P (.call f a) env = (vw P (.call f a) env).bind fun l env => noneR (partD l) env := nr rfl
theorem v_slc : vw P (.slc e lo hi) env = (vw P e env).bind fun x env => (cont (root e) x env).bind fun xs env => (prt P lo env).bind fun l env => (prt P hi env).bind fun h env => noneR (cutD x xs l h) env := by
  rw [vw]
  first | done | rfl
theorem v_call {f : Nat} : vw P (.call f es) env = (args P es env).bind fun p env => afterCall p.2 (rts es) env (P.call f p.1) := by rw [vw]; first | done | rfl
theorem v_meth {m : Nat} : vw P (.meth m e es) env = (vw P e env).bind fun x env => match mthOf P m x with
    | some f => (args P es env).bind fun p env => if here (root e) env then afterCall ((own x && (root e).isSome) || p.2) (rts (.cons e es)) env (P.call f (shr x :: p.1)) else .stuck
    | none => .stuck := by rw [vw]; first | done | rfl
theorem v_new {c : Nat} : vw P (.new c es) env = (args P es env).bind fun p env => afterCall p.2 (rts es) env (P.call c p.1) := by rw [vw]; first | done | rfl
theorem v_lstZ : vw P (.lstZ es) env = (evs P es env).bind fun ds env => if ds.length ≤ line ∧ owns ds = false then .ok (.lst false ds) env else .stuck := by rw [vw]; first | done | rfl
theorem v_lend {i : Nat} {d y : D} {e2 : Env} (h : env[i]? = some (some d)) (he : vw P e (onlyE i (shr d) env) = .ok y e2) (hs : sha y = false) : vw P (.lend i e) env = .ok y env := by rw [vw, h]; simp only [he, hs, if_true]
theorem v_lendA {y : D} {e2 : Env} (he : vw P e (env.map (Option.map shr)) = .ok y e2) (hs : sha y = false) : vw P (.lendA e) env = .ok y env := by rw [vw]; simp only [he, hs, if_true]
theorem v_catT : vw P (.catT a b) env = ((vw P a env).bind (take (root a))).bind fun x env => ((vw P b env).bind (take (root b))).bind fun y env => noneR (catD x y) env := by rw [vw]; first | done | rfl
theorem v_lisR : vw P (.lisR e) env = (vw P e env).bind fun x env => noneR (lisRD x) env := by rw [vw]; first | done | rfl
theorem lisR_nat {n : Nat} (h : n < 100000) : lisRD (.int n) = some (.lst true ((List.range n).map fun (i : Nat) => .int i)) := by
  simp only [lisRD, ranges_nat]; rw [if_pos]; omega
theorem v_len : vw P (.len e) env = (vw P e env).bind fun x env => noneR (lenD x) env := by rw [vw]; first | done | rfl
theorem v_lis : vw P (.lis e) env = (vw P e env).bind fun x env => (cont (root e) x env).bind fun xs env => .ok (.lst true xs) env := by rw [vw]; first | done | rfl
theorem v_tpl : vw P (.tpl e) env = (vw P e env).bind fun x env => (cont (root e) x env).bind fun xs env => .ok (.tup xs) env := by rw [vw]; first | done | rfl
theorem v_toI : vw P (.toI e) env = (vw P e env).bind fun x env => noneR (toID x) env := by rw [vw]; first | done | rfl
theorem v_srt : vw P (.srt e) env = (vw P e env).bind fun x env => noneR (srtD x) env := by rw [vw]; first | done | rfl
theorem v_sset : vw P (.sset e) env = (vw P e env).bind fun x env => noneR (ssetD x) env := by rw [vw]; first | done | rfl
theorem v_any : vw P (.any e) env = (vw P e env).bind fun x env => noneR (anyD x) env := by rw [vw]; first | done | rfl
theorem v_all : vw P (.all e) env = (vw P e env).bind fun x env => noneR (allD x) env := by rw [vw]; first | done | rfl
theorem v_sum : vw P (.sum e) env = (vw P e env).bind fun x env => noneR (sumD x) env := by rw [vw]; first | done | rfl
theorem v_idx : vw P (.idx e a) env = (vw P e env).bind fun x env => if (els x).isSome then (vw P a env).bind fun y env => noneR (idxD x y) env else .stuck := by rw [vw]; first | done | rfl
theorem v_isT {t : Nat} : vw P (.isT e t) env = (vw P e env).bind fun x env => noneR ((isTy x t).map .bl) env := by rw [vw]; first | done | rfl
theorem v_rng1 : vw P (.rng1 a) env = (vw P a env).bind fun x env => noneR (rngD (.int 0) x) env := by rw [vw]; first | done | rfl
theorem v_rng2 : vw P (.rng2 a b) env = (vw P a env).bind fun x env => (vw P b env).bind fun y env => noneR (rngD x y) env := by rw [vw]; first | done | rfl
theorem s_nil : evs P .nil env = .ok [] env := by rw [evs]
theorem s_cons : evs P (.cons e es) env = ((vw P e env).bind (take (root e))).bind fun d env => (evs P es env).bind fun ds env => .ok (d :: ds) env := by rw [evs]
theorem g_nil : args P .nil env = .ok ([], false) env := by rw [args]
theorem g_cons : args P (.cons e es) env = (vw P e env).bind fun d env => (args P es env).bind fun p env => if here (root e) env then .ok (shr d :: p.1, (own d && (root e).isSome) || p.2) env else .stuck := by rw [args]
theorem k_varL {i : Nat} : keys P (.var i) env = if seen i [] env then .ok (i, []) env else .stuck := nr rfl
theorem p_plc : plc P e env = (keys P e env).bind fun q env => if seenL q.1 q.2 env then .ok q env else .stuck := nr rfl
/-- what a for over no zip walks -/
theorem f_it (h : ∀ a b, it ≠ .zip a b) : forIt P it env = (ev P it env).bind fun x env => match els (shr x) with
    | some xs => .ok xs env
    | none => .stuck := by
  cases it <;> first | rfl | exact absurd rfl (h _ _)
end
section
variable {α : Type} {f : α → Int} {l : List α} {n : Nat}
theorem shrs_ints : shrs (l.map fun a => .int (f a)) = l.map fun a => .int (f a) := shrs_map fun _ => by simp [shr]
theorem owns_ints : owns (l.map fun a => .int (f a)) = false := owns_map fun _ => by simp [own]
theorem shas_ints : shas (l.map fun a => .int (f a)) = false := shas_map fun _ => by simp [sha]
theorem dats_ints : dats n (l.map fun a => .int (f a)) = true := dats_map fun _ => by simp [dat]
theorem dats0_ints : dats0 n (l.map fun a => .int (f a)) = true := dats0_map fun _ => by simp [dat0]
theorem shrs_int0 {l : List Int} : shrs (l.map .int) = l.map .int := shrs_map fun _ => by simp [shr]
theorem owns_int0 {l : List Int} : owns (l.map .int) = false := owns_map fun _ => by simp [own]
theorem shas_int0 {l : List Int} : shas (l.map .int) = false := shas_map fun _ => by simp [sha]
theorem rng_nat {n : Nat} (h : n < 100000) : rngD (.int 0) (.int n) = some (.lst true ((List.range n).map fun (i : Nat) => .int i)) := by
  simp only [rngD, ranges_nat]; rw [if_pos]; omega
end
section
variable {o : Bool} {xs ys : List D} {i j : Int} {b : Bool} {s t : List Nat} {d : D} {f : Nat}
theorem noneR_some {α : Type} {a : α} {env : Env} : noneR (some a) env = .ok a env := nr rfl
theorem els_tup : els (.tup xs) = some xs := nr rfl
theorem els_lst : els (.lst o xs) = some xs := nr rfl
theorem len_tup : lenD (.tup xs) = some (.int xs.length) := nr rfl
theorem len_lst : lenD (.lst o xs) = some (.int xs.length) := nr rfl
theorem tru_bl : tru (.bl b) = some b := nr rfl
theorem tru_non : tru .non = some false := nr rfl
theorem tru_int : tru (.int i) = some (i != 0) := nr rfl
theorem isN_int : isND (.int i) = .bl false := nr rfl
theorem isN_tup : isND (.tup xs) = .bl false := nr rfl
theorem isN_non : isND .non = .bl true := nr rfl
theorem notN_int : notND (.int i) = .bl true := nr rfl
theorem notN_tup : notND (.tup xs) = .bl true := nr rfl
theorem notN_non : notND .non = .bl false := nr rfl
theorem not_bl : notD (.bl b) = some (.bl !b) := nr rfl
theorem neg_int : negD (.int i) = some (.int (-i)) := nr rfl
theorem toI_bl : toID (.bl b) = some (.int (if b then 1 else 0)) := nr rfl
theorem toI_int : toID (.int i) = some (.int i) := nr rfl
theorem prt_i : partD (.int i) = some (some i) := nr rfl
theorem isL_lst : isLst (.lst o xs) = true := nr rfl
theorem isT_int {k : Nat} : isTy (.int i) k = some (0 == k || (0 == 1 && k == 0)) := nr rfl
theorem isT_bl {k : Nat} : isTy (.bl b) k = some (1 == k || (1 == 1 && k == 0)) := nr rfl
theorem isT_tup {k : Nat} : isTy (.tup xs) k = some (3 == k || (3 == 1 && k == 0)) := nr rfl
theorem isT_lst {k : Nat} : isTy (.lst o xs) k = some (2 == k || (2 == 1 && k == 0)) := nr rfl
theorem isT_str {k : Nat} : isTy (.str s) k = some (4 == k || (4 == 1 && k == 0)) := nr rfl
theorem isT_non {k : Nat} : isTy .non k = some (6 == k || (6 == 1 && k == 0)) := nr rfl
theorem c_lt : cmpOp .Lt (.int i) (.int j) = some (decide (i < j)) := nr rfl
theorem c_le : cmpOp .LtE (.int i) (.int j) = some (decide (i ≤ j)) := nr rfl
theorem c_gt : cmpOp .Gt (.int i) (.int j) = some (decide (j < i)) := nr rfl
theorem c_ge : cmpOp .GtE (.int i) (.int j) = some (decide (j ≤ i)) := nr rfl
theorem eqv_ii : eqv (.int i) (.int j) = decide (i = j) := by simp only [eqv]; rfl
theorem c_eq : cmpOp .Eq (.int i) (.int j) = some (decide (i = j)) := by simp only [cmpOp, dat, eqv_ii, Bool.and_self, if_true]
theorem c_ne : cmpOp .NotEq (.int i) (.int j) = some (!decide (i = j)) := by simp only [cmpOp, dat, eqv_ii, Bool.and_self, if_true, isDc, Bool.or_self, Bool.false_eq_true, if_false]
theorem c_eqs : cmpOp .Eq (.str s) (.str t) = if (s.all fun c => decide (c < 1114112)) && (t.all fun c => decide (c < 1114112)) then some (s == t) else none := by simp only [cmpOp, dat, eqv]; first | done | rfl
theorem c_eqsi : cmpOp .Eq (.str s) (.int j) = if (s.all fun c => decide (c < 1114112)) then some false else none := by simp only [cmpOp, dat, eqv, Bool.and_true]
theorem b_add : bin2 .Add (.int i) (.int j) = some (.int (i + j)) := nr rfl
theorem b_sub : bin2 .Sub (.int i) (.int j) = some (.int (i - j)) := nr rfl
theorem b_mul (h : i.natAbs < 18446744073709551616 ∨ j.natAbs < 18446744073709551616) : bin2 .Mult (.int i) (.int j) = some (.int (i * j)) := by simp only [bin2, binOp]; rw [if_pos (by omega)]
theorem log2_le {j : Nat} (h : j < 2 ^ 9000) : j.log2 < 9000 := by
  by_cases q : j = 0
  · subst q; decide
  · exact (Nat.log2_lt q).mpr h
theorem b_divW (h : 0 < j ∧ j.natAbs.log2 < 9000) : bin2 .FloorDiv (.int i) (.int j) = some (.int (i / j)) := by simp only [bin2, binOp]; rw [if_pos h]
theorem b_div (h : 0 < j ∧ j < 1073741824) : bin2 .FloorDiv (.int i) (.int j) = some (.int (i / j)) := b_divW ⟨h.1, by
  have h1 : j.natAbs < 2 ^ 30 := by omega
  have h2 : j.natAbs.log2 < 30 := (Nat.log2_lt (by omega)).mpr h1
  omega⟩
theorem b_mod (h : 0 < j) : bin2 .Mod (.int i) (.int j) = some (.int (i % j)) := by simp only [bin2, binOp]; rw [if_pos h]
theorem b_pow9 : bin2 .Pow (.int 10) (.int 9) = some (.int 1000000000) := by
  simp only [bin2, binOp]
  rw [if_pos (by decide)]
  rfl
theorem b_cat (h1 : owns xs = false) (h2 : owns ys = false) (h : xs.length + ys.length ≤ line) : bin2 .Add (.tup xs) (.tup ys) = some (.tup (xs ++ ys)) := by simp only [bin2, binOp, catOp, h1, h2, h, and_self, if_true]
theorem ownL_t : own (.lst true xs) = true := by simp [own]
theorem ownL_f : own (.lst false xs) = owns xs := by simp [own]
theorem own_i : own (.int i) = false := by simp [own]
theorem own_b : own (.bl b) = false := by simp [own]
theorem own_n : own .non = false := by simp [own]
theorem own_s : own (.str s) = false := by simp [own]
theorem own_t : own (.tup xs) = owns xs := by simp [own]
theorem sha_i : sha (.int i) = false := by simp [sha]
theorem sha_b : sha (.bl b) = false := by simp [sha]
theorem sha_n : sha .non = false := by simp [sha]
theorem sha_s : sha (.str s) = false := by simp [sha]
theorem sha_t : sha (.tup xs) = shas xs := by simp [sha]
theorem sha_lt : sha (.lst true xs) = shas xs := by simp [sha]
theorem shr_i : shr (.int i) = .int i := by simp [shr]
theorem shr_b : shr (.bl b) = .bl b := by simp [shr]
theorem shr_n : shr .non = .non := by simp [shr]
theorem shr_s : shr (.str s) = .str s := by simp [shr]
theorem shr_t : shr (.tup xs) = .tup (shrs xs) := by simp [shr]
theorem shr_l : shr (.lst o xs) = .lst false (shrs xs) := by simp [shr]
theorem take_f {r : Option Nat} {env : Env} (h : own d = false) : take r d env = .ok d env := by simp [take, h]
theorem cont_f {r : Option Nat} {env : Env} (h : els d = some xs) (ho : owns xs = false) : cont r d env = .ok xs env := by simp [cont, h, ho]
theorem item_tn {x : D} {n : Nat} (h : xs[n]? = some x) : item (.tup xs) (.int n) = some x := by
  have := (List.getElem?_eq_some_iff.mp h).1
  simp only [item, atI, ixN]
  rw [if_pos (by omega), if_pos (by omega)]
  exact h
theorem item_ln {x : D} {n : Nat} (h : xs[n]? = some x) : item (.lst o xs) (.int n) = some x := by
  have := (List.getElem?_eq_some_iff.mp h).1
  simp only [item, atI, ixN]
  rw [if_pos (by omega), if_pos (by omega)]
  exact h
theorem ac_no {env : Env} {rs : List Nat} : afterCall false rs env (.ok d) = .ok d env := by simp [afterCall]
theorem ac_ok {env : Env} {l : Bool} {rs : List Nat} (h : sha d = false) : afterCall l rs env (.ok d) = .ok d env := by simp [afterCall, h]
end
/-- how a def's end is told -/
def outR : R Fl → CR
  | .ok (.ret d) _ => .ok d
  | .ok .nx _ => .ok .non
  | .exc c fs vs _ => .exc c fs vs
  | _ => .stuck
theorem out_ret {d : D} {env : Env} : outR (.ok (.ret d) env) = .ok d := nr rfl
theorem out_nx {env : Env} : outR (.ok .nx env) = .ok .non := nr rfl
theorem run_of {P : Pg} {np ns : Nat} {body : St} {ds : List D} (h : ds.length = np) : runFn P ⟨np, ns, body, none⟩ ds = outR (exec P body (ds.map some ++ List.replicate (ns - np) none)) := by
  simp only [runFn, h, if_true]
  cases exec P body (ds.map some ++ List.replicate (ns - np) none) with
  | ok r e => cases r <;> rfl
  | exc => rfl
  | stuck => rfl
def outI : R Fl → CR
  | .ok .nx (some d :: _) => .ok d
  | .exc c fs vs _ => .exc c fs vs
  | _ => .stuck
theorem setF_of {P : Pg} {f c : Nat} {d : D} {fs : List Nat} {vs : List D} (h1 : fs.length < 1000) (h2 : ¬ f ∈ fs) (h3 : P.insF c f = true) : setF P f d (.ins true c fs vs) = some (.ins true c (fs ++ [f]) (vs ++ [d])) := by
  simp [setF, h1, h2, h3]
theorem outI_nx {d : D} {env : Env} : outI (.ok .nx (some d :: env)) = .ok d := nr rfl
def outM : R Fl → CR
  | .ok .nx (some d :: _) => .ok d
  | _ => .stuck
theorem outM_nx {d : D} {env : Env} : outM (.ok .nx (some d :: env)) = .ok d := nr rfl
theorem runM_of {P : Pg} {np ns : Nat} {body : St} {ds : List D} (h : ds.length = np) : runM P ⟨np, ns, body, none⟩ ds = outM (exec P body (ds.map some ++ List.replicate (ns - np) none)) := by
  simp only [runM, h, if_true]
  cases exec P body (ds.map some ++ List.replicate (ns - np) none) with
  | ok r e =>
    cases r <;> first | rfl | (cases e with
      | nil => rfl
      | cons o e => cases o <;> rfl)
  | exc => rfl
  | stuck => rfl
theorem runI_of {P : Pg} {np ns c : Nat} {body : St} {ds : List D} (h : ds.length + 1 = np) : runFn P ⟨np, ns, body, some c⟩ ds = outI (exec P body (some (.ins true c [] []) :: (ds.map some ++ List.replicate (ns - np) none))) := by
  simp only [runFn, h, if_true]
  cases exec P body (some (.ins true c [] []) :: (ds.map some ++ List.replicate (ns - np) none)) with
  | ok r e => cases r <;> rfl
  | exc => rfl
  | stuck => rfl
end Q
namespace Q
/-- the laws that a step is reckoned by, in one -/
def qs := And.intro @x_seq (And.intro @x_pas (And.intro @x_asg (And.intro @x_exp (And.intro @x_ret (And.intro @x_ite (And.intro @x_for (And.intro @x_brk (And.intro @x_cont (And.intro @x_stf (And.intro @x_tst (And.intro @x_ev (And.intro @v_var (And.intro @v_mov (And.intro @v_non (And.intro @v_bl (And.intro @v_int (And.intro @v_str (And.intro @v_glb (And.intro @v_tup (And.intro @v_lst (And.intro @v_bin (And.intro @v_neg (And.intro @v_not (And.intro @v_andL (And.intro @v_orL (And.intro @v_cmp (And.intro @v_cmp2 (And.intro @v_isN (And.intro @v_notN (And.intro @v_ife (And.intro @v_fld (And.intro @v_ix (And.intro @v_rev (And.intro @prt_nil (And.intro @prt_int (And.intro @prt_var (And.intro @prt_neg (And.intro @prt_bin (And.intro @prt_call (And.intro @v_call (And.intro @v_meth (And.intro @v_new (And.intro @v_len (And.intro @v_lis (And.intro @v_tpl (And.intro @v_toI (And.intro @v_srt (And.intro @v_sset (And.intro @v_any (And.intro @v_all (And.intro @v_sum (And.intro @v_idx (And.intro @v_isT (And.intro @v_rng1 (And.intro @v_rng2 (And.intro @s_nil (And.intro @s_cons (And.intro @g_nil (And.intro @g_cons (And.intro @k_varL (And.intro @p_plc (And.intro @f_it (And.intro @ac_no (And.intro @out_ret (And.intro @out_nx (And.intro @outM_nx (And.intro @x_callM (And.intro @outI_nx (And.intro @setF_of (And.intro @bindE (And.intro @bindX (And.intro @noneR_some (And.intro @els_tup (And.intro @els_lst (And.intro @len_tup (And.intro @len_lst (And.intro @tru_bl (And.intro @tru_non (And.intro @tru_int (And.intro @isN_int (And.intro @isN_tup (And.intro @isN_non (And.intro @notN_int (And.intro @notN_tup (And.intro @notN_non (And.intro @not_bl (And.intro @neg_int (And.intro @toI_bl (And.intro @toI_int (And.intro @prt_i (And.intro @isL_lst (And.intro @isT_int (And.intro @isT_bl (And.intro @isT_tup (And.intro @isT_lst (And.intro @isT_str (And.intro @isT_non (And.intro @c_lt (And.intro @c_le (And.intro @c_gt (And.intro @c_ge (And.intro @c_eq (And.intro @c_ne (And.intro @b_add (And.intro @b_sub (And.intro @b_div (And.intro @b_mod (And.intro @b_pow9 (And.intro @b_cat (And.intro @ownL_t (And.intro @ownL_f (And.intro @own_i (And.intro @own_b (And.intro @own_n (And.intro @own_s (And.intro @own_t (And.intro @sha_i (And.intro @sha_b (And.intro @sha_n (And.intro @sha_s (And.intro @sha_t (And.intro @sha_lt (And.intro @shr_i (And.intro @shr_b (And.intro @shr_n (And.intro @shr_s (And.intro @shr_t (And.intro @shr_l (And.intro @take_none (And.intro @take_f (And.intro @cont_f (And.intro @shrs_ints (And.intro @owns_ints (And.intro @shas_ints (And.intro @shrs_int0 (And.intro @owns_int0 @shas_int0))))))))))))))))))))))))))))))))))))))))))))))))))))))))))))))))))))))))))))))))))))))))))))))))))))))))))))))))))))))))))))))))))))))))
end Q
end
section
set_option linter.all false
set_option autoImplicit false
set_option maxRecDepth 100000
set_option maxHeartbeats 1000000
/-! Garments, rows, wearings, standings as data. -/
namespace Q
/-! ### the data of the standings -/
def dR (r : List Nat) : D := .tup (r.map fun (g : Nat) => .int (g : Int))
def dW (w : List (List Nat)) : D := .tup (w.map dR)
def dS (s : List (List (List Nat))) : D := .tup (s.map dW)
def dL (o : Bool) (c : List Nat) : D := .lst o (c.map fun (g : Nat) => .int (g : Int))
def dC (o p : Bool) (cs : List (List Nat)) : D := .lst o (cs.map (dL p))
theorem own_R (r) : own (dR r) = false := by simp [dR, own, owns_ints]
theorem own_W (r) : own (dW r) = false := by simp [dW, own, owns_map own_R]
theorem own_S (r) : own (dS r) = false := by simp [dS, own, owns_map own_W]
theorem sha_R (r) : sha (dR r) = false := by simp [dR, sha, shas_ints]
theorem sha_W (r) : sha (dW r) = false := by simp [dW, sha, shas_map sha_R]
theorem sha_S (r) : sha (dS r) = false := by simp [dS, sha, shas_map sha_W]
theorem shr_R (r) : shr (dR r) = dR r := by simp [dR, shr, shrs_ints]
theorem shr_W (r) : shr (dW r) = dW r := by simp [dW, shr, shrs_map (g := dR) shr_R]
theorem shr_S (r) : shr (dS r) = dS r := by simp [dS, shr, shrs_map (g := dW) shr_W]
theorem shr_L (o r) : shr (dL o r) = dL false r := by simp [dL, shr, shrs_ints]
theorem shr_C (o p r) : shr (dC o p r) = dC false false r := by simp [dC, shr, shrs_map (g := dL false) (shr_L p)]
theorem own_Lf (r) : own (dL false r) = false := by simp [dL, own, owns_ints]
theorem own_Lt (r) : own (dL true r) = true := by simp [dL, own, owns_ints]
theorem own_Cf (r) : own (dC false false r) = false := by simp [dC, own, owns_map own_Lf]
theorem own_Ct (p r) : own (dC true p r) = true := by simp [dC, own]
theorem dat_R {n : Nat} (h : 0 < n) (r) : dat n (dR r) = true := by simp [dR, dat, h, dats_ints]
theorem dat_W {n : Nat} (h : 1 < n) (r) : dat n (dW r) = true := by simp [dW, dat, show 0 < n by omega, dats_map (dat_R (n := n - 1) (by omega))]
theorem dat_S {n : Nat} (h : 2 < n) (r) : dat n (dS r) = true := by simp [dS, dat, show 0 < n by omega, dats_map (dat_W (n := n - 1) (by omega))]
theorem eqv_int (a b : Nat) : eqv (.int a) (.int b) = decide (a = b) := by
  simp only [eqv]
  by_cases h : a = b
  · simp [h]
  · simp only [h, decide_false]; exact beq_eq_false_iff_ne.mpr (by omega)
theorem eqv_R (a b) : eqv (dR a) (dR b) = decide (a = b) := by simp only [dR, eqv]; exact eqvs_map eqv_int
theorem eqv_W (a b) : eqv (dW a) (dW b) = decide (a = b) := by simp only [dW, eqv]; exact eqvs_map eqv_R
theorem eqv_S (a b) : eqv (dS a) (dS b) = decide (a = b) := by simp only [dS, eqv]; exact eqvs_map eqv_W
theorem els_R (r) : els (dR r) = some (r.map fun (g : Nat) => .int (g : Int)) := rfl
theorem els_W (r) : els (dW r) = some (r.map dR) := rfl
theorem els_S (r) : els (dS r) = some (r.map dW) := rfl
theorem els_L (o r) : els (dL o r) = some (r.map fun (g : Nat) => .int (g : Int)) := rfl
theorem els_C (o p r) : els (dC o p r) = some (r.map (dL p)) := rfl
theorem atI_nat {α : Type} {xs : List α} {i : Nat} {x : α} (h : xs[i]? = some x) : atI xs (i : Int) = some x := by
  have := (List.getElem?_eq_some_iff.mp h).1
  simp only [atI, ixN]
  rw [if_pos (by omega), if_pos (by omega)]
  exact h
theorem item_map {α : Type} {f : α → D} {xs : List α} {i : Nat} {x : α} (h : xs[i]? = some x) : atI (xs.map f) (i : Int) = some (f x) := atI_nat (by rw [List.getElem?_map, h]; rfl)
theorem item_S {s : List (List (List Nat))} {i : Nat} {w} (h : s[i]? = some w) : item (dS s) (.int i) = some (dW w) := item_map h
theorem item_W {s : List (List Nat)} {i : Nat} {w} (h : s[i]? = some w) : item (dW s) (.int i) = some (dR w) := item_map h
theorem item_R {s : List Nat} {i : Nat} {w : Nat} (h : s[i]? = some w) : item (dR s) (.int i) = some (.int w) := item_map h
theorem item_L {o : Bool} {s : List Nat} {i : Nat} {w : Nat} (h : s[i]? = some w) : item (dL o s) (.int i) = some (.int w) := item_map h
theorem item_C {o p : Bool} {s : List (List Nat)} {i : Nat} {w} (h : s[i]? = some w) : item (dC o p s) (.int i) = some (dL p w) := item_map h
theorem len_S (s) : lenD (dS s) = some (.int s.length) := by simp [dS, lenD]
theorem len_W (s) : lenD (dW s) = some (.int s.length) := by simp [dW, lenD]
theorem len_R (s) : lenD (dR s) = some (.int s.length) := by simp [dR, lenD]
theorem len_L (o s) : lenD (dL o s) = some (.int s.length) := by simp [dL, lenD]
theorem len_C (o p s) : lenD (dC o p s) = some (.int s.length) := by simp [dC, lenD]
theorem in_R {n : Nat} {r} : cmpOp .In (.int n) (dR r) = some (decide (n ∈ r)) := by
  simp only [cmpOp, els_R, dat, Bool.true_and, dats_ints, if_true]
  rw [any_map eqv_int]
theorem in_L {n : Nat} {o r} : cmpOp .In (.int n) (dL o r) = some (decide (n ∈ r)) := by
  simp only [cmpOp, els_L, dat, Bool.true_and, dats_ints, if_true]
  rw [any_map eqv_int]
theorem nin_R {n : Nat} {r} : cmpOp .NotIn (.int n) (dR r) = some (!decide (n ∈ r)) := by
  simp only [cmpOp, els_R, dat, Bool.true_and, dats_ints, if_true]
  rw [any_map eqv_int]
theorem nin_L {n : Nat} {o r} : cmpOp .NotIn (.int n) (dL o r) = some (!decide (n ∈ r)) := by
  simp only [cmpOp, els_L, dat, Bool.true_and, dats_ints, if_true]
  rw [any_map eqv_int]
def hasG (w : List (List Nat)) (g : Nat) : Bool := w.any fun r => decide (g ∈ r)
def wears (s : List (List (List Nat))) (g : Nat) : Option Nat := (List.range s.length).findSome? fun i => if hasG (s.getD i []) g then some i else none
def dO : Option Nat → D
  | some i => .int i
  | none => .non
theorem anyD_map {α : Type} {f : α → Bool} {l : List α} {o : Bool} : anyD (.lst o (l.map fun a => .bl (f a))) = some (.bl (l.any f)) := by
  simp only [anyD, onBools, boolsOf_map, Option.map_some]
  rw [List.any_map]; rfl
theorem allD_map {α : Type} {f : α → Bool} {l : List α} {o : Bool} : allD (.lst o (l.map fun a => .bl (f a))) = some (.bl (l.all f)) := by
  simp only [allD, onBools, boolsOf_map, Option.map_some]
  rw [List.all_map]; rfl
theorem findSome_map {α β γ : Type} {f : α → Option β} {g : β → γ} {l : List α} : l.findSome? (fun a => (f a).map g) = (l.findSome? f).map g := by
  induction l with
  | nil => rfl
  | cons a l ih => simp only [List.findSome?_cons]; cases f a <;> simp [ih]
theorem wears_D (s g) : ((List.range s.length).findSome? fun i => if hasG (s.getD i []) g then some (D.int (i : Nat)) else none) = (wears s g).map fun i => D.int (i : Nat) := by
  rw [wears, ← findSome_map]
  congr 1; funext i; split <;> rfl
/-- standings small enough -/
structure Small (s : List (List (List Nat))) : Prop where
  len : s.length < 1000
  wid : ∀ w ∈ s, w.length < 1000
  row : ∀ w ∈ s, ∀ r ∈ w, r.length < 1000
theorem app_var {P : Pg} {env env' : Env} {i : Nat} {xs : List D} {d : D} {e : Ex} (h : env[i]? = some (some (.lst true xs))) (he : ev P e env = .ok d env') (h2 : env'[i]? = some (some (.lst true xs))) (hl : xs.length < line) : exec P (.app (.var i) e) env = .ok .nx (env'.set i (some (.lst true (xs ++ [d])))) := by
  simp [x_app, p_plc, k_varL, seen, seenL, h, h2, atP, bindE, he, modE, modD, atOwn, fApp, hl]
def addAll (fs row : List Nat) : List Nat := row.foldl (fun fs g => if g ∈ fs then fs else fs ++ [g]) fs
theorem mem_add {g : Nat} : ∀ {row fs : List Nat}, g ∈ addAll fs row ↔ g ∈ fs ∨ g ∈ row
  | [], fs => by simp [addAll]
  | a :: row, fs => by
    show g ∈ addAll (if a ∈ fs then fs else fs ++ [a]) row ↔ _
    rw [mem_add]
    split
    · rename_i h
      constructor
      · rintro (h1 | h1)
        · exact .inl h1
        · exact .inr (List.mem_cons_of_mem _ h1)
      · rintro (h1 | h1)
        · exact .inl h1
        · rcases List.mem_cons.mp h1 with rfl | h1
          · exact .inl h
          · exact .inr h1
    · simp [or_assoc]
theorem len_add : ∀ {row fs : List Nat}, (addAll fs row).length ≤ fs.length + row.length
  | [], fs => by simp [addAll]
  | a :: row, fs => by
    show (addAll (if a ∈ fs then fs else fs ++ [a]) row).length ≤ _
    refine Nat.le_trans len_add ?_
    split <;> simp <;> omega
theorem mem_fold {g : Nat} : ∀ {w : List (List Nat)} {fs : List Nat}, g ∈ w.foldl addAll fs ↔ g ∈ fs ∨ hasG w g = true
  | [], fs => by simp [hasG]
  | r :: w, fs => by
    rw [List.foldl_cons, mem_fold, mem_add]
    simp [hasG, or_assoc]
theorem mem_insI {x y : Int} : ∀ {l : List Int}, x ∈ insI y l ↔ x = y ∨ x ∈ l
  | [] => by simp [insI]
  | a :: l => by
    simp only [insI]
    split
    · simp
    · rw [List.mem_cons, mem_insI, List.mem_cons]
      constructor
      · rintro (h | h | h) <;> simp [h]
      · rintro (h | h | h) <;> simp [h]
theorem mem_sortI {x : Int} : ∀ {l : List Int}, x ∈ sortI l ↔ x ∈ l
  | [] => by simp [sortI]
  | a :: l => by rw [sortI, mem_insI, mem_sortI, List.mem_cons]
/-- a wearing small enough -/
structure SmallW (w : List (List Nat)) : Prop where
  wid : w.length < 1000
  row : ∀ r ∈ w, r.length < 1000
theorem Small.at {s : List (List (List Nat))} (h : Small s) {w} (hw : w ∈ s) : SmallW w := ⟨h.wid w hw, h.row w hw⟩
theorem in_ints {n : Nat} {o} {is : List Int} : cmpOp .In (.int n) (.lst o (is.map .int)) = some (decide ((n : Int) ∈ is)) := by
  simp only [cmpOp, els_lst, dat, Bool.true_and]
  rw [dats_map (fun _ => by simp [dat]), if_pos rfl]
  congr 1
  induction is with
  | nil => rfl
  | cons a l ih => simp only [List.map_cons, List.any_cons, ih, eqv_ii]; by_cases q : a = n <;> simp [q, eq_comm]
theorem isT_R (r k) : isTy (dR r) k = some (3 == k || (3 == 1 && k == 0)) := isT_tup
theorem isT_W (r k) : isTy (dW r) k = some (3 == k || (3 == 1 && k == 0)) := isT_tup
theorem isT_S (r k) : isTy (dS r) k = some (3 == k || (3 == 1 && k == 0)) := isT_tup
theorem isT_L (o r k) : isTy (dL o r) k = some (2 == k || (2 == 1 && k == 0)) := isT_lst
theorem eq_S (a b) : cmpOp .Eq (dS a) (dS b) = some (decide (a = b)) := by simp only [cmpOp, dat_S (n := 60) (by decide), eqv_S, Bool.and_self, if_true]
theorem ne_S (a b) : cmpOp .NotEq (dS a) (dS b) = some (!decide (a = b)) := by simp only [cmpOp, dat_S (n := 60) (by decide), eqv_S, Bool.and_self, if_true, show ∀ x, isDc (dS x) = false from fun _ => rfl, Bool.or_self, Bool.false_eq_true, if_false]
theorem loop_all {P : Pg} {tg : Ex} {b : St} {α : Type} {φ : α → D} (I : Env → Prop) {l : List α} {env : Env} (h0 : I env) (t : ∀ a ∈ l, ∀ e, I e → ∃ e', turnL P tg b (φ a) e = .ok .nx e' ∧ I e') : ∃ e', loop (turnL P tg b) (l.map φ) env = .ok .nx e' ∧ I e' := by
  obtain ⟨e', h1, h2⟩ := loop_map (f := turnL P tg b) (fun _ e => I e) (l := l) (env := env) h0 fun j a e hj hi => by
    obtain ⟨e', h1, h2⟩ := t a (List.mem_of_getElem? hj) e hi
    exact ⟨e', .inl h1, h2⟩
  exact ⟨e', h1, h2⟩
/-! ### the wardrobe -/
def dV (o : Bool) (n : Nat) (p q : Bool) (cs : List (List Nat)) : D := .ins o 7 [3, 4] [.int n, dC p q cs]
abbrev dv (n : Nat) (cs : List (List Nat)) : D := dV false n false false cs
theorem shr_V (o n p q cs) : shr (dV o n p q cs) = dv n cs := by simp [dV, shr, shrs, shr_C]
theorem own_v (n cs) : own (dv n cs) = false := by simp [dv, dV, own, owns, own_Cf]
theorem own_V (n p q cs) : own (dV true n p q cs) = true := by simp [dV, own]
theorem sha_V (n cs) : sha (dV true n true true cs) = false := by
  have h1 : ∀ c, sha (dL true c) = false := fun c => by simp [dL, sha, shas_ints]
  simp [dV, sha, shas, dC, shas_map h1]
theorem get_V3 (o n p q cs) : getF (dV o n p q cs) 3 = some (.int n) := by simp [dV, getF, field]
theorem get_V4 (o n p q cs) : getF (dV o n p q cs) 4 = some (dC p q cs) := by simp [dV, getF, field]
theorem mth_V {P : Pg} (o n p q cs m) : mthOf P m (dV o n p q cs) = P.mth 7 m := rfl
theorem sha_L (c) : sha (dL true c) = false := by simp [dL, sha, shas_ints]
/-- a cover of so many places -/
structure Cov (n : Nat) (c : List Nat) : Prop where
  ne : c ≠ []
  inc : c.Pairwise (· < ·)
  lt : ∀ p ∈ c, p < n
theorem eq_Ln (o p c) : cmpOp .Eq (dL o c) (.lst p []) = some (decide (c = [])) := by
  simp only [cmpOp, dL, dat, dats_ints, dats, eqv]
  cases c <;> simp [eqvs]
theorem bits_some {n b : Nat} (hn : 1 ≤ n ∧ n ≤ 6) (h0 : 0 < b) (h1 : b < 2 ^ n) : ∃ p, p < n ∧ b / 2 ^ p % 2 = 1 := by
  have : n = 1 ∨ n = 2 ∨ n = 3 ∨ n = 4 ∨ n = 5 ∨ n = 6 := by omega
  rcases this with rfl | rfl | rfl | rfl | rfl | rfl
  · exact ⟨0, by omega, by simp at *; omega⟩
  · by_cases a0 : b % 2 = 1
    · exact ⟨0, by omega, by simpa using a0⟩
    · exact ⟨1, by omega, by simp at *; omega⟩
  · by_cases a0 : b % 2 = 1
    · exact ⟨0, by omega, by simpa using a0⟩
    · by_cases a1 : b / 2 % 2 = 1
      · exact ⟨1, by omega, by simpa using a1⟩
      · exact ⟨2, by omega, by simp at *; omega⟩
  · by_cases a0 : b % 2 = 1
    · exact ⟨0, by omega, by simpa using a0⟩
    · by_cases a1 : b / 2 % 2 = 1
      · exact ⟨1, by omega, by simpa using a1⟩
      · by_cases a2 : b / 4 % 2 = 1
        · exact ⟨2, by omega, by simpa using a2⟩
        · exact ⟨3, by omega, by simp at *; omega⟩
  · by_cases a0 : b % 2 = 1
    · exact ⟨0, by omega, by simpa using a0⟩
    · by_cases a1 : b / 2 % 2 = 1
      · exact ⟨1, by omega, by simpa using a1⟩
      · by_cases a2 : b / 4 % 2 = 1
        · exact ⟨2, by omega, by simpa using a2⟩
        · by_cases a3 : b / 8 % 2 = 1
          · exact ⟨3, by omega, by simpa using a3⟩
          · exact ⟨4, by omega, by simp at *; omega⟩
  · by_cases a0 : b % 2 = 1
    · exact ⟨0, by omega, by simpa using a0⟩
    · by_cases a1 : b / 2 % 2 = 1
      · exact ⟨1, by omega, by simpa using a1⟩
      · by_cases a2 : b / 4 % 2 = 1
        · exact ⟨2, by omega, by simpa using a2⟩
        · by_cases a3 : b / 8 % 2 = 1
          · exact ⟨3, by omega, by simpa using a3⟩
          · by_cases a4 : b / 16 % 2 = 1
            · exact ⟨4, by omega, by simpa using a4⟩
            · exact ⟨5, by omega, by simp at *; omega⟩
theorem cov_filter {n : Nat} {p : Nat → Bool} (h : ∃ q, q < n ∧ p q = true) : Cov n ((List.range n).filter p) := by
  obtain ⟨q, h1, h2⟩ := h
  refine ⟨fun e => ?_, List.Pairwise.filter _ List.pairwise_lt_range, fun x hx => List.mem_range.mp (List.mem_filter.mp hx).1⟩
  have : q ∈ (List.range n).filter p := List.mem_filter.mpr ⟨List.mem_range.mpr h1, h2⟩
  rw [e] at this
  cases this
theorem cov_one {n k : Nat} {c : List Nat} (h : Cov n c) (hk : k < c.length) : Cov n ((c.drop k).take 1) := by
  have e : (c.drop k).take 1 = [c[k]] := by
    rw [List.drop_eq_getElem_cons hk]
    rfl
  rw [e]
  exact ⟨by simp, by simp, fun x hx => by rw [List.mem_singleton.mp hx]; exact h.lt _ (List.getElem_mem hk)⟩
theorem slc_L {P : Pg} {env : Env} {e lo hi : Ex} {o : Bool} {c : List Nat} {l h : Option Int} (h1 : vw P e env = .ok (dL o c) env) (h2 : prt P lo env = .ok l env) (h3 : prt P hi env = .ok h env) : vw P (.slc e lo hi) env = .ok (dL true (cut c l h)) env := by
  rw [v_slc, h1, bindE, cont_f (els_L o c) owns_ints, bindE, h2, bindE, h3, bindE]
  show noneR (some (D.lst true (cut _ l h))) env = _
  rw [cut_map]
  rfl
theorem cut_from {c : List Nat} {k : Nat} (h : k < c.length) : cut c (some (k : Int)) none = c.drop k := by
  simp only [cut, isIx]
  rw [if_neg (by omega)]
  have : min (k : Int).toNat c.length = k := by omega
  rw [this]
  exact List.take_of_length_le (by simp)
theorem cut_one {c : List Nat} : cut c none (some 1) = c.take 1 := by
  simp only [cut, isIx]
  rw [if_neg (by omega)]
  cases c <;> simp
theorem pow_at {p : Nat} (h : p < 6) : item (.lst true [.int 1, .int 2, .int 4, .int 8, .int 16, .int 32]) (.int (p : Int)) = some (.int ((2 ^ p : Nat) : Int)) := by
  have : p = 0 ∨ p = 1 ∨ p = 2 ∨ p = 3 ∨ p = 4 ∨ p = 5 := by omega
  rcases this with rfl | rfl | rfl | rfl | rfl | rfl <;> rfl
theorem pow_le {p : Nat} (h : p < 6) : 0 < 2 ^ p ∧ 2 ^ p < 1073741824 := by
  have : p = 0 ∨ p = 1 ∨ p = 2 ∨ p = 3 ∨ p = 4 ∨ p = 5 := by omega
  rcases this with rfl | rfl | rfl | rfl | rfl | rfl <;> decide
theorem len_inc {n : Nat} : ∀ (c : List Nat) (lo : Nat), c.Pairwise (· < ·) → (∀ p ∈ c, lo ≤ p ∧ p < n) → c.length ≤ n - lo
  | [], _, _, _ => Nat.zero_le _
  | a :: c, lo, h1, h2 => by
    have h3 := len_inc c (a + 1) (List.Pairwise.of_cons h1) fun p hp => ⟨List.rel_of_pairwise_cons h1 hp, (h2 p (List.mem_cons_of_mem _ hp)).2⟩
    have h4 := h2 a List.mem_cons_self
    rw [List.length_cons]
    omega
theorem Cov.len {n : Nat} {c : List Nat} (h : Cov n c) : c.length ≤ n := by
  have := len_inc c 0 h.inc fun p hp => ⟨Nat.zero_le _, h.lt p hp⟩
  omega
theorem wears_some {s : List (List (List Nat))} {g p : Nat} (h : wears s g = some p) : ∃ w, s[p]? = some w ∧ hasG w g = true := by
  obtain ⟨i, hi, h⟩ := List.exists_of_findSome?_eq_some h
  have hi := List.mem_range.mp hi
  split at h
  · rename_i h1
    cases h
    refine ⟨s[p], List.getElem?_eq_getElem hi, ?_⟩
    have : s.getD p [] = s[p] := by rw [List.getD, List.getElem?_eq_getElem hi]; rfl
    rwa [this] at h1
  · cases h
theorem wears_none {s : List (List (List Nat))} {g : Nat} (h : wears s g = none) : ∀ w ∈ s, hasG w g = false := by
  intro w hw
  obtain ⟨i, hi⟩ := List.getElem?_of_mem hw
  have h2 := List.findSome?_eq_none_iff.mp h i (List.mem_range.mpr (List.getElem?_eq_some_iff.mp hi).1)
  have : s.getD i [] = w := by rw [List.getD, hi]; rfl
  rw [this] at h2
  split at h2
  · cases h2
  · rename_i h3; simpa using h3
theorem hasG_iff {w : List (List Nat)} {g : Nat} : hasG w g = true ↔ ∃ r ∈ w, g ∈ r := by simp [hasG]
abbrev Deed := Nat × Bool × Nat
def word (b : Bool) : List Nat := if b then [111, 110] else [111, 102, 102]
def dD (d : Deed) : D := .tup [.int d.1, .str (word d.2.1), .int d.2.2]
def dDo : Option Deed → D
  | some d => dD d
  | none => .non
def movedW (w : List (List Nat)) (on : Bool) (g : Nat) (c : List Nat) : List (List Nat) := (List.range w.length).map fun k => if k ∈ c then (if on then w.getD k [] ++ [g] else (w.getD k []).dropLast) else w.getD k []
def moved (s : List (List (List Nat))) (d : Deed) (cs : List (List Nat)) : List (List (List Nat)) := s.take d.1 ++ [movedW (s.getD d.1 []) d.2.1 d.2.2 (cs.getD d.2.2 [])] ++ s.drop (d.1 + 1)
/-- what holds of each standing, behind t deeds -/
structure Inv (n t : Nat) (cs : List (List Nat)) (s : List (List (List Nat))) : Prop where
  wid : ∀ w ∈ s, w.length = n
  whole : ∀ w ∈ s, ∀ g c, hasG w g = true → cs[g]? = some c → ∀ k ∈ c, ∃ r, w[k]? = some r ∧ g ∈ r
  only : ∀ w ∈ s, ∀ (k : Nat) r, w[k]? = some r → ∀ g ∈ r, ∃ c, cs[g]? = some c ∧ k ∈ c
  nodup : ∀ w ∈ s, ∀ r ∈ w, r.Nodup
  len : ∀ w ∈ s, ∀ r ∈ w, r.length ≤ t
/-- a deed that is let by -/
structure DOk (cs : List (List Nat)) (s : List (List (List Nat))) (d : Deed) : Prop where
  ex : ∃ c w, cs[d.2.2]? = some c ∧ s[d.1]? = some w ∧ (d.2.1 = true → ∀ w' ∈ s, hasG w' d.2.2 = false) ∧ (d.2.1 = false → ∀ k ∈ c, ∃ r, w[k]? = some r ∧ r.getLast? = some d.2.2)
theorem Inv.small {n t : Nat} {cs s} (h : Inv n t cs s) (hs : s.length < 1000) (hn : n < 1000) (ht : t < 1000) : Small s :=
  ⟨hs, fun w hw => by rw [h.wid w hw]; exact hn, fun w hw r hr => Nat.lt_of_le_of_lt (h.len w hw r hr) ht⟩
theorem item_last {r : List Nat} {x : Nat} (h : r.getLast? = some x) : item (dR r) (.int (-1)) = some (.int x) := by
  obtain ⟨q, rfl⟩ := List.getLast?_eq_some_iff.mp h
  simp only [item, dR, atI, ixN, List.length_map, List.length_append, List.length_singleton]
  rw [if_neg (by omega), if_pos (by omega)]
  have : (-1 + ((q.length + 1 : Nat) : Int)).toNat = q.length := by omega
  rw [this]
  simp
theorem cut_to {α : Type} {c : List α} {k : Nat} (h : k ≤ c.length) : cut c none (some (k : Int)) = c.take k := by
  simp only [cut, isIx]
  rw [if_neg (by omega)]
  have : min (k : Int).toNat c.length = k := by omega
  rw [this]
  simp
theorem cut_fr {α : Type} {c : List α} {k : Nat} (h : k ≤ c.length) : cut c (some (k : Int)) none = c.drop k := by
  simp only [cut, isIx]
  rw [if_neg (by omega)]
  have : min (k : Int).toNat c.length = k := by omega
  rw [this]
  exact List.take_of_length_le (by simp)
theorem cut_last {α : Type} {c : List α} : cut c none (some (-1)) = c.dropLast := by
  simp only [cut, isIx]
  rw [if_pos (by omega), List.dropLast_eq_take]
  have : (-1 + (c.length : Int)).toNat = c.length - 1 := by omega
  rw [this]
  simp
theorem slc_T {α : Type} {f : α → D} {P : Pg} {env : Env} {e lo hi : Ex} {c : List α} {l h : Option Int} (ho : owns (c.map f) = false) (h1 : vw P e env = .ok (.tup (c.map f)) env) (h2 : prt P lo env = .ok l env) (h3 : prt P hi env = .ok h env) : vw P (.slc e lo hi) env = .ok (.tup ((cut c l h).map f)) env := by
  rw [v_slc, h1, bindE, cont_f els_tup ho, bindE, h2, bindE, h3, bindE]
  show noneR (some (D.tup (cut _ l h))) env = _
  rw [cut_map]
  rfl
theorem add_R {r : List Nat} {g : Nat} (h : r.length < 1000) : bin2 .Add (dR r) (.tup [.int g]) = some (dR (r ++ [g])) := by
  rw [dR, b_cat owns_ints (by simp [owns, own]) (by simp [line]; omega)]
  simp [dR]
theorem add_S1 {s : List (List (List Nat))} {w} (h : s.length < 1000) : bin2 .Add (dS s) (.tup [dW w]) = some (dS (s ++ [w])) := by
  rw [dS, b_cat (owns_map own_W) (by simp [owns, own_W]) (by simp [line]; omega)]
  simp [dS]
theorem add_S {s t : List (List (List Nat))} (h : s.length < 1000) (h2 : t.length < 1000) : bin2 .Add (dS s) (dS t) = some (dS (s ++ t)) := by
  rw [dS, dS, b_cat (owns_map own_W) (owns_map own_W) (by simp [line]; omega)]
  simp [dS]
theorem own_D (d) : own (dD d) = false := by simp [dD, own, owns]
theorem sha_D (d) : sha (dD d) = false := by simp [dD, sha, shas]
theorem shr_D (d) : shr (dD d) = dD d := by simp [dD, shr, shrs]
theorem movedW_len (w on g c) : (movedW w on g c).length = w.length := by simp [movedW]
def dT (ws : List (List Nat)) : D := .lst true (ws.map dR)
theorem head_c {c : List Nat} (h : c ≠ []) : ∃ k, c[0]? = some k ∧ k ∈ c := by
  cases c with
  | nil => exact absurd rfl h
  | cons a c => exact ⟨a, rfl, List.mem_cons_self⟩
theorem item_L0 {o : Bool} {s : List Nat} {w : Nat} (h : s[0]? = some w) : item (dL o s) (.int 0) = some (.int w) := item_L (i := 0) h
theorem findD_last {g : Nat} : ∀ (q : List Nat) (k : Nat), ¬ g ∈ q → findD (.int g) ((q ++ [g]).map fun (g : Nat) => .int (g : Int)) k = some (k + q.length)
  | [], k, _ => by simp [findD, eqv_int]
  | a :: q, k, h => by
    have h1 : ¬ g = a := fun e => h (by rw [e]; exact List.mem_cons_self)
    have h2 : ¬ g ∈ q := fun e => h (List.mem_cons_of_mem _ e)
    have h3 : ¬ a = g := fun e => h1 e.symm
    simp only [List.cons_append, List.map_cons, findD, eqv_int, h3, decide_false, Bool.false_eq_true, if_false, List.length_cons]
    rw [findD_last q (k + 1) h2]
    congr 1; omega
theorem idx_last {r : List Nat} {g : Nat} (h : r.getLast? = some g) (hn : r.Nodup) : idxD (dR r) (.int g) = some (.int ((r.length : Int) - 1)) := by
  obtain ⟨q, rfl⟩ := List.getLast?_eq_some_iff.mp h
  have hq : ¬ g ∈ q := fun hq => by
    have := (List.nodup_append.mp hn).2.2 g hq g (List.mem_singleton.mpr rfl)
    exact this rfl
  simp only [idxD, els_R, dat0, dats0_ints, Bool.and_self, if_true]
  rw [findD_last q 0 hq]
  simp
theorem w_in (b : Bool) : cmpOp .NotIn (.str (word b)) (.tup [.str [111, 110], .str [111, 102, 102]]) = some false := by cases b <;> rfl
/-- .. of one player's wearing -/
structure WInv (n t : Nat) (cs : List (List Nat)) (w : List (List Nat)) : Prop where
  wid : w.length = n
  whole : ∀ g c, hasG w g = true → cs[g]? = some c → ∀ k ∈ c, ∃ r, w[k]? = some r ∧ g ∈ r
  only : ∀ (k : Nat) r, w[k]? = some r → ∀ g ∈ r, ∃ c, cs[g]? = some c ∧ k ∈ c
  nodup : ∀ r ∈ w, r.Nodup
  len : ∀ r ∈ w, r.length ≤ t
theorem inv_iff {n t cs s} : Inv n t cs s ↔ ∀ w ∈ s, WInv n t cs w :=
  ⟨fun h w hw => ⟨h.wid w hw, h.whole w hw, h.only w hw, h.nodup w hw, h.len w hw⟩, fun h => ⟨fun w hw => (h w hw).wid, fun w hw => (h w hw).whole, fun w hw => (h w hw).only, fun w hw => (h w hw).nodup, fun w hw => (h w hw).len⟩⟩
theorem mw_get {w : List (List Nat)} {on : Bool} {g : Nat} {c : List Nat} {k : Nat} {r : List Nat} (h : w[k]? = some r) : (movedW w on g c)[k]? = some (if k ∈ c then (if on then r ++ [g] else r.dropLast) else r) := by
  have h1 := (List.getElem?_eq_some_iff.mp h).1
  have e1 : w.getD k [] = r := by rw [List.getD, h]; rfl
  rw [movedW, List.getElem?_map, List.getElem?_range h1]
  simp only [Option.map_some, e1]
theorem mw_of {w : List (List Nat)} {on : Bool} {g : Nat} {c : List Nat} {k : Nat} {r' : List Nat} (h : (movedW w on g c)[k]? = some r') : ∃ r, w[k]? = some r ∧ r' = if k ∈ c then (if on then r ++ [g] else r.dropLast) else r := by
  have h1 := (List.getElem?_eq_some_iff.mp h).1
  rw [movedW_len] at h1
  obtain ⟨r, hr⟩ : ∃ r, w[k]? = some r := ⟨_, List.getElem?_eq_getElem h1⟩
  rw [mw_get hr] at h
  exact ⟨r, hr, (Option.some.inj h).symm⟩
theorem WInv.le {n t t' cs w} (h : WInv n t cs w) (ht : t ≤ t') : WInv n t' cs w := ⟨h.wid, h.whole, h.only, h.nodup, fun r hr => Nat.le_trans (h.len r hr) ht⟩
theorem winv_on {n t cs w g} {c : List Nat} (h : WInv n t cs w) (hc : cs[g]? = some c) (hv : Cov n c) (hn : hasG w g = false) : WInv n (t + 1) cs (movedW w true g c) := by
  have hng : ∀ (k : Nat) r, w[k]? = some r → ¬ g ∈ r := fun k r hr hg => by
    have : hasG w g = true := hasG_iff.mpr ⟨r, List.mem_of_getElem? hr, hg⟩
    rw [hn] at this; cases this
  have mem : ∀ (k : Nat) r', (movedW w true g c)[k]? = some r' → ∃ r, w[k]? = some r ∧ ∀ x, x ∈ r' ↔ x ∈ r ∨ (k ∈ c ∧ x = g) := fun k r' hr' => by
    obtain ⟨r, hr, e⟩ := mw_of hr'
    refine ⟨r, hr, fun x => ?_⟩
    rw [e]
    by_cases hk : k ∈ c <;> simp [hk]
  refine ⟨by rw [movedW_len]; exact h.wid, fun g' c' h1 h2 k hk => ?_, fun k r' hr' g' hg' => ?_, fun r' hr' => ?_, fun r' hr' => ?_⟩
  · obtain ⟨r1, h3, h4⟩ := hasG_iff.mp h1
    obtain ⟨k1, hk1⟩ := List.getElem?_of_mem h3
    obtain ⟨r0, h5, h6⟩ := mem k1 r1 hk1
    rcases (h6 g').mp h4 with h7 | ⟨h7, rfl⟩
    · obtain ⟨r, h8, h9⟩ := h.whole g' c' (hasG_iff.mpr ⟨r0, List.mem_of_getElem? h5, h7⟩) h2 k hk
      refine ⟨_, mw_get h8, ?_⟩
      by_cases hk : k ∈ c <;> simp [hk, h9]
    · rw [hc] at h2
      cases h2
      obtain ⟨r, hr⟩ : ∃ r, w[k]? = some r := ⟨_, List.getElem?_eq_getElem (by rw [h.wid]; exact hv.lt _ hk)⟩
      exact ⟨_, mw_get hr, by simp [hk]⟩
  · obtain ⟨r, h1, h2⟩ := mem k r' hr'
    rcases (h2 g').mp hg' with h3 | ⟨h3, rfl⟩
    · exact h.only k r h1 g' h3
    · exact ⟨c, hc, h3⟩
  · obtain ⟨k, hk⟩ := List.getElem?_of_mem hr'
    obtain ⟨r, h1, rfl⟩ := mw_of hk
    have h2 := h.nodup r (List.mem_of_getElem? h1)
    have h3 := hng k r h1
    split
    · simp only [if_true]
      refine List.nodup_append.mpr ⟨h2, by simp, fun a ha b hb => ?_⟩
      rw [List.mem_singleton.mp hb]
      rintro rfl
      exact h3 ha
    · exact h2
  · obtain ⟨k, hk⟩ := List.getElem?_of_mem hr'
    obtain ⟨r, h1, rfl⟩ := mw_of hk
    have h2 := h.len r (List.mem_of_getElem? h1)
    split
    · simp; omega
    · omega
theorem winv_off {n t cs w g} {c : List Nat} (h : WInv n t cs w) (hc : cs[g]? = some c) (hl : ∀ k ∈ c, ∃ r, w[k]? = some r ∧ r.getLast? = some g) : WInv n t cs (movedW w false g c) := by
  have mem : ∀ (k : Nat) r', (movedW w false g c)[k]? = some r' → ∃ r, w[k]? = some r ∧ (k ∈ c → ∃ q, r = q ++ [g] ∧ r' = q ∧ ¬ g ∈ q) ∧ (¬ k ∈ c → r' = r) := fun k r' hr' => by
    obtain ⟨r, hr, e⟩ := mw_of hr'
    refine ⟨r, hr, fun hk => ?_, fun hk => by rw [e, if_neg hk]⟩
    obtain ⟨r2, h1, h2⟩ := hl k hk
    rw [hr] at h1
    cases h1
    obtain ⟨q, rfl⟩ := List.getLast?_eq_some_iff.mp h2
    refine ⟨q, rfl, by rw [e, if_pos hk]; simp, fun hq => ?_⟩
    exact (List.nodup_append.mp (h.nodup _ (List.mem_of_getElem? hr))).2.2 g hq g (List.mem_singleton.mpr rfl) rfl
  have sub : ∀ (k : Nat) r', (movedW w false g c)[k]? = some r' → ∃ r, w[k]? = some r ∧ (∀ x ∈ r', x ∈ r ∧ x ≠ g) ∧ r'.Sublist r := fun k r' hr' => by
    obtain ⟨r, h1, h2, h3⟩ := mem k r' hr'
    by_cases hk : k ∈ c
    · obtain ⟨q, rfl, rfl, h4⟩ := h2 hk
      exact ⟨_, h1, fun x hx => ⟨List.mem_append_left _ hx, fun e => h4 (e ▸ hx)⟩, List.sublist_append_left _ _⟩
    · cases h3 hk
      refine ⟨_, h1, fun x hx => ⟨hx, fun e => ?_⟩, List.Sublist.refl _⟩
      subst e
      obtain ⟨c2, h4, h5⟩ := h.only k r' h1 x hx
      rw [hc] at h4
      cases h4
      exact hk h5
  refine ⟨by rw [movedW_len]; exact h.wid, fun g' c' h1 h2 k hk => ?_, fun k r' hr' g' hg' => ?_, fun r' hr' => ?_, fun r' hr' => ?_⟩
  · obtain ⟨r1, h3, h4⟩ := hasG_iff.mp h1
    obtain ⟨k1, hk1⟩ := List.getElem?_of_mem h3
    obtain ⟨r0, h5, h6, _⟩ := sub k1 r1 hk1
    obtain ⟨h7, h8⟩ := h6 g' h4
    obtain ⟨r, h9, h10⟩ := h.whole g' c' (hasG_iff.mpr ⟨r0, List.mem_of_getElem? h5, h7⟩) h2 k hk
    have h11 := mw_get (on := false) (g := g) (c := c) h9
    obtain ⟨r2, h12, h13, h14⟩ := mem k _ h11
    rw [h9] at h12
    cases h12
    refine ⟨_, h11, ?_⟩
    by_cases hkc : k ∈ c
    · obtain ⟨q, e1, e2, _⟩ := h13 hkc
      rw [e2]
      rw [e1] at h10
      rcases List.mem_append.mp h10 with h15 | h15
      · exact h15
      · exact absurd (List.mem_singleton.mp h15) h8
    · rw [h14 hkc]; exact h10
  · obtain ⟨r, h1, h2, _⟩ := sub k r' hr'
    exact h.only k r h1 g' (h2 g' hg').1
  · obtain ⟨k, hk⟩ := List.getElem?_of_mem hr'
    obtain ⟨r, h1, _, h2⟩ := sub k r' hk
    exact (h.nodup r (List.mem_of_getElem? h1)).sublist h2
  · obtain ⟨k, hk⟩ := List.getElem?_of_mem hr'
    obtain ⟨r, h1, _, h2⟩ := sub k r' hk
    exact Nat.le_trans h2.length_le (h.len r (List.mem_of_getElem? h1))
theorem inv_moved {n t cs s d} (h : Inv n t cs s) (hv : ∀ c ∈ cs, Cov n c) (hd : DOk cs s d) : Inv n (t + 1) cs (moved s d cs) ∧ (moved s d cs).length = s.length := by
  obtain ⟨p, on, g⟩ := d
  obtain ⟨c, w, hc, hw, hon, hoff⟩ := hd.ex
  simp only at hc hw hoff hon
  have e1 : s.getD p [] = w := by rw [List.getD, hw]; rfl
  have e2 : cs.getD g [] = c := by rw [List.getD, hc]; rfl
  have hm : moved s (p, on, g) cs = s.take p ++ [movedW w on g c] ++ s.drop (p + 1) := by simp only [moved, e1, e2]
  have hp := (List.getElem?_eq_some_iff.mp hw).1
  have hwm := List.mem_of_getElem? hw
  rw [hm]
  refine ⟨inv_iff.mpr fun w' hw' => ?_, by simp; omega⟩
  have h0 := inv_iff.mp h
  rw [List.mem_append, List.mem_append] at hw'
  rcases hw' with (h1 | h1) | h1
  · exact (h0 w' (List.mem_of_mem_take h1)).le (Nat.le_succ _)
  · rw [List.mem_singleton.mp h1]
    cases on with
    | true => exact winv_on (h0 w hwm) hc (hv c (List.mem_of_getElem? hc)) (hon rfl w hwm)
    | false => exact (winv_off (h0 w hwm) hc (hoff rfl)).le (Nat.le_succ _)
  · exact (h0 w' (List.mem_of_mem_drop h1)).le (Nat.le_succ _)
/-- a row of deeds, one by one -/
def runs (cs : List (List Nat)) (s : List (List (List Nat))) (ds : List Deed) : List (List (List Nat)) := ds.foldl (fun s d => moved s d cs) s
structure Hist (cs : List (List Nat)) (s : List (List (List Nat))) (ds : List Deed) : Prop where
  ok : ∀ (j : Nat) d, ds[j]? = some d → DOk cs (runs cs s (ds.take j)) d
theorem runs_snoc {cs s ds d} : runs cs s (ds ++ [d]) = moved (runs cs s ds) d cs := by simp [runs]
theorem Hist.snoc {cs s ds d} (h : Hist cs s ds) (hd : DOk cs (runs cs s ds) d) : Hist cs s (ds ++ [d]) := ⟨fun j e he => by
  by_cases hj : j < ds.length
  · rw [List.getElem?_append_left hj] at he
    rw [List.take_append_of_le_length (by omega)]
    exact h.ok j e he
  · have hj2 : j = ds.length := by
      have := (List.getElem?_eq_some_iff.mp he).1
      simp at this
      omega
    subst hj2
    have e1 : (ds ++ [d])[ds.length]? = some d := by simp
    rw [e1] at he
    cases he
    rw [List.take_left]
    exact hd⟩
theorem Hist.inv {n cs s ds} (h : Hist cs s ds) (h0 : Inv n 0 cs s) (hv : ∀ c ∈ cs, Cov n c) : ∀ j, j ≤ ds.length → Inv n j cs (runs cs s (ds.take j)) ∧ (runs cs s (ds.take j)).length = s.length
  | 0, _ => ⟨h0, rfl⟩
  | j + 1, hj => by
    obtain ⟨i1, i2⟩ := h.inv h0 hv j (by omega)
    obtain ⟨d, hd⟩ : ∃ d, ds[j]? = some d := ⟨_, List.getElem?_eq_getElem (by omega)⟩
    have e : ds.take (j + 1) = ds.take j ++ [d] := by rw [List.take_succ, hd]; rfl
    rw [e, runs_snoc]
    obtain ⟨i3, i4⟩ := inv_moved i1 hv (h.ok j d hd)
    exact ⟨i3, by rw [i4, i2]⟩
theorem mulW {n : Nat} (h1 : 1 ≤ n) (h2 : n < 1000) : bin2 .Mult (.tup [.tup []]) (.int n) = some (dW (List.replicate n [])) := by
  have h3 : (1 : Int) ≤ n ∧ (n : Int) ≤ 1000 := by omega
  have e : ((n : Int)).toNat = n := by omega
  simp only [bin2, binOp, catOp]
  rw [if_pos (by simp [owns, own]; omega), e]
  simp [dW, dR]
theorem mulS {n : Nat} {w} (h1 : 1 ≤ n) (h2 : n < 1000) : bin2 .Mult (.tup [dW w]) (.int n) = some (dS (List.replicate n w)) := by
  have h3 : (1 : Int) ≤ n ∧ (n : Int) ≤ 1000 := by omega
  have e : ((n : Int)).toNat = n := by omega
  simp only [bin2, binOp, catOp]
  rw [if_pos (by simp [owns, own_W]; omega), e]
  simp [dS]
theorem sha_Do (d) : sha (dDo d) = false := by cases d <;> simp [dDo, sha_D, sha]
theorem notN_D (d) : notND (dD d) = .bl true := rfl
def dDs (ds : List Deed) : D := .lst true (ds.map dD)
def dHs (hs : List (List (List (List Nat)))) : D := .lst true (hs.map fun s => .tup [dS s, dS s])
theorem slc_I {P : Pg} {env : Env} {e lo hi : Ex} {o : Bool} {c : List Int} {l h : Option Int} (h1 : vw P e env = .ok (.lst o (c.map .int)) env) (h2 : prt P lo env = .ok l env) (h3 : prt P hi env = .ok h env) : vw P (.slc e lo hi) env = .ok (.lst true ((cut c l h).map .int)) env := by
  rw [v_slc, h1, bindE, cont_f els_lst owns_int0, bindE, h2, bindE, h3, bindE]
  show noneR (some (D.lst true (cut _ l h))) env = _
  rw [cut_map]
  rfl
theorem inv_bare {n m : Nat} {cs} : Inv n 0 cs (List.replicate m (List.replicate n [])) := inv_iff.mpr fun w hw => by
  rw [List.eq_of_mem_replicate hw]
  have hno : ∀ g, hasG (List.replicate n []) g = false := fun g => by
    cases e : hasG (List.replicate n []) g with
    | false => rfl
    | true =>
      obtain ⟨r, h1, h2⟩ := hasG_iff.mp e
      rw [List.eq_of_mem_replicate h1] at h2
      cases h2
  refine ⟨by simp, fun g c h => (by rw [hno] at h; cases h), fun k r hr g hg => ?_, fun r hr => ?_, fun r hr => ?_⟩
  · rw [List.eq_of_mem_replicate (List.mem_of_getElem? hr)] at hg
    cases hg
  · rw [List.eq_of_mem_replicate hr]; exact List.nodup_nil
  · rw [List.eq_of_mem_replicate hr]; exact Nat.le_refl _
theorem eqv_DD (d) : eqv (dD d) (dD d) = true := by simp [dD, eqv, eqvs]
theorem dat_DD {n : Nat} (h : 0 < n) (d) : dat n (dD d) = true := by
  obtain ⟨p, on, g⟩ := d
  cases on <;> simp [dD, dat, dats, word, h]
theorem ne_Ds (ds) : cmpOp .NotEq (dDs ds) (dDs ds) = some false := by
  have h1 : ∀ l : List Deed, eqvs (l.map dD) (l.map dD) = true := fun l => by
    induction l with
    | nil => rfl
    | cons a l ih => simp [eqvs, eqv_DD, ih]
  simp only [cmpOp, dDs, dat, eqv, h1, dats_map (dat_DD (n := 60 - 1) (by decide))]
  rfl
theorem cut_len {α : Type} {l : List α} {a b : Nat} : (cut l (some (a : Int)) (some (b : Int))).length ≤ b - a := by
  simp only [cut, isIx, List.length_take, List.length_drop]
  rw [if_neg (by omega), if_neg (by omega)]
  omega
end Q
end
section
set_option linter.all false
set_option autoImplicit false
set_option maxRecDepth 100000
set_option maxHeartbeats 1000000
/-! Lists changed at a name. -/
namespace Q
theorem mod_var {α : Type} {f : List D → Option (α × List D)} {a : α} {xs ys : List D} {i : Nat} {env : Env} (h : env[i]? = some (some (.lst true xs))) (hf : f xs = some (a, ys)) : modE (atOwn f) i [] env = .ok a (env.set i (some (.lst true ys))) := by
  simp [modE, modD, atOwn, h, hf]
theorem plc_var {P : Pg} {env : Env} {i : Nat} {xs : List D} (h : env[i]? = some (some (.lst true xs))) : plc P (.var i) env = .ok (i, []) env := by
  simp [p_plc, k_varL, seen, seenL, h, atP, bindE]
theorem fIns_at {j : Nat} {d : D} {xs : List D} (hl : xs.length < line) (hj : j < 100000) : fIns (.int (j : Int)) d xs = some ((), xs.take j ++ [d] ++ xs.drop j) := by
  have h1 : (j : Int) < 2 ^ 62 := by omega
  simp only [fIns]
  rw [if_pos ⟨by omega, h1, hl⟩]
  rfl
theorem ins_var {P : Pg} {env : Env} {i j : Nat} {xs : List D} {d : D} {k e : Ex} (h : env[i]? = some (some (.lst true xs))) (hk : vw P k env = .ok (.int j) env) (he : ev P e env = .ok d env) (hl : xs.length < line) (hj : j < 100000) : exec P (.ins (.var i) k e) env = .ok .nx (env.set i (some (.lst true (xs.take j ++ [d] ++ xs.drop j)))) := by
  have e0 : exec P (.ins (.var i) k e) env = (plc P (.var i) env).bind fun q env => (vw P k env).bind fun k env => (ev P e env).bind fun d env => (modE (atOwn (fIns k d)) q.1 q.2 env).bind fun _ env => .ok .nx env := nr rfl
  rw [e0, plc_var h, bindE, hk, bindE, he, bindE, mod_var h (fIns_at hl hj), bindE]
end Q
namespace Q
section
variable {P : Pg} {env env' : Env} {a b c e es t i k it lo hi : Ex}
theorem x_whl {b : St} : exec P (.whl c b) env = whileF (tst P c) (exec P b) turns env := nr rfl
theorem x_par : exec P (.par t e) env = (evs P e env).bind fun ds env => (bnds P t ds env).bind fun _ env => .ok .nx env := nr rfl
theorem v_max2 : vw P (.max2 a b) env = (vw P a env).bind fun x env => (vw P b env).bind fun y env => noneR (max2D x y) env := by rw [vw]; first | done | rfl
theorem v_min2 : vw P (.min2 a b) env = (vw P a env).bind fun x env => (vw P b env).bind fun y env => noneR (min2D x y) env := by rw [vw]; first | done | rfl
theorem max_ii {i j : Int} : max2D (.int i) (.int j) = some (.int (if j > i then j else i)) := nr rfl
theorem bs_nil : bnds P .nil [] env = .ok () env := nr rfl
theorem bs_ix {p : Ex} {d : D} {ds : List D} : bnds P (.cons (.ix p k) es) (d :: ds) env = (plc P p env).bind fun q env => (vw P k env).bind fun k env => (modE (atOwn (fSet k d)) q.1 q.2 env).bind fun _ env => bnds P es ds env := nr rfl
theorem fSet_at {xs : List D} {j : Nat} {d : D} (h : j < xs.length) : fSet (.int (j : Int)) d xs = some ((), xs.set j d) := by
  simp only [fSet, ixN]
  rw [if_pos (by omega), if_pos (by omega)]
  rfl
/-- two neighbours of a list at a name, exchanged -/
theorem set_ix {p : Nat} {xs : List D} {j : Nat} {d : D} {ds : List D} (h : env[p]? = some (some (.lst true xs))) (hk : vw P k env = .ok (.int j) env) (hj : j < xs.length) : bnds P (.cons (.ix (.var p) k) es) (d :: ds) env = bnds P es ds (env.set p (some (.lst true (xs.set j d)))) := by
  rw [bs_ix, plc_var h, bindE, hk, bindE, mod_var h (fSet_at hj), bindE]
theorem w_stop {c : Env → R Bool} {f : Env → R Fl} {n : Nat} (hc : c env = .ok false env') : whileF c f (n + 1) env = .ok .nx env' := by
  simp only [whileF, hc, bindE]; rfl
theorem w_next {c : Env → R Bool} {f : Env → R Fl} {n : Nat} {env2 : Env} (hc : c env = .ok true env') (hf : f env' = .ok .nx env2) : whileF c f (n + 1) env = whileF c f n env2 := by
  simp only [whileF, hc, bindE, if_true, hf]
theorem add_L {o p : Bool} {x y : List Nat} (h : x.length + y.length < 1000) : bin2 .Add (dL o x) (dL p y) = some (dL true (x ++ y)) := by
  simp only [bin2, dL, binOp, catOp, owns_ints]
  rw [if_pos ⟨trivial, trivial, trivial, by simp [line]; omega⟩]
  simp
theorem eq_L (o p a b) : cmpOp .Eq (dL o a) (dL p b) = some (decide (a = b)) := by
  simp only [cmpOp, dL, dat, dats_ints, eqv]
  rw [eqvs_map eqv_int]
  rfl
theorem ne_L (o p a b) : cmpOp .NotEq (dL o a) (dL p b) = some (!decide (a = b)) := by
  simp only [cmpOp, dL, dat, dats_ints, eqv]
  rw [eqvs_map eqv_int]
  rfl
theorem findD_idx {g : Nat} : ∀ {l : List Nat} {k : Nat}, g ∈ l → findD (.int g) (l.map fun (g : Nat) => .int (g : Int)) k = some (k + l.idxOf g)
  | [], _, h => nomatch h
  | a :: l, k, h => by
    simp only [List.map_cons, findD, eqv_int, List.idxOf_cons]
    by_cases e : a = g
    · simp [e]
    · have h2 := (List.mem_cons.mp h).resolve_left fun q => e q.symm
      have e2 : (a == g) = false := beq_eq_false_iff_ne.mpr e
      simp only [e, decide_false, e2, cond_false]
      rw [if_neg (by decide), findD_idx h2]
      congr 1; omega
theorem idx_L {o : Bool} {l : List Nat} {g : Nat} (h : g ∈ l) : idxD (dL o l) (.int g) = some (.int (l.idxOf g : Nat)) := by
  simp only [idxD, els_L, dat0, dats0_ints, Bool.and_self, if_true]
  rw [findD_idx h]
  simp
end
end Q
namespace Q
theorem owns_atL {xs : List D} {k : Nat} {d : D} (h : xs[k]? = some d) (ho : own d = true) : owns xs = true := by
  induction xs generalizing k with
  | nil => simp at h
  | cons a xs ih =>
    cases k with
    | zero => cases h; simp [owns, ho]
    | succ k => simp [owns, ih (by simpa using h)]
theorem ixN_nat {n k : Nat} (h : k < n) : ixN n (k : Int) = some k := by
  simp only [ixN]
  rw [if_pos (by omega), if_pos (by omega)]
  rfl
theorem app_tup {P : Pg} {env : Env} {i k : Nat} {xs ys : List D} {d : D} {e : Ex} (h : env[i]? = some (some (.tup xs))) (hk : xs[k]? = some (.lst true ys)) (he : ev P e env = .ok d env) (hl : ys.length < line) : exec P (.app (.ix (.var i) (.int k)) e) env = .ok .nx (env.set i (some (.tup (xs.set k (.lst true (ys ++ [d])))))) := by
  have ho := owns_atL hk (by simp [own])
  have hkl := (List.getElem?_eq_some_iff.mp hk).1
  have hat : atI xs (k : Int) = some (.lst true ys) := by simp only [atI, ixN_nat hkl, Option.bind_some]; exact hk
  have hmod : modE (atOwn (fApp d)) i [.int (k : Int)] env = .ok () (env.set i (some (.tup (xs.set k (.lst true (ys ++ [d])))))) := by
    simp [modE, h, modD, ho, ixN_nat hkl, hk, atOwn, fApp, hl]
  have hplc : plc P (.ix (.var i) (.int k)) env = .ok (i, [.int (k : Int)]) env := by
    simp [plc, keys, seen, seenL, h, atP, ho, hat, vw, R.bind]
  rw [x_app, hplc, bindE, he, bindE, hmod, bindE]
end Q
namespace Q
/-- a comprehension, by what its items are taken as -/
theorem comp_mapC {α : Type} {P : Pg} {env0 env1 env : Env} {x : D} {i : Nat} {elt it : Ex} {o : Option D} {l : List α} {φ ψ : α → D} (hit : vw P it env0 = .ok x env1) (hc : cont (root it) x env1 = .ok (l.map φ) env) (hi : env[i]? = some o)
    (hf : ∀ a ∈ l, ev P elt (env.set i (some (φ a))) = .ok (ψ a) (env.set i (some (φ a)))) (hl : l.length ≤ line) : vw P (.comp elt (.var i) it (.bl true)) env0 = .ok (.lst true (l.map ψ)) env := by
  have hil := (List.getElem?_eq_some_iff.mp hi).1
  have hw : ∀ e : Env, (∃ o', e = env.set i o') → wipe [i] e = env.set i none := fun e ⟨o', h⟩ => by
    subst h
    show (env.set i o').set i none = _
    rw [List.set_set]
  have key : ∀ (m : List α) (e : Env), (∀ a ∈ m, a ∈ l) → (∃ o', e = env.set i o') → ∃ e', (walk (fun d env => noX ((bnd (.var i) d (wipe [i] env)).bind fun _ env => match tru (.bl true) with
        | some true => ((vw P elt env).bind (take (root elt))).bind fun y env => .ok (some y) env
        | some false => .ok none env
        | none => .stuck)) (m.map φ) e) = .ok (m.map ψ) e' ∧ ∃ o', e' = env.set i o' := by
    intro m
    induction m with
    | nil => exact fun e _ h => ⟨e, rfl, h⟩
    | cons a m ih =>
      intro e hm he
      obtain ⟨e', h1, h2⟩ := ih (env.set i (some (φ a))) (fun b hb => hm b (List.mem_cons_of_mem _ hb)) ⟨_, rfl⟩
      refine ⟨e', ?_, h2⟩
      have e0 : (bnd (.var i) (φ a) (wipe [i] e)) = .ok () (env.set i (some (φ a))) := by
        rw [hw e he]
        simp only [bnd, List.length_set, hil, if_true, List.set_set]
      have e1 : (vw P elt (env.set i (some (φ a)))).bind (take (root elt)) = .ok (ψ a) (env.set i (some (φ a))) := hf a (hm a List.mem_cons_self)
      simp only [List.map_cons, walk, bindE, tru, noX] at h1 ⊢
      simp only [e0, bindE, e1, h1]
  obtain ⟨e', h1, h2⟩ := key l env (fun _ h => h) ⟨o, by
    refine List.ext_getElem? fun j => ?_
    by_cases q : j = i
    · subst q; rw [hi, List.getElem?_set_self hil]
    · rw [List.getElem?_set_ne (Ne.symm q)]⟩
  simp only [vw, hit, bindE, hc, slots]
  refine Eq.trans (congrArg (fun r => R.bind r fun (ys : List D) env' => if ys.length ≤ line then R.ok (D.lst true ys) (back [i] env (wipe [i] env')) else .stuck) h1) ?_
  simp only [bindE, List.length_map, hl, if_true]
  congr 1
  rw [hw e' h2]
  show (match env[i]? with | some o => (env.set i none).set i o | none => env.set i none) = env
  rw [hi]
  simp only [List.set_set]
  refine List.ext_getElem? fun j => ?_
  by_cases q : j = i
  · subst q; rw [List.getElem?_set_self hil, hi]
  · rw [List.getElem?_set_ne (Ne.symm q)]
theorem cont_own {r : Nat} {x : D} {xs : List D} {env : Env} (h : els x = some xs) (ho : owns xs = true) : cont (some r) x env = .ok (shrs xs) (dem r env) := by
  simp [cont, h, ho]
theorem dem_at {r : Nat} {d : D} {env : Env} (h : env[r]? = some (some d)) : dem r env = env.set r (some (shr d)) := by simp [dem, h]
theorem take_own {r : Nat} {d : D} {env : Env} (h : own d = true) : take (some r) d env = .ok (shr d) (dem r env) := by simp [take, h]
theorem atI_at {α : Type} {xs : List α} {p : Nat} {x : α} (h : xs[p]? = some x) : atI xs (p : Int) = some x := by
  simp only [atI, ixN_nat (List.getElem?_eq_some_iff.mp h).1, Option.bind_some]; exact h
/-- the first of a row is taken out -/
theorem popA_ix {P : Pg} {env : Env} {i j p : Nat} {xs ys : List D} {y : D} (h : env[i]? = some (some (.lst true xs))) (hj : env[j]? = some (some (.int (p : Int)))) (hx : xs[p]? = some (.lst true (y :: ys))) :
    exec P (.popA (.ix (.var i) (.var j)) (.int 0)) env = .ok .nx (env.set i (some (.lst true (xs.set p (.lst true ys))))) := by
  have hpl := (List.getElem?_eq_some_iff.mp hx).1
  have hplc : plc P (.ix (.var i) (.var j)) env = .ok (i, [.int (p : Int)]) env := by
    simp [plc, keys, seen, seenL, h, hj, atP, atI_at hx, vw, R.bind]
  have hf : fPopA (.int 0) (y :: ys) = some (y, ys) := by
    simp only [fPopA]
    rw [if_pos ⟨by omega, by omega⟩]
    have : ixN (y :: ys).length 0 = some 0 := ixN_nat (k := 0) (by simp)
    rw [this]
    rfl
  have hmod : modE (atOwn (fPopA (.int 0))) i [.int (p : Int)] env = .ok y (env.set i (some (.lst true (xs.set p (.lst true ys))))) := by
    simp [modE, h, modD, ixN_nat hpl, hx, atOwn, hf]
  have e0 : exec P (.popA (.ix (.var i) (.var j)) (.int 0)) env = (plc P (.ix (.var i) (.var j)) env).bind fun q env => (vw P (.int 0) env).bind fun k env => (modE (atOwn (fPopA k)) q.1 q.2 env).bind fun _ env => .ok .nx env := nr rfl
  rw [e0, hplc, bindE, v_int, bindE, hmod, bindE]
end Q
namespace Q
theorem sti_var {P : Pg} {env : Env} {i p : Nat} {xs : List D} {d : D} {k e : Ex} (h : env[i]? = some (some (.lst true xs))) (he : ev P e env = .ok d env) (hk : vw P k env = .ok (.int p) env) (hp : p < xs.length) : exec P (.sti (.var i) k e) env = .ok .nx (env.set i (some (.lst true (xs.set p d)))) := by
  have e0 : exec P (.sti (.var i) k e) env = (ev P e env).bind fun d env => (plc P (.var i) env).bind fun q env => (vw P k env).bind fun k env => (modE (atOwn (fSet k d)) q.1 q.2 env).bind fun _ env => .ok .nx env := nr rfl
  rw [e0, he, bindE, plc_var h, bindE, hk, bindE, mod_var h (fSet_at hp), bindE]
end Q
namespace Q
/-- .. nothing asked of the names behind what is given back -/
theorem loop_findJ {α : Type} {f : D → Env → R Fl} {φ : α → D} (I : Env → Prop) {p : α → Option D} {l : List α} {env : Env} (h0 : I env) (t : ∀ a ∈ l, ∀ e, I e → match p a with | some r => ∃ e', f (φ a) e = .ok (.ret r) e' | none => ∃ e', f (φ a) e = .ok .nx e' ∧ I e') :
    match l.findSome? p with | some r => ∃ e', loop f (l.map φ) env = .ok (.ret r) e' | none => ∃ e', loop f (l.map φ) env = .ok .nx e' ∧ I e' := by
  induction l generalizing env with
  | nil => exact ⟨env, rfl, h0⟩
  | cons a l ih =>
    have h1 := t a List.mem_cons_self env h0
    cases e : p a with
    | some r =>
      rw [e] at h1
      obtain ⟨e1, h1⟩ := h1
      simp only [List.findSome?_cons, e]
      exact ⟨e1, by simp only [List.map_cons, loop, h1, R.bind]⟩
    | none =>
      rw [e] at h1
      obtain ⟨e1, h1, i1⟩ := h1
      have h2 := ih i1 fun b hb => t b (List.mem_cons_of_mem _ hb)
      simp only [List.findSome?_cons, e]
      cases q : l.findSome? p with
      | some r =>
        rw [q] at h2
        obtain ⟨e2, h2⟩ := h2
        exact ⟨e2, by simp only [List.map_cons, loop, h1, R.bind, h2]⟩
      | none =>
        rw [q] at h2
        obtain ⟨e2, h2, i2⟩ := h2
        exact ⟨e2, by simp only [List.map_cons, loop, h1, R.bind, h2], i2⟩
end Q
namespace Q
theorem bs_var {P : Pg} {env : Env} {i : Nat} {es : Ex} {d : D} {ds : List D} : bnds P (.cons (.var i) es) (d :: ds) env = (bnd (.var i) d env).bind fun _ env => bnds P es ds env := nr rfl
end Q
namespace Q
/-- .. whose items are asked for only where it holds -/
theorem comp_filtC {α : Type} {P : Pg} {env : Env} {x : D} {i : Nat} {elt it cond : Ex} {o : Option D} {l : List α} {φ ψ : α → D} {p : α → Bool} (hi : env[i]? = some o) (hit : vw P it env = .ok x env) (hc : els x = some (l.map φ)) (ho : owns (l.map φ) = false)
    (hf : ∀ a ∈ l, vw P cond (env.set i (some (φ a))) = .ok (.bl (p a)) (env.set i (some (φ a))) ∧ (p a = true → ev P elt (env.set i (some (φ a))) = .ok (ψ a) (env.set i (some (φ a))))) (hl : l.length ≤ line) : vw P (.comp elt (.var i) it cond) env = .ok (.lst true ((l.filter p).map ψ)) env := by
  have hil := (List.getElem?_eq_some_iff.mp hi).1
  have hw : ∀ e : Env, (∃ o', e = env.set i o') → wipe [i] e = env.set i none := fun e ⟨o', h⟩ => by
    subst h
    show (env.set i o').set i none = _
    rw [List.set_set]
  have key : ∀ (m : List α) (e : Env), (∀ a ∈ m, a ∈ l) → (∃ o', e = env.set i o') → ∃ e', (walk (fun d env => noX ((bnd (.var i) d (wipe [i] env)).bind fun _ env => (vw P cond env).bind fun c env => match tru c with
        | some true => ((vw P elt env).bind (take (root elt))).bind fun y env => .ok (some y) env
        | some false => .ok none env
        | none => .stuck)) (m.map φ) e) = .ok ((m.filter p).map ψ) e' ∧ ∃ o', e' = env.set i o' := by
    intro m
    induction m with
    | nil => exact fun e _ h => ⟨e, rfl, h⟩
    | cons a m ih =>
      intro e hm he
      obtain ⟨e', h1, h2⟩ := ih (env.set i (some (φ a))) (fun b hb => hm b (List.mem_cons_of_mem _ hb)) ⟨_, rfl⟩
      refine ⟨e', ?_, h2⟩
      have e0 : (bnd (.var i) (φ a) (wipe [i] e)) = .ok () (env.set i (some (φ a))) := by
        rw [hw e he]
        simp only [bnd, List.length_set, hil, if_true, List.set_set]
      have e2 := (hf a (hm a List.mem_cons_self)).1
      have tb : ∀ b : Bool, tru (.bl b) = some b := fun _ => rfl
      cases q : p a with
      | true =>
        have e1 : (vw P elt (env.set i (some (φ a)))).bind (take (root elt)) = .ok (ψ a) (env.set i (some (φ a))) := (hf a (hm a List.mem_cons_self)).2 q
        rw [q] at e2
        simp only [List.map_cons, walk, noX] at h1 ⊢
        simp only [e0, bindE, e2, tb, e1, h1, List.filter_cons, q, if_true, List.map_cons]
      | false =>
        rw [q] at e2
        simp only [List.map_cons, walk, noX] at h1 ⊢
        simp only [e0, bindE, e2, tb, h1, List.filter_cons, q]
        rfl
  obtain ⟨e', h1, h2⟩ := key l env (fun _ h => h) ⟨o, by
    refine List.ext_getElem? fun j => ?_
    by_cases q : j = i
    · subst q; rw [hi, List.getElem?_set_self hil]
    · rw [List.getElem?_set_ne (Ne.symm q)]⟩
  simp only [vw, hit, bindE, cont_flat hc ho, slots]
  refine Eq.trans (congrArg (fun r => R.bind r fun (ys : List D) env' => if ys.length ≤ line then R.ok (D.lst true ys) (back [i] env (wipe [i] env')) else .stuck) h1) ?_
  simp only [bindE, List.length_map, Nat.le_trans (List.length_filter_le p l) hl, if_true]
  congr 1
  rw [hw e' h2]
  show (match env[i]? with | some o => (env.set i none).set i o | none => env.set i none) = env
  rw [hi]
  simp only [List.set_set]
  refine List.ext_getElem? fun j => ?_
  by_cases q : j = i
  · subst q; rw [List.getElem?_set_self hil, hi]
  · rw [List.getElem?_set_ne (Ne.symm q)]
theorem prt_idx {P : Pg} {env : Env} {a b : Ex} : prt P (.idx a b) env = (vw P (.idx a b) env).bind fun l env => noneR (partD l) env := nr rfl
theorem slc_G {α : Type} {φ : α → D} {P : Pg} {env : Env} {e lo hi : Ex} {o : Bool} {c : List α} {l h : Option Int} (ho : owns (c.map φ) = false) (h1 : vw P e env = .ok (.lst o (c.map φ)) env) (h2 : prt P lo env = .ok l env) (h3 : prt P hi env = .ok h env) : vw P (.slc e lo hi) env = .ok (.lst true ((cut c l h).map φ)) env := by
  rw [v_slc, h1, bindE, cont_f els_lst ho, bindE, h2, bindE, h3, bindE]
  show noneR (some (D.lst true (cut _ l h))) env = _
  rw [cut_map]
  rfl
theorem leastI_mem : ∀ {l : List Int} {a : Int}, leastI a l = a ∨ leastI a l ∈ l
  | [], a => .inl rfl
  | b :: l, a => by
    simp only [leastI]
    rcases leastI_mem (l := l) (a := if b < a then b else a) with h | h
    · rw [h]
      split
      · exact .inr List.mem_cons_self
      · exact .inl rfl
    · exact .inr (List.mem_cons_of_mem _ h)
theorem v_min1 {P : Pg} {env : Env} {e : Ex} : vw P (.min1 e) env = (vw P e env).bind fun x env => noneR (min1D x) env := by rw [vw]; first | done | rfl
theorem ne_R (a b) : cmpOp .NotEq (dR a) (dR b) = some (!decide (a = b)) := by simp only [cmpOp, dat_R (n := 60) (by decide), eqv_R, Bool.and_self, if_true, show ∀ x, isDc (dR x) = false from fun _ => rfl, Bool.or_self, Bool.false_eq_true, if_false]
end Q
namespace Q
/-- a for's turns that only ask -/
def askL (P : Pg) (a c : Ex) (v : Bool) (d : D) (env : Env) : R Fl := (bnd a d env).bind fun _ e => (tst P c e).bind fun t e => if t then .ok (.ret (.bl v)) e else .ok .nx e
theorem x_forT {P : Pg} {env e1 e2 : Env} {tg it c : Ex} {v : Bool} {xs : List D} (h1 : forIt P it (shrA env) = .ok xs e1) (h2 : loop (askL P tg c v) xs e1 = .ok .nx e2) : exec P (.forT tg it c v) env = .ok .nx (wipe (slots tg) env) := by
  have h3 : loop (fun d e => (bnd tg d e).bind fun _ e => (tst P c e).bind fun t e => if t then R.ok (.ret (.bl v)) e else .ok .nx e) xs e1 = .ok .nx e2 := h2
  simp only [exec, h1, h3]
end Q
end
section
set_option linter.all false
set_option autoImplicit false
set_option maxHeartbeats 1000000
/-! Errors on data: step laws; odd things. -/
namespace Q
section
variable {P : Pg} {env e1 : Env} {e es : Ex} {c k i j f : Nat} {fs : List Nat} {vs : List D} {b : St} {d : D} {r : Fl}
theorem out_exc : outR (.exc c fs vs env) = .exc c fs vs := nr rfl
theorem ac_exc {rs : List Nat} : afterCall false rs env (.exc c fs vs) = .exc c fs vs env := by simp [afterCall]
theorem ac_excS {l : Bool} {rs : List Nat} (h : shas vs = false) : afterCall l rs env (.exc c fs vs) = .exc c fs vs env := by simp [afterCall, h]
theorem rai1 (h : P.excF c = some [f]) (hd : P.excD = fun _ _ => []) : exec P (.rai c (.cons e .nil)) env = ((vw P e env).bind (take (root e))).bind fun d env => if own d = false then .exc c [f] [d] env else .stuck := by
  simp only [exec, h, evs, mkExc, hd, bindE]
  cases (vw P e env).bind (take (root e)) with
  | ok d env' =>
    simp only [bindE, List.append_nil, owns, Bool.or_false, List.length_cons, List.length_nil]
    by_cases q : own d = false
    · simp [q]
    · simp [q]
  | exc => rfl
  | stuck => rfl
theorem rai2 {g : Nat} {a : Ex} (h : P.excF c = some [f, g]) (hd : P.excD = fun _ _ => []) : exec P (.rai c (.cons e (.cons a .nil))) env = ((vw P e env).bind (take (root e))).bind fun d env => ((vw P a env).bind (take (root a))).bind fun d2 env => if own d = false ∧ own d2 = false then .exc c [f, g] [d2, d] env else .stuck := by
  simp only [exec, h, evs, mkExc, hd, bindE]
  cases (vw P e env).bind (take (root e)) with
  | ok d env' =>
    simp only [bindE]
    cases (vw P a env').bind (take (root a)) with
    | ok d2 env2 =>
      simp only [bindE, List.append_nil, owns, Bool.or_false, List.length_cons, List.length_nil]
      by_cases q : own d = false
      · by_cases q2 : own d2 = false
        · simp [q, q2]
        · simp [q, q2]
      · simp [q]
    | exc => rfl
    | stuck => rfl
  | exc => rfl
  | stuck => rfl
theorem try_ok (h : exec P b env = .ok r e1) : exec P (.tryA c i j b) env = .ok r e1 := by simp only [exec, h]
theorem try_exc (h : exec P b env = .exc k fs vs e1) (hx : P.excF k = some fs) (hs : P.sub k c = true) (hi : i < e1.length) (hj : j < e1.length) (hn : i ≠ j) : exec P (.tryA c i j b) env = .ok .nx ((e1.set j (some (.exc k fs vs))).set i none) := by
  simp only [exec, h, hx, hs, hi, hj, hn, if_true, ne_eq, not_false_eq_true, and_self]
theorem v_dcl : vw P .dcl env = .ok (.dct true [] []) env := by rw [vw]
theorem v_isX {cs : List Nat} {v : Bool} : vw P (.isX e cs v) env = (vw P e env).bind fun x env => noneR (isXD P cs v x) env := by rw [vw]
theorem isX_of {cs : List Nat} {v : Bool} (h : P.excF k = some fs) : isXD P cs v (.exc k fs vs) = some (.bl (v || cs.any (P.sub k))) := by simp only [isXD, h, if_true]
theorem isT_dct {o : Bool} {ks ws : List D} {t : Nat} : isTy (.dct o ks ws) t = some (5 == t || (5 == 1 && t == 0)) := nr rfl
theorem own_dct {o : Bool} {ks : List D} : own (.dct o ks []) = o := by simp [own, owns]
theorem shr_dct {o : Bool} {ks : List D} : shr (.dct o ks []) = .dct false ks [] := by simp [shr, shrs]
theorem own_exc : own (.exc k fs vs) = owns vs := by simp [own]
theorem shr_exc : shr (.exc k fs vs) = .exc k fs (shrs vs) := by simp [shr]
theorem sha_exc : sha (.exc k fs vs) = shas vs := by simp [sha]
theorem notN_exc : notND (.exc k fs vs) = .bl true := nr rfl
theorem isN_exc : isND (.exc k fs vs) = .bl false := nr rfl
theorem getF_exc {g : Nat} : getF (.exc k (g :: fs) (d :: vs)) g = some d := by simp [getF, field]
end
/-- an odd thing, or a number -/
inductive Thing where
  | int (i : Int) | tru | fls | non | zero | tup | lst | dct
def Thing.d : Thing → D
  | .int i => .int i
  | .tru => .bl true
  | .fls => .bl false
  | .non => .non
  | .zero => .str [48]
  | .tup => .tup [.int 0]
  | .lst => .lst false [.int 0]
  | .dct => .dct false [] []
def Thing.wh : Thing → Bool
  | .int _ => true
  | _ => false
/-- the garment that it is -/
def Thing.g (m : Nat) : Thing → Option Nat
  | .int i => if 0 ≤ i ∧ i < m then some i.toNat else none
  | _ => none
section
variable (t : Thing)
theorem Thing.own : Q.own t.d = false := by cases t <;> simp [Thing.d, Q.own, owns]
theorem Thing.shr : Q.shr t.d = t.d := by cases t <;> simp [Thing.d, Q.shr, shrs]
theorem Thing.dat {n : Nat} (h : 1 < n) : Q.dat n t.d = true := by cases t <;> simp [Thing.d, Q.dat, dats, show 0 < n by omega]
theorem Thing.eqv : Q.eqv t.d t.d = true := by cases t <;> simp [Thing.d, Q.eqv, eqvs]
theorem Thing.isB (b : Bool) : isTy t.d 1 = some (match t with | .tru => true | .fls => true | _ => false) := by cases t <;> rfl
theorem Thing.eq : cmpOp .Eq t.d t.d = some true := by simp only [cmpOp, Thing.dat t (n := 60) (by decide), Thing.eqv t, Bool.and_self, if_true]
theorem owns_th (ts : List Thing) : owns (ts.map Thing.d) = false := owns_map Thing.own
theorem shrs_th (ts : List Thing) : shrs (ts.map Thing.d) = ts.map Thing.d := shrs_map Thing.shr
theorem dats_th {n : Nat} (h : 1 < n) (ts : List Thing) : dats n (ts.map Thing.d) = true := dats_map fun t => Thing.dat t h
theorem eqvs_th (ts : List Thing) : eqvs (ts.map Thing.d) (ts.map Thing.d) = true := by
  induction ts with
  | nil => rfl
  | cons t ts ih => simp [eqvs, Thing.eqv t, ih]
end
/-- a list of things -/
def dTh (o : Bool) (ts : List Thing) : D := .lst o (ts.map Thing.d)
theorem own_Th (o ts) : own (dTh o ts) = o := by simp [dTh, own, owns_th]
theorem shr_Th (o ts) : shr (dTh o ts) = dTh false ts := by simp [dTh, shr, shrs_th]
theorem els_Th (o ts) : els (dTh o ts) = some (ts.map Thing.d) := nr rfl
theorem len_Th (o ts) : lenD (dTh o ts) = some (.int ts.length) := by simp [dTh, lenD]
theorem item_Th {o : Bool} {ts : List Thing} {k : Nat} {t : Thing} (h : ts[k]? = some t) : item (dTh o ts) (.int k) = some t.d := item_ln (by rw [List.getElem?_map, h]; rfl)
theorem dat_Th {n : Nat} (h : 2 < n) (o ts) : dat n (dTh o ts) = true := by simp [dTh, dat, dats_th (n := n - 1) (by omega), show 0 < n by omega]
theorem sha_ThT (ts : List Thing) (h : shas (ts.map Thing.d) = false) : sha (dTh true ts) = false := by simp [dTh, sha, h]
/-- a for that ends at the first turn that asks for it -/
theorem loop_stop {α β : Type} {f : D → Env → R Fl} {φ : α → D} (I : Env → Prop) (p : α → Option β) (out : β → Env → R Fl)
    (hout : ∀ b e ds, (out b e).bind (fun r env => match r with | .nx => loop f ds env | .cont => loop f ds env | .brk => .ok .nx env | .ret d => .ok (.ret d) env) = out b e) :
    ∀ (l : List α) (env : Env), I env → (∀ a ∈ l, ∀ e, I e → match p a with | some b => ∃ e', f (φ a) e = out b e' | none => ∃ e', f (φ a) e = .ok .nx e' ∧ I e') →
    match l.findSome? p with | some b => ∃ e', loop f (l.map φ) env = out b e' | none => ∃ e', loop f (l.map φ) env = .ok .nx e' ∧ I e'
  | [], env, h, _ => ⟨env, rfl, h⟩
  | a :: l, env, h, t => by
    have ht := t a List.mem_cons_self env h
    simp only [List.findSome?_cons]
    cases e : p a with
    | some b =>
      rw [e] at ht
      obtain ⟨e', h1⟩ := ht
      exact ⟨e', by simp only [List.map_cons, loop, h1]; exact hout b e' _⟩
    | none =>
      rw [e] at ht
      obtain ⟨e1, h1, i1⟩ := ht
      have ih := loop_stop I p out hout l e1 i1 fun x hx => t x (List.mem_cons_of_mem _ hx)
      have hl : loop f ((a :: l).map φ) env = loop f (l.map φ) e1 := by simp only [List.map_cons, loop, h1, bindE]
      rw [hl]
      exact ih
def nth : Nat → St → St
  | 0, s => match s with
    | .seq a _ => a
    | s => s
  | n + 1, s => match s with
    | .seq _ b => nth n b
    | s => s
theorem seq_nx {P : Pg} {a b : St} {env e1 : Env} (h : exec P a env = .ok .nx e1) : exec P (.seq a b) env = exec P b e1 := by rw [x_seq, h, bindE]
/-- as it is taken out of a new list -/
def fresh : Thing → D
  | .lst => .lst true [.int 0]
  | .dct => .dct true [] []
  | t => t.d
theorem shr_fresh (t : Thing) : shr (fresh t) = t.d := by cases t <;> simp [fresh, Thing.d, shr, shrs]
theorem take_fresh {P : Pg} {env : Env} {i : Nat} {t : Thing} (h : env[i]? = some (some (fresh t))) : ev P (.var i) env = .ok t.d (env.set i (some t.d)) := by
  have hl : i < env.length := (List.getElem?_eq_some_iff.mp h).1
  rw [x_ev, v_var, h]
  simp only [bindE, root, take]
  by_cases q : own (fresh t) = true
  · rw [if_pos q, shr_fresh, dem_at h, shr_fresh]
  · rw [if_neg q]
    have e : fresh t = t.d := by cases t <;> first | rfl | exact absurd (by simp [fresh, own]) q
    rw [e] at h ⊢
    congr 1
    refine List.ext_getElem? fun j => ?_
    by_cases z : j = i
    · subst z; rw [List.getElem?_set_self hl, h]
    · rw [List.getElem?_set_ne (Ne.symm z)]
def wrongs (m : Nat) : List Thing := [.int m, .int (-1), .tru, .non, .zero, .tup, .lst, .dct]
theorem wrong_ix {m k : Nat} (h : k < 8) : ∃ t, item (.lst true [.int m, .int (-1), .bl true, .non, .str [48], .tup [.int 0], .lst true [.int 0], .dct true [] []]) (.int k) = some (fresh t) := by
  match k, h with
  | 0, _ => exact ⟨.int m, rfl⟩
  | 1, _ => exact ⟨.int (-1), rfl⟩
  | 2, _ => exact ⟨.tru, rfl⟩
  | 3, _ => exact ⟨.non, rfl⟩
  | 4, _ => exact ⟨.zero, rfl⟩
  | 5, _ => exact ⟨.tup, rfl⟩
  | 6, _ => exact ⟨.lst, rfl⟩
  | 7, _ => exact ⟨.dct, rfl⟩
/-- what comes of things put on one behind the other -/
inductive Outc where
  | ok (gs : List Nat) | bad (c : Nat) (t : Thing)
def fin (m : Nat) : List Nat → List Thing → Outc
  | pre, [] => .ok pre
  | pre, t :: ts => match t.g m with
    | none => .bad 2 t
    | some g => if g ∈ pre then .bad 3 t else fin m (pre ++ [g]) ts
theorem Thing.g_some {m g : Nat} {t : Thing} (h : t.g m = some g) : t = .int g ∧ g < m := by
  cases t <;> simp only [Thing.g] at h <;> first | cases h | skip
  rename_i i
  split at h
  · cases h
    exact ⟨by congr 1; omega, by omega⟩
  · cases h
end Q
end
section
set_option linter.all false
set_option autoImplicit false
set_option maxRecDepth 100000
set_option maxHeartbeats 1000000
/-! Sorted lists of garments; what lies straight over one. -/
namespace Q
def insN (x : Nat) : List Nat → List Nat
  | [] => [x]
  | y :: ys => if x ≤ y then x :: y :: ys else y :: insN x ys
def sortN : List Nat → List Nat
  | [] => []
  | x :: xs => insN x (sortN xs)
theorem insI_N (x : Nat) : ∀ l : List Nat, insI (x : Int) (l.map fun (g : Nat) => (g : Int)) = (insN x l).map fun (g : Nat) => (g : Int)
  | [] => rfl
  | y :: ys => by
    simp only [List.map_cons, insI, insN]
    by_cases h : x ≤ y
    · rw [if_pos h, if_pos (by omega)]; rfl
    · rw [if_neg h, if_neg (by omega), insI_N x ys]; rfl
theorem sortI_N : ∀ l : List Nat, sortI (l.map fun (g : Nat) => (g : Int)) = (sortN l).map fun (g : Nat) => (g : Int)
  | [] => rfl
  | x :: xs => by simp only [List.map_cons, sortI, sortN, sortI_N xs, insI_N]
theorem insN_perm (x : Nat) : ∀ l : List Nat, (insN x l).Perm (x :: l)
  | [] => .refl _
  | y :: ys => by
    simp only [insN]
    split
    · exact .refl _
    · exact ((insN_perm x ys).cons y).trans (.swap x y ys)
theorem sortN_perm : ∀ l : List Nat, (sortN l).Perm l
  | [] => .refl _
  | x :: xs => (insN_perm x _).trans ((sortN_perm xs).cons x)
theorem mem_sortN {x : Nat} {l : List Nat} : x ∈ sortN l ↔ x ∈ l := (sortN_perm l).mem_iff
theorem insN_sorted (x : Nat) : ∀ {l : List Nat}, l.Pairwise (· ≤ ·) → (insN x l).Pairwise (· ≤ ·)
  | [], _ => by simp [insN]
  | y :: ys, h => by
    obtain ⟨h1, h2⟩ := List.pairwise_cons.mp h
    simp only [insN]
    split
    · rename_i hm
      exact List.pairwise_cons.mpr ⟨fun z hz => (List.mem_cons.mp hz).elim (fun e => by omega) fun e => by have := h1 z e; omega, h⟩
    · rename_i hm
      refine List.pairwise_cons.mpr ⟨fun z hz => ?_, insN_sorted x h2⟩
      rcases List.mem_cons.mp ((insN_perm x ys).subset hz) with e | e
      · omega
      · exact h1 z e
theorem sortN_sorted : ∀ l : List Nat, (sortN l).Pairwise (· ≤ ·)
  | [] => .nil
  | x :: xs => insN_sorted x (sortN_sorted xs)
theorem sortN_inc {l : List Nat} (h : l.Nodup) : (sortN l).Pairwise (· < ·) :=
  ((sortN_sorted l).and ((sortN_perm l).nodup_iff.mpr h)).imp fun ⟨h1, h2⟩ => by
    rcases Nat.lt_or_ge _ _ with q | q
    · exact q
    · exact absurd (Nat.le_antisymm h1 q) h2
theorem srt_L (o : Bool) (l : List Nat) : srtD (dL o l) = some (dL true (sortN l)) := by
  simp only [srtD, srtI, dL, onInts, intsOf_map, Option.bind_some, sortI_N]
  simp [List.map_map]
/-- sorted lists with the same members are one -/
theorem inc_ext : ∀ {a b : List Nat}, a.Pairwise (· < ·) → b.Pairwise (· < ·) → (∀ x, x ∈ a ↔ x ∈ b) → a = b := fun {a b} ha hb h =>
  List.Perm.eq_of_pairwise (le := (· < ·)) (fun x y _ _ h1 h2 => absurd h1 (by omega)) ha hb ((List.perm_ext_iff_of_nodup (ha.imp fun h => by omega) (hb.imp fun h => by omega)).mpr h)
theorem nodup_add : ∀ {row fs : List Nat}, fs.Nodup → (addAll fs row).Nodup
  | [], fs, h => h
  | a :: row, fs, h => by
    show (addAll (if a ∈ fs then fs else fs ++ [a]) row).Nodup
    refine nodup_add ?_
    split
    · exact h
    · rename_i q
      exact List.nodup_append.mpr ⟨h, by simp, fun x hx y hy e => by rw [List.mem_singleton.mp hy] at e; exact q (e ▸ hx)⟩
theorem nodup_fold : ∀ {w : List (List Nat)} {fs : List Nat}, fs.Nodup → (w.foldl addAll fs).Nodup
  | [], _, h => h
  | r :: w, fs, h => nodup_fold (w := w) (nodup_add h)
/-- what is worn, rising -/
def wornL (w : List (List Nat)) : List Nat := sortN (w.foldl addAll [])
theorem mem_wornL {w : List (List Nat)} {g : Nat} : g ∈ wornL w ↔ hasG w g = true := by
  rw [wornL, mem_sortN, mem_fold]; simp
theorem wornL_inc (w : List (List Nat)) : (wornL w).Pairwise (· < ·) := sortN_inc (nodup_fold .nil)
theorem idx_R {l : List Nat} {g : Nat} (h : g ∈ l) : idxD (dR l) (.int g) = some (.int (l.idxOf g : Nat)) := by
  simp only [idxD, els_R, dat0, dats0_ints, Bool.and_self, if_true]
  rw [findD_idx h]
  simp
/-- what lies straight over g in a row -/
def overR (r : List Nat) (g : Nat) : Option Nat := r[r.idxOf g + 1]?
def addO (fs : List Nat) (o : Option Nat) : List Nat :=
  match o with
  | some x => if x ∈ fs then fs else fs ++ [x]
  | none => fs
def overs (w : List (List Nat)) (c : List Nat) (g : Nat) (fs : List Nat) : List Nat := c.foldl (fun fs k => addO fs (overR (w.getD k []) g)) fs
def nextL (w : List (List Nat)) (c : List Nat) (g : Nat) : List Nat := sortN (overs w c g [])
theorem mem_addO {x : Nat} {fs : List Nat} : ∀ {o : Option Nat}, x ∈ addO fs o ↔ x ∈ fs ∨ o = some x
  | none => by simp [addO]
  | some y => by
    simp only [addO]
    by_cases hy : y ∈ fs
    · rw [if_pos hy]
      constructor
      · exact .inl
      · rintro (h | h)
        · exact h
        · cases h; exact hy
    · rw [if_neg hy, List.mem_append, List.mem_singleton]
      simp [eq_comm]
theorem nodup_addO {fs : List Nat} (h : fs.Nodup) : ∀ {o : Option Nat}, (addO fs o).Nodup
  | none => h
  | some y => by
    simp only [addO]
    by_cases hy : y ∈ fs
    · rw [if_pos hy]; exact h
    · rw [if_neg hy]
      exact List.nodup_append.mpr ⟨h, by simp, fun a ha b hb e => by rw [List.mem_singleton.mp hb] at e; exact hy (e ▸ ha)⟩
theorem len_addO {fs : List Nat} : ∀ {o : Option Nat}, (addO fs o).length ≤ fs.length + 1
  | none => by simp [addO]
  | some y => by simp only [addO]; split <;> simp
theorem mem_overs {w : List (List Nat)} {g x : Nat} : ∀ {c fs : List Nat}, x ∈ overs w c g fs ↔ x ∈ fs ∨ ∃ k ∈ c, overR (w.getD k []) g = some x
  | [], fs => by simp [overs]
  | k :: c, fs => by
    show x ∈ overs w c g (addO fs (overR (w.getD k []) g)) ↔ _
    rw [mem_overs]
    rw [mem_addO]
    simp [or_assoc]
theorem nodup_overs {w : List (List Nat)} {g : Nat} : ∀ {c fs : List Nat}, fs.Nodup → (overs w c g fs).Nodup
  | [], _, h => h
  | k :: c, fs, h => nodup_overs (c := c) (nodup_addO h)
theorem mem_nextL {w : List (List Nat)} {c : List Nat} {g x : Nat} : x ∈ nextL w c g ↔ ∃ k ∈ c, overR (w.getD k []) g = some x := by
  rw [nextL, mem_sortN, mem_overs]; simp
theorem nextL_inc (w c g) : (nextL w c g).Pairwise (· < ·) := sortN_inc (nodup_overs .nil)
theorem overs_len {w : List (List Nat)} {g : Nat} : ∀ {c fs : List Nat}, (overs w c g fs).length ≤ fs.length + c.length
  | [], _ => by simp [overs]
  | k :: c, fs => by
    have h1 := overs_len (w := w) (g := g) (c := c) (fs := addO fs (overR (w.getD k []) g))
    have h2 : (addO fs (overR (w.getD k []) g)).length ≤ fs.length + 1 := len_addO
    show (overs w c g (addO fs (overR (w.getD k []) g))).length ≤ _
    simp only [List.length_cons]
    omega
/-- nothing lies over it just where it is last in all its rows -/
theorem nextL_nil {w : List (List Nat)} {c : List Nat} {g : Nat} (h : ∀ k ∈ c, ∃ r, w[k]? = some r ∧ g ∈ r ∧ r.Nodup) : nextL w c g = [] ↔ ∀ k ∈ c, ∃ r, w[k]? = some r ∧ r.getLast? = some g := by
  constructor
  · intro e k hk
    obtain ⟨r, hr, hg, hn⟩ := h k hk
    refine ⟨r, hr, ?_⟩
    have hno : overR r g = none := by
      cases q : overR r g with
      | none => rfl
      | some x =>
        have : x ∈ nextL w c g := mem_nextL.mpr ⟨k, hk, by rw [getD_ofQ hr]; exact q⟩
        rw [e] at this; cases this
    have hi := List.idxOf_lt_length_of_mem hg
    have hl : r.length ≤ r.idxOf g + 1 := List.getElem?_eq_none_iff.mp hno
    rw [List.getLast?_eq_getElem?]
    have : r.length - 1 = r.idxOf g := by omega
    rw [this, List.getElem?_eq_getElem hi, List.getElem_idxOf]
  · intro e
    refine List.eq_nil_iff_forall_not_mem.mpr fun x hx => ?_
    obtain ⟨k, hk, ho⟩ := mem_nextL.mp hx
    obtain ⟨r, hr, hg, hn⟩ := h k hk
    obtain ⟨r', hr', hl⟩ := e k hk
    rw [hr] at hr'; cases hr'
    rw [getD_ofQ hr] at ho
    have hlt := (List.getElem?_eq_some_iff.mp ho).1
    have hi := List.idxOf_lt_length_of_mem hg
    rw [List.getLast?_eq_getElem?] at hl
    have h2 : r[r.idxOf g]? = some g := by rw [List.getElem?_eq_getElem hi, List.getElem_idxOf]
    have := (List.getElem?_inj hi hn).mp (h2.trans hl.symm)
    omega
  where getD_ofQ {α : Type} {l : List α} {i : Nat} {x d : α} (h : l[i]? = some x) : l.getD i d = x := by rw [List.getD, h]; rfl
mutual
theorem shr_fix : ∀ {d : D}, own d = false → shr d = d
  | .non, _ => rfl
  | .bl _, _ => rfl
  | .int _, _ => rfl
  | .str _, _ => rfl
  | .tup xs, h => by rw [shr, shrs_fix (by simpa [own] using h)]
  | .lst o xs, h => by
    rw [own, Bool.or_eq_false_iff] at h
    rw [shr, shrs_fix h.2, h.1]
  | .dct o ks vs, h => by
    rw [own, Bool.or_eq_false_iff] at h
    rw [shr, shrs_fix h.2, h.1]
  | .ins o c fs vs, h => by
    rw [own, Bool.or_eq_false_iff] at h
    rw [shr, shrs_fix h.2, h.1]
  | .exc c fs vs, h => by rw [shr, shrs_fix (by simpa [own] using h)]
theorem shrs_fix : ∀ {ds : List D}, owns ds = false → shrs ds = ds
  | [], _ => rfl
  | d :: ds, h => by
    rw [owns, Bool.or_eq_false_iff] at h
    rw [shrs, shr_fix h.1, shrs_fix h.2]
end
mutual
theorem own_shz : ∀ (d : D), own (shr d) = false
  | .non => rfl
  | .bl _ => rfl
  | .int _ => rfl
  | .str _ => rfl
  | .tup xs => by rw [shr, own, owns_shz xs]
  | .lst o xs => by rw [shr, own, owns_shz xs]; rfl
  | .dct o ks vs => by rw [shr, own, owns_shz vs]; rfl
  | .ins o c fs vs => by rw [shr, own, owns_shz vs]; rfl
  | .exc c fs vs => by rw [shr, own, owns_shz vs]
theorem owns_shz : ∀ (ds : List D), owns (shrs ds) = false
  | [] => rfl
  | d :: ds => by rw [shrs, owns, own_shz d, owns_shz ds]; rfl
end
theorem owns_app : ∀ (xs ys : List D), owns (xs ++ ys) = (owns xs || owns ys)
  | [], ys => by simp [owns]
  | x :: xs, ys => by rw [List.cons_append, owns, owns, owns_app xs ys, Bool.or_assoc]
theorem owns_mm : ∀ {xs : List D}, owns xs = false → ∀ x ∈ xs, own x = false
  | [], _, _, h => nomatch h
  | d :: ds, h, x, hx => by
    rw [owns, Bool.or_eq_false_iff] at h
    rcases List.mem_cons.mp hx with e | e
    · rw [e]; exact h.1
    · exact owns_mm h.2 x e
theorem owns_all : ∀ {xs : List D}, (∀ x ∈ xs, own x = false) → owns xs = false
  | [], _ => rfl
  | d :: ds, h => by rw [owns, h d List.mem_cons_self, owns_all fun x hx => h x (List.mem_cons_of_mem _ hx)]; rfl
theorem shr_shz : ∀ (d : D), shr (shr d) = shr d := fun d => shr_fix (own_shz d)
/-- a thing at a name, taken: the name's thing is shared then -/
theorem take_at {P : Pg} {env : Env} {i : Nat} {d : D} (h : env[i]? = some (some d)) : ev P (.var i) env = .ok (shr d) (env.set i (some (shr d))) := by
  have hl : i < env.length := (List.getElem?_eq_some_iff.mp h).1
  rw [x_ev, v_var, h]
  simp only [bindE, root, take]
  by_cases q : own d = true
  · rw [if_pos q, dem_at h]
  · rw [if_neg q, shr_fix (by simpa using q)]
    congr 1
    refine List.ext_getElem? fun j => ?_
    by_cases z : j = i
    · subst z; rw [List.getElem?_set_self hl, h]
    · rw [List.getElem?_set_ne (Ne.symm z)]
/-- behind a call: nothing else than that some names' things are shared -/
theorem ac_or {l : Bool} {rs : List Nat} {env : Env} {d : D} : afterCall l rs env (.ok d) = .ok d env ∨ afterCall l rs env (.ok d) = .ok d (demA rs 0 env) := by
  simp only [afterCall]
  cases l && sha d
  · exact .inl rfl
  · exact .inr rfl
end Q
end
section
set_option linter.all false
set_option autoImplicit false
set_option maxRecDepth 100000
set_option maxHeartbeats 1000000
/-! Pairs of whole numbers, sorted; lists of data that can be told apart. -/
namespace Q
def dP (p : Nat × Nat) : D := .tup [.int p.1, .int p.2]
def leP (p q : Nat × Nat) : Bool := decide (p.1 < q.1 ∨ p.1 = q.1 ∧ p.2 ≤ q.2)
theorem leD_P (p q : Nat × Nat) : leD (dP p) (dP q) = leP p q := by
  obtain ⟨a, b⟩ := p
  obtain ⟨c, d⟩ := q
  have e : leD (dP (a, b)) (dP (c, d)) = !PyProof.Rows.lexLt PyProof.Rows.itemOrd [.inl 1, .inl (c : Int), .inl 1, .inl (d : Int), .inl 0] [.inl 1, .inl (a : Int), .inl 1, .inl (b : Int), .inl 0] := by
    simp [leD, PySem.W.dataLe, PySem.W.sortLe, dP, toPy, toPys, PySem.W.keyToks, PySem.W.keyToksAll]
  rw [e, PyProof.Rows.lex_self]
  simp only [leP]
  by_cases h1 : a = c
  · subst h1
    rw [PyProof.Rows.lex_self, PyProof.Rows.lex_self]
    by_cases h2 : b = d
    · subst h2
      rw [PyProof.Rows.lex_self, PyProof.Rows.lex_irrefl]
      simp
    · rw [PyProof.Rows.lex_diff (O := PyProof.Rows.itemOrd) (by simp; omega)]
      show (!decide ((d : Int) < b)) = _
      by_cases h3 : d < b
      · have : ¬ b ≤ d := by omega
        simp [h3, this]
      · have : b ≤ d := by omega
        simp [h3, this]
  · rw [PyProof.Rows.lex_diff (O := PyProof.Rows.itemOrd) (by simp; omega)]
    show (!decide ((c : Int) < a)) = _
    by_cases h3 : c < a
    · have : ¬ a < c := by omega
      simp [h3, this, h1]
    · have : a < c := by omega
      simp [h3, this]
section
variable {p q : Nat × Nat} {l : List (Nat × Nat)} {o : Bool} {n : Nat}
theorem own_P (p) : own (dP p) = false := by simp [dP, own, owns]
theorem sha_P (p) : sha (dP p) = false := by simp [dP, sha, shas]
theorem shr_P (p) : shr (dP p) = dP p := by simp [dP, shr, shrs]
theorem dat_P (h : 0 < n) (p) : dat n (dP p) = true := by simp [dP, dat, dats, h]
theorem dat0_P (h : 0 < n) (p) : dat0 n (dP p) = true := by simp [dP, dat0, dats0, h]
theorem eqv_P (p q) : eqv (dP p) (dP q) = decide (p = q) := by
  obtain ⟨a, b⟩ := p
  obtain ⟨c, d⟩ := q
  show (eqv (.int (a : Nat)) (.int (c : Nat)) && (eqv (.int (b : Nat)) (.int (d : Nat)) && true)) = _
  rw [eqv_int, eqv_int]
  by_cases h1 : a = c <;> by_cases h2 : b = d <;> simp [h1, h2]
theorem in_P : cmpOp .In (dP p) (.lst o (l.map dP)) = some (decide (p ∈ l)) := by
  simp only [cmpOp, els_lst, dat_P (n := 60) (by decide), dats_map (dat_P (n := 59) (by decide)), Bool.and_self, if_true]
  rw [any_map eqv_P]
  congr
theorem nin_P : cmpOp .NotIn (dP p) (.lst o (l.map dP)) = some (!decide (p ∈ l)) := by
  simp only [cmpOp, els_lst, dat_P (n := 60) (by decide), dats_map (dat_P (n := 59) (by decide)), Bool.and_self, if_true]
  rw [any_map eqv_P]
  congr
theorem owns_P (l : List (Nat × Nat)) : owns (l.map dP) = false := owns_map own_P
theorem shas_P (l : List (Nat × Nat)) : shas (l.map dP) = false := shas_map sha_P
theorem shrs_P (l : List (Nat × Nat)) : shrs (l.map dP) = l.map dP := shrs_map shr_P
theorem eq_Ps {o p : Bool} {l m : List (Nat × Nat)} : cmpOp .Eq (.lst o (l.map dP)) (.lst p (m.map dP)) = some (decide (l = m)) := by
  simp only [cmpOp, dat, dats_map (dat_P (n := 60 - 1) (by decide)), eqv, eqvs_map eqv_P]
  rfl
theorem ne_Ps {o p : Bool} {l m : List (Nat × Nat)} : cmpOp .NotEq (.lst o (l.map dP)) (.lst p (m.map dP)) = some (!decide (l = m)) := by
  simp only [cmpOp, dat, dats_map (dat_P (n := 60 - 1) (by decide)), eqv, eqvs_map eqv_P]
  rfl
end
def sortP (l : List (Nat × Nat)) : List (Nat × Nat) := l.mergeSort leP
theorem leP_trans (a b c : Nat × Nat) (h1 : leP a b = true) (h2 : leP b c = true) : leP a c = true := by
  simp only [leP, decide_eq_true_eq] at *; omega
theorem leP_total (a b : Nat × Nat) : (leP a b || leP b a) = true := by
  simp only [leP, Bool.or_eq_true, decide_eq_true_eq]; omega
theorem sortP_perm (l) : (sortP l).Perm l := List.mergeSort_perm l leP
theorem sortP_sorted (l) : (sortP l).Pairwise (fun a b => leP a b = true) := List.pairwise_mergeSort leP_trans leP_total l
theorem mem_sortP {p : Nat × Nat} {l} : p ∈ sortP l ↔ p ∈ l := (sortP_perm l).mem_iff
/-- rising -/
def ltP (p q : Nat × Nat) : Prop := p.1 < q.1 ∨ p.1 = q.1 ∧ p.2 < q.2
theorem ltP_irr {p : Nat × Nat} : ¬ ltP p p := by simp only [ltP]; omega
theorem ltP_asym {p q : Nat × Nat} (h : ltP p q) : ¬ ltP q p := by simp only [ltP] at *; omega
theorem sortP_inc {l : List (Nat × Nat)} (h : l.Nodup) : (sortP l).Pairwise ltP :=
  ((sortP_sorted l).and ((sortP_perm l).nodup_iff.mpr h)).imp fun {a b} ⟨h1, h2⟩ => by
    simp only [leP, decide_eq_true_eq] at h1
    simp only [ltP]
    by_cases q : a.2 = b.2
    · by_cases r : a.1 = b.1
      · exact absurd (Prod.ext r q) h2
      · omega
    · omega
theorem ltP_nodup {l : List (Nat × Nat)} (h : l.Pairwise ltP) : l.Nodup := List.Pairwise.imp (S := fun a b => a ≠ b) (fun {a b} h e => by subst e; exact ltP_irr h) h
/-- rising lists with the same members are one -/
theorem incP_ext {a b : List (Nat × Nat)} (ha : a.Pairwise ltP) (hb : b.Pairwise ltP) (h : ∀ x, x ∈ a ↔ x ∈ b) : a = b :=
  List.Perm.eq_of_pairwise (le := ltP) (fun x y _ _ h1 h2 => absurd h2 (ltP_asym h1)) ha hb ((List.perm_ext_iff_of_nodup (ltP_nodup ha) (ltP_nodup hb)).mpr h)
theorem alike_P (p q) : PySem.W.alike (toPy (dP p)) (toPy (dP q)) = true := by simp [dP, toPy, toPys, PySem.W.alike, PySem.W.alikeAll]
theorem srt_P {o : Bool} {l : List (Nat × Nat)} (h : l.length ≤ 16777216) : srtD (.lst o (l.map dP)) = some (.lst true ((sortP l).map dP)) := by
  cases l with
  | nil => simp [srtD, srtI, onInts, intsOf, sortI, sortP]
  | cons a l =>
    have e1 : srtI (.lst o ((a :: l).map dP)) = none := by simp [srtI, onInts, dP, intsOf]
    have e2 : srtRows (.lst o ((a :: l).map dP)) = some (.lst true (((a :: l).map dP).mergeSort leD)) := by
      simp only [srtRows]
      rw [if_pos]
      refine ⟨owns_P _, dats0_map (dat0_P (by decide)), by simpa using h, ?_, ?_⟩
      · refine List.all_eq_true.mpr fun x hx => List.all_eq_true.mpr fun y hy => ?_
        obtain ⟨p, _, rfl⟩ := List.mem_map.mp hx
        obtain ⟨q, _, rfl⟩ := List.mem_map.mp hy
        exact alike_P p q
      · have : ((a :: l).map dP).all tupC = true := List.all_eq_true.mpr fun x hx => by
          obtain ⟨p, _, rfl⟩ := List.mem_map.mp hx
          rfl
        rw [this]; rfl
    simp only [srtD, e1, e2]
    rw [sortP, List.map_mergeSort (s := leD) fun p _ q _ => (leD_P p q).symm]
end Q
namespace Q
/-- a comprehension over any target, with a condition -/
theorem comp_tg {α : Type} {P : Pg} {env0 env : Env} {x : D} {tg elt it cond : Ex} {l : List α} {φ ψ : α → D} {p : α → Bool} (E : α → Env) (hit : vw P it env0 = .ok x env) (hc : els x = some (l.map φ)) (ho : owns (l.map φ) = false)
    (hb : ∀ a ∈ l, bnd tg (φ a) (wipe (slots tg) env) = .ok () (E a)) (hw : ∀ a ∈ l, wipe (slots tg) (E a) = wipe (slots tg) env) (hww : wipe (slots tg) (wipe (slots tg) env) = wipe (slots tg) env)
    (hp : ∀ a ∈ l, vw P cond (E a) = .ok (.bl (p a)) (E a)) (hf : ∀ a ∈ l, p a = true → ev P elt (E a) = .ok (ψ a) (E a)) (hk : back (slots tg) env (wipe (slots tg) env) = env) (hl : l.length ≤ line) : vw P (.comp elt tg it cond) env0 = .ok (.lst true ((l.filter p).map ψ)) env := by
  have key : ∀ (m : List α) (e : Env), (∀ a ∈ m, a ∈ l) → wipe (slots tg) e = wipe (slots tg) env → ∃ e', (walk (fun d env => noX ((bnd tg d (wipe (slots tg) env)).bind fun _ env => (vw P cond env).bind fun c env => match tru c with
        | some true => ((vw P elt env).bind (take (root elt))).bind fun y env => .ok (some y) env
        | some false => .ok none env
        | none => .stuck)) (m.map φ) e) = .ok ((m.filter p).map ψ) e' ∧ wipe (slots tg) e' = wipe (slots tg) env := by
    intro m
    induction m with
    | nil => exact fun e _ h => ⟨e, rfl, h⟩
    | cons a m ih =>
      intro e hm he
      have ha := hm a List.mem_cons_self
      obtain ⟨e', h1, h2⟩ := ih (E a) (fun b hb => hm b (List.mem_cons_of_mem _ hb)) (hw a ha)
      refine ⟨e', ?_, h2⟩
      have e0 : bnd tg (φ a) (wipe (slots tg) e) = .ok () (E a) := by rw [he]; exact hb a ha
      have e2 := hp a ha
      have tb : ∀ b : Bool, tru (.bl b) = some b := fun _ => rfl
      cases q : p a with
      | true =>
        have e1 : (vw P elt (E a)).bind (take (root elt)) = .ok (ψ a) (E a) := hf a ha q
        rw [q] at e2
        simp only [List.map_cons, walk, noX] at h1 ⊢
        simp only [e0, bindE, e2, tb, e1, h1, List.filter_cons, q, if_true, List.map_cons]
      | false =>
        rw [q] at e2
        simp only [List.map_cons, walk, noX] at h1 ⊢
        simp only [e0, bindE, e2, tb, h1, List.filter_cons, q]
        rfl
  obtain ⟨e', h1, h2⟩ := key l env (fun _ h => h) rfl
  simp only [vw, hit, bindE, cont_flat hc ho]
  refine Eq.trans (congrArg (fun r => R.bind r fun (ys : List D) env' => if ys.length ≤ line then R.ok (D.lst true ys) (back (slots tg) env (wipe (slots tg) env')) else .stuck) h1) ?_
  simp only [bindE, List.length_map, Nat.le_trans (List.length_filter_le p l) hl, if_true, h2, hk]
theorem sum_casts {α : Type} {f : α → Nat} : ∀ {l : List α}, (l.map fun a => ((f a : Nat) : Int)).sum = (((l.map f).sum : Nat) : Int)
  | [] => rfl
  | a :: l => by simp only [List.map_cons, List.sum_cons, sum_casts (l := l)]; omega
theorem sumD_map {α : Type} {f : α → Nat} {l : List α} {o : Bool} : sumD (.lst o (l.map fun a => .int (f a : Nat))) = some (.int (((l.map f).sum : Nat) : Int)) := by
  simp only [sumD, onInts, intsOf_map, Option.bind_some, sum_casts]
/-- a sum over fewer things is no more -/
theorem sum_sub {α : Type} [DecidableEq α] {f : α → Nat} : ∀ {l m : List α}, l.Nodup → (∀ x ∈ l, x ∈ m) → (l.map f).sum ≤ (m.map f).sum
  | [], _, _, _ => Nat.zero_le _
  | a :: l, m, h, hs => by
    obtain ⟨h1, h2⟩ := List.nodup_cons.mp h
    have ha := hs a List.mem_cons_self
    have ih := sum_sub (f := f) (l := l) (m := m.erase a) h2 fun x hx => (List.mem_erase_of_ne (fun e => h1 (by rw [← e]; exact hx))).mpr (hs x (List.mem_cons_of_mem _ hx))
    have hp := (List.perm_cons_erase ha).map f
    have := hp.sum_nat
    simp only [List.map_cons, List.sum_cons] at this ⊢
    omega
end Q
end
section
set_option linter.all false
set_option autoImplicit false
set_option maxRecDepth 100000
namespace K41
open Q
def F_seen_in : Q.Fn := ⟨1, 2, (.ret (.comp (.ife (.cmp .NotEq (.var 1) (.tup .nil)) (.ix (.var 1) (.neg (.int 1))) .non) (.var 1) (.var 0) (.bl true))), none⟩
def F_is_whole : Q.Fn := ⟨1, 1, (.ret (.and (.isT (.var 0) 0) (.not (.isT (.var 0) 1)))), none⟩
def F_Wardrobe_spots : Q.Fn := ⟨1, 1, (.ret (.fld (.var 0) 3)), none⟩
def F__law_draw : Q.Fn := ⟨2, 3, (.seq (.asg (.var 2) (.slc (.var 0) (.var 1) (.bin .Add (.var 1) (.int 1))))
    (.seq (.ite (.cmp .Eq (.var 2) (.lst .nil))
    (.ret (.int 0))
    .pas)
    (.ret (.ix (.mov 2) (.int 0))))), none⟩
def F__law_mix : Q.Fn := ⟨3, 7, (.seq (.ite (.and (.cmp .Eq (.bin .Mod (.var 0) (.int 2)) (.int 1)) (.cmp .Gt (.var 0) (.bin .Pow (.int 10) (.int 18))))
    (.seq (.asg (.var 3) (.ix (.lst (.cons (.int 1) (.cons (.bin .Pow (.int 10) (.int 7)) (.cons (.bin .Pow (.int 10) (.int 14)) (.cons (.bin .Pow (.int 10) (.int 21)) (.cons (.bin .Pow (.int 10) (.int 28)) (.cons (.bin .Pow (.int 10) (.int 35)) (.cons (.bin .Pow (.int 10) (.int 42)) (.cons (.bin .Pow (.int 10) (.int 49)) .nil))))))))) (.var 1)))
    (.ret (.bin .Mod (.bin .FloorDiv (.bin .FloorDiv (.var 0) (.int 2)) (.mov 3)) (.var 2))))
    .pas)
    (.seq (.asg (.var 4) (.ix (.lst (.cons (.int 48271) (.cons (.int 69621) (.cons (.int 16807) (.cons (.int 40692) (.cons (.int 39373) (.cons (.int 30269) (.cons (.int 27183) (.cons (.int 60013) .nil))))))))) (.var 1)))
    (.seq (.asg (.var 5) (.ix (.lst (.cons (.int 999983) (.cons (.int 999979) (.cons (.int 999961) (.cons (.int 999959) (.cons (.int 999953) (.cons (.int 999931) (.cons (.int 999917) (.cons (.int 999907) .nil))))))))) (.var 1)))
    (.seq (.asg (.var 6) (.bin .Mod (.var 0) (.int 2147483647)))
    (.ret (.bin .Mod (.bin .FloorDiv (.bin .Mod (.bin .Add (.bin .Add (.bin .Mult (.bin .Mult (.int 3) (.var 6)) (.var 6)) (.bin .Mult (.mov 4) (.var 6))) (.bin .Mult (.int 7907) (.bin .Add (.var 1) (.int 1)))) (.mov 5)) (.int 5)) (.var 2))))))), none⟩
def F__law_part : Q.Fn := ⟨2, 4, (.seq (.ite (.or (.cmp .Eq (.bin .Mod (.var 0) (.int 2)) (.int 0)) (.cmp .Lt (.var 0) (.bin .Pow (.int 10) (.int 18))))
    (.ret (.bin .Add (.bin .Mod (.var 0) (.bin .Pow (.int 10) (.int 15))) (.bin .Mult (.bin .Mult (.int 976) (.var 1)) (.var 1))))
    .pas)
    (.seq (.asg (.var 2) (.bin .FloorDiv (.var 0) (.int 2)))
    (.seq (.forr (.var 3) (.rng1 (.var 1))
    (.asg (.var 2) (.bin .FloorDiv (.var 2) (.bin .Pow (.int 10) (.int 56)))))
    (.ret (.bin .Add (.bin .Mult (.int 2) (.mov 2)) (.int 1)))))), none⟩
def F__law_wearer : Q.Fn := ⟨2, 4, (.seq (.forr (.var 2) (.rng1 (.len (.var 0)))
    (.ite (.any (.comp (.cmp .In (.var 1) (.var 3)) (.var 3) (.ix (.var 0) (.var 2)) (.bl true)))
    (.ret (.mov 2))
    .pas))
    (.ret .non)), none⟩
def F__law_above : Q.Fn := ⟨4, 7, (.seq (.asg (.var 4) (.lst .nil))
    (.seq (.forr (.var 5) (.ix (.var 1) (.var 3))
    (.seq (.asg (.var 6) (.ix (.ix (.var 0) (.var 2)) (.var 5)))
    (.ite (.cmp .NotEq (.ix (.var 6) (.neg (.int 1))) (.var 3))
    (.app (.var 4) (.ix (.var 6) (.bin .Add (.idx (.var 6) (.var 3)) (.int 1))))
    .pas)))
    (.ret (.mov 4)))), none⟩
def F__law_do : Q.Fn := ⟨3, 7, (.seq (.asg (.tup (.cons (.var 3) (.cons (.var 4) (.cons (.var 5) .nil)))) (.var 2))
    (.forr (.var 6) (.ix (.var 1) (.var 5))
    (.ite (.cmp .Eq (.var 4) (.str [111, 110]))
    (.app (.ix (.ix (.var 0) (.var 3)) (.var 6)) (.var 5))
    (.rem (.ix (.ix (.var 0) (.var 3)) (.var 6)) (.var 5))))), none⟩
def F__law_frozen : Q.Fn := ⟨1, 3, (.ret (.tpl (.comp (.tpl (.comp (.tpl (.var 1)) (.var 1) (.var 2) (.bl true))) (.var 2) (.var 0) (.bl true)))), none⟩
def F__law_thawed : Q.Fn := ⟨1, 3, (.ret (.comp (.comp (.lis (.var 1)) (.var 1) (.var 2) (.bl true)) (.var 2) (.var 0) (.bl true))), none⟩
def F__law_bare : Q.Fn := ⟨2, 4, (.ret (.comp (.comp (.lst .nil) (.var 2) (.rng1 (.var 1)) (.bl true)) (.var 3) (.rng1 (.var 0)) (.bl true))), none⟩
def F__law_cross : Q.Fn := ⟨3, 4, (.seq (.ite (.cmp .Eq (.ix (.var 1) (.int 2)) (.ix (.var 2) (.int 2)))
    (.ret (.bl true))
    .pas)
    (.ret (.and (.cmp .Eq (.ix (.var 1) (.int 0)) (.ix (.var 2) (.int 0))) (.any (.comp (.cmp .In (.var 3) (.ix (.var 0) (.ix (.var 2) (.int 2)))) (.var 3) (.ix (.var 0) (.ix (.var 1) (.int 2))) (.bl true)))))), none⟩
def F__law_orders : Q.Fn := ⟨2, 5, (.forr (.tup (.cons (.var 2) (.cons (.var 3) (.cons (.var 4) .nil)))) (.var 1)
    (.ite (.cmp .Eq (.var 3) (.str [111, 110]))
    (.app (.ix (.var 0) (.var 2)) (.var 4))
    (.rem (.ix (.var 0) (.var 2)) (.var 4)))), none⟩
def F__law_alike : Q.Fn := ⟨2, 4, (.seq (.forr (.var 2) (.ix (.var 0) (.ix (.var 1) (.int 1)))
    (.ite (.cmp .NotEq (.var 2) (.comp (.var 3) (.var 3) (.ix (.var 1) (.int 2)) (.cmp .In (.var 3) (.var 2))))
    (.ret (.bl false))
    .pas))
    (.ret (.bl true))), none⟩
def F_bare_wearing : Q.Fn := ⟨1, 2, (.ret (.tpl (.comp (.tup .nil) (.var 1) (.rng1 (.meth 0 (.var 0) .nil)) (.bl true)))), none⟩
def F_is_cover : Q.Fn := ⟨2, 4, (.seq (.ite (.or (.not (.isT (.var 0) 2)) (.cmp .Eq (.var 0) (.lst .nil)))
    (.ret (.bl false))
    .pas)
    (.seq (.asg (.var 2) (.neg (.int 1)))
    (.seq (.forr (.var 3) (.var 0)
    (.seq (.ite (.or (.not (.call 6 (.cons (.var 3) .nil))) (.not (.cmp2 .Lt .Lt (.var 2) (.var 3) (.var 1))))
    (.ret (.bl false))
    .pas)
    (.asg (.var 2) (.var 3))))
    (.ret (.bl true))))), none⟩
def F_Wardrobe_covers : Q.Fn := ⟨2, 2, (.seq (.ite (.or (.not (.call 6 (.cons (.var 1) .nil))) (.not (.cmp2 .LtE .Lt (.int 0) (.var 1) (.len (.fld (.var 0) 4)))))
    .nev /- rai -/
    .pas)
    (.ret (.lis (.ix (.fld (.var 0) 4) (.var 1))))), none⟩
def F__law_covers : Q.Fn := ⟨3, 8, (.seq (.asg (.var 3) (.lst .nil))
    (.seq (.forr (.var 4) (.rng1 (.var 2))
    (.seq (.asg (.var 5) (.call 123 (.cons (.var 0) (.cons (.var 4) .nil))))
    (.seq (.asg (.var 6) (.bin .Add (.int 1) (.call 24 (.cons (.var 5) (.cons (.int 1) (.cons (.ix (.lst (.cons (.int 1) (.cons (.int 3) (.cons (.int 7) (.cons (.int 15) (.cons (.int 31) (.cons (.int 63) .nil))))))) (.bin .Sub (.var 1) (.int 1))) .nil))))))
    (.seq (.ite (.cmp .Eq (.call 24 (.cons (.var 5) (.cons (.int 4) (.cons (.int 3) .nil)))) (.int 1))
    (.asg (.var 6) (.ix (.lst (.cons (.int 1) (.cons (.int 2) (.cons (.int 4) (.cons (.int 8) (.cons (.int 16) (.cons (.int 32) .nil))))))) (.call 24 (.cons (.var 5) (.cons (.int 5) (.cons (.var 1) .nil))))))
    .pas)
    (.app (.var 3) (.comp (.var 7) (.var 7) (.rng1 (.var 1)) (.cmp .Eq (.bin .Mod (.bin .FloorDiv (.var 6) (.ix (.lst (.cons (.int 1) (.cons (.int 2) (.cons (.int 4) (.cons (.int 8) (.cons (.int 16) (.cons (.int 32) .nil))))))) (.var 7))) (.int 2)) (.int 1))))))))
    (.ret (.mov 3)))), none⟩
def F__law_may : Q.Fn := ⟨3, 6, (.seq (.asg (.tup (.cons (.var 3) (.cons (.var 4) (.cons (.var 5) .nil)))) (.var 2))
    (.seq (.ite (.cmp .Eq (.var 4) (.str [111, 110]))
    (.ret (.isN (.call 124 (.cons (.var 0) (.cons (.mov 5) .nil)))))
    .pas)
    (.ret (.and (.cmp .Eq (.call 124 (.cons (.var 0) (.cons (.var 5) .nil))) (.var 3)) (.cmp .Eq (.call 125 (.cons (.var 0) (.cons (.var 1) (.cons (.var 3) (.cons (.var 5) .nil))))) (.lst .nil)))))), none⟩
def F__law_deed : Q.Fn := ⟨3, 5, (.seq (.asg (.var 3) (.call 24 (.cons (.var 2) (.cons (.int 3) (.cons (.len (.var 1)) .nil)))))
    (.seq (.asg (.var 4) (.call 124 (.cons (.var 0) (.cons (.var 3) .nil))))
    (.seq (.ite (.isN (.var 4))
    (.ret (.tup (.cons (.call 24 (.cons (.var 2) (.cons (.int 2) (.cons (.len (.var 0)) .nil)))) (.cons (.str [111, 110]) (.cons (.mov 3) .nil)))))
    .pas)
    (.ret (.tup (.cons (.mov 4) (.cons (.str [111, 102, 102]) (.cons (.mov 3) .nil)))))))), none⟩
def F__law_done : Q.Fn := ⟨3, 4, (.forr (.var 3) (.var 2)
    (.callM 126 0 (.cons (.var 1) (.cons (.var 3) .nil)))), none⟩
def F__law_wish : Q.Fn := ⟨4, 7, (.seq (.asg (.var 4) (.call 24 (.cons (.var 3) (.cons (.int 1) (.cons (.len (.var 0)) .nil)))))
    (.seq (.asg (.var 5) (.call 24 (.cons (.var 3) (.cons (.int 2) (.cons (.len (.ix (.var 0) (.var 4))) .nil)))))
    (.seq (.asg (.var 6) (.ix (.ix (.var 0) (.var 4)) (.var 5)))
    (.seq (.ite (.cmp .Eq (.call 24 (.cons (.var 3) (.cons (.int 3) (.cons (.int 5) .nil)))) (.int 1))
    (.ret (.tup (.cons (.str [115, 116, 97, 110, 100]) (.cons (.var 4) (.cons (.lis (.ix (.var 1) (.var 4))) .nil)))))
    .pas)
    (.seq (.ite (.and (.cmp .Gt (.var 2) (.int 0)) (.cmp .Eq (.call 24 (.cons (.var 3) (.cons (.int 4) (.cons (.int 9) .nil)))) (.int 1)))
    (.ret (.tup (.cons (.str [115, 101, 101]) (.cons (.mov 4) (.cons (.mov 5) (.cons (.call 24 (.cons (.var 3) (.cons (.int 5) (.cons (.var 2) .nil)))) .nil))))))
    .pas)
    (.seq (.ite (.cmp .Eq (.var 6) (.lst .nil))
    (.ret (.tup (.cons (.str [98, 97, 114, 101]) (.cons (.mov 4) (.cons (.mov 5) .nil)))))
    .pas)
    (.ret (.tup (.cons (.str [115, 101, 101]) (.cons (.mov 4) (.cons (.mov 5) (.cons (.ix (.mov 6) (.neg (.int 1))) .nil)))))))))))), none⟩
def F__law_holds : Q.Fn := ⟨3, 6, (.seq (.ite (.cmp .Eq (.ix (.var 2) (.int 0)) (.str [115, 116, 97, 110, 100]))
    (.seq (.asg (.var 3) (.comp (.var 4) (.var 4) (.ix (.var 1) (.ix (.var 2) (.int 1))) (.bl true)))
    (.ret (.and (.cmp .Eq (.srt (.mov 3)) (.srt (.ix (.var 2) (.int 2)))) (.call 168 (.cons (.var 0) (.cons (.var 2) .nil))))))
    .pas)
    (.seq (.asg (.var 5) (.ix (.ix (.var 0) (.ix (.var 2) (.int 1))) (.ix (.var 2) (.int 2))))
    (.seq (.ite (.cmp .Eq (.ix (.var 2) (.int 0)) (.str [98, 97, 114, 101]))
    (.ret (.cmp .Eq (.mov 5) (.lst .nil)))
    .pas)
    (.ret (.and (.cmp .NotEq (.var 5) (.lst .nil)) (.cmp .Eq (.ix (.var 5) (.neg (.int 1))) (.ix (.var 2) (.int 3)))))))), none⟩
def F_put_on : Q.Fn := ⟨3, 5, (.seq (.asg (.var 3) (.meth 2 (.var 0) (.cons (.var 2) .nil)))
    (.seq (.ite (.cmp .In (.var 2) (.ix (.var 1) (.ix (.var 3) (.int 0))))
    .nev /- rai -/
    .pas)
    (.ret (.tpl (.comp (.ife (.cmp .In (.var 4) (.var 3)) (.bin .Add (.ix (.var 1) (.var 4)) (.tup (.cons (.var 2) .nil))) (.ix (.var 1) (.var 4))) (.var 4) (.rng1 (.len (.var 1))) (.bl true)))))), none⟩
def F_Wardrobe_init : Q.Fn := ⟨3, 5, (.seq (.ite (.or (.not (.call 6 (.cons (.var 1) .nil))) (.or (.not (.cmp2 .LtE .LtE (.int 1) (.var 1) (.glb 0))) (.cmp .Gt (.len (.var 2)) (.glb 0))))
    .nev /- rai -/
    .pas)
    (.seq (.forr (.var 3) (.rng1 (.len (.var 2)))
    (.ite (.not (.call 7 (.cons (.ix (.var 2) (.var 3)) (.cons (.var 1) .nil))))
    .nev /- rai -/
    .pas))
    (.seq (.stf 0 3 (.var 1))
    (.stf 0 4 (.comp (.lis (.var 4)) (.var 4) (.var 2) (.bl true)))))), some 7⟩
def F__law_beat : Q.Fn := ⟨4, 8, (.seq (.asg (.var 4) (.lst .nil))
    (.seq (.ite (.cmp .Eq (.var 1) (.lst .nil))
    (.ret (.mov 4))
    .pas)
    (.seq (.forr (.var 5) (.rng1 (.call 24 (.cons (.var 2) (.cons (.int 6) (.cons (.bin .Add (.var 3) (.int 1)) .nil)))))
    (.seq (.asg (.var 6) (.call 28 (.cons (.var 0) (.cons (.var 1) (.cons (.call 123 (.cons (.var 2) (.cons (.var 5) .nil))) .nil)))))
    (.ite (.and (.call 130 (.cons (.var 0) (.cons (.var 1) (.cons (.var 6) .nil)))) (.not (.any (.comp (.call 131 (.cons (.var 1) (.cons (.var 6) (.cons (.var 7) .nil)))) (.var 7) (.var 4) (.bl true)))))
    (.app (.var 4) (.var 6))
    .pas)))
    (.ret (.mov 4))))), none⟩
def F_dressed : Q.Fn := ⟨2, 4, (.seq (.asg (.var 2) (.call 13 (.cons (.var 0) .nil)))
    (.seq (.forr (.var 3) (.var 1)
    (.asg (.var 2) (.call 17 (.cons (.var 0) (.cons (.var 2) (.cons (.var 3) .nil))))))
    (.ret (.mov 2)))), none⟩
def F_wish_holds : Q.Fn := ⟨3, 5, (.seq (.asg (.var 3) (.ix (.var 1) (.ix (.var 2) (.int 1))))
    (.seq (.ite (.cmp .Eq (.ix (.var 2) (.int 0)) (.str [115, 116, 97, 110, 100]))
    (.ret (.cmp .Eq (.mov 3) (.call 61 (.cons (.var 0) (.cons (.ix (.var 2) (.int 2)) .nil)))))
    .pas)
    (.seq (.asg (.var 4) (.ix (.call 53 (.cons (.var 3) .nil)) (.ix (.var 2) (.int 2))))
    (.seq (.ite (.cmp .Eq (.ix (.var 2) (.int 0)) (.str [98, 97, 114, 101]))
    (.ret (.isN (.mov 4)))
    .pas)
    (.ret (.cmp .Eq (.mov 4) (.ix (.var 2) (.int 3)))))))), none⟩
def F_is_shown : Q.Fn := ⟨3, 4, (.ret (.all (.comp (.call 164 (.cons (.var 0) (.cons (.var 1) (.cons (.var 3) .nil)))) (.var 3) (.var 2) (.bl true)))), none⟩
def F_law : Q.Fn := ⟨1, 21, (.seq (.asg (.var 1) (.bin .Add (.int 1) (.call 24 (.cons (.call 122 (.cons (.var 0) (.cons (.int 0) .nil))) (.cons (.int 1) (.cons (.int 6) .nil))))))
    (.seq (.asg (.var 2) (.call 24 (.cons (.call 122 (.cons (.var 0) (.cons (.int 1) .nil))) (.cons (.int 1) (.cons (.int 7) .nil)))))
    (.seq (.asg (.var 3) (.bin .Add (.int 1) (.call 24 (.cons (.call 122 (.cons (.var 0) (.cons (.int 2) .nil))) (.cons (.int 1) (.cons (.int 3) .nil))))))
    (.seq (.asg (.var 4) (.call 26 (.cons (.call 122 (.cons (.var 0) (.cons (.int 3) .nil))) (.cons (.var 1) (.cons (.var 2) .nil)))))
    (.seq (.asg (.var 5) (.new 8 (.cons (.var 1) (.cons (.comp (.lis (.var 6)) (.var 6) (.var 4) (.bl true)) .nil))))
    (.seq (.asg (.var 7) (.call 129 (.cons (.var 3) (.cons (.var 1) .nil))))
    (.seq (.asg (.var 8) (.comp (.lst .nil) (.var 9) (.rng1 (.var 3)) (.bl true)))
    (.seq (.asg (.var 10) (.lst (.cons (.tup (.cons (.call 127 (.cons (.var 7) .nil)) (.cons (.lend 8 (.comp (.lis (.var 6)) (.var 6) (.var 8) (.bl true))) .nil))) .nil)))
    (.seq (.forr (.var 11) (.slc (.var 0) (.int 8) (.int 28))
    (.seq (.asg (.var 12) (.call 132 (.cons (.var 7) (.cons (.var 4) (.cons (.var 11) (.cons (.int 2) .nil))))))
    (.seq (.callM 58 7 (.cons (.var 4) (.cons (.var 12) .nil)))
    (.seq (.callM 160 8 (.cons (.var 12) .nil))
    (.app (.var 10) (.tup (.cons (.call 127 (.cons (.var 7) .nil)) (.cons (.lend 8 (.comp (.lis (.var 6)) (.var 6) (.var 8) (.bl true))) .nil))))))))
    (.seq (.asg (.var 13) (.lst .nil))
    (.seq (.forr (.var 11) (.slc (.var 0) (.int 30) (.int 42))
    (.seq (.asg (.var 14) (.bin .Mult (.call 24 (.cons (.var 11) (.cons (.int 6) (.cons (.int 3) .nil)))) (.call 24 (.cons (.var 11) (.cons (.int 7) (.cons (.min2 (.int 4) (.len (.var 10))) .nil))))))
    (.seq (.asg (.var 15) (.ix (.var 10) (.bin .Sub (.bin .Sub (.len (.var 10)) (.int 1)) (.bin .Mod (.bin .FloorDiv (.var 14) (.int 2)) (.len (.var 10))))))
    (.app (.var 13) (.call 166 (.cons (.call 128 (.cons (.ix (.var 15) (.int 0)) .nil)) (.cons (.ix (.var 15) (.int 1)) (.cons (.var 2) (.cons (.var 11) .nil)))))))))
    (.seq (.asg (.var 16) (.call 127 (.cons (.var 7) .nil)))
    (.seq (.forr (.var 6) (.catT (.lst (.cons (.var 13) (.cons (.lst .nil) (.cons (.slc (.var 13) .nil (.int 1)) .nil)))) (.comp (.lst (.cons (.var 17) .nil)) (.var 17) (.var 13) (.bl true)))
    (.seq (.asg (.var 18) (.lis (.var 6)))
    (.seq (.asg (.var 19) (.call 165 (.cons (.var 5) (.cons (.var 16) (.cons (.var 18) .nil)))))
    (.seq (.asg (.var 20) (.all (.comp (.call 167 (.cons (.var 7) (.cons (.var 8) (.cons (.var 17) .nil)))) (.var 17) (.var 6) (.bl true))))
    (.ite (.or (.not (.isT (.var 19) 1)) (.or (.cmp .NotEq (.var 19) (.var 20)) (.cmp .NotEq (.var 18) (.var 6))))
    (.ret (.bl false))
    .pas)))))
    (.ret (.bl true))))))))))))))), none⟩
def mthK (c m : Nat) : Option Nat := if c = 7 ∧ m = 0 then some 9 else if c = 7 ∧ m = 2 then some 11 else none
def insK (c f : Nat) : Bool := (c == 7 && f == 3) || (c == 7 && f == 4)
def globK (g : Nat) : Option D := if g = 0 then some (.int 6) else none
def pgK (call : Nat → List D → CR) : Pg := ⟨call, globK, fun _ => none, fun _ _ => [], mthK, fun _ _ => false, insK⟩
def call2 (f : Nat) : List D → CR :=  fun _ => .stuck
def P2 : Pg := pgK call2
theorem P2_g0 : P2.glob 0 = some (.int 6) := nr rfl
theorem P2_i7_3 : P2.insF 7 3 = true := nr rfl
theorem P2_i7_4 : P2.insF 7 4 = true := nr rfl
theorem P2_m7_0 : P2.mth 7 0 = some 9 := nr rfl
theorem P2_m7_2 : P2.mth 7 2 = some 11 := nr rfl
def c_seen_in : List D → CR := runFn P2 F_seen_in
def c_is_whole : List D → CR := runFn P2 F_is_whole
def c_Wardrobe_spots : List D → CR := runFn P2 F_Wardrobe_spots
def c__law_draw : List D → CR := runFn P2 F__law_draw
def c__law_mix : List D → CR := runFn P2 F__law_mix
def c__law_part : List D → CR := runFn P2 F__law_part
def c__law_wearer : List D → CR := runFn P2 F__law_wearer
def c__law_above : List D → CR := runFn P2 F__law_above
def c__law_do : List D → CR := runM P2 F__law_do
def c__law_frozen : List D → CR := runFn P2 F__law_frozen
def c__law_thawed : List D → CR := runFn P2 F__law_thawed
def c__law_bare : List D → CR := runFn P2 F__law_bare
def c__law_cross : List D → CR := runFn P2 F__law_cross
def c__law_orders : List D → CR := runM P2 F__law_orders
def c__law_alike : List D → CR := runFn P2 F__law_alike
def call3 (f : Nat) : List D → CR := if f = 53 then c_seen_in else if f = 6 then c_is_whole else if f = 9 then c_Wardrobe_spots else if f = 122 then c__law_draw else if f = 24 then c__law_mix else if f = 123 then c__law_part else if f = 124 then c__law_wearer else if f = 125 then c__law_above else if f = 126 then c__law_do else if f = 127 then c__law_frozen else if f = 128 then c__law_thawed else if f = 129 then c__law_bare else if f = 131 then c__law_cross else if f = 160 then c__law_orders else if f = 168 then c__law_alike else fun _ => .stuck
def P3 : Pg := pgK call3
theorem P3_seen_in : P3.call 53 = c_seen_in := nr rfl
theorem P3_is_whole : P3.call 6 = c_is_whole := nr rfl
theorem P3_Wardrobe_spots : P3.call 9 = c_Wardrobe_spots := nr rfl
theorem P3__law_draw : P3.call 122 = c__law_draw := nr rfl
theorem P3__law_mix : P3.call 24 = c__law_mix := nr rfl
theorem P3__law_part : P3.call 123 = c__law_part := nr rfl
theorem P3__law_wearer : P3.call 124 = c__law_wearer := nr rfl
theorem P3__law_above : P3.call 125 = c__law_above := nr rfl
theorem P3__law_do : P3.call 126 = c__law_do := nr rfl
theorem P3__law_frozen : P3.call 127 = c__law_frozen := nr rfl
theorem P3__law_thawed : P3.call 128 = c__law_thawed := nr rfl
theorem P3__law_bare : P3.call 129 = c__law_bare := nr rfl
theorem P3__law_cross : P3.call 131 = c__law_cross := nr rfl
theorem P3__law_orders : P3.call 160 = c__law_orders := nr rfl
theorem P3__law_alike : P3.call 168 = c__law_alike := nr rfl
theorem P3_g0 : P3.glob 0 = some (.int 6) := nr rfl
theorem P3_i7_3 : P3.insF 7 3 = true := nr rfl
theorem P3_i7_4 : P3.insF 7 4 = true := nr rfl
theorem P3_m7_0 : P3.mth 7 0 = some 9 := nr rfl
theorem P3_m7_2 : P3.mth 7 2 = some 11 := nr rfl
def c_bare_wearing : List D → CR := runFn P3 F_bare_wearing
def c_is_cover : List D → CR := runFn P3 F_is_cover
def c_Wardrobe_covers : List D → CR := runFn P3 F_Wardrobe_covers
def c__law_covers : List D → CR := runFn P3 F__law_covers
def c__law_may : List D → CR := runFn P3 F__law_may
def c__law_deed : List D → CR := runFn P3 F__law_deed
def c__law_done : List D → CR := runM P3 F__law_done
def c__law_wish : List D → CR := runFn P3 F__law_wish
def c__law_holds : List D → CR := runFn P3 F__law_holds
def call4 (f : Nat) : List D → CR := if f = 53 then c_seen_in else if f = 6 then c_is_whole else if f = 9 then c_Wardrobe_spots else if f = 122 then c__law_draw else if f = 24 then c__law_mix else if f = 123 then c__law_part else if f = 124 then c__law_wearer else if f = 125 then c__law_above else if f = 126 then c__law_do else if f = 127 then c__law_frozen else if f = 128 then c__law_thawed else if f = 129 then c__law_bare else if f = 131 then c__law_cross else if f = 160 then c__law_orders else if f = 168 then c__law_alike else if f = 13 then c_bare_wearing else if f = 7 then c_is_cover else if f = 11 then c_Wardrobe_covers else if f = 26 then c__law_covers else if f = 130 then c__law_may else if f = 28 then c__law_deed else if f = 58 then c__law_done else if f = 166 then c__law_wish else if f = 167 then c__law_holds else fun _ => .stuck
def P4 : Pg := pgK call4
theorem P4_seen_in : P4.call 53 = c_seen_in := nr rfl
theorem P4_is_whole : P4.call 6 = c_is_whole := nr rfl
theorem P4_Wardrobe_spots : P4.call 9 = c_Wardrobe_spots := nr rfl
theorem P4__law_draw : P4.call 122 = c__law_draw := nr rfl
theorem P4__law_mix : P4.call 24 = c__law_mix := nr rfl
theorem P4__law_part : P4.call 123 = c__law_part := nr rfl
theorem P4__law_wearer : P4.call 124 = c__law_wearer := nr rfl
theorem P4__law_above : P4.call 125 = c__law_above := nr rfl
theorem P4__law_do : P4.call 126 = c__law_do := nr rfl
theorem P4__law_frozen : P4.call 127 = c__law_frozen := nr rfl
theorem P4__law_thawed : P4.call 128 = c__law_thawed := nr rfl
theorem P4__law_bare : P4.call 129 = c__law_bare := nr rfl
theorem P4__law_cross : P4.call 131 = c__law_cross := nr rfl
theorem P4__law_orders : P4.call 160 = c__law_orders := nr rfl
theorem P4__law_alike : P4.call 168 = c__law_alike := nr rfl
theorem P4_bare_wearing : P4.call 13 = c_bare_wearing := nr rfl
theorem P4_is_cover : P4.call 7 = c_is_cover := nr rfl
theorem P4_Wardrobe_covers : P4.call 11 = c_Wardrobe_covers := nr rfl
theorem P4__law_covers : P4.call 26 = c__law_covers := nr rfl
theorem P4__law_may : P4.call 130 = c__law_may := nr rfl
theorem P4__law_deed : P4.call 28 = c__law_deed := nr rfl
theorem P4__law_done : P4.call 58 = c__law_done := nr rfl
theorem P4__law_wish : P4.call 166 = c__law_wish := nr rfl
theorem P4__law_holds : P4.call 167 = c__law_holds := nr rfl
theorem P4_g0 : P4.glob 0 = some (.int 6) := nr rfl
theorem P4_i7_3 : P4.insF 7 3 = true := nr rfl
theorem P4_i7_4 : P4.insF 7 4 = true := nr rfl
theorem P4_m7_0 : P4.mth 7 0 = some 9 := nr rfl
theorem P4_m7_2 : P4.mth 7 2 = some 11 := nr rfl
def c_put_on : List D → CR := runFn P4 F_put_on
def c_Wardrobe_init : List D → CR := runFn P4 F_Wardrobe_init
def c__law_beat : List D → CR := runFn P4 F__law_beat
def call5 (f : Nat) : List D → CR := if f = 53 then c_seen_in else if f = 6 then c_is_whole else if f = 9 then c_Wardrobe_spots else if f = 122 then c__law_draw else if f = 24 then c__law_mix else if f = 123 then c__law_part else if f = 124 then c__law_wearer else if f = 125 then c__law_above else if f = 126 then c__law_do else if f = 127 then c__law_frozen else if f = 128 then c__law_thawed else if f = 129 then c__law_bare else if f = 131 then c__law_cross else if f = 160 then c__law_orders else if f = 168 then c__law_alike else if f = 13 then c_bare_wearing else if f = 7 then c_is_cover else if f = 11 then c_Wardrobe_covers else if f = 26 then c__law_covers else if f = 130 then c__law_may else if f = 28 then c__law_deed else if f = 58 then c__law_done else if f = 166 then c__law_wish else if f = 167 then c__law_holds else if f = 17 then c_put_on else if f = 8 then c_Wardrobe_init else if f = 132 then c__law_beat else fun _ => .stuck
def P5 : Pg := pgK call5
theorem P5_seen_in : P5.call 53 = c_seen_in := nr rfl
theorem P5_is_whole : P5.call 6 = c_is_whole := nr rfl
theorem P5_Wardrobe_spots : P5.call 9 = c_Wardrobe_spots := nr rfl
theorem P5__law_draw : P5.call 122 = c__law_draw := nr rfl
theorem P5__law_mix : P5.call 24 = c__law_mix := nr rfl
theorem P5__law_part : P5.call 123 = c__law_part := nr rfl
theorem P5__law_wearer : P5.call 124 = c__law_wearer := nr rfl
theorem P5__law_above : P5.call 125 = c__law_above := nr rfl
theorem P5__law_do : P5.call 126 = c__law_do := nr rfl
theorem P5__law_frozen : P5.call 127 = c__law_frozen := nr rfl
theorem P5__law_thawed : P5.call 128 = c__law_thawed := nr rfl
theorem P5__law_bare : P5.call 129 = c__law_bare := nr rfl
theorem P5__law_cross : P5.call 131 = c__law_cross := nr rfl
theorem P5__law_orders : P5.call 160 = c__law_orders := nr rfl
theorem P5__law_alike : P5.call 168 = c__law_alike := nr rfl
theorem P5_bare_wearing : P5.call 13 = c_bare_wearing := nr rfl
theorem P5_is_cover : P5.call 7 = c_is_cover := nr rfl
theorem P5_Wardrobe_covers : P5.call 11 = c_Wardrobe_covers := nr rfl
theorem P5__law_covers : P5.call 26 = c__law_covers := nr rfl
theorem P5__law_may : P5.call 130 = c__law_may := nr rfl
theorem P5__law_deed : P5.call 28 = c__law_deed := nr rfl
theorem P5__law_done : P5.call 58 = c__law_done := nr rfl
theorem P5__law_wish : P5.call 166 = c__law_wish := nr rfl
theorem P5__law_holds : P5.call 167 = c__law_holds := nr rfl
theorem P5_put_on : P5.call 17 = c_put_on := nr rfl
theorem P5_Wardrobe_init : P5.call 8 = c_Wardrobe_init := nr rfl
theorem P5__law_beat : P5.call 132 = c__law_beat := nr rfl
theorem P5_g0 : P5.glob 0 = some (.int 6) := nr rfl
theorem P5_i7_3 : P5.insF 7 3 = true := nr rfl
theorem P5_i7_4 : P5.insF 7 4 = true := nr rfl
theorem P5_m7_0 : P5.mth 7 0 = some 9 := nr rfl
theorem P5_m7_2 : P5.mth 7 2 = some 11 := nr rfl
def c_dressed : List D → CR := runFn P5 F_dressed
def call6 (f : Nat) : List D → CR := if f = 53 then c_seen_in else if f = 6 then c_is_whole else if f = 9 then c_Wardrobe_spots else if f = 122 then c__law_draw else if f = 24 then c__law_mix else if f = 123 then c__law_part else if f = 124 then c__law_wearer else if f = 125 then c__law_above else if f = 126 then c__law_do else if f = 127 then c__law_frozen else if f = 128 then c__law_thawed else if f = 129 then c__law_bare else if f = 131 then c__law_cross else if f = 160 then c__law_orders else if f = 168 then c__law_alike else if f = 13 then c_bare_wearing else if f = 7 then c_is_cover else if f = 11 then c_Wardrobe_covers else if f = 26 then c__law_covers else if f = 130 then c__law_may else if f = 28 then c__law_deed else if f = 58 then c__law_done else if f = 166 then c__law_wish else if f = 167 then c__law_holds else if f = 17 then c_put_on else if f = 8 then c_Wardrobe_init else if f = 132 then c__law_beat else if f = 61 then c_dressed else fun _ => .stuck
def P6 : Pg := pgK call6
theorem P6_seen_in : P6.call 53 = c_seen_in := nr rfl
theorem P6_is_whole : P6.call 6 = c_is_whole := nr rfl
theorem P6_Wardrobe_spots : P6.call 9 = c_Wardrobe_spots := nr rfl
theorem P6__law_draw : P6.call 122 = c__law_draw := nr rfl
theorem P6__law_mix : P6.call 24 = c__law_mix := nr rfl
theorem P6__law_part : P6.call 123 = c__law_part := nr rfl
theorem P6__law_wearer : P6.call 124 = c__law_wearer := nr rfl
theorem P6__law_above : P6.call 125 = c__law_above := nr rfl
theorem P6__law_do : P6.call 126 = c__law_do := nr rfl
theorem P6__law_frozen : P6.call 127 = c__law_frozen := nr rfl
theorem P6__law_thawed : P6.call 128 = c__law_thawed := nr rfl
theorem P6__law_bare : P6.call 129 = c__law_bare := nr rfl
theorem P6__law_cross : P6.call 131 = c__law_cross := nr rfl
theorem P6__law_orders : P6.call 160 = c__law_orders := nr rfl
theorem P6__law_alike : P6.call 168 = c__law_alike := nr rfl
theorem P6_bare_wearing : P6.call 13 = c_bare_wearing := nr rfl
theorem P6_is_cover : P6.call 7 = c_is_cover := nr rfl
theorem P6_Wardrobe_covers : P6.call 11 = c_Wardrobe_covers := nr rfl
theorem P6__law_covers : P6.call 26 = c__law_covers := nr rfl
theorem P6__law_may : P6.call 130 = c__law_may := nr rfl
theorem P6__law_deed : P6.call 28 = c__law_deed := nr rfl
theorem P6__law_done : P6.call 58 = c__law_done := nr rfl
theorem P6__law_wish : P6.call 166 = c__law_wish := nr rfl
theorem P6__law_holds : P6.call 167 = c__law_holds := nr rfl
theorem P6_put_on : P6.call 17 = c_put_on := nr rfl
theorem P6_Wardrobe_init : P6.call 8 = c_Wardrobe_init := nr rfl
theorem P6__law_beat : P6.call 132 = c__law_beat := nr rfl
theorem P6_dressed : P6.call 61 = c_dressed := nr rfl
theorem P6_g0 : P6.glob 0 = some (.int 6) := nr rfl
theorem P6_i7_3 : P6.insF 7 3 = true := nr rfl
theorem P6_i7_4 : P6.insF 7 4 = true := nr rfl
theorem P6_m7_0 : P6.mth 7 0 = some 9 := nr rfl
theorem P6_m7_2 : P6.mth 7 2 = some 11 := nr rfl
def c_wish_holds : List D → CR := runFn P6 F_wish_holds
def call7 (f : Nat) : List D → CR := if f = 53 then c_seen_in else if f = 6 then c_is_whole else if f = 9 then c_Wardrobe_spots else if f = 122 then c__law_draw else if f = 24 then c__law_mix else if f = 123 then c__law_part else if f = 124 then c__law_wearer else if f = 125 then c__law_above else if f = 126 then c__law_do else if f = 127 then c__law_frozen else if f = 128 then c__law_thawed else if f = 129 then c__law_bare else if f = 131 then c__law_cross else if f = 160 then c__law_orders else if f = 168 then c__law_alike else if f = 13 then c_bare_wearing else if f = 7 then c_is_cover else if f = 11 then c_Wardrobe_covers else if f = 26 then c__law_covers else if f = 130 then c__law_may else if f = 28 then c__law_deed else if f = 58 then c__law_done else if f = 166 then c__law_wish else if f = 167 then c__law_holds else if f = 17 then c_put_on else if f = 8 then c_Wardrobe_init else if f = 132 then c__law_beat else if f = 61 then c_dressed else if f = 164 then c_wish_holds else fun _ => .stuck
def P7 : Pg := pgK call7
theorem P7_seen_in : P7.call 53 = c_seen_in := nr rfl
theorem P7_is_whole : P7.call 6 = c_is_whole := nr rfl
theorem P7_Wardrobe_spots : P7.call 9 = c_Wardrobe_spots := nr rfl
theorem P7__law_draw : P7.call 122 = c__law_draw := nr rfl
theorem P7__law_mix : P7.call 24 = c__law_mix := nr rfl
theorem P7__law_part : P7.call 123 = c__law_part := nr rfl
theorem P7__law_wearer : P7.call 124 = c__law_wearer := nr rfl
theorem P7__law_above : P7.call 125 = c__law_above := nr rfl
theorem P7__law_do : P7.call 126 = c__law_do := nr rfl
theorem P7__law_frozen : P7.call 127 = c__law_frozen := nr rfl
theorem P7__law_thawed : P7.call 128 = c__law_thawed := nr rfl
theorem P7__law_bare : P7.call 129 = c__law_bare := nr rfl
theorem P7__law_cross : P7.call 131 = c__law_cross := nr rfl
theorem P7__law_orders : P7.call 160 = c__law_orders := nr rfl
theorem P7__law_alike : P7.call 168 = c__law_alike := nr rfl
theorem P7_bare_wearing : P7.call 13 = c_bare_wearing := nr rfl
theorem P7_is_cover : P7.call 7 = c_is_cover := nr rfl
theorem P7_Wardrobe_covers : P7.call 11 = c_Wardrobe_covers := nr rfl
theorem P7__law_covers : P7.call 26 = c__law_covers := nr rfl
theorem P7__law_may : P7.call 130 = c__law_may := nr rfl
theorem P7__law_deed : P7.call 28 = c__law_deed := nr rfl
theorem P7__law_done : P7.call 58 = c__law_done := nr rfl
theorem P7__law_wish : P7.call 166 = c__law_wish := nr rfl
theorem P7__law_holds : P7.call 167 = c__law_holds := nr rfl
theorem P7_put_on : P7.call 17 = c_put_on := nr rfl
theorem P7_Wardrobe_init : P7.call 8 = c_Wardrobe_init := nr rfl
theorem P7__law_beat : P7.call 132 = c__law_beat := nr rfl
theorem P7_dressed : P7.call 61 = c_dressed := nr rfl
theorem P7_wish_holds : P7.call 164 = c_wish_holds := nr rfl
theorem P7_g0 : P7.glob 0 = some (.int 6) := nr rfl
theorem P7_i7_3 : P7.insF 7 3 = true := nr rfl
theorem P7_i7_4 : P7.insF 7 4 = true := nr rfl
theorem P7_m7_0 : P7.mth 7 0 = some 9 := nr rfl
theorem P7_m7_2 : P7.mth 7 2 = some 11 := nr rfl
def c_is_shown : List D → CR := runFn P7 F_is_shown
def call8 (f : Nat) : List D → CR := if f = 53 then c_seen_in else if f = 6 then c_is_whole else if f = 9 then c_Wardrobe_spots else if f = 122 then c__law_draw else if f = 24 then c__law_mix else if f = 123 then c__law_part else if f = 124 then c__law_wearer else if f = 125 then c__law_above else if f = 126 then c__law_do else if f = 127 then c__law_frozen else if f = 128 then c__law_thawed else if f = 129 then c__law_bare else if f = 131 then c__law_cross else if f = 160 then c__law_orders else if f = 168 then c__law_alike else if f = 13 then c_bare_wearing else if f = 7 then c_is_cover else if f = 11 then c_Wardrobe_covers else if f = 26 then c__law_covers else if f = 130 then c__law_may else if f = 28 then c__law_deed else if f = 58 then c__law_done else if f = 166 then c__law_wish else if f = 167 then c__law_holds else if f = 17 then c_put_on else if f = 8 then c_Wardrobe_init else if f = 132 then c__law_beat else if f = 61 then c_dressed else if f = 164 then c_wish_holds else if f = 165 then c_is_shown else fun _ => .stuck
def P8 : Pg := pgK call8
theorem P8_seen_in : P8.call 53 = c_seen_in := nr rfl
theorem P8_is_whole : P8.call 6 = c_is_whole := nr rfl
theorem P8_Wardrobe_spots : P8.call 9 = c_Wardrobe_spots := nr rfl
theorem P8__law_draw : P8.call 122 = c__law_draw := nr rfl
theorem P8__law_mix : P8.call 24 = c__law_mix := nr rfl
theorem P8__law_part : P8.call 123 = c__law_part := nr rfl
theorem P8__law_wearer : P8.call 124 = c__law_wearer := nr rfl
theorem P8__law_above : P8.call 125 = c__law_above := nr rfl
theorem P8__law_do : P8.call 126 = c__law_do := nr rfl
theorem P8__law_frozen : P8.call 127 = c__law_frozen := nr rfl
theorem P8__law_thawed : P8.call 128 = c__law_thawed := nr rfl
theorem P8__law_bare : P8.call 129 = c__law_bare := nr rfl
theorem P8__law_cross : P8.call 131 = c__law_cross := nr rfl
theorem P8__law_orders : P8.call 160 = c__law_orders := nr rfl
theorem P8__law_alike : P8.call 168 = c__law_alike := nr rfl
theorem P8_bare_wearing : P8.call 13 = c_bare_wearing := nr rfl
theorem P8_is_cover : P8.call 7 = c_is_cover := nr rfl
theorem P8_Wardrobe_covers : P8.call 11 = c_Wardrobe_covers := nr rfl
theorem P8__law_covers : P8.call 26 = c__law_covers := nr rfl
theorem P8__law_may : P8.call 130 = c__law_may := nr rfl
theorem P8__law_deed : P8.call 28 = c__law_deed := nr rfl
theorem P8__law_done : P8.call 58 = c__law_done := nr rfl
theorem P8__law_wish : P8.call 166 = c__law_wish := nr rfl
theorem P8__law_holds : P8.call 167 = c__law_holds := nr rfl
theorem P8_put_on : P8.call 17 = c_put_on := nr rfl
theorem P8_Wardrobe_init : P8.call 8 = c_Wardrobe_init := nr rfl
theorem P8__law_beat : P8.call 132 = c__law_beat := nr rfl
theorem P8_dressed : P8.call 61 = c_dressed := nr rfl
theorem P8_wish_holds : P8.call 164 = c_wish_holds := nr rfl
theorem P8_is_shown : P8.call 165 = c_is_shown := nr rfl
theorem P8_g0 : P8.glob 0 = some (.int 6) := nr rfl
theorem P8_i7_3 : P8.insF 7 3 = true := nr rfl
theorem P8_i7_4 : P8.insF 7 4 = true := nr rfl
theorem P8_m7_0 : P8.mth 7 0 = some 9 := nr rfl
theorem P8_m7_2 : P8.mth 7 2 = some 11 := nr rfl
def c_law : List D → CR := runFn P8 F_law
end K41
end
section
set_option linter.all false
set_option autoImplicit false
set_option maxRecDepth 100000
set_option maxHeartbeats 1000000
namespace K41
open Q
/-! numbers drawn -/
theorem pow10 (n : Nat) (h : n ≤ 60) : bin2 .Pow (.int 10) (.int n) = some (.int ((10 ^ n : Nat) : Int)) := by
  have h1 : (0 : Int) ≤ n := by omega
  have h2 : (n : Int) ≤ 60 := by omega
  simp only [bin2, binOp]
  rw [if_pos (by first | exact ⟨h1, by omega⟩ | (refine ⟨by omega, ?_⟩; first | omega | (constructor <;> omega)))]
  simp
theorem r_draw (ns : List Int) (k : Nat) : c__law_draw [.lst false (ns.map .int), .int k] = .ok (.int (ns.getD k 0)) := by
  have e1 : cut ns (some (k : Int)) (some ((k : Int) + 1)) = (ns.drop k).take 1 := by
    simp only [cut, isIx]
    rw [if_neg (by omega), if_neg (by omega)]
    have e1 : (k : Int).toNat = k := by omega
    have e2 : ((k : Int) + 1).toNat = k + 1 := by omega
    rw [e1, e2]
    by_cases q : k < ns.length
    · rw [show min k ns.length = k by omega, show min (k + 1) ns.length = k + 1 by omega, show k + 1 - k = 1 by omega]
    · rw [show min k ns.length = ns.length by omega, List.drop_length, List.drop_eq_nil_of_le (by omega)]
      simp
  have hs : vw P2 (.slc (.var 0) (.var 1) (.bin .Add (.var 1) (.int 1))) [some (.lst false (ns.map .int)), some (.int k), none] = .ok (.lst true (((ns.drop k).take 1).map .int)) [some (.lst false (ns.map .int)), some (.int k), none] := by
    rw [← e1]
    exact slc_I (by simp [_root_.Q.qs, root, here, seen, seenL, atP, modE, modD, atOwn, fApp, bnd, owns, shas, shrs]; rfl) (by simp [_root_.Q.qs, root, here, seen, seenL, atP, modE, modD, atOwn, fApp, bnd, owns, shas, shrs]) (by simp [_root_.Q.qs, root, here, seen, seenL, atP, modE, modD, atOwn, fApp, bnd, owns, shas, shrs])
  by_cases q : k < ns.length
  · have e2 : (ns.drop k).take 1 = [ns.getD k 0] := by
      rw [List.drop_eq_getElem_cons q, List.getD, List.getElem?_eq_getElem q]; rfl
    rw [e2] at hs
    obtain ⟨v, hv⟩ : ∃ v, v = ns.getD k 0 := ⟨_, rfl⟩
    rw [← hv] at hs ⊢
    have he : cmpOp .Eq (.lst true [.int v]) (.lst true []) = some false := by
      simp [cmpOp, dat, dats, eqv, eqvs]
    have hi : item (.lst true [.int v]) (.int 0) = some (.int v) := rfl
    simp only [List.map_cons, List.map_nil] at hs
    (unfold c__law_draw F__law_draw; refine Eq.trans (_root_.Q.run_of ?_) ?_; focus rfl)
    simp [_root_.Q.qs, root, here, seen, seenL, atP, modE, modD, atOwn, fApp, bnd, owns, shas, shrs, hs, line, he, hi]
  · have e2 : (ns.drop k).take 1 = [] := by rw [List.drop_eq_nil_of_le (by omega)]; rfl
    have e3 : ns.getD k 0 = 0 := by rw [List.getD, List.getElem?_eq_none (by omega)]; rfl
    rw [e2] at hs
    rw [e3]
    have he : cmpOp .Eq (.lst true []) (.lst true []) = some true := by
      simp [cmpOp, dat, dats, eqv, eqvs]
    simp only [List.map_nil] at hs
    (unfold c__law_draw F__law_draw; refine Eq.trans (_root_.Q.run_of ?_) ?_; focus rfl)
    simp [_root_.Q.qs, root, here, seen, seenL, atP, modE, modD, atOwn, fApp, bnd, owns, shas, shrs, hs, line, he]
theorem mixA {k : Nat} (h : k < 8) : ∃ p : Nat, 0 < p ∧ (p : Int).natAbs.log2 < 9000 ∧ item (.lst true [.int 1, .int 10000000, .int 100000000000000, .int 1000000000000000000000, .int 10000000000000000000000000000, .int 100000000000000000000000000000000000, .int 1000000000000000000000000000000000000000000, .int 10000000000000000000000000000000000000000000000000]) (.int k) = some (.int p) := by
  have key : ∀ n : Nat, n ≤ 49 → ((10 ^ n : Nat) : Int).natAbs.log2 < 9000 := fun n hn => by
    rw [Int.natAbs_natCast]
    have h1 : 10 ^ n < 2 ^ 200 := Nat.lt_of_le_of_lt (Nat.pow_le_pow_right (by decide) hn) (by decide : 10 ^ 49 < 2 ^ 200)
    have h2 : 10 ^ n ≠ 0 := Nat.ne_of_gt (Nat.pow_pos (by decide))
    have := (Nat.log2_lt h2).mpr h1
    omega
  have p0 : ∀ n : Nat, 0 < 10 ^ n := fun n => Nat.pow_pos (by decide)
  match k, h with
  | 0, _ => exact ⟨1, by decide, by decide, rfl⟩
  | 1, _ => exact ⟨10 ^ 7, p0 _, key _ (by decide), rfl⟩
  | 2, _ => exact ⟨10 ^ 14, p0 _, key _ (by decide), rfl⟩
  | 3, _ => exact ⟨10 ^ 21, p0 _, key _ (by decide), rfl⟩
  | 4, _ => exact ⟨10 ^ 28, p0 _, key _ (by decide), rfl⟩
  | 5, _ => exact ⟨10 ^ 35, p0 _, key _ (by decide), rfl⟩
  | 6, _ => exact ⟨10 ^ 42, p0 _, key _ (by decide), rfl⟩
  | 7, _ => exact ⟨10 ^ 49, p0 _, key _ (by decide), rfl⟩
theorem mixB {k : Nat} (h : k < 8) : ∃ p : Nat, p < 100000 ∧ item (.lst true [.int 48271, .int 69621, .int 16807, .int 40692, .int 39373, .int 30269, .int 27183, .int 60013]) (.int k) = some (.int p) := by
  match k, h with
  | 0, _ => exact ⟨48271, by decide, rfl⟩
  | 1, _ => exact ⟨69621, by decide, rfl⟩
  | 2, _ => exact ⟨16807, by decide, rfl⟩
  | 3, _ => exact ⟨40692, by decide, rfl⟩
  | 4, _ => exact ⟨39373, by decide, rfl⟩
  | 5, _ => exact ⟨30269, by decide, rfl⟩
  | 6, _ => exact ⟨27183, by decide, rfl⟩
  | 7, _ => exact ⟨60013, by decide, rfl⟩
theorem mixC {k : Nat} (h : k < 8) : ∃ p : Nat, 0 < p ∧ item (.lst true [.int 999983, .int 999979, .int 999961, .int 999959, .int 999953, .int 999931, .int 999917, .int 999907]) (.int k) = some (.int p) := by
  match k, h with
  | 0, _ => exact ⟨999983, by decide, rfl⟩
  | 1, _ => exact ⟨999979, by decide, rfl⟩
  | 2, _ => exact ⟨999961, by decide, rfl⟩
  | 3, _ => exact ⟨999959, by decide, rfl⟩
  | 4, _ => exact ⟨999953, by decide, rfl⟩
  | 5, _ => exact ⟨999931, by decide, rfl⟩
  | 6, _ => exact ⟨999917, by decide, rfl⟩
  | 7, _ => exact ⟨999907, by decide, rfl⟩
theorem nat_of_mod {x : Int} {m : Nat} (hm : 0 < m) : ∃ r : Nat, r < m ∧ x % (m : Int) = r := by
  have h1 := Int.emod_nonneg x (b := (m : Int)) (by omega)
  have h2 := Int.emod_lt_of_pos x (b := (m : Int)) (by omega)
  exact ⟨(x % (m : Int)).toNat, by omega, by omega⟩
theorem r_mix (c : Int) (k m : Nat) (hk : k < 8) (hm : 0 < m) : ∃ r : Nat, r < m ∧ c__law_mix [.int c, .int k, .int m] = .ok (.int r) := by
  have hm' : (0 : Int) < m := by omega
  have q18 : bin2 .Pow (.int 10) (.int 18) = some (.int 1000000000000000000) := pow10 18 (by decide)
  have q7 : bin2 .Pow (.int 10) (.int 7) = some (.int 10000000) := pow10 7 (by decide)
  have q14 : bin2 .Pow (.int 10) (.int 14) = some (.int 100000000000000) := pow10 14 (by decide)
  have q21 : bin2 .Pow (.int 10) (.int 21) = some (.int 1000000000000000000000) := pow10 21 (by decide)
  have q28 : bin2 .Pow (.int 10) (.int 28) = some (.int 10000000000000000000000000000) := pow10 28 (by decide)
  have q35 : bin2 .Pow (.int 10) (.int 35) = some (.int 100000000000000000000000000000000000) := pow10 35 (by decide)
  have q42 : bin2 .Pow (.int 10) (.int 42) = some (.int 1000000000000000000000000000000000000000000) := pow10 42 (by decide)
  have q49 : bin2 .Pow (.int 10) (.int 49) = some (.int 10000000000000000000000000000000000000000000000000) := pow10 49 (by decide)
  by_cases hcond : c % 2 = 1 ∧ c > 1000000000000000000
  · obtain ⟨p, hp0, hpl, hix⟩ := mixA hk
    obtain ⟨r, hr, hr2⟩ := nat_of_mod (x := c / 2 / (p : Int)) hm
    refine ⟨r, hr, ?_⟩
    have h1 := hcond.1
    have h2 : (1000000000000000000 : Int) < c := hcond.2
    have hd := b_divW (i := c / 2) (j := (p : Int)) ⟨by omega, hpl⟩
    (unfold c__law_mix F__law_mix; refine Eq.trans (_root_.Q.run_of ?_) ?_; focus rfl)
    simp [_root_.Q.qs, root, here, seen, seenL, atP, modE, modD, atOwn, fApp, bnd, owns, shas, shrs, h1, h2, q18, q7, q14, q21, q28, q35, q42, q49, line, hix, hd, hm, hm', hr2]
  · obtain ⟨b, hb, hixb⟩ := mixB hk
    obtain ⟨p, hp0, hixp⟩ := mixC hk
    obtain ⟨x, hx, hx2⟩ := nat_of_mod (x := c) (m := 2147483647) (by decide)
    have hx2 : c % 2147483647 = (x : Int) := hx2
    obtain ⟨y, hy, hy2⟩ := nat_of_mod (x := (3 * x * x + b * x + 7907 * (k + 1) : Int)) (m := p) hp0
    obtain ⟨r, hr, hr2⟩ := nat_of_mod (x := (y : Int) / 5) hm
    refine ⟨r, hr, ?_⟩
    have m1 := b_mul (i := 3) (j := (x : Int)) (.inl (by decide))
    have m2 := b_mul (i := 3 * (x : Int)) (j := (x : Int)) (.inr (by omega))
    have m3 := b_mul (i := (b : Int)) (j := (x : Int)) (.inl (by omega))
    have m4 := b_mul (i := 7907) (j := (k : Int) + 1) (.inl (by decide))
    have hp' : (0 : Int) < p := by omega
    (unfold c__law_mix F__law_mix; refine Eq.trans (_root_.Q.run_of ?_) ?_; focus rfl)
    by_cases h1 : c % 2 = 1
    · have h2 : ¬ (1000000000000000000 : Int) < c := fun h => hcond ⟨h1, h⟩
      simp [_root_.Q.qs, root, here, seen, seenL, atP, modE, modD, atOwn, fApp, bnd, owns, shas, shrs, h1, h2, q18, line, hixb, hixp, hx2, m1, m2, m3, m4, hp0, hp', hy2, hm, hm', hr2]
    · simp [_root_.Q.qs, root, here, seen, seenL, atP, modE, modD, atOwn, fApp, bnd, owns, shas, shrs, h1, line, hixb, hixp, hx2, m1, m2, m3, m4, hp0, hp', hy2, hm, hm', hr2]
theorem r_part (c : Int) (k : Nat) (hk : k < 1000) : ∃ v : Int, c__law_part [.int c, .int k] = .ok (.int v) := by
  have q18 : bin2 .Pow (.int 10) (.int 18) = some (.int 1000000000000000000) := pow10 18 (by decide)
  have q15 : bin2 .Pow (.int 10) (.int 15) = some (.int 1000000000000000) := pow10 15 (by decide)
  obtain ⟨T, hT⟩ : ∃ T : Int, T = ((10 ^ 56 : Nat) : Int) := ⟨_, rfl⟩
  have q56 : bin2 .Pow (.int 10) (.int 56) = some (.int T) := by rw [hT]; exact pow10 56 (by decide)
  have m1 := b_mul (i := 976) (j := (k : Int)) (.inl (by decide))
  have m2 := b_mul (i := 976 * (k : Int)) (j := (k : Int)) (.inr (by omega))
  have cond : ∀ b : Bool, (b = true ↔ (c % 2 = 0 ∨ c < 1000000000000000000)) → True := fun _ _ => trivial
  by_cases hc : c % 2 = 0 ∨ c < 1000000000000000000
  · refine ⟨c % 1000000000000000 + 976 * k * k, ?_⟩
    (unfold c__law_part F__law_part; refine Eq.trans (_root_.Q.run_of ?_) ?_; focus rfl)
    by_cases h1 : c % 2 = 0
    · simp [_root_.Q.qs, root, here, seen, seenL, atP, modE, modD, atOwn, fApp, bnd, owns, shas, shrs, h1, q18, q15, m1, m2]
    · have h2 := hc.resolve_left h1
      simp [_root_.Q.qs, root, here, seen, seenL, atP, modE, modD, atOwn, fApp, bnd, owns, shas, shrs, h1, h2, q18, q15, m1, m2]
  · have h1 : ¬ c % 2 = 0 := fun h => hc (.inl h)
    have h2 : ¬ c < 1000000000000000000 := fun h => hc (.inr h)
    have hTp : 0 < T := by rw [hT]; exact Int.natCast_pos.mpr (Nat.pow_pos (by decide))
    have hTl : T.natAbs.log2 < 9000 := by
      rw [hT, Int.natAbs_natCast]
      have := (Nat.log2_lt (n := 10 ^ 56) (k := 200) (by decide)).mpr (by decide)
      omega
    have hdv := fun v : Int => b_divW (i := v) (j := T) ⟨hTp, hTl⟩
    have hrn := rng_nat (n := k) (by omega)
    obtain ⟨e', he, v, a, rfl⟩ := loop_all (P := P2) (tg := .var 3) (b := .asg (.var 2) (.bin .FloorDiv (.var 2) (.bin .Pow (.int 10) (.int 56)))) (φ := fun (i : Nat) => .int (i : Int)) (l := List.range k)
      (fun e => ∃ (v : Int) (a : Option D), e = [some (.int c), some (.int k), some (.int v), a]) (env := [some (.int c), some (.int k), some (.int (c / 2)), none]) ⟨_, _, rfl⟩ (fun i hi e ⟨v, a, ha⟩ => by
      subst ha
      refine ⟨[some (.int c), some (.int k), some (.int (v / T)), some (.int i)], ?_, _, _, rfl⟩
      simp [_root_.Q.qs, root, here, seen, seenL, atP, modE, modD, atOwn, fApp, bnd, owns, shas, shrs, turnL, q56, hdv])
    have m3 := b_mul (i := 2) (j := v) (.inl (by decide))
    refine ⟨2 * v + 1, ?_⟩
    (unfold c__law_part F__law_part; refine Eq.trans (_root_.Q.run_of ?_) ?_; focus rfl)
    simp [_root_.Q.qs, root, here, seen, seenL, atP, modE, modD, atOwn, fApp, bnd, owns, shas, shrs, h1, h2, q18, hrn, he, m3]
end K41
end
section
set_option linter.all false
set_option autoImplicit false
set_option maxRecDepth 100000
set_option maxHeartbeats 1000000
namespace K41
open Q
def covT : St := match nth 1 F__law_covers.body with
  | .forr _ _ b => b
  | _ => .nev
theorem r_law_covers (c : Int) {n m : Nat} (h1 : 1 ≤ n) (h2 : n ≤ 6) (hm : m ≤ 100) : ∃ cs : List (List Nat), cs.length = m ∧ (∀ c ∈ cs, Cov n c) ∧ c__law_covers [.int c, .int n, .int m] = .ok (dC true true cs) := by
  have hr := rng_nat (n := m) (by omega)
  have hrn := rng_nat (n := n) (by omega)
  obtain ⟨e', he, cs, x4, x5, x6, rfl, hl, hC⟩ := loop_map (f := turnL P3 (.var 4) covT) (φ := fun (i : Nat) => .int (i : Int)) (l := List.range m)
    (fun j e => ∃ (cs : List (List Nat)) (x4 x5 x6 : Option D), e = [some (.int c), some (.int n), some (.int m), some (dC true true cs), x4, x5, x6, none] ∧ cs.length = j ∧ ∀ c ∈ cs, Cov n c)
    (env := [some (.int c), some (.int n), some (.int m), some (dC true true []), none, none, none, none]) ⟨[], none, none, none, rfl, rfl, fun _ h => nomatch h⟩ (fun j i e hj ⟨cs, x4, x5, x6, he, hl, hC⟩ => by
    subst he
    have hi : i < m := List.mem_range.mp (List.mem_of_getElem? hj)
    have hj : j < m := by
      have := (List.getElem?_eq_some_iff.mp hj).1
      simpa using this
    obtain ⟨v, hpt⟩ := r_part c i (by omega)
    obtain ⟨q, hq⟩ : ∃ q, q = 2 ^ n - 1 := ⟨_, rfl⟩
    have hix : item (.lst true [.int 1, .int 3, .int 7, .int 15, .int 31, .int 63]) (.int ((n : Int) - 1)) = some (.int (q : Int)) := by
      rw [hq]
      have : n = 1 ∨ n = 2 ∨ n = 3 ∨ n = 4 ∨ n = 5 ∨ n = 6 := by omega
      rcases this with rfl | rfl | rfl | rfl | rfl | rfl <;> rfl
    have hp : 2 ≤ 2 ^ n := by
      have : n = 1 ∨ n = 2 ∨ n = 3 ∨ n = 4 ∨ n = 5 ∨ n = 6 := by omega
      rcases this with rfl | rfl | rfl | rfl | rfl | rfl <;> decide
    obtain ⟨r, r1, m1⟩ := r_mix v 1 q (by decide) (by omega)
    obtain ⟨r2, r3, m2⟩ := r_mix v 4 3 (by decide) (by decide)
    obtain ⟨r5, r6, m5⟩ := r_mix v 5 n (by decide) (by omega)
    have m1 : c__law_mix [.int v, .int 1, .int q] = .ok (.int r) := m1
    have m2 : c__law_mix [.int v, .int 4, .int 3] = .ok (.int r2) := m2
    have m5 : c__law_mix [.int v, .int 5, .int n] = .ok (.int r5) := m5
    obtain ⟨B, hB⟩ : ∃ B, B = 1 + r := ⟨_, rfl⟩
    have hB' : (1 : Int) + (r : Int) = (B : Int) := by omega
    have t0 : ∀ x5 x6, exec P3 (nth 0 covT) [some (.int c), some (.int n), some (.int m), some (dC true true cs), some (.int i), x5, x6, none] = .ok .nx [some (.int c), some (.int n), some (.int m), some (dC true true cs), some (.int i), some (.int v), x6, none] := fun x5 x6 => by
      simp only [nth, covT, F__law_covers]; simp [_root_.Q.qs, root, here, seen, seenL, atP, modE, modD, atOwn, fApp, bnd, owns, shas, shrs, P3__law_part, hpt, ac_no]
    have t1 : ∀ x6, exec P3 (nth 1 covT) [some (.int c), some (.int n), some (.int m), some (dC true true cs), some (.int i), some (.int v), x6, none] = .ok .nx [some (.int c), some (.int n), some (.int m), some (dC true true cs), some (.int i), some (.int v), some (.int B), none] := fun x6 => by
      simp only [nth, covT, F__law_covers]; simp [_root_.Q.qs, root, here, seen, seenL, atP, modE, modD, atOwn, fApp, bnd, owns, shas, shrs, line, hix, P3__law_mix, m1, ac_no, hB']
    obtain ⟨b, hb0, hb1, t2⟩ : ∃ b : Nat, 0 < b ∧ b < 2 ^ n ∧ exec P3 (nth 2 covT) [some (.int c), some (.int n), some (.int m), some (dC true true cs), some (.int i), some (.int v), some (.int B), none] = .ok .nx [some (.int c), some (.int n), some (.int m), some (dC true true cs), some (.int i), some (.int v), some (.int b), none] := by
      by_cases q2 : r2 = 1
      · subst q2
        refine ⟨2 ^ r5, Nat.pow_pos (by decide), Nat.pow_lt_pow_right (by decide) r6, ?_⟩
        have e1 := pow_at (p := r5) (by omega)
        obtain ⟨z, hz⟩ : ∃ z, z = 2 ^ r5 := ⟨_, rfl⟩
        rw [← hz] at e1 ⊢
        simp only [nth, covT, F__law_covers]; simp [_root_.Q.qs, root, here, seen, seenL, atP, modE, modD, atOwn, fApp, bnd, owns, shas, shrs, P3__law_mix, m2, ac_no, line, m5, e1]
      · refine ⟨B, by omega, by omega, ?_⟩
        have q2' : ¬ (r2 : Int) = 1 := by omega
        simp only [nth, covT, F__law_covers]; simp [_root_.Q.qs, root, here, seen, seenL, atP, modE, modD, atOwn, fApp, bnd, owns, shas, shrs, P3__law_mix, m2, ac_no, q2, q2']
    have hcov := cov_filter (n := n) (p := fun p => decide (b / 2 ^ p % 2 = 1)) (by
      obtain ⟨p, p1, p2⟩ := bits_some (n := n) (b := b) ⟨h1, h2⟩ hb0 hb1
      exact ⟨p, p1, by simpa using p2⟩)
    obtain ⟨K, hK⟩ : ∃ K, K = (List.range n).filter fun p => decide (b / 2 ^ p % 2 = 1) := ⟨_, rfl⟩
    rw [← hK] at hcov
    have hcomp : vw P3 (.comp (.var 7) (.var 7) (.rng1 (.var 1)) (.cmp .Eq (.bin .Mod (.bin .FloorDiv (.var 6) (.ix (.lst (.cons (.int 1) (.cons (.int 2) (.cons (.int 4) (.cons (.int 8) (.cons (.int 16) (.cons (.int 32) .nil))))))) (.var 7))) (.int 2)) (.int 1)))
        [some (.int c), some (.int n), some (.int m), some (dC true true cs), some (.int i), some (.int v), some (.int b), none] = .ok (dL true K) [some (.int c), some (.int n), some (.int m), some (dC true true cs), some (.int i), some (.int v), some (.int b), none] := by
      rw [hK]
      refine comp_filt (o := none) (x := .lst true ((List.range n).map fun (i : Nat) => .int (i : Int))) (φ := fun (g : Nat) => .int (g : Int)) (ψ := fun (g : Nat) => .int (g : Int)) rfl (by simp [_root_.Q.qs, root, here, seen, seenL, atP, modE, modD, atOwn, fApp, bnd, owns, shas, shrs, hrn]) els_lst owns_ints (fun p hp => ⟨?_, by simp [_root_.Q.qs, root, here, seen, seenL, atP, modE, modD, atOwn, fApp, bnd, owns, shas, shrs]⟩) (by simp [line]; omega)
      have hp : p < 6 := Nat.lt_of_lt_of_le (List.mem_range.mp hp) h2
      have e1 := pow_at hp
      obtain ⟨z, hz⟩ : ∃ z, z = 2 ^ p := ⟨_, rfl⟩
      have e2 := pow_le hp
      rw [← hz] at e1 e2 ⊢
      have e3 : (0 : Int) < z ∧ (z : Int) < 1073741824 := by omega
      have e4 : ((b : Int) / z % 2 = 1) = (b / z % 2 = 1) := by
        have h3 : ((b / z : Nat) : Int) = (b : Int) / (z : Int) := Int.natCast_ediv b z
        rw [← h3]
        apply propext
        omega
      have e5 := b_div (i := (b : Int)) e3
      simp [_root_.Q.qs, root, here, seen, seenL, atP, modE, modD, atOwn, fApp, bnd, owns, shas, shrs, e1, line, e5, e4]
    have t3 : exec P3 (nth 3 covT) [some (.int c), some (.int n), some (.int m), some (dC true true cs), some (.int i), some (.int v), some (.int b), none] = .ok .nx [some (.int c), some (.int n), some (.int m), some (dC true true (cs ++ [K])), some (.int i), some (.int v), some (.int b), none] := by
      simp only [nth, covT, F__law_covers]
      exact (app_var (i := 3) (d := dL true K) (env' := [some (.int c), some (.int n), some (.int m), some (dC true true cs), some (.int i), some (.int v), some (.int b), none]) rfl (by rw [x_ev, hcomp]; simp [_root_.Q.qs, root, here, seen, seenL, atP, modE, modD, atOwn, fApp, bnd, owns, shas, shrs, own_Lt]) rfl (by simp [line]; omega)).trans (by simp [dC])
    refine ⟨[some (.int c), some (.int n), some (.int m), some (dC true true (cs ++ [K])), some (.int i), some (.int v), some (.int b), none], .inl ?_, cs ++ [K], _, _, _, rfl, by simp [hl], fun c hc => ?_⟩
    · have t1 := t1 x6
      have t0 := t0 x5 x6
      simp only [nth, covT, F__law_covers] at t0 t1 t2 t3
      show (bnd (.var 4) (.int i) _).bind (fun _ env => exec P3 covT env) = _
      have hb : bnd (.var 4) (.int i) [some (.int c), some (.int n), some (.int m), some (dC true true cs), x4, x5, x6, none] = .ok () [some (.int c), some (.int n), some (.int m), some (dC true true cs), some (.int i), x5, x6, none] := rfl
      rw [hb, bindE]
      simp only [covT, nth, F__law_covers]
      rw [seq_nx t0, seq_nx t1, seq_nx t2, t3]
    · rcases List.mem_append.mp hc with q | q
      · exact hC c q
      · rw [List.mem_singleton.mp q]; exact hcov)
  refine ⟨cs, by rw [hl, List.length_range], hC, ?_⟩
  simp only [nth, covT, F__law_covers] at he
  have e0 : dC true true [] = .lst true [] := rfl
  rw [e0] at he
  (unfold c__law_covers F__law_covers; refine Eq.trans (_root_.Q.run_of ?_) ?_; focus rfl); simp [_root_.Q.qs, root, here, seen, seenL, atP, modE, modD, atOwn, fApp, bnd, owns, shas, shrs, hr, he, line]
end K41
end
section
set_option linter.all false
set_option autoImplicit false
set_option maxRecDepth 100000
set_option maxHeartbeats 1000000
namespace K41
open Q
/-- standings as lists -/
def dX (o : Bool) (s : List (List (List Nat))) : D := .lst o (s.map (dC o o))
theorem shr_X (o s) : shr (dX o s) = dX false s := by simp [dX, shr, shrs_map (g := dC false false) (shr_C o o)]
theorem own_Xf (s) : own (dX false s) = false := by simp [dX, own, owns_map own_Cf]
theorem own_Xt (s) : own (dX true s) = true := by simp [dX, own]
theorem sha_Ct (w : List (List Nat)) : sha (dC true true w) = false := by simp [dC, sha, shas_map sha_L]
theorem sha_Xt (s) : sha (dX true s) = false := by simp [dX, sha, shas_map sha_Ct]
theorem len_X (o s) : lenD (dX o s) = some (.int s.length) := by simp [dX, lenD]
theorem item_X {o : Bool} {s : List (List (List Nat))} {i : Nat} {w} (h : s[i]? = some w) : item (dX o s) (.int i) = some (dC o o w) := item_map h
theorem els_X (o s) : els (dX o s) = some (s.map (dC o o)) := rfl
theorem getD_of {α : Type} {l : List α} {i : Nat} {x d : α} (h : l[i]? = some x) : l.getD i d = x := by rw [List.getD, h]; rfl
theorem nodup_at {α : Type} {l : List α} {i j : Nat} {x : α} (h : l.Nodup) (h1 : l[i]? = some x) (h2 : l[j]? = some x) : i = j := by
  obtain ⟨l1, e1⟩ := List.getElem?_eq_some_iff.mp h1
  obtain ⟨l2, e2⟩ := List.getElem?_eq_some_iff.mp h2
  exact (List.getElem_inj h).mp (e1.trans e2.symm)
theorem len_of_lt {m : Nat} : ∀ {o : List Nat}, o.Nodup → (∀ g ∈ o, g < m) → o.length ≤ m := by
  induction m with
  | zero =>
    intro o _ h
    cases o with
    | nil => exact Nat.le_refl _
    | cons a o => exact absurd (h a List.mem_cons_self) (Nat.not_lt_zero _)
  | succ m ih =>
    intro o hn h
    by_cases hm : m ∈ o
    · have h1 := ih (o := o.erase m) (hn.erase m) fun g hg => by
        have h2 := (hn.mem_erase_iff).mp hg
        have := h g h2.2
        omega
      rw [List.length_erase_of_mem hm] at h1
      omega
    · exact Nat.le_succ_of_le (ih hn fun g hg => by
        have h1 := h g hg
        have h2 : g ≠ m := fun e => hm (e ▸ hg)
        omega)
theorem r_law_wearer {s : List (List (List Nat))} (g : Nat) (h : Small s) : c__law_wearer [dX false s, .int g] = .ok (dO (wears s g)) := by
  have hr := rng_nat (n := s.length) (by have := h.len; omega)
  obtain ⟨e', ⟨a, rfl⟩, he⟩ := loop_findM (f := turnL P2 (.var 2) (.ite (.any (.comp (.cmp .In (.var 1) (.var 3)) (.var 3) (.ix (.var 0) (.var 2)) (.bl true))) (.ret (.mov 2)) .pas)) (φ := fun (i : Nat) => D.int (i : Int)) (l := List.range s.length)
    (fun e => ∃ a, e = [some (dX false s), some (.int g), a, none]) (p := fun i => if hasG (s.getD i []) g then some (.int (i : Nat)) else none) (env := [some (dX false s), some (.int g), none, none]) ⟨_, rfl⟩ (fun i hi e ⟨a, ha⟩ => by
      subst ha
      have hi : i < s.length := List.mem_range.mp hi
      obtain ⟨w, hw⟩ : ∃ w, s[i]? = some w := ⟨_, List.getElem?_eq_getElem hi⟩
      have hm := List.mem_of_getElem? hw
      have hc : vw P2 (.comp (.cmp .In (.var 1) (.var 3)) (.var 3) (.ix (.var 0) (.var 2)) (.bl true)) [some (dX false s), some (.int g), some (.int i), none] = .ok (.lst true (w.map fun r => .bl (decide (g ∈ r)))) [some (dX false s), some (.int g), some (.int i), none] :=
        comp_map (o := none) (x := dC false false w) (φ := dL false) rfl (by simp [_root_.Q.qs, root, here, seen, seenL, atP, modE, modD, atOwn, fApp, bnd, owns, shas, shrs, item_X hw]) (els_C ..) (owns_map own_Lf) (fun r _ => by simp [_root_.Q.qs, root, here, seen, seenL, atP, modE, modD, atOwn, fApp, bnd, owns, shas, shrs, in_L]) (Nat.le_trans (Nat.le_of_lt (h.wid w hm)) (by decide))
      have hg : s.getD i [] = w := by rw [List.getD, hw]; rfl
      rw [hg]
      by_cases hh : hasG w g = true
      · rw [if_pos hh]
        refine ⟨[some (dX false s), some (.int g), none, none], ⟨_, rfl⟩, ?_⟩
        have hh : (w.any fun r => decide (g ∈ r)) = true := hh
        simp [_root_.Q.qs, root, here, seen, seenL, atP, modE, modD, atOwn, fApp, bnd, owns, shas, shrs, turnL, hc, anyD_map, hh]
      · rw [if_neg hh]
        refine ⟨[some (dX false s), some (.int g), some (.int i), none], ⟨_, rfl⟩, .inl ?_⟩
        have hh : (w.any fun r => decide (g ∈ r)) = false := by simpa [hasG] using hh
        simp [_root_.Q.qs, root, here, seen, seenL, atP, modE, modD, atOwn, fApp, bnd, owns, shas, shrs, turnL, hc, anyD_map, hh])
  rw [wears_D] at he
  cases q : wears s g with
  | some i =>
    rw [q] at he
    simp only [Option.map_some] at he
    (unfold c__law_wearer F__law_wearer; refine Eq.trans (_root_.Q.run_of ?_) ?_; focus rfl); simp [_root_.Q.qs, root, here, seen, seenL, atP, modE, modD, atOwn, fApp, bnd, owns, shas, shrs, len_X, hr, he, dO]
  | none =>
    rw [q] at he
    simp only [Option.map_none] at he
    (unfold c__law_wearer F__law_wearer; refine Eq.trans (_root_.Q.run_of ?_) ?_; focus rfl); simp [_root_.Q.qs, root, here, seen, seenL, atP, modE, modD, atOwn, fApp, bnd, owns, shas, shrs, len_X, hr, he, dO]
def ovs (w : List (List Nat)) (c : List Nat) (g : Nat) : List Nat := c.filterMap fun k => overR (w.getD k []) g
theorem mem_ovs {w c g x} : x ∈ ovs w c g ↔ x ∈ nextL w c g := by
  rw [mem_nextL, ovs, List.mem_filterMap]
theorem item_lastL {o : Bool} {r : List Nat} {x : Nat} (h : r.getLast? = some x) : item (dL o r) (.int (-1)) = some (.int x) := item_last h
def abB : St := match nth 1 F__law_above.body with
  | .forr _ _ b => b
  | _ => .pas
theorem lp_ab {s : List (List (List Nat))} {C : D} {p g : Nat} {w : List (List Nat)} (hw : s[p]? = some w) : ∀ (c fs : List Nat) (a b : Option D), (∀ k ∈ c, ∃ r, w[k]? = some r ∧ g ∈ r ∧ r.Nodup) → fs.length + c.length < 1000 →
    ∃ a' b', loop (turnL P2 (.var 5) abB) (c.map fun (k : Nat) => .int (k : Int)) [some (dX false s), some C, some (.int p), some (.int g), some (dL true fs), a, b] = .ok .nx [some (dX false s), some C, some (.int p), some (.int g), some (dL true (fs ++ ovs w c g)), a', b']
  | [], fs, a, b, _, _ => ⟨a, b, by simp [ovs]; rfl⟩
  | k :: c, fs, a, b, h, hl => by
    obtain ⟨r, hr, hg, hn⟩ := h k List.mem_cons_self
    rw [List.length_cons] at hl
    have hgd : w.getD k [] = r := getD_of hr
    have hol : (overR r g).toList.length ≤ 1 := by cases overR r g <;> simp
    obtain ⟨a', b', ih⟩ := lp_ab (C := C) hw c (fs ++ (overR r g).toList) (some (.int k)) (some (dL false r)) (fun k hk => h k (List.mem_cons_of_mem _ hk)) (by simp; omega)
    refine ⟨a', b', ?_⟩
    have hov : ovs w (k :: c) g = (overR r g).toList ++ ovs w c g := by
      simp only [ovs, List.filterMap_cons, hgd]
      cases overR r g <;> rfl
    rw [hov, ← List.append_assoc]
    have hix := idx_L (o := false) hg
    have hxl : r.idxOf g < r.length := List.idxOf_lt_length_of_mem hg
    have hgx : r[r.idxOf g]? = some g := by rw [List.getElem?_eq_getElem hxl, List.getElem_idxOf]
    have hrne : r ≠ [] := List.ne_nil_of_mem hg
    obtain ⟨x, hx⟩ : ∃ x, r.getLast? = some x := ⟨_, List.getLast?_eq_some_getLast hrne⟩
    have hil := item_lastL (o := false) hx
    have hxe : x = g ↔ overR r g = none := by
      have hlx : r[r.length - 1]? = some x := by rw [← List.getLast?_eq_getElem?]; exact hx
      rw [overR, List.getElem?_eq_none_iff]
      constructor
      · intro e
        subst e
        have := nodup_at hn hlx hgx
        omega
      · intro e
        have : r.idxOf g = r.length - 1 := by omega
        rw [this, hlx] at hgx
        exact Option.some.inj hgx
    have ht : turnL P2 (.var 5) abB (.int k) [some (dX false s), some C, some (.int p), some (.int g), some (dL true fs), a, b] = .ok .nx [some (dX false s), some C, some (.int p), some (.int g), some (dL true (fs ++ (overR r g).toList)), some (.int k), some (dL false r)] := by
      cases ho : overR r g with
      | none =>
        have hxg : x = g := hxe.mpr ho
        have hne : cmpOp .NotEq (.int x) (.int g) = some false := by rw [hxg]; simp [cmpOp, dat, eqv, isDc]
        simp only [Option.toList_none, List.append_nil]
        simp only [abB, nth, F__law_above]
        obtain ⟨F, hF⟩ : ∃ F, F = dL true fs := ⟨_, rfl⟩
        rw [← hF]
        simp [_root_.Q.qs, root, here, seen, seenL, atP, modE, modD, atOwn, fApp, bnd, owns, shas, shrs, turnL, item_X hw, item_C hr, own_Lf, hil, hxg]
      | some y =>
        have hxg : ¬ x = g := fun e => by rw [hxe.mp e] at ho; cases ho
        have hxg' : ¬ (x : Int) = (g : Int) := by omega
        have hy : r[r.idxOf g + 1]? = some y := ho
        have hiy := item_L (o := false) hy
        obtain ⟨j, hj⟩ : ∃ j, j = r.idxOf g := ⟨_, rfl⟩
        rw [← hj] at hix hiy
        have e1 : ((j + 1 : Nat) : Int) = (j : Int) + 1 := by omega
        rw [e1] at hiy
        have ha : exec P2 (.app (.var 4) (.ix (.var 6) (.bin .Add (.idx (.var 6) (.var 3)) (.int 1)))) [some (dX false s), some C, some (.int p), some (.int g), some (dL true fs), some (.int k), some (dL false r)] = .ok .nx [some (dX false s), some C, some (.int p), some (.int g), some (dL true (fs ++ [y])), some (.int k), some (dL false r)] :=
          (app_var (i := 4) (env' := [some (dX false s), some C, some (.int p), some (.int g), some (dL true fs), some (.int k), some (dL false r)]) (d := .int y) rfl (by simp [_root_.Q.qs, root, here, seen, seenL, atP, modE, modD, atOwn, fApp, bnd, owns, shas, shrs, els_L, hix, hiy]) rfl (by simp [line]; omega)).trans (by simp [dL])
        simp only [Option.toList_some]
        simp only [abB, nth, F__law_above]
        simp [_root_.Q.qs, root, here, seen, seenL, atP, modE, modD, atOwn, fApp, bnd, owns, shas, shrs, turnL, item_X hw, item_C hr, own_Lf, hil, hxg, hxg', ha]
    rw [List.map_cons]
    simp only [loop, ht, bindE]
    rw [ih]
theorem ovs_len {w : List (List Nat)} {c : List Nat} {g : Nat} : (ovs w c g).length ≤ c.length := List.length_filterMap_le _ _
theorem ovs_nil {w : List (List Nat)} {c : List Nat} {g : Nat} : ovs w c g = [] ↔ nextL w c g = [] := by
  rw [List.eq_nil_iff_forall_not_mem, List.eq_nil_iff_forall_not_mem]
  exact ⟨fun h x hx => h x (mem_ovs.mpr hx), fun h x hx => h x (mem_ovs.mp hx)⟩
theorem r_law_above {s : List (List (List Nat))} {cs : List (List Nat)} {p g : Nat} {w : List (List Nat)} {c : List Nat} (hw : s[p]? = some w) (hc : cs[g]? = some c) (h : ∀ k ∈ c, ∃ r, w[k]? = some r ∧ g ∈ r ∧ r.Nodup) (hl : c.length < 900) :
    c__law_above [dX false s, dC false false cs, .int p, .int g] = .ok (dL true (ovs w c g)) := by
  obtain ⟨a, b, lp⟩ := lp_ab (C := dC false false cs) hw c [] none none h (by simp; omega)
  rw [List.nil_append] at lp
  have lp2 : loop (turnL P2 (.var 5) abB) (c.map fun (k : Nat) => .int (k : Int)) [some (dX false s), some (dC false false cs), some (.int p), some (.int g), some (.lst true []), none, none] = _ := lp
  simp only [abB, nth, F__law_above] at lp2
  (unfold c__law_above F__law_above; refine Eq.trans (_root_.Q.run_of ?_) ?_; focus rfl)
  simp [_root_.Q.qs, root, here, seen, seenL, atP, modE, modD, atOwn, fApp, bnd, owns, shas, shrs, line, item_C hc, els_L, shr_L, own_Lf, lp2, own_Lt]
end K41
end
section
set_option linter.all false
set_option autoImplicit false
set_option maxRecDepth 100000
set_option maxHeartbeats 1000000
namespace K41
open Q
def mayB (cs : List (List Nat)) (s : List (List (List Nat))) (d : Deed) : Bool :=
  if d.2.1 then (wears s d.2.2).isNone else decide (wears s d.2.2 = some d.1) && decide (nextL (s.getD d.1 []) (cs.getD d.2.2 []) d.2.2 = [])
def crossB (cs : List (List Nat)) (d e : Deed) : Bool := decide (d.2.2 = e.2.2) || (decide (d.1 = e.1) && (cs.getD d.2.2 []).any fun k => decide (k ∈ cs.getD e.2.2 []))
theorem eq_dO (o : Option Nat) (p : Nat) : cmpOp .Eq (dO o) (.int p) = some (decide (o = some p)) := by
  cases o with
  | none => simp [dO, cmpOp, dat, eqv]
  | some q =>
    simp only [dO, cmpOp, dat, eqv_int, Bool.and_self, if_true]
    congr 1
    simp
theorem isN_dO (o : Option Nat) : isND (dO o) = .bl o.isNone := by cases o <;> rfl
section
variable {n t : Nat} {cs : List (List Nat)} {s : List (List (List Nat))}
theorem r_law_may {d : Deed} (hI : Inv n t cs s) (hS : Small s) (hv : ∀ c ∈ cs, Cov n c) (hn : n ≤ 6) (hg : d.2.2 < cs.length) : c__law_may [dX false s, dC false false cs, dD d] = .ok (.bl (mayB cs s d)) := by
  obtain ⟨p, on, g⟩ := d
  have hg : g < cs.length := hg
  obtain ⟨c, hc⟩ : ∃ c, cs[g]? = some c := ⟨_, List.getElem?_eq_getElem hg⟩
  have hcv := hv c (List.mem_of_getElem? hc)
  have hcl := hcv.len
  have hgd : cs.getD g [] = c := getD_of hc
  have hw := r_law_wearer g hS
  have s0 : exec P3 (nth 0 F__law_may.body) [some (dX false s), some (dC false false cs), some (dD (p, on, g)), none, none, none] = .ok .nx [some (dX false s), some (dC false false cs), some (dD (p, on, g)), some (.int p), some (.str (word on)), some (.int g)] := by
    simp only [nth, F__law_may, dD]; simp [_root_.Q.qs, root, here, seen, seenL, atP, modE, modD, atOwn, fApp, bnd, owns, shas, shrs]
  obtain ⟨O, hO⟩ : ∃ O, O = wears s g := ⟨_, rfl⟩
  rw [← hO] at hw
  have hso : sha (dO O) = false := by cases O <;> rfl
  have hoo : own (dO O) = false := by cases O <;> rfl
  have h1 := eq_dO O p
  have h2 := isN_dO O
  obtain ⟨XO, hXO⟩ : ∃ XO, XO = dO O := ⟨_, rfl⟩
  rw [← hXO] at hw hso hoo h1 h2
  cases on with
  | true =>
    have s1 : ∃ e, exec P3 (nth 1 F__law_may.body) [some (dX false s), some (dC false false cs), some (dD (p, true, g)), some (.int p), some (.str (word true)), some (.int g)] = .ok (.ret (.bl O.isNone)) e := by
      refine ⟨[some (dX false s), some (dC false false cs), some (dD (p, true, g)), some (.int p), some (.str (word true)), none], ?_⟩
      simp only [nth, F__law_may, word, if_true]
      simp [_root_.Q.qs, root, here, seen, seenL, atP, modE, modD, atOwn, fApp, bnd, owns, shas, shrs, c_eqs, P3__law_wearer, shr_X, own_Xf, hw, ac_ok, hso, h2]
    obtain ⟨e, s1⟩ := s1
    simp only [nth, F__law_may] at s0 s1
    have : mayB cs s (p, true, g) = O.isNone := by rw [hO]; rfl
    rw [this]
    (unfold c__law_may F__law_may; refine Eq.trans (_root_.Q.run_of ?_) ?_; focus rfl)
    show outR (exec P3 _ [some (dX false s), some (dC false false cs), some (dD (p, true, g)), none, none, none]) = _
    rw [seq_nx s0, x_seq, s1]; rfl
  | false =>
    have s1 : exec P3 (nth 1 F__law_may.body) [some (dX false s), some (dC false false cs), some (dD (p, false, g)), some (.int p), some (.str (word false)), some (.int g)] = .ok .nx [some (dX false s), some (dC false false cs), some (dD (p, false, g)), some (.int p), some (.str (word false)), some (.int g)] := by
      simp only [nth, F__law_may, word]
      simp [_root_.Q.qs, root, here, seen, seenL, atP, modE, modD, atOwn, fApp, bnd, owns, shas, shrs, c_eqs]
    have s2 : exec P3 (nth 2 F__law_may.body) [some (dX false s), some (dC false false cs), some (dD (p, false, g)), some (.int p), some (.str (word false)), some (.int g)] = .ok (.ret (.bl (mayB cs s (p, false, g)))) [some (dX false s), some (dC false false cs), some (dD (p, false, g)), some (.int p), some (.str (word false)), some (.int g)] := by
      by_cases q : O = some p
      · obtain ⟨w, hwp, hwg⟩ := wears_some (hO.symm.trans q)
        have hab := r_law_above (p := p) hwp hc (fun k hk => by
          obtain ⟨r, hr, hgr⟩ := hI.whole w (List.mem_of_getElem? hwp) g c hwg hc k hk
          exact ⟨r, hr, hgr, hI.nodup w (List.mem_of_getElem? hwp) r (List.mem_of_getElem? hr)⟩) (by omega)
        have hgw : s.getD p [] = w := getD_of hwp
        have hm : mayB cs s (p, false, g) = decide (ovs w c g = []) := by
          simp only [mayB, ← hO, q, hgw, hgd, decide_true, Bool.true_and, ovs_nil]
          rfl
        have heq := eq_Ln true true (ovs w c g)
        rw [decide_eq_true q] at h1
        rw [hm]
        obtain ⟨V, hV⟩ : ∃ V, V = ovs w c g := ⟨_, rfl⟩
        rw [← hV] at hab heq ⊢
        simp only [nth, F__law_may]
        simp [_root_.Q.qs, root, here, seen, seenL, atP, modE, modD, atOwn, fApp, bnd, owns, shas, shrs, P3__law_wearer, shr_X, own_Xf, hw, ac_ok, hso, h1, P3__law_above, shr_C, own_Cf, hab, sha_L, heq, line]
      · have hm : mayB cs s (p, false, g) = false := by
          simp only [mayB, ← hO, decide_eq_false q, Bool.false_and]
          rfl
        rw [decide_eq_false q] at h1
        rw [hm]
        simp only [nth, F__law_may]
        simp [_root_.Q.qs, root, here, seen, seenL, atP, modE, modD, atOwn, fApp, bnd, owns, shas, shrs, P3__law_wearer, shr_X, own_Xf, hw, ac_ok, hso, h1]
    simp only [nth, F__law_may] at s0 s1 s2
    (unfold c__law_may F__law_may; refine Eq.trans (_root_.Q.run_of ?_) ?_; focus rfl)
    show outR (exec P3 _ [some (dX false s), some (dC false false cs), some (dD (p, false, g)), none, none, none]) = _
    rw [seq_nx s0, seq_nx s1, s2, out_ret]
theorem r_law_cross {d e : Deed} (h1 : d.2.2 < cs.length) (h2 : e.2.2 < cs.length) (hl : ∀ c ∈ cs, c.length < 1000) : c__law_cross [dC false false cs, dD d, dD e] = .ok (.bl (crossB cs d e)) := by
  obtain ⟨p, on, g⟩ := d
  obtain ⟨p', on', g'⟩ := e
  have h1 : g < cs.length := h1
  have h2 : g' < cs.length := h2
  obtain ⟨c, hc⟩ : ∃ c, cs[g]? = some c := ⟨_, List.getElem?_eq_getElem h1⟩
  obtain ⟨c', hc'⟩ : ∃ c, cs[g']? = some c := ⟨_, List.getElem?_eq_getElem h2⟩
  have hcl := hl c (List.mem_of_getElem? hc)
  have hx : crossB cs (p, on, g) (p', on', g') = (decide (g = g') || (decide (p = p') && c.any fun k => decide (k ∈ c'))) := by
    simp only [crossB, getD_of hc, getD_of hc']
  rw [hx]
  have i0 : ∀ q o f, item (dD (q, o, f)) (.int 0) = some (.int q) := fun _ _ _ => rfl
  have i2 : ∀ q o f, item (dD (q, o, f)) (.int 2) = some (.int f) := fun _ _ _ => rfl
  have hcm := comp_map (P := P2) (i := 3) (elt := .cmp .In (.var 3) (.ix (.var 0) (.ix (.var 2) (.int 2)))) (it := .ix (.var 0) (.ix (.var 1) (.int 2))) (env := [some (dC false false cs), some (dD (p, on, g)), some (dD (p', on', g')), none]) (o := none) (x := dL false c) (φ := fun (g : Nat) => .int (g : Int)) (ψ := fun k => .bl (decide (k ∈ c'))) rfl (by simp [_root_.Q.qs, root, here, seen, seenL, atP, modE, modD, atOwn, fApp, bnd, owns, shas, shrs, i2, item_C hc]) (els_L ..) owns_ints (fun k _ => by simp [_root_.Q.qs, root, here, seen, seenL, atP, modE, modD, atOwn, fApp, bnd, owns, shas, shrs, i2, item_C hc', in_L]) (by simp [line]; omega)
  have hany := anyD_map (f := fun k => decide (k ∈ c')) (l := c) (o := true)
  obtain ⟨A, hA⟩ : ∃ A, A = c.any fun k => decide (k ∈ c') := ⟨_, rfl⟩
  obtain ⟨M, hM⟩ : ∃ M, M = D.lst true (c.map fun k => D.bl (decide (k ∈ c'))) := ⟨_, rfl⟩
  rw [← hA, ← hM] at hany
  rw [← hM] at hcm
  rw [← hA]
  by_cases q1 : g = g'
  · subst q1
    (unfold c__law_cross F__law_cross; refine Eq.trans (_root_.Q.run_of ?_) ?_; focus rfl)
    simp [_root_.Q.qs, root, here, seen, seenL, atP, modE, modD, atOwn, fApp, bnd, owns, shas, shrs, i2]
  · have q1' : ¬ (g : Int) = (g' : Int) := by omega
    by_cases q2 : p = p'
    · subst q2
      (unfold c__law_cross F__law_cross; refine Eq.trans (_root_.Q.run_of ?_) ?_; focus rfl)
      simp [_root_.Q.qs, root, here, seen, seenL, atP, modE, modD, atOwn, fApp, bnd, owns, shas, shrs, i2, i0, q1, q1', hcm, hany]
    · have q2' : ¬ (p : Int) = (p' : Int) := by omega
      (unfold c__law_cross F__law_cross; refine Eq.trans (_root_.Q.run_of ?_) ?_; focus rfl)
      simp [_root_.Q.qs, root, here, seen, seenL, atP, modE, modD, atOwn, fApp, bnd, owns, shas, shrs, i2, i0, q1, q1', q2, q2']
theorem r_law_deed (z : Int) (hS : Small s) (h1 : 1 ≤ s.length) (hc : 1 ≤ cs.length) : ∃ d : Deed, d.1 < s.length ∧ d.2.2 < cs.length ∧ c__law_deed [dX false s, dC false false cs, .int z] = .ok (dD d) := by
  obtain ⟨g, hg, m1⟩ := r_mix z 3 cs.length (by decide) (by omega)
  have m1 : c__law_mix [.int z, .int 3, .int cs.length] = .ok (.int g) := m1
  obtain ⟨p, hp, m2⟩ := r_mix z 2 s.length (by decide) (by omega)
  have m2 : c__law_mix [.int z, .int 2, .int s.length] = .ok (.int p) := m2
  have hw := r_law_wearer g hS
  cases q : wears s g with
  | none =>
    rw [q] at hw
    simp only [dO] at hw
    refine ⟨(p, true, g), hp, hg, ?_⟩
    simp only [dD, word, if_true]
    (unfold c__law_deed F__law_deed; refine Eq.trans (_root_.Q.run_of ?_) ?_; focus rfl)
    simp [_root_.Q.qs, root, here, seen, seenL, atP, modE, modD, atOwn, fApp, bnd, owns, shas, shrs, len_C, P3__law_mix, m1, ac_no, P3__law_wearer, shr_X, own_Xf, hw, len_X, m2, line]
  | some i =>
    rw [q] at hw
    simp only [dO] at hw
    obtain ⟨w, hwi, _⟩ := wears_some q
    refine ⟨(i, false, g), (List.getElem?_eq_some_iff.mp hwi).1, hg, ?_⟩
    simp only [dD, word]
    (unfold c__law_deed F__law_deed; refine Eq.trans (_root_.Q.run_of ?_) ?_; focus rfl)
    simp [_root_.Q.qs, root, here, seen, seenL, atP, modE, modD, atOwn, fApp, bnd, owns, shas, shrs, len_C, P3__law_mix, m1, ac_no, P3__law_wearer, shr_X, own_Xf, hw, line]
end
end K41
end
section
set_option linter.all false
set_option autoImplicit false
set_option maxRecDepth 100000
set_option maxHeartbeats 1000000
namespace K41
open Q
/-- a beat that may be done -/
structure Beat (cs : List (List Nat)) (s : List (List (List Nat))) (ds : List Deed) : Prop where
  ok : ∀ d ∈ ds, d.1 < s.length ∧ d.2.2 < cs.length ∧ mayB cs s d = true
  apart : ds.Pairwise fun d e => crossB cs e d = false
def btB : St := match nth 2 F__law_beat.body with
  | .forr _ _ b => b
  | _ => .pas
theorem own_D' (d : Deed) : own (dD d) = false := own_D d
theorem app_own {P : Pg} {env : Env} {i : Nat} {xs : List D} {d : D} {e : Ex} (h : env[i]? = some (some (.lst true xs))) (he : ev P e env = .ok d env) (hl : xs.length < line) : exec P (.app (.var i) e) env = .ok .nx (env.set i (some (.lst true (xs ++ [d])))) :=
  app_var h he h hl
section
variable {n t : Nat} {cs : List (List Nat)} {s : List (List (List Nat))}
theorem r_law_beat (cell : Int) (most : Nat) (hI : Inv n t cs s) (hS : Small s) (hv : ∀ c ∈ cs, Cov n c) (hn : n ≤ 6) (h1 : 1 ≤ s.length) (hm : most ≤ 100) : ∃ ds : List Deed, Beat cs s ds ∧ ds.length ≤ most ∧ c__law_beat [dX false s, dC false false cs, .int cell, .int most] = .ok (.lst true (ds.map dD)) := by
  by_cases hcs : cs = []
  · subst hcs
    refine ⟨[], ⟨fun _ h => (nomatch h), List.Pairwise.nil⟩, by simp, ?_⟩
    have he : cmpOp .Eq (dC false false []) (.lst true []) = some true := by simp [cmpOp, dC, dat, dats, eqv, eqvs]
    (unfold c__law_beat F__law_beat; refine Eq.trans (_root_.Q.run_of ?_) ?_; focus rfl)
    simp [_root_.Q.qs, root, here, seen, seenL, atP, modE, modD, atOwn, fApp, bnd, owns, shas, shrs, line, he]
  · have hc1 : 1 ≤ cs.length := List.length_pos_iff.mpr hcs
    obtain ⟨k, hk, m1⟩ := r_mix cell 6 (most + 1) (by decide) (by omega)
    have m1 : c__law_mix [.int cell, .int 6, .int ((most : Int) + 1)] = .ok (.int k) := by
      have : ((most + 1 : Nat) : Int) = (most : Int) + 1 := by omega
      rw [this] at m1; exact m1
    have hr := rng_nat (n := k) (by omega)
    have hne : cmpOp .Eq (dC false false cs) (.lst true []) = some false := by
      cases cs with
      | nil => exact absurd rfl hcs
      | cons a b =>
        have h1 : dat 60 (dC false false (a :: b)) = true := by
          have : dats 59 ((a :: b).map (dL false)) = true := dats_map fun c => by simp [dL, dat, dats_ints]
          simp only [dC, dat]
          simpa using this
        have h2 : dat 60 (.lst true []) = true := by simp [dat, dats]
        have h3 : eqv (dC false false (a :: b)) (.lst true []) = false := by simp [dC, eqv, eqvs]
        simp only [cmpOp, h1, h2, h3, Bool.and_self, if_true]
    obtain ⟨e', he, ds, x5, x6, rfl, hl, hB⟩ := loop_map (f := turnL P4 (.var 5) btB) (φ := fun (i : Nat) => .int (i : Int)) (l := List.range k)
      (fun j e => ∃ (ds : List Deed) (x5 x6 : Option D), e = [some (dX false s), some (dC false false cs), some (.int cell), some (.int most), some (.lst true (ds.map dD)), x5, x6, none] ∧ ds.length ≤ j ∧ Beat cs s ds)
      (env := [some (dX false s), some (dC false false cs), some (.int cell), some (.int most), some (.lst true ([].map dD)), none, none, none]) ⟨[], none, none, rfl, Nat.le_refl _, ⟨fun _ h => (nomatch h), List.Pairwise.nil⟩⟩ (fun j i e hj ⟨ds, x5, x6, he, hl, hB⟩ => by
      subst he
      have hi : i < k := List.mem_range.mp (List.mem_of_getElem? hj)
      have hj : j < k := by
        have := (List.getElem?_eq_some_iff.mp hj).1
        simpa using this
      obtain ⟨v, hp⟩ := r_part cell i (by omega)
      obtain ⟨d, hd1, hd2, hdd⟩ := r_law_deed (cs := cs) v hS h1 hc1
      have hmy := r_law_may hI hS hv hn hd2
      have t0 : exec P4 (nth 0 btB) [some (dX false s), some (dC false false cs), some (.int cell), some (.int most), some (.lst true (ds.map dD)), some (.int i), x6, none] = .ok .nx [some (dX false s), some (dC false false cs), some (.int cell), some (.int most), some (.lst true (ds.map dD)), some (.int i), some (dD d), none] := by
        simp only [nth, btB, F__law_beat]; simp [_root_.Q.qs, root, here, seen, seenL, atP, modE, modD, atOwn, fApp, bnd, owns, shas, shrs, shr_X, own_Xf, shr_C, own_Cf, P4__law_part, hp, ac_no, P4__law_deed, hdd, own_D]
      have hcm := comp_map (P := P4) (i := 7) (elt := .call 131 (.cons (.var 1) (.cons (.var 6) (.cons (.var 7) .nil)))) (it := .var 4) (env := [some (dX false s), some (dC false false cs), some (.int cell), some (.int most), some (.lst true (ds.map dD)), some (.int i), some (dD d), none]) (o := none) (x := .lst true (ds.map dD)) (φ := dD) (ψ := fun e => .bl (crossB cs d e)) rfl (by simp [_root_.Q.qs, root, here, seen, seenL, atP, modE, modD, atOwn, fApp, bnd, owns, shas, shrs]) els_lst (owns_map own_D) (fun e hmem => by
        have := r_law_cross (cs := cs) (d := d) (e := e) hd2 (hB.ok e hmem).2.1 (fun c hc => by have := (hv c hc).len; omega)
        simp [_root_.Q.qs, root, here, seen, seenL, atP, modE, modD, atOwn, fApp, bnd, owns, shas, shrs, shr_C, own_Cf, shr_D, own_D, P4__law_cross, this, ac_no]) (by simp [line]; omega)
      have hany := anyD_map (f := fun e => crossB cs d e) (l := ds) (o := true)
      obtain ⟨A, hA⟩ : ∃ A, A = ds.any fun e => crossB cs d e := ⟨_, rfl⟩
      obtain ⟨M, hM⟩ : ∃ M, M = D.lst true (ds.map fun e => D.bl (crossB cs d e)) := ⟨_, rfl⟩
      rw [← hA, ← hM] at hany
      rw [← hM] at hcm
      obtain ⟨Y, hY⟩ : ∃ Y, Y = mayB cs s d := ⟨_, rfl⟩
      rw [← hY] at hmy
      have go : ∀ e2, exec P4 (nth 1 btB) [some (dX false s), some (dC false false cs), some (.int cell), some (.int most), some (.lst true (ds.map dD)), some (.int i), some (dD d), none] = .ok .nx e2 → turnL P4 (.var 5) btB (.int i) [some (dX false s), some (dC false false cs), some (.int cell), some (.int most), some (.lst true (ds.map dD)), x5, x6, none] = .ok .nx e2 := fun e2 h => by
        show (bnd (.var 5) (.int i) _).bind (fun _ env => exec P4 btB env) = _
        have hb : bnd (.var 5) (.int i) [some (dX false s), some (dC false false cs), some (.int cell), some (.int most), some (.lst true (ds.map dD)), x5, x6, none] = .ok () [some (dX false s), some (dC false false cs), some (.int cell), some (.int most), some (.lst true (ds.map dD)), some (.int i), x6, none] := rfl
        rw [hb, bindE]
        simp only [nth, btB, F__law_beat] at t0 h ⊢
        rw [seq_nx t0, h]
      by_cases q : Y = true ∧ A = false
      · have q1 := q.1
        have q2 := q.2
        rw [q1] at hmy
        rw [q2] at hany
        have happ := app_own (P := P4) (i := 4) (e := .var 6) (d := dD d) (env := [some (dX false s), some (dC false false cs), some (.int cell), some (.int most), some (.lst true (ds.map dD)), some (.int i), some (dD d), none]) rfl (by simp [_root_.Q.qs, root, here, seen, seenL, atP, modE, modD, atOwn, fApp, bnd, owns, shas, shrs, own_D]) (by simp [line]; omega)
        have e1 : ds.map dD ++ [dD d] = (ds ++ [d]).map dD := by simp
        rw [e1] at happ
        refine ⟨[some (dX false s), some (dC false false cs), some (.int cell), some (.int most), some (.lst true ((ds ++ [d]).map dD)), some (.int i), some (dD d), none], .inl (go _ ?_), ds ++ [d], _, _, rfl, by simp; omega, ⟨fun e he => ?_, ?_⟩⟩
        · obtain ⟨L2, hL2⟩ : ∃ L2, L2 = D.lst true ((ds ++ [d]).map dD) := ⟨_, rfl⟩
          obtain ⟨L1, hL1⟩ : ∃ L1, L1 = D.lst true (ds.map dD) := ⟨_, rfl⟩
          rw [← hL2] at happ ⊢
          rw [← hL1] at happ hcm ⊢
          simp only [List.set] at happ
          simp only [nth, btB, F__law_beat]
          simp [_root_.Q.qs, root, here, seen, seenL, atP, modE, modD, atOwn, fApp, bnd, owns, shas, shrs, shr_X, own_Xf, shr_C, own_Cf, shr_D, own_D, P4__law_may, hmy, ac_no, hcm, hany, happ]
        · rcases List.mem_append.mp he with h | h
          · exact hB.ok e h
          · rw [List.mem_singleton.mp h]
            exact ⟨hd1, hd2, hY.symm.trans q1⟩
        · refine List.pairwise_append.mpr ⟨hB.apart, by simp, fun a ha b hb => ?_⟩
          rw [List.mem_singleton.mp hb]
          rw [hA] at q2
          have := List.any_eq_false.mp q2 a ha
          simpa using this
      · refine ⟨[some (dX false s), some (dC false false cs), some (.int cell), some (.int most), some (.lst true (ds.map dD)), some (.int i), some (dD d), none], .inl (go _ ?_), ds, _, _, rfl, by omega, hB⟩
        obtain ⟨L1, hL1⟩ : ∃ L1, L1 = D.lst true (ds.map dD) := ⟨_, rfl⟩
        rw [← hL1] at hcm ⊢
        simp only [nth, btB, F__law_beat]
        cases hYv : Y with
        | false =>
          rw [hYv] at hmy
          simp [_root_.Q.qs, root, here, seen, seenL, atP, modE, modD, atOwn, fApp, bnd, owns, shas, shrs, shr_X, own_Xf, shr_C, own_Cf, shr_D, own_D, P4__law_may, hmy, ac_no]
        | true =>
          have hAv : A = true := by
            cases hAv : A with
            | true => rfl
            | false => exact absurd ⟨hYv, hAv⟩ q
          rw [hYv] at hmy
          rw [hAv] at hany
          simp [_root_.Q.qs, root, here, seen, seenL, atP, modE, modD, atOwn, fApp, bnd, owns, shas, shrs, shr_X, own_Xf, shr_C, own_Cf, shr_D, own_D, P4__law_may, hmy, ac_no, hcm, hany])
    refine ⟨ds, hB, by rw [List.length_range] at hl; omega, ?_⟩
    simp only [nth, btB, F__law_beat] at he
    have e0 : D.lst true (([] : List Deed).map dD) = .lst true [] := rfl
    rw [e0] at he
    obtain ⟨L, hL⟩ : ∃ L, L = D.lst true (ds.map dD) := ⟨_, rfl⟩
    rw [← hL] at he ⊢
    have hoL : own L = true := by rw [hL]; simp [own]
    (unfold c__law_beat F__law_beat; refine Eq.trans (_root_.Q.run_of ?_) ?_; focus rfl)
    simp [_root_.Q.qs, root, here, seen, seenL, atP, modE, modD, atOwn, fApp, bnd, owns, shas, shrs, line, hne, P4__law_mix, m1, ac_no, hr, he, hoL]
end
end K41
end
section
set_option linter.all false
set_option autoImplicit false
set_option maxRecDepth 100000
set_option maxHeartbeats 1000000
namespace K41
open Q
def st1 (on : Bool) (g : Nat) (r : List Nat) : List Nat := if on then r ++ [g] else r.dropLast
theorem mw_at {w : List (List Nat)} {on : Bool} {g : Nat} {c : List Nat} {i : Nat} (h : i < w.length) : (movedW w on g c)[i]? = some (if i ∈ c then st1 on g (w.getD i []) else w.getD i []) := by
  simp only [movedW, List.getElem?_map, List.getElem?_range h, Option.map_some, st1]
theorem mw_nil {w : List (List Nat)} {on : Bool} {g : Nat} : movedW w on g [] = w := by
  refine List.ext_getElem? fun i => ?_
  by_cases h : i < w.length
  · rw [mw_at h, if_neg (by simp), List.getD, List.getElem?_eq_getElem h]; rfl
  · rw [List.getElem?_eq_none (by rw [movedW_len]; omega), List.getElem?_eq_none (by omega)]
theorem mw_cons {w : List (List Nat)} {on : Bool} {g k : Nat} {c : List Nat} (hk : ¬ k ∈ c) (hl : k < w.length) : movedW (w.set k (st1 on g (w.getD k []))) on g c = movedW w on g (k :: c) := by
  refine List.ext_getElem? fun i => ?_
  by_cases h : i < w.length
  · rw [mw_at (by rw [List.length_set]; exact h), mw_at h]
    by_cases e : i = k
    · subst e
      rw [if_neg hk, if_pos (by simp), List.getD, List.getElem?_set_self hl]; rfl
    · have e1 : (w.set k (st1 on g (w.getD k []))).getD i [] = w.getD i [] := by rw [List.getD, List.getElem?_set_ne (Ne.symm e)]; rfl
      rw [e1]
      by_cases q : i ∈ c
      · rw [if_pos q, if_pos (List.mem_cons_of_mem _ q)]
      · rw [if_neg q, if_neg (fun z => (List.mem_cons.mp z).elim e q)]
  · rw [List.getElem?_eq_none (by rw [movedW_len, List.length_set]; omega), List.getElem?_eq_none (by rw [movedW_len]; omega)]
theorem app_ix2 {P : Pg} {env : Env} {i j k p q : Nat} {xs ys zs : List D} {d : D} {e : Ex} (h : env[i]? = some (some (.lst true xs))) (hj : env[j]? = some (some (.int (p : Int)))) (hk : env[k]? = some (some (.int (q : Int)))) (hx : xs[p]? = some (.lst true ys)) (hy : ys[q]? = some (.lst true zs)) (he : ev P e env = .ok d env) (hl : zs.length < line) :
    exec P (.app (.ix (.ix (.var i) (.var j)) (.var k)) e) env = .ok .nx (env.set i (some (.lst true (xs.set p (.lst true (ys.set q (.lst true (zs ++ [d])))))))) := by
  have hpl := (List.getElem?_eq_some_iff.mp hx).1
  have hql := (List.getElem?_eq_some_iff.mp hy).1
  have hplc : plc P (.ix (.ix (.var i) (.var j)) (.var k)) env = .ok (i, [.int (p : Int), .int (q : Int)]) env := by
    simp [plc, keys, seen, seenL, h, hj, hk, atP, atI_at hx, atI_at hy, vw, R.bind]
  have hmod : modE (atOwn (fApp d)) i [.int (p : Int), .int (q : Int)] env = .ok () (env.set i (some (.lst true (xs.set p (.lst true (ys.set q (.lst true (zs ++ [d])))))))) := by
    simp [modE, h, modD, ixN_nat hpl, ixN_nat hql, hx, hy, atOwn, fApp, hl]
  rw [x_app, hplc, bindE, he, bindE, hmod, bindE]
theorem rem_ix2 {P : Pg} {env : Env} {i j k p q : Nat} {xs ys zs zs' : List D} {d : D} {e : Ex} (h : env[i]? = some (some (.lst true xs))) (hj : env[j]? = some (some (.int (p : Int)))) (hk : env[k]? = some (some (.int (q : Int)))) (hx : xs[p]? = some (.lst true ys)) (hy : ys[q]? = some (.lst true zs)) (he : vw P e env = .ok d env) (hf : fRem d zs = some ((), zs')) :
    exec P (.rem (.ix (.ix (.var i) (.var j)) (.var k)) e) env = .ok .nx (env.set i (some (.lst true (xs.set p (.lst true (ys.set q (.lst true zs'))))))) := by
  have hpl := (List.getElem?_eq_some_iff.mp hx).1
  have hql := (List.getElem?_eq_some_iff.mp hy).1
  have hplc : plc P (.ix (.ix (.var i) (.var j)) (.var k)) env = .ok (i, [.int (p : Int), .int (q : Int)]) env := by
    simp [plc, keys, seen, seenL, h, hj, hk, atP, atI_at hx, atI_at hy, vw, R.bind]
  have hmod : modE (atOwn (fRem d)) i [.int (p : Int), .int (q : Int)] env = .ok () (env.set i (some (.lst true (xs.set p (.lst true (ys.set q (.lst true zs'))))))) := by
    simp [modE, h, modD, ixN_nat hpl, ixN_nat hql, hx, hy, atOwn, hf]
  have e0 : exec P (.rem (.ix (.ix (.var i) (.var j)) (.var k)) e) env = (plc P (.ix (.ix (.var i) (.var j)) (.var k)) env).bind fun q env => (vw P e env).bind fun d env => (modE (atOwn (fRem d)) q.1 q.2 env).bind fun _ env => .ok .nx env := nr rfl
  rw [e0, hplc, bindE, he, bindE, hmod, bindE]
theorem findI_last {g : Int} : ∀ {q : List Int} {k : Nat}, ¬ g ∈ q → findI g (q ++ [g]) k = some (k + q.length)
  | [], k, _ => by simp [findI]
  | x :: q, k, h => by
    have h1 : ¬ x = g := fun e => h (by rw [e]; simp)
    have h2 : ¬ g ∈ q := fun e => h (List.mem_cons_of_mem _ e)
    simp only [List.cons_append, findI, if_neg h1]
    rw [findI_last h2]
    simp only [List.length_cons]
    congr 1
    omega
theorem rem_last {r : List Nat} {g : Nat} (h : r.getLast? = some g) (hn : r.Nodup) : fRem (.int g) (r.map fun (g : Nat) => .int (g : Int)) = some ((), r.dropLast.map fun (g : Nat) => .int (g : Int)) := by
  obtain ⟨q, rfl⟩ := List.getLast?_eq_some_iff.mp h
  have hq : ¬ g ∈ q := fun hg => by
    have := (List.nodup_append.mp hn).2.2 g hg g (by simp)
    exact this rfl
  have h1 : ¬ (g : Int) ∈ q.map fun (g : Nat) => (g : Int) := fun h => by
    obtain ⟨x, hx, e⟩ := List.mem_map.mp h
    have : x = g := by omega
    exact hq (this ▸ hx)
  have h2 := findI_last (k := 0) h1
  have e0 : intsOf ((q ++ [g]).map fun (g : Nat) => D.int (g : Int)) = some ((q ++ [g]).map fun (g : Nat) => (g : Int)) := intsOf_map (f := fun (g : Nat) => (g : Int))
  have e3 : (q ++ [g]).map (fun (g : Nat) => (g : Int)) = (q.map fun (g : Nat) => (g : Int)) ++ [(g : Int)] := by simp
  simp only [fRem, e0, Option.bind_some, e3]
  rw [h2]
  simp only [Option.map_some, List.length_map, Nat.zero_add, List.dropLast_concat]
  congr 2
  rw [List.map_append, List.eraseIdx_append_of_length_le (by simp)]
  simp
/-- a deed that can be done -/
structure Do (cs : List (List Nat)) (s : List (List (List Nat))) (d : Deed) : Prop where
  ex : ∃ c w, cs[d.2.2]? = some c ∧ s[d.1]? = some w ∧ c.Nodup ∧ ∀ k ∈ c, ∃ r, w[k]? = some r ∧ r.length < 1000 ∧ (d.2.1 = false → r.getLast? = some d.2.2 ∧ r.Nodup)
theorem moved_set {s : List (List (List Nat))} {d : Deed} {cs : List (List Nat)} {w : List (List Nat)} (h : s[d.1]? = some w) : moved s d cs = s.set d.1 (movedW w d.2.1 d.2.2 (cs.getD d.2.2 [])) := by
  have hl := (List.getElem?_eq_some_iff.mp h).1
  rw [moved, getD_of h, List.set_eq_take_append_cons_drop, if_pos hl]
  simp
def doB : St := match nth 1 F__law_do.body with
  | .forr _ _ b => b
  | _ => .pas
theorem map_dX {s : List (List (List Nat))} {p : Nat} {w : List (List Nat)} {k : Nat} {zs : List Nat} : D.lst true ((s.map (dC true true)).set p (.lst true ((w.map (dL true)).set k (dL true zs)))) = dX true (s.set p (w.set k zs)) := by
  rw [dX, List.map_set, dC, List.map_set]
theorem lp_do {C X : D} {p g : Nat} {b : Bool} : ∀ (c : List Nat) (s : List (List (List Nat))) (w : List (List Nat)) (a : Option D), s[p]? = some w → c.Nodup → (∀ k ∈ c, ∃ r, w[k]? = some r ∧ r.length < 1000 ∧ (b = false → r.getLast? = some g ∧ r.Nodup)) →
    ∃ a', loop (turnL P2 (.var 6) doB) (c.map fun (k : Nat) => .int (k : Int)) [some (dX true s), some C, some X, some (.int p), some (.str (word b)), some (.int g), a] = .ok .nx [some (dX true (s.set p (movedW w b g c))), some C, some X, some (.int p), some (.str (word b)), some (.int g), a']
  | [], s, w, a, hs, _, _ => ⟨a, by
      rw [mw_nil]
      have : s.set p w = s := List.ext_getElem? fun i => by
        rw [List.getElem?_set]
        split
        · rename_i e; subst e
          have := (List.getElem?_eq_some_iff.mp hs).1
          rw [if_pos this, hs]
        · rfl
      rw [this]; rfl⟩
  | k :: c, s, w, a, hs, hd, h => by
    obtain ⟨r, hr, hrl, hrn⟩ := h k List.mem_cons_self
    obtain ⟨hkc, hd2⟩ := List.nodup_cons.mp hd
    have hkl := (List.getElem?_eq_some_iff.mp hr).1
    have hpl := (List.getElem?_eq_some_iff.mp hs).1
    have hgd : w.getD k [] = r := getD_of hr
    obtain ⟨a', ih⟩ := lp_do (C := C) (X := X) (p := p) (g := g) (b := b) c (s.set p (w.set k (st1 b g r))) (w.set k (st1 b g r)) (some (.int k)) (List.getElem?_set_self hpl) hd2 fun i hi => by
      obtain ⟨q, hq, h2⟩ := h i (List.mem_cons_of_mem _ hi)
      exact ⟨q, by rw [List.getElem?_set_ne (fun e => hkc (by rw [e]; exact hi))]; exact hq, h2⟩
    refine ⟨a', ?_⟩
    have e1 := mw_cons (on := b) (g := g) hkc hkl
    rw [hgd] at e1
    rw [e1, List.set_set] at ih
    have hx : (s.map (dC true true))[p]? = some (.lst true (w.map (dL true))) := by rw [List.getElem?_map, hs]; rfl
    have hy : (w.map (dL true))[k]? = some (.lst true (r.map fun (g : Nat) => .int (g : Int))) := by rw [List.getElem?_map, hr]; rfl
    have ht : turnL P2 (.var 6) doB (.int k) [some (dX true s), some C, some X, some (.int p), some (.str (word b)), some (.int g), a] = .ok .nx [some (dX true (s.set p (w.set k (st1 b g r)))), some C, some X, some (.int p), some (.str (word b)), some (.int g), some (.int k)] := by
      cases b with
      | true =>
        have ha := app_ix2 (P := P2) (i := 0) (j := 3) (k := 6) (e := .var 5) (d := .int g) (env := [some (dX true s), some C, some X, some (.int p), some (.str (word true)), some (.int g), some (.int k)]) rfl rfl rfl hx hy (by simp [_root_.Q.qs, root, here, seen, seenL, atP, modE, modD, atOwn, fApp, bnd, owns, shas, shrs]) (by simp [line]; omega)
        have e2 : D.lst true ((r.map fun (g : Nat) => D.int (g : Int)) ++ [.int g]) = dL true (st1 true g r) := by simp [st1, dL]
        rw [e2, map_dX] at ha
        simp only [word, if_true] at ha ⊢
        simp only [doB, nth, F__law_do]
        simp [_root_.Q.qs, root, here, seen, seenL, atP, modE, modD, atOwn, fApp, bnd, owns, shas, shrs, turnL, c_eqs, ha]
      | false =>
        obtain ⟨h3, h4⟩ := hrn rfl
        have ha := rem_ix2 (P := P2) (i := 0) (j := 3) (k := 6) (e := .var 5) (d := .int g) (env := [some (dX true s), some C, some X, some (.int p), some (.str (word false)), some (.int g), some (.int k)]) rfl rfl rfl hx hy (by simp [_root_.Q.qs, root, here, seen, seenL, atP, modE, modD, atOwn, fApp, bnd, owns, shas, shrs]) (rem_last h3 h4)
        have e2 : D.lst true (r.dropLast.map fun (g : Nat) => D.int (g : Int)) = dL true (st1 false g r) := by simp [st1, dL]
        rw [e2, map_dX] at ha
        simp only [word, Bool.false_eq_true, if_false] at ha ⊢
        simp only [doB, nth, F__law_do]
        simp [_root_.Q.qs, root, here, seen, seenL, atP, modE, modD, atOwn, fApp, bnd, owns, shas, shrs, turnL, c_eqs, ha]
    rw [List.map_cons]
    simp only [loop, ht, bindE]
    rw [ih]
section
variable {cs : List (List Nat)} {s : List (List (List Nat))}
theorem r_law_do {d : Deed} (h : Do cs s d) : c__law_do [dX true s, dC false false cs, dD d] = .ok (dX true (moved s d cs)) := by
  obtain ⟨c, w, hc, hw, hn, hk⟩ := h.ex
  have hm := moved_set (cs := cs) hw
  rw [getD_of hc] at hm
  obtain ⟨p, b, g⟩ := d
  have hc : cs[g]? = some c := hc
  have hw : s[p]? = some w := hw
  rw [hm]
  obtain ⟨a', lp⟩ := lp_do (C := dC false false cs) (X := dD (p, b, g)) (p := p) (g := g) (b := b) c s w none hw hn hk
  have s0 : exec P2 (nth 0 F__law_do.body) [some (dX true s), some (dC false false cs), some (dD (p, b, g)), none, none, none, none] = .ok .nx [some (dX true s), some (dC false false cs), some (dD (p, b, g)), some (.int p), some (.str (word b)), some (.int g), none] := by
    simp only [nth, F__law_do, dD]; simp [_root_.Q.qs, root, here, seen, seenL, atP, modE, modD, atOwn, fApp, bnd, owns, shas, shrs]
  obtain ⟨X, hX⟩ : ∃ X, X = dD (p, b, g) := ⟨_, rfl⟩
  obtain ⟨S', hS'⟩ : ∃ S', S' = dX true (s.set p (movedW w b g c)) := ⟨_, rfl⟩
  rw [← hX] at s0 lp ⊢
  rw [← hS'] at lp
  have s1 : exec P2 (nth 1 F__law_do.body) [some (dX true s), some (dC false false cs), some X, some (.int p), some (.str (word b)), some (.int g), none] = .ok .nx [some S', some (dC false false cs), some X, some (.int p), some (.str (word b)), some (.int g), a'] := by
    simp only [doB, nth, F__law_do] at lp
    simp only [nth, F__law_do]
    simp [_root_.Q.qs, root, here, seen, seenL, atP, modE, modD, atOwn, fApp, bnd, owns, shas, shrs, item_C hc, els_L, shr_L, own_Lf, lp]
  simp only [nth, F__law_do] at s0 s1
  (unfold c__law_do F__law_do; refine Eq.trans (_root_.Q.runM_of ?_) ?_; focus rfl)
  show outM (exec P2 _ [some (dX true s), some (dC false false cs), some X, none, none, none, none]) = _
  rw [seq_nx s0, s1, outM_nx, hS']
/-- deeds that can be done one after the other -/
def Dos (cs : List (List Nat)) : List Deed → List (List (List Nat)) → Prop
  | [], _ => True
  | d :: ds, s => Do cs s d ∧ Dos cs ds (moved s d cs)
def after (cs : List (List Nat)) : List Deed → List (List (List Nat)) → List (List (List Nat))
  | [], s => s
  | d :: ds, s => after cs ds (moved s d cs)
def dnB : St := match F__law_done.body with
  | .forr _ _ b => b
  | _ => .pas
theorem lp_dn {B : D} : ∀ (ds : List Deed) (s : List (List (List Nat))) (a : Option D), Dos cs ds s →
    ∃ a', loop (turnL P3 (.var 3) dnB) (ds.map dD) [some (dX true s), some (dC false false cs), some B, a] = .ok .nx [some (dX true (after cs ds s)), some (dC false false cs), some B, a']
  | [], s, a, _ => ⟨a, rfl⟩
  | d :: ds, s, a, h => by
    obtain ⟨a', ih⟩ := lp_dn (B := B) ds (moved s d cs) (some (dD d)) h.2
    refine ⟨a', ?_⟩
    have hdo := r_law_do h.1
    have hsh := sha_Xt (moved s d cs)
    obtain ⟨S', hS'⟩ : ∃ S', S' = dX true (moved s d cs) := ⟨_, rfl⟩
    rw [← hS'] at hdo hsh ih
    have ht : turnL P3 (.var 3) dnB (dD d) [some (dX true s), some (dC false false cs), some B, a] = .ok .nx [some S', some (dC false false cs), some B, some (dD d)] := by
      simp only [dnB, F__law_done]
      simp [_root_.Q.qs, root, here, seen, seenL, atP, modE, modD, atOwn, fApp, bnd, owns, shas, shrs, turnL, shr_C, own_Cf, shr_D, own_D, rts, P3__law_do, hdo, hsh]
    rw [List.map_cons]
    simp only [loop, ht, bindE]
    rw [ih]
    rfl
theorem r_law_done {ds : List Deed} (h : Dos cs ds s) : c__law_done [dX true s, dC false false cs, .lst false (ds.map dD)] = .ok (dX true (after cs ds s)) := by
  obtain ⟨a', lp⟩ := lp_dn (B := .lst false (ds.map dD)) ds s none h
  simp only [dnB, F__law_done] at lp
  obtain ⟨S', hS'⟩ : ∃ S', S' = dX true (after cs ds s) := ⟨_, rfl⟩
  rw [← hS'] at lp ⊢
  have hs : shrs (ds.map dD) = ds.map dD := shrs_map shr_D
  have ho : owns (ds.map dD) = false := owns_map own_D
  (unfold c__law_done F__law_done; refine Eq.trans (_root_.Q.runM_of ?_) ?_; focus rfl)
  simp [_root_.Q.qs, root, here, seen, seenL, atP, modE, modD, atOwn, fApp, bnd, owns, shas, shrs, hs, ho, lp]
end
end K41
end
section
set_option linter.all false
set_option autoImplicit false
set_option maxRecDepth 100000
set_option maxHeartbeats 1000000
namespace K41
open Q
/-! ### dressed -/
def rowsOf (n : Nat) (cs : List (List Nat)) (o : List Nat) : List (List Nat) := (List.range n).map fun k => o.filter fun g => decide (k ∈ cs.getD g [])
theorem rows_len {n cs o} : (rowsOf n cs o).length = n := by simp [rowsOf]
theorem rows_nil {n cs} : rowsOf n cs [] = List.replicate n [] := by simp [rowsOf, List.map_const']
theorem rows_at {n cs o k} (h : k < n) : (rowsOf n cs o)[k]? = some (o.filter fun g => decide (k ∈ cs.getD g [])) := by
  rw [rowsOf, List.getElem?_map, List.getElem?_range h]; rfl
theorem rows_snoc {n : Nat} {cs : List (List Nat)} {o : List Nat} {g : Nat} {c : List Nat} (hc : cs[g]? = some c) : movedW (rowsOf n cs o) true g c = rowsOf n cs (o ++ [g]) := by
  refine List.ext_getElem? fun k => ?_
  by_cases hk : k < n
  · rw [movedW, List.getElem?_map, List.getElem?_range (by rw [rows_len]; exact hk), rows_at hk]
    have e : (rowsOf n cs o).getD k [] = o.filter fun g => decide (k ∈ cs.getD g []) := getD_of (rows_at hk)
    simp only [Option.map_some, e, if_true, List.filter_append, List.filter_cons, List.filter_nil, getD_of hc, decide_eq_true_eq]
    split <;> simp
  · rw [List.getElem?_eq_none (by rw [movedW_len, rows_len]; omega), List.getElem?_eq_none (by rw [rows_len]; omega)]
theorem rows_small {n : Nat} {cs : List (List Nat)} {o : List Nat} (hn : n < 1000) (ho : o.length < 1000) : SmallW (rowsOf n cs o) := by
  refine ⟨by rw [rows_len]; exact hn, fun r hr => ?_⟩
  simp only [rowsOf, List.mem_map] at hr
  obtain ⟨k, _, rfl⟩ := hr
  exact Nat.lt_of_le_of_lt (List.length_filter_le _ _) ho
theorem rows_no {n : Nat} {cs : List (List Nat)} {o : List Nat} {g : Nat} (h : ¬ g ∈ o) : hasG (rowsOf n cs o) g = false := by
  cases e : hasG (rowsOf n cs o) g with
  | false => rfl
  | true =>
    obtain ⟨r, h1, h2⟩ := hasG_iff.mp e
    simp only [rowsOf, List.mem_map] at h1
    obtain ⟨k, _, rfl⟩ := h1
    exact absurd (List.mem_filter.mp h2).1 h
/-- an order of garments -/
structure Ord (cs : List (List Nat)) (o : List Nat) : Prop where
  nodup : o.Nodup
  lt : ∀ g ∈ o, g < cs.length
theorem Ord.len {cs o} (h : Ord cs o) : o.length ≤ cs.length := len_of_lt h.nodup h.lt
theorem rows_winv {n : Nat} {cs : List (List Nat)} {o : List Nat} (hO : Ord cs o) (hv : ∀ c ∈ cs, Cov n c) : WInv n cs.length cs (rowsOf n cs o) := by
  have get : ∀ (k : Nat) r, (rowsOf n cs o)[k]? = some r → k < n ∧ r = o.filter fun g => decide (k ∈ cs.getD g []) := fun k r h => by
    have h1 := (List.getElem?_eq_some_iff.mp h).1
    rw [rows_len] at h1
    rw [rows_at h1] at h
    exact ⟨h1, (Option.some.inj h).symm⟩
  refine ⟨rows_len, fun g c h hc k hk => ?_, fun k r hr g hg => ?_, fun r hr => ?_, fun r hr => ?_⟩
  · obtain ⟨r, h1, h2⟩ := hasG_iff.mp h
    obtain ⟨k1, hk1⟩ := List.getElem?_of_mem h1
    obtain ⟨_, rfl⟩ := get k1 r hk1
    have hgo := (List.mem_filter.mp h2).1
    refine ⟨_, rows_at ((hv c (List.mem_of_getElem? hc)).lt k hk), List.mem_filter.mpr ⟨hgo, ?_⟩⟩
    rw [getD_of hc]
    simpa using hk
  · obtain ⟨_, rfl⟩ := get k r hr
    obtain ⟨h1, h2⟩ := List.mem_filter.mp hg
    obtain ⟨c, hc⟩ : ∃ c, cs[g]? = some c := ⟨_, List.getElem?_eq_getElem (hO.lt g h1)⟩
    rw [getD_of hc] at h2
    exact ⟨c, hc, by simpa using h2⟩
  · obtain ⟨k, hk⟩ := List.getElem?_of_mem hr
    obtain ⟨_, rfl⟩ := get k r hk
    exact List.Pairwise.filter _ hO.nodup
  · obtain ⟨k, hk⟩ := List.getElem?_of_mem hr
    obtain ⟨_, rfl⟩ := get k r hk
    exact Nat.le_trans (List.length_filter_le _ _) hO.len
theorem winv_lt {n t : Nat} {cs W : List (List Nat)} (h : WInv n t cs W) : ∀ r ∈ W, ∀ g ∈ r, g < cs.length := fun r hr g hg => by
  obtain ⟨k, hk⟩ := List.getElem?_of_mem hr
  obtain ⟨c, hc, _⟩ := h.only k r hk g hg
  exact (List.getElem?_eq_some_iff.mp hc).1
theorem Ord.erase {cs o g} (h : Ord cs o) : Ord cs (o.erase g) := ⟨h.nodup.erase g, fun x hx => h.lt x (List.mem_of_mem_erase hx)⟩
/-! ### standings by orders -/
theorem hasG_rows {n : Nat} {cs : List (List Nat)} {o : List Nat} {g : Nat} (hO : Ord cs o) (hv : ∀ c ∈ cs, Cov n c) : hasG (rowsOf n cs o) g = true ↔ g ∈ o := by
  constructor
  · intro h
    by_cases q : g ∈ o
    · exact q
    · rw [rows_no q] at h; cases h
  · intro h
    obtain ⟨c, hc⟩ : ∃ c, cs[g]? = some c := ⟨_, List.getElem?_eq_getElem (hO.lt g h)⟩
    have hcv := hv c (List.mem_of_getElem? hc)
    obtain ⟨k, _, hk⟩ := head_c hcv.ne
    refine hasG_iff.mpr ⟨_, List.mem_of_getElem? (rows_at (hcv.lt k hk)), List.mem_filter.mpr ⟨h, ?_⟩⟩
    rw [getD_of hc]; simpa using hk
def SS (n : Nat) (cs os : List (List Nat)) : List (List (List Nat)) := os.map (rowsOf n cs)
structure Std (cs os : List (List Nat)) : Prop where
  ord : ∀ o ∈ os, Ord cs o
  dis : ∀ (i j : Nat) o q, os[i]? = some o → os[j]? = some q → ∀ g, g ∈ o → g ∈ q → i = j
section
variable {n : Nat} {cs os : List (List Nat)}
theorem ss_len : (SS n cs os).length = os.length := by simp [SS]
theorem ss_at {i : Nat} {o} (h : os[i]? = some o) : (SS n cs os)[i]? = some (rowsOf n cs o) := by rw [SS, List.getElem?_map, h]; rfl
theorem ss_of {i : Nat} {w} (h : (SS n cs os)[i]? = some w) : ∃ o, os[i]? = some o ∧ w = rowsOf n cs o := by
  rw [SS, List.getElem?_map] at h
  cases e : os[i]? with
  | none => rw [e] at h; cases h
  | some o => rw [e] at h; exact ⟨o, rfl, (Option.some.inj h).symm⟩
theorem Std.inv (h : Std cs os) (hv : ∀ c ∈ cs, Cov n c) : Inv n cs.length cs (SS n cs os) := inv_iff.mpr fun w hw => by
  obtain ⟨o, ho, rfl⟩ := List.mem_map.mp hw
  exact rows_winv (h.ord o ho) hv
theorem Std.small (h : Std cs os) (hv : ∀ c ∈ cs, Cov n c) (hn : n ≤ 6) (h6 : cs.length ≤ 6) (hm : os.length < 1000) : Small (SS n cs os) := (h.inv hv).small (by rw [ss_len]; exact hm) (by omega) (by omega)
theorem rows_off {o : List Nat} {g : Nat} {c : List Nat} (hO : Ord cs o) (hc : cs[g]? = some c) (hl : ∀ k ∈ c, ∃ r, (rowsOf n cs o)[k]? = some r ∧ r.getLast? = some g) : movedW (rowsOf n cs o) false g c = rowsOf n cs (o.erase g) := by
  refine List.ext_getElem? fun k => ?_
  by_cases hk : k < n
  · rw [mw_get (rows_at hk), rows_at hk, hO.nodup.erase_eq_filter, List.filter_filter]
    by_cases hkc : k ∈ c
    · rw [if_pos hkc]
      obtain ⟨r, h1, h2⟩ := hl k hkc
      rw [rows_at hk] at h1
      cases h1
      obtain ⟨q, hq⟩ := List.getLast?_eq_some_iff.mp h2
      have hnd : (q ++ [g]).Nodup := by rw [← hq]; exact List.Pairwise.filter _ hO.nodup
      have hgq : ¬ g ∈ q := fun h => (List.nodup_append.mp hnd).2.2 g h g (List.mem_singleton.mpr rfl) rfl
      have e : (o.filter fun a => decide (k ∈ cs.getD a []) && (a != g)) = q := by
        rw [show (fun a => decide (k ∈ cs.getD a []) && (a != g)) = fun a => (a != g) && decide (k ∈ cs.getD a []) by funext a; exact Bool.and_comm _ _, ← List.filter_filter, hq, List.filter_append]
        have : q.filter (fun a => a != g) = q := List.filter_eq_self.mpr fun a ha => by
          have : a ≠ g := fun e => hgq (e ▸ ha)
          simp [this]
        rw [this]; simp
      rw [e, hq]
      simp
    · rw [if_neg hkc]
      congr 1
      refine List.filter_congr fun a _ => ?_
      by_cases e : a = g
      · subst e
        rw [getD_of hc]
        simp [hkc]
      · simp [e]
  · rw [List.getElem?_eq_none (by rw [movedW_len, rows_len]; omega), List.getElem?_eq_none (by rw [rows_len]; omega)]
/-- the orders behind a deed -/
def stepO (os : List (List Nat)) (d : Deed) : List (List Nat) := os.set d.1 (if d.2.1 then os.getD d.1 [] ++ [d.2.2] else (os.getD d.1 []).erase d.2.2)
theorem stepO_len {d : Deed} : (stepO os d).length = os.length := by simp [stepO]
theorem Std.set {o : List Nat} {p : Nat} (h : Std cs os) (hO : Ord cs o) (hd : ∀ (j : Nat) q, os[j]? = some q → ∀ g, g ∈ o → g ∈ q → j = p) : Std cs (os.set p o) := by
  refine ⟨fun q hq => ?_, fun i j a b ha hb g h1 h2 => ?_⟩
  · rcases List.mem_or_eq_of_mem_set hq with hq | rfl
    · exact h.ord q hq
    · exact hO
  · rw [List.getElem?_set] at ha hb
    by_cases hi : p = i
    · subst hi
      rw [if_pos rfl] at ha
      by_cases hj : p = j
      · exact hj
      · rw [if_neg hj] at hb
        split at ha
        · cases ha
          exact (hd j b hb g h1 h2).symm
        · cases ha
    · rw [if_neg hi] at ha
      by_cases hj : p = j
      · subst hj
        rw [if_pos rfl] at hb
        split at hb
        · cases hb
          exact hd i a ha g h2 h1
        · cases hb
      · rw [if_neg hj] at hb
        exact h.dis i j a b ha hb g h1 h2
theorem std_step {d : Deed} (h : Std cs os) (hv : ∀ c ∈ cs, Cov n c) (hd : DOk cs (SS n cs os) d) : Std cs (stepO os d) ∧ moved (SS n cs os) d cs = SS n cs (stepO os d) := by
  obtain ⟨p, on, g⟩ := d
  obtain ⟨c, w, hc, hw, hon, hoff⟩ := hd.ex
  simp only at hc hw hon hoff
  obtain ⟨o, ho, rfl⟩ := ss_of hw
  have hOo := h.ord o (List.mem_of_getElem? ho)
  have hcv := hv c (List.mem_of_getElem? hc)
  have hg := (List.getElem?_eq_some_iff.mp hc).1
  have hp := (List.getElem?_eq_some_iff.mp ho).1
  have e1 : (SS n cs os).getD p [] = rowsOf n cs o := getD_of hw
  have e2 : cs.getD g [] = c := getD_of hc
  have e3 : os.getD p [] = o := getD_of ho
  have key : ∀ o', movedW (rowsOf n cs o) on g c = rowsOf n cs o' → moved (SS n cs os) (p, on, g) cs = SS n cs (os.set p o') := fun o' he => by
    have e0 : moved (SS n cs os) (p, on, g) cs = (SS n cs os).take p ++ [movedW ((SS n cs os).getD p []) on g (cs.getD g [])] ++ (SS n cs os).drop (p + 1) := rfl
    rw [e0, e1, e2, he]
    simp only [SS]
    rw [List.map_set, List.set_eq_take_append_cons_drop, if_pos (by simp; exact hp)]
    simp
  cases on with
  | true =>
    have hno : ∀ (j : Nat) q, os[j]? = some q → ¬ g ∈ q := fun j q hq hm => by
      have h1 := hon rfl _ (List.mem_of_getElem? (ss_at (n := n) (cs := cs) hq))
      rw [(hasG_rows (h.ord q (List.mem_of_getElem? hq)) hv).mpr hm] at h1
      cases h1
    have hO' : Ord cs (o ++ [g]) := ⟨List.nodup_append.mpr ⟨hOo.nodup, by simp, fun a ha b hb e => by rw [List.mem_singleton.mp hb] at e; exact hno p o ho (e ▸ ha)⟩, fun x hx => (List.mem_append.mp hx).elim (hOo.lt x) fun e => by rw [List.mem_singleton.mp e]; exact hg⟩
    have e : stepO os (p, true, g) = os.set p (o ++ [g]) := by simp only [stepO, e3]; rfl
    rw [e]
    refine ⟨h.set hO' fun j q hq x hx hxq => ?_, key _ (rows_snoc hc)⟩
    rcases List.mem_append.mp hx with hx | hx
    · exact h.dis j p q o hq ho x hxq hx
    · rw [List.mem_singleton.mp hx] at hxq
      exact absurd hxq (hno j q hq)
  | false =>
    have e : stepO os (p, false, g) = os.set p (o.erase g) := by simp only [stepO, e3]; rfl
    rw [e]
    exact ⟨h.set hOo.erase fun j q hq x hx hxq => h.dis j p q o hq ho x hxq (List.mem_of_mem_erase hx), key _ (rows_off hOo hc (hoff rfl))⟩
end
theorem std_bare {cs : List (List Nat)} {m : Nat} : Std cs (List.replicate m []) := ⟨fun o ho => by rw [List.eq_of_mem_replicate ho]; exact ⟨List.nodup_nil, fun _ h => nomatch h⟩, fun i j o q hi hj g h1 h2 => by rw [List.eq_of_mem_replicate (List.mem_of_getElem? hi)] at h1; cases h1⟩
theorem ss_bare {n m : Nat} {cs : List (List Nat)} : SS n cs (List.replicate m []) = List.replicate m (List.replicate n []) := by
  rw [SS, List.map_replicate, rows_nil]
theorem has_on {w : List (List Nat)} {g x : Nat} {c : List Nat} (h : hasG (movedW w true g c) x = true) : x = g ∨ hasG w x = true := by
  obtain ⟨r, hr, hx⟩ := hasG_iff.mp h
  obtain ⟨k, hk⟩ := List.getElem?_of_mem hr
  obtain ⟨r0, h0, e⟩ := mw_of hk
  rw [e] at hx
  split at hx
  · have hx : x ∈ r0 ++ [g] := hx
    rcases List.mem_append.mp hx with h | h
    · exact .inr (hasG_iff.mpr ⟨r0, List.mem_of_getElem? h0, h⟩)
    · exact .inl (List.mem_singleton.mp h)
  · exact .inr (hasG_iff.mpr ⟨r0, List.mem_of_getElem? h0, hx⟩)
theorem has_off {w : List (List Nat)} {g x : Nat} {c : List Nat} (h : hasG (movedW w false g c) x = true) : hasG w x = true := by
  obtain ⟨r, hr, hx⟩ := hasG_iff.mp h
  obtain ⟨k, hk⟩ := List.getElem?_of_mem hr
  obtain ⟨r0, h0, e⟩ := mw_of hk
  rw [e] at hx
  split at hx
  · exact hasG_iff.mpr ⟨r0, List.mem_of_getElem? h0, (List.dropLast_sublist r0).subset hx⟩
  · exact hasG_iff.mpr ⟨r0, List.mem_of_getElem? h0, hx⟩
def runD (os : List (List Nat)) (ds : List Deed) : List (List Nat) := ds.foldl stepO os
theorem runD_len : ∀ {ds : List Deed} {os : List (List Nat)}, (runD os ds).length = os.length
  | [], _ => rfl
  | d :: ds, os => by
    show (runD (stepO os d) ds).length = _
    rw [runD_len, stepO_len]
theorem covNodup {n c} (h : Cov n c) : c.Nodup := h.inc.imp fun h => by omega
section
variable {n t : Nat} {cs : List (List Nat)} {s : List (List (List Nat))}
theorem may_dok {d : Deed} (hI : Inv n t cs s) (hv : ∀ c ∈ cs, Cov n c) (h1 : d.1 < s.length) (h2 : d.2.2 < cs.length) (h : mayB cs s d = true) : DOk cs s d := by
  obtain ⟨p, b, g⟩ := d
  have h1 : p < s.length := h1
  have h2 : g < cs.length := h2
  obtain ⟨c, hc⟩ : ∃ c, cs[g]? = some c := ⟨_, List.getElem?_eq_getElem h2⟩
  obtain ⟨w, hw⟩ : ∃ w, s[p]? = some w := ⟨_, List.getElem?_eq_getElem h1⟩
  refine ⟨c, w, hc, hw, fun hb => ?_, fun hb => ?_⟩
  · have hb : b = true := hb
    subst hb
    have h : (wears s g).isNone = true := h
    exact wears_none (Option.isNone_iff_eq_none.mp h)
  · have hb : b = false := hb
    subst hb
    simp only [mayB, Bool.false_eq_true, if_false, Bool.and_eq_true, decide_eq_true_eq] at h
    obtain ⟨q1, q2⟩ := h
    obtain ⟨w', hw', hg⟩ := wears_some q1
    rw [hw] at hw'; cases hw'
    rw [getD_of hw, getD_of hc] at q2
    have hm := List.mem_of_getElem? hw
    exact (nextL_nil (fun k hk => by
      obtain ⟨r, hr, hgr⟩ := hI.whole w hm g c hg hc k hk
      exact ⟨r, hr, hgr, hI.nodup w hm r (List.mem_of_getElem? hr)⟩)).mp q2
theorem dok_do {d : Deed} (hI : Inv n t cs s) (hv : ∀ c ∈ cs, Cov n c) (ht : t < 1000) (h : DOk cs s d) : Do cs s d := by
  obtain ⟨c, w, hc, hw, h1, h2⟩ := h.ex
  have hcv := hv c (List.mem_of_getElem? hc)
  have hm := List.mem_of_getElem? hw
  refine ⟨c, w, hc, hw, covNodup hcv, fun k hk => ?_⟩
  obtain ⟨r, hr⟩ : ∃ r, w[k]? = some r := ⟨_, List.getElem?_eq_getElem (by rw [hI.wid w hm]; exact hcv.lt k hk)⟩
  have hrm := List.mem_of_getElem? hr
  refine ⟨r, hr, by have := hI.len w hm r hrm; omega, fun hb => ?_⟩
  obtain ⟨r', hr', hl⟩ := h2 hb k hk
  rw [hr] at hr'; cases hr'
  exact ⟨hl, hI.nodup w hm r hrm⟩
theorem cross_no {d e : Deed} (h : crossB cs d e = false) : d.2.2 ≠ e.2.2 ∧ (d.1 = e.1 → ∀ k ∈ cs.getD d.2.2 [], ¬ k ∈ cs.getD e.2.2 []) := by
  simp only [crossB, Bool.or_eq_false_iff, decide_eq_false_iff_not] at h
  refine ⟨h.1, fun hp k hk => ?_⟩
  have := h.2
  rw [decide_eq_true hp, Bool.true_and] at this
  have := List.any_eq_false.mp this k hk
  simpa using this
theorem dok_keep {d e : Deed} (hd : DOk cs s d) (he : DOk cs s e) (hx : crossB cs d e = false) : DOk cs (moved s e cs) d := by
  obtain ⟨c, w, hc, hw, h1, h2⟩ := hd.ex
  obtain ⟨c', w', hc', hw', _, _⟩ := he.ex
  obtain ⟨n1, n2⟩ := cross_no hx
  have hm := moved_set (cs := cs) hw'
  rw [hm]
  have hpl := (List.getElem?_eq_some_iff.mp hw').1
  rw [getD_of hc'] at hm ⊢
  rw [getD_of hc, getD_of hc'] at n2
  by_cases hp : d.1 = e.1
  · rw [hp] at hw
    rw [hw'] at hw; cases hw
    refine ⟨c, movedW w e.2.1 e.2.2 c', hc, by rw [hp]; exact List.getElem?_set_self hpl, fun hb x hx => ?_, fun hb k hk => ?_⟩
    · rcases List.mem_or_eq_of_mem_set hx with hx | rfl
      · exact h1 hb x hx
      · cases q : hasG (movedW w e.2.1 e.2.2 c') d.2.2 with
        | false => rfl
        | true =>
          have hb0 := h1 hb w (List.mem_of_getElem? hw')
          cases he1 : e.2.1 with
          | true => rw [he1] at q; rcases has_on q with z | z
                    · exact absurd z n1
                    · rw [hb0] at z; cases z
          | false => rw [he1] at q; have := has_off q; rw [hb0] at this; cases this
    · obtain ⟨r, hr, hl⟩ := h2 hb k hk
      refine ⟨r, ?_, hl⟩
      rw [mw_get hr, if_neg (n2 hp k hk)]
  · refine ⟨c, w, hc, by rw [List.getElem?_set_ne (Ne.symm hp)]; exact hw, fun hb x hx => ?_, h2⟩
    rcases List.mem_or_eq_of_mem_set hx with hx | rfl
    · exact h1 hb x hx
    · cases q : hasG (movedW w' e.2.1 e.2.2 c') d.2.2 with
      | false => rfl
      | true =>
        have hb0 := h1 hb w' (List.mem_of_getElem? hw')
        cases he1 : e.2.1 with
        | true => rw [he1] at q; rcases has_on q with z | z
                  · exact absurd z n1
                  · rw [hb0] at z; cases z
        | false => rw [he1] at q; have := has_off q; rw [hb0] at this; cases this
theorem doable (hv : ∀ c ∈ cs, Cov n c) (h6 : cs.length ≤ 6) : ∀ {ds : List Deed} {os : List (List Nat)}, Std cs os → (∀ d ∈ ds, DOk cs (SS n cs os) d) → ds.Pairwise (fun d e => crossB cs e d = false) →
    Dos cs ds (SS n cs os) ∧ after cs ds (SS n cs os) = SS n cs (runD os ds) ∧ Std cs (runD os ds)
  | [], os, hS, _, _ => ⟨trivial, rfl, hS⟩
  | d :: ds, os, hS, h, hp => by
    have hd := h d List.mem_cons_self
    obtain ⟨p1, p2⟩ := List.pairwise_cons.mp hp
    obtain ⟨s1, s2⟩ := std_step hS hv hd
    have ih := doable hv h6 (ds := ds) (os := stepO os d) s1 (fun e he => by
      rw [← s2]
      exact dok_keep (h e (List.mem_cons_of_mem _ he)) hd (p1 e he)) p2
    rw [← s2] at ih
    obtain ⟨i1, i2, i3⟩ := ih
    exact ⟨⟨dok_do (hS.inv hv) hv (by omega) hd, i1⟩, i2, i3⟩
theorem beat_done {os : List (List Nat)} {ds : List Deed} (hv : ∀ c ∈ cs, Cov n c) (h6 : cs.length ≤ 6) (hS : Std cs os) (hB : Beat cs (SS n cs os) ds) : Dos cs ds (SS n cs os) ∧ after cs ds (SS n cs os) = SS n cs (runD os ds) ∧ Std cs (runD os ds) :=
  doable hv h6 hS (fun d hd => by
    obtain ⟨q1, q2, q3⟩ := hB.ok d hd
    exact may_dok (hS.inv hv) hv q1 q2 q3) hB.apart
end
end K41
end
section
set_option linter.all false
set_option autoImplicit false
set_option maxRecDepth 100000
set_option maxHeartbeats 1000000
namespace K41
open Q
theorem app_ix {P : Pg} {env : Env} {i j p : Nat} {xs ys : List D} {d : D} {e : Ex} (h : env[i]? = some (some (.lst true xs))) (hj : env[j]? = some (some (.int (p : Int)))) (hx : xs[p]? = some (.lst true ys)) (he : ev P e env = .ok d env) (hl : ys.length < line) :
    exec P (.app (.ix (.var i) (.var j)) e) env = .ok .nx (env.set i (some (.lst true (xs.set p (.lst true (ys ++ [d])))))) := by
  have hpl := (List.getElem?_eq_some_iff.mp hx).1
  have hplc : plc P (.ix (.var i) (.var j)) env = .ok (i, [.int (p : Int)]) env := by
    simp [plc, keys, seen, seenL, h, hj, atP, atI_at hx, vw, R.bind]
  have hmod : modE (atOwn (fApp d)) i [.int (p : Int)] env = .ok () (env.set i (some (.lst true (xs.set p (.lst true (ys ++ [d])))))) := by
    simp [modE, h, modD, ixN_nat hpl, hx, atOwn, fApp, hl]
  rw [x_app, hplc, bindE, he, bindE, hmod, bindE]
theorem rem_ix {P : Pg} {env : Env} {i j p : Nat} {xs zs zs' : List D} {d : D} {e : Ex} (h : env[i]? = some (some (.lst true xs))) (hj : env[j]? = some (some (.int (p : Int)))) (hx : xs[p]? = some (.lst true zs)) (he : vw P e env = .ok d env) (hf : fRem d zs = some ((), zs')) :
    exec P (.rem (.ix (.var i) (.var j)) e) env = .ok .nx (env.set i (some (.lst true (xs.set p (.lst true zs'))))) := by
  have hpl := (List.getElem?_eq_some_iff.mp hx).1
  have hplc : plc P (.ix (.var i) (.var j)) env = .ok (i, [.int (p : Int)]) env := by
    simp [plc, keys, seen, seenL, h, hj, atP, atI_at hx, vw, R.bind]
  have hmod : modE (atOwn (fRem d)) i [.int (p : Int)] env = .ok () (env.set i (some (.lst true (xs.set p (.lst true zs'))))) := by
    simp [modE, h, modD, ixN_nat hpl, hx, atOwn, hf]
  have e0 : exec P (.rem (.ix (.var i) (.var j)) e) env = (plc P (.ix (.var i) (.var j)) env).bind fun q env => (vw P e env).bind fun d env => (modE (atOwn (fRem d)) q.1 q.2 env).bind fun _ env => .ok .nx env := nr rfl
  rw [e0, hplc, bindE, he, bindE, hmod, bindE]
theorem find_erase {g : Nat} : ∀ {o : List Nat} {k : Nat}, g ∈ o → ∃ j, findI (g : Int) (o.map fun (g : Nat) => (g : Int)) k = some (k + j) ∧ (o.map fun (g : Nat) => D.int (g : Int)).eraseIdx j = (o.erase g).map fun (g : Nat) => D.int (g : Int)
  | [], _, h => nomatch h
  | x :: o, k, h => by
    by_cases q : x = g
    · subst q
      exact ⟨0, by simp [findI], by simp⟩
    · have hg : g ∈ o := (List.mem_cons.mp h).resolve_left fun e => q e.symm
      obtain ⟨j, h1, h2⟩ := find_erase (o := o) (k := k + 1) hg
      have q' : ¬ (x : Int) = (g : Int) := by omega
      refine ⟨j + 1, ?_, ?_⟩
      · simp only [List.map_cons, findI, if_neg q', h1]
        congr 1
        omega
      · rw [List.erase_cons_tail (by simpa using q)]
        simp only [List.map_cons, List.eraseIdx_cons_succ, h2]
theorem rem_erase {o : List Nat} {g : Nat} (h : g ∈ o) : fRem (.int g) (o.map fun (g : Nat) => .int (g : Int)) = some ((), (o.erase g).map fun (g : Nat) => .int (g : Int)) := by
  obtain ⟨j, h1, h2⟩ := find_erase (k := 0) h
  have e0 : intsOf (o.map fun (g : Nat) => D.int (g : Int)) = some (o.map fun (g : Nat) => (g : Int)) := intsOf_map (f := fun (g : Nat) => (g : Int))
  rw [Nat.zero_add] at h1
  simp only [fRem, e0, Option.bind_some, h1, Option.map_some, h2]
/-- deeds that the orders bear -/
def Bears : List Deed → List (List Nat) → Prop
  | [], _ => True
  | d :: ds, os => (∃ o, os[d.1]? = some o ∧ o.length < 1000 ∧ (d.2.1 = false → d.2.2 ∈ o)) ∧ Bears ds (stepO os d)
def orB : St := match F__law_orders.body with
  | .forr _ _ b => b
  | _ => .pas
theorem lp_or {B : D} : ∀ (ds : List Deed) (os : List (List Nat)) (a b c : Option D), Bears ds os →
    ∃ a' b' c', loop (turnL P2 (.tup (.cons (.var 2) (.cons (.var 3) (.cons (.var 4) .nil)))) orB) (ds.map dD) [some (dC true true os), some B, a, b, c] = .ok .nx [some (dC true true (runD os ds)), some B, a', b', c']
  | [], os, a, b, c, _ => ⟨a, b, c, rfl⟩
  | d :: ds, os, a, b, c, h => by
    obtain ⟨⟨o, ho, hol, hg⟩, h2⟩ := h
    obtain ⟨p, on, g⟩ := d
    have ho : os[p]? = some o := ho
    obtain ⟨a', b', c', ih⟩ := lp_or (B := B) ds (stepO os (p, on, g)) (some (.int p)) (some (.str (word on))) (some (.int g)) h2
    refine ⟨a', b', c', ?_⟩
    have hx : (os.map (dL true))[p]? = some (.lst true (o.map fun (g : Nat) => .int (g : Int))) := by rw [List.getElem?_map, ho]; rfl
    have hset : ∀ o' : List Nat, D.lst true ((os.map (dL true)).set p (.lst true (o'.map fun (g : Nat) => .int (g : Int)))) = dC true true (os.set p o') := fun o' => by rw [dC, List.map_set]; rfl
    have hst : stepO os (p, on, g) = os.set p (if on then o ++ [g] else o.erase g) := by
      simp only [stepO, getD_of ho]
    have ht : turnL P2 (.tup (.cons (.var 2) (.cons (.var 3) (.cons (.var 4) .nil)))) orB (dD (p, on, g)) [some (dC true true os), some B, a, b, c] = .ok .nx [some (dC true true (stepO os (p, on, g))), some B, some (.int p), some (.str (word on)), some (.int g)] := by
      rw [hst]
      cases on with
      | true =>
        have ha := app_ix (P := P2) (i := 0) (j := 2) (e := .var 4) (d := .int g) (env := [some (dC true true os), some B, some (.int p), some (.str (word true)), some (.int g)]) rfl rfl hx (by simp [_root_.Q.qs, root, here, seen, seenL, atP, modE, modD, atOwn, fApp, bnd, owns, shas, shrs]) (by simp [line]; omega)
        have e2 : D.lst true ((os.map (dL true)).set p (.lst true ((o.map fun (g : Nat) => D.int (g : Int)) ++ [.int g]))) = dC true true (os.set p (o ++ [g])) := by
          rw [← hset]; simp
        rw [e2] at ha
        simp only [word, if_true] at ha ⊢
        simp only [orB, F__law_orders, dD, word, if_true]
        simp [_root_.Q.qs, root, here, seen, seenL, atP, modE, modD, atOwn, fApp, bnd, owns, shas, shrs, turnL, c_eqs, ha]
      | false =>
        have ha := rem_ix (P := P2) (i := 0) (j := 2) (e := .var 4) (d := .int g) (env := [some (dC true true os), some B, some (.int p), some (.str (word false)), some (.int g)]) rfl rfl hx (by simp [_root_.Q.qs, root, here, seen, seenL, atP, modE, modD, atOwn, fApp, bnd, owns, shas, shrs]) (rem_erase (hg rfl))
        rw [hset] at ha
        simp only [word, Bool.false_eq_true, if_false] at ha ⊢
        simp only [orB, F__law_orders, dD, word, Bool.false_eq_true, if_false]
        simp [_root_.Q.qs, root, here, seen, seenL, atP, modE, modD, atOwn, fApp, bnd, owns, shas, shrs, turnL, c_eqs, ha]
    rw [List.map_cons]
    simp only [loop, ht, bindE]
    rw [ih]
    rfl
theorem r_law_orders {ds : List Deed} {os : List (List Nat)} (h : Bears ds os) : c__law_orders [dC true true os, .lst false (ds.map dD)] = .ok (dC true true (runD os ds)) := by
  obtain ⟨a', b', c', lp⟩ := lp_or (B := .lst false (ds.map dD)) ds os none none none h
  simp only [orB, F__law_orders] at lp
  obtain ⟨S', hS'⟩ : ∃ S', S' = dC true true (runD os ds) := ⟨_, rfl⟩
  rw [← hS'] at lp ⊢
  have hs : shrs (ds.map dD) = ds.map dD := shrs_map shr_D
  have ho : owns (ds.map dD) = false := owns_map own_D
  (unfold c__law_orders F__law_orders; refine Eq.trans (_root_.Q.runM_of ?_) ?_; focus rfl)
  simp [_root_.Q.qs, root, here, seen, seenL, atP, modE, modD, atOwn, fApp, bnd, owns, shas, shrs, hs, ho, lp]
theorem r_law_frozen {s : List (List (List Nat))} (hS : Small s) : c__law_frozen [dX false s] = .ok (dS s) := by
  have hsl := hS.len
  have hout := comp_map (P := P2) (i := 2) (elt := .tpl (.comp (.tpl (.var 1)) (.var 1) (.var 2) (.bl true))) (it := .var 0) (env := [some (dX false s), none, none]) (o := none) (x := dX false s) (φ := dC false false) (ψ := dW) rfl (by simp [_root_.Q.qs, root, here, seen, seenL, atP, modE, modD, atOwn, fApp, bnd, owns, shas, shrs]) (els_X ..) (owns_map own_Cf) (fun w hw => by
    have hwl := hS.wid w hw
    have hin := comp_map (P := P2) (i := 1) (elt := .tpl (.var 1)) (it := .var 2) (env := [some (dX false s), none, some (dC false false w)]) (o := none) (x := dC false false w) (φ := dL false) (ψ := dR) rfl (by simp [_root_.Q.qs, root, here, seen, seenL, atP, modE, modD, atOwn, fApp, bnd, owns, shas, shrs]) (els_C ..) (owns_map own_Lf) (fun r _ => by simp [_root_.Q.qs, root, here, seen, seenL, atP, modE, modD, atOwn, fApp, bnd, owns, shas, shrs, els_L]; rfl) (by simp [line]; omega)
    have e1 : els (D.lst true (w.map dR)) = some (w.map dR) := rfl
    have e2 : owns (w.map dR) = false := owns_map own_R
    have e3 : D.tup (w.map dR) = dW w := rfl
    simp [_root_.Q.qs, root, here, seen, seenL, atP, modE, modD, atOwn, fApp, bnd, owns, shas, shrs, hin, e1, e2, e3, own_W]) (by simp [line]; omega)
  have e1 : els (D.lst true (s.map dW)) = some (s.map dW) := rfl
  have e2 : owns (s.map dW) = false := owns_map own_W
  have e3 : D.tup (s.map dW) = dS s := rfl
  (unfold c__law_frozen F__law_frozen; refine Eq.trans (_root_.Q.run_of ?_) ?_; focus rfl)
  simp [_root_.Q.qs, root, here, seen, seenL, atP, modE, modD, atOwn, fApp, bnd, owns, shas, shrs, hout, e1, e2, e3, own_S]
theorem r_law_thawed {s : List (List (List Nat))} (hS : Small s) : c__law_thawed [dS s] = .ok (dX true s) := by
  have hsl := hS.len
  have hout := comp_map (P := P2) (i := 2) (elt := .comp (.lis (.var 1)) (.var 1) (.var 2) (.bl true)) (it := .var 0) (env := [some (dS s), none, none]) (o := none) (x := dS s) (φ := dW) (ψ := dC true true) rfl (by simp [_root_.Q.qs, root, here, seen, seenL, atP, modE, modD, atOwn, fApp, bnd, owns, shas, shrs]) (els_S s) (owns_map own_W) (fun w hw => by
    have hwl := hS.wid w hw
    have hin := comp_map (P := P2) (i := 1) (elt := .lis (.var 1)) (it := .var 2) (env := [some (dS s), none, some (dW w)]) (o := none) (x := dW w) (φ := dR) (ψ := dL true) rfl (by simp [_root_.Q.qs, root, here, seen, seenL, atP, modE, modD, atOwn, fApp, bnd, owns, shas, shrs]) (els_W w) (owns_map own_R) (fun r _ => by simp [_root_.Q.qs, root, here, seen, seenL, atP, modE, modD, atOwn, fApp, bnd, owns, shas, shrs, els_R, own_R]; rfl) (by simp [line]; omega)
    have hin : vw P2 (.comp (.lis (.var 1)) (.var 1) (.var 2) (.bl true)) [some (dS s), none, some (dW w)] = .ok (dC true true w) [some (dS s), none, some (dW w)] := hin
    simp [_root_.Q.qs, root, here, seen, seenL, atP, modE, modD, atOwn, fApp, bnd, owns, shas, shrs, hin, own_Ct]) (by simp [line]; omega)
  have hout : vw P2 (.comp (.comp (.lis (.var 1)) (.var 1) (.var 2) (.bl true)) (.var 2) (.var 0) (.bl true)) [some (dS s), none, none] = .ok (dX true s) [some (dS s), none, none] := hout
  (unfold c__law_thawed F__law_thawed; refine Eq.trans (_root_.Q.run_of ?_) ?_; focus rfl)
  simp [_root_.Q.qs, root, here, seen, seenL, atP, modE, modD, atOwn, fApp, bnd, owns, shas, shrs, hout, own_Xt]
theorem r_law_bare {m n : Nat} (hm : m < 1000) (hn : n < 1000) : c__law_bare [.int m, .int n] = .ok (dX true (List.replicate m (List.replicate n []))) := by
  have h1 := rng_nat (n := m) (by omega)
  have h2 := rng_nat (n := n) (by omega)
  have hout := comp_map (P := P2) (i := 3) (elt := .comp (.lst .nil) (.var 2) (.rng1 (.var 1)) (.bl true)) (it := .rng1 (.var 0)) (env := [some (.int m), some (.int n), none, none]) (o := none) (x := .lst true ((List.range m).map fun (i : Nat) => .int (i : Int))) (l := List.range m) (φ := fun (g : Nat) => .int (g : Int)) (ψ := fun _ => dC true true (List.replicate n [])) rfl (by simp [_root_.Q.qs, root, here, seen, seenL, atP, modE, modD, atOwn, fApp, bnd, owns, shas, shrs, h1]) els_lst owns_ints (fun i _ => by
    have hin := comp_map (P := P2) (i := 2) (elt := .lst .nil) (it := .rng1 (.var 1)) (env := [some (.int m), some (.int n), none, some (.int i)]) (o := none) (x := .lst true ((List.range n).map fun (i : Nat) => .int (i : Int))) (l := List.range n) (φ := fun (g : Nat) => .int (g : Int)) (ψ := fun _ => dL true []) rfl (by simp [_root_.Q.qs, root, here, seen, seenL, atP, modE, modD, atOwn, fApp, bnd, owns, shas, shrs, h2]) els_lst owns_ints (fun g _ => by simp [_root_.Q.qs, root, here, seen, seenL, atP, modE, modD, atOwn, fApp, bnd, owns, shas, shrs, line]; rfl) (by simp [line]; omega)
    have e : (List.range n).map (fun _ => dL true []) = (List.replicate n []).map (dL true) := by rw [List.map_replicate, List.map_const', List.length_range]
    rw [e] at hin
    have hin : vw P2 (.comp (.lst .nil) (.var 2) (.rng1 (.var 1)) (.bl true)) [some (.int m), some (.int n), none, some (.int i)] = .ok (dC true true (List.replicate n [])) [some (.int m), some (.int n), none, some (.int i)] := hin
    simp [_root_.Q.qs, root, here, seen, seenL, atP, modE, modD, atOwn, fApp, bnd, owns, shas, shrs, hin, own_Ct]) (by simp [line]; omega)
  have e : (List.range m).map (fun _ => dC true true (List.replicate n [])) = (List.replicate m (List.replicate n [])).map (dC true true) := by rw [List.map_replicate, List.map_const', List.length_range]
  rw [e] at hout
  have hout : vw P2 (.comp (.comp (.lst .nil) (.var 2) (.rng1 (.var 1)) (.bl true)) (.var 3) (.rng1 (.var 0)) (.bl true)) [some (.int m), some (.int n), none, none] = .ok (dX true (List.replicate m (List.replicate n []))) [some (.int m), some (.int n), none, none] := hout
  (unfold c__law_bare F__law_bare; refine Eq.trans (_root_.Q.run_of ?_) ?_; focus rfl)
  simp [_root_.Q.qs, root, here, seen, seenL, atP, modE, modD, atOwn, fApp, bnd, owns, shas, shrs, hout, own_Xt]
end K41
end
section
set_option linter.all false
set_option autoImplicit false
set_option maxRecDepth 100000
set_option maxHeartbeats 1000000
namespace K41
open Q
theorem r_is_whole (n : Int) : c_is_whole [.int n] = .ok (.bl true) := by
  (unfold c_is_whole F_is_whole; refine Eq.trans (_root_.Q.run_of ?_) ?_; focus rfl); simp [_root_.Q.qs, root, here, seen, seenL, atP, modE, modD, atOwn, fApp, bnd, owns, shas, shrs]
theorem r_spots (n cs) : c_Wardrobe_spots [dv n cs] = .ok (.int n) := by
  (unfold c_Wardrobe_spots F_Wardrobe_spots; refine Eq.trans (_root_.Q.run_of ?_) ?_; focus rfl); simp [_root_.Q.qs, root, here, seen, seenL, atP, modE, modD, atOwn, fApp, bnd, owns, shas, shrs, get_V3]
theorem r_covers {n : Nat} {cs : List (List Nat)} {g : Nat} {c : List Nat} (h : cs[g]? = some c) : c_Wardrobe_covers [dv n cs, .int g] = .ok (dL true c) := by
  have h1 := (List.getElem?_eq_some_iff.mp h).1
  (unfold c_Wardrobe_covers F_Wardrobe_covers; refine Eq.trans (_root_.Q.run_of ?_) ?_; focus rfl); simp [_root_.Q.qs, root, here, seen, seenL, atP, modE, modD, atOwn, fApp, bnd, owns, shas, shrs, P3_is_whole, r_is_whole, ac_ok, get_V4, len_C, h1, item_C h, els_L]
  rfl
theorem r_bare {n : Nat} {cs : List (List Nat)} (h : n < 1000) : c_bare_wearing [dv n cs] = .ok (dW (List.replicate n [])) := by
  have hr := rng_nat (n := n) (by omega)
  have hc : vw P3 (.comp (.tup .nil) (.var 1) (.rng1 (.meth 0 (.var 0) .nil)) (.bl true)) [some (dv n cs), none] = .ok (.lst true ((List.range n).map fun _ => .tup [])) [some (dv n cs), none] :=
    comp_map (o := none) (x := .lst true ((List.range n).map fun (i : Nat) => .int (i : Int))) (φ := fun (g : Nat) => .int (g : Int)) rfl (by simp [_root_.Q.qs, root, here, seen, seenL, atP, modE, modD, atOwn, fApp, bnd, owns, shas, shrs, mth_V, P3_m7_0, P3_Wardrobe_spots, r_spots, shr_V, own_v, ac_ok, hr]) (els_lst) (owns_ints) (fun g _ => by simp [_root_.Q.qs, root, here, seen, seenL, atP, modE, modD, atOwn, fApp, bnd, owns, shas, shrs]) (by simp [line]; omega)
  have ho : owns ((List.range n).map fun _ => D.tup []) = false := owns_map fun _ => by simp [own, owns]
  (unfold c_bare_wearing F_bare_wearing; refine Eq.trans (_root_.Q.run_of ?_) ?_; focus rfl); simp [_root_.Q.qs, root, here, seen, seenL, atP, modE, modD, atOwn, fApp, bnd, owns, shas, shrs, hc, ho]
  simp [dW, dR, List.map_const']
theorem lp_cov (n : Nat) (T : Option D) : ∀ (c : List Nat) (last : Int) (x : Option D), c.Pairwise (· < ·) → (∀ p ∈ c, last < (p : Int) ∧ p < n) →
    ∃ l' x', loop (turnL P3 (.var 3) (.seq (.ite (.or (.not (.call 6 (.cons (.var 3) .nil))) (.not (.cmp2 .Lt .Lt (.var 2) (.var 3) (.var 1))))
    (.ret (.bl false))
    .pas)
    (.asg (.var 2) (.var 3)))) (c.map fun (g : Nat) => .int (g : Int)) [T, some (.int n), some (.int last), x] = .ok .nx [T, some (.int n), l', x']
  | [], last, x, _, _ => ⟨_, x, rfl⟩
  | g :: c, last, x, h1, h2 => by
    obtain ⟨l', x', e⟩ := lp_cov n T c g (some (.int g)) (List.Pairwise.of_cons h1) fun p hp => ⟨by have := List.rel_of_pairwise_cons h1 hp; omega, (h2 p (List.mem_cons_of_mem _ hp)).2⟩
    obtain ⟨h3, h4⟩ := h2 g List.mem_cons_self
    refine ⟨l', x', ?_⟩
    rw [← e]
    simp [_root_.Q.qs, root, here, seen, seenL, atP, modE, modD, atOwn, fApp, bnd, owns, shas, shrs, loop, turnL, P3_is_whole, r_is_whole, ac_ok, h3, h4]
theorem r_is_cover {n : Nat} {c : List Nat} (h : Cov n c) : c_is_cover [dL false c, .int n] = .ok (.bl true) := by
  obtain ⟨l', x', e⟩ := lp_cov n (some (dL false c)) c (-1) none h.inc fun p hp => ⟨by omega, h.lt p hp⟩
  have hn := h.ne
  (unfold c_is_cover F_is_cover; refine Eq.trans (_root_.Q.run_of ?_) ?_; focus rfl); simp [_root_.Q.qs, root, here, seen, seenL, atP, modE, modD, atOwn, fApp, bnd, owns, shas, shrs, isT_L, eq_Ln, hn, els_L, shr_L, own_Lf, e]
theorem r_init {n : Nat} {cs : List (List Nat)} (h1 : 1 ≤ n) (h2 : n ≤ 6) (h3 : cs.length ≤ 6) (hc : ∀ c ∈ cs, Cov n c) : c_Wardrobe_init [.int n, dC false false cs] = .ok (dV true n true true cs) := by
  have hr := rng_nat (n := cs.length) (by omega)
  obtain ⟨e', he, a, rfl⟩ := loop_all (P := P4) (tg := .var 3) (b := .ite (.not (.call 7 (.cons (.ix (.var 2) (.var 3)) (.cons (.var 1) .nil)))) .nev .pas) (φ := fun (i : Nat) => .int (i : Int)) (l := List.range cs.length)
    (fun e => ∃ a, e = [some (.ins true 7 [] []), some (.int n), some (dC false false cs), a, none]) (env := [some (.ins true 7 [] []), some (.int n), some (dC false false cs), none, none]) ⟨_, rfl⟩ (fun i hi e ⟨a, ha⟩ => by
    subst ha
    have hi : i < cs.length := List.mem_range.mp hi
    obtain ⟨c, hw⟩ : ∃ c, cs[i]? = some c := ⟨_, List.getElem?_eq_getElem hi⟩
    refine ⟨[some (.ins true 7 [] []), some (.int n), some (dC false false cs), some (.int i), none], ?_, _, rfl⟩
    simp [_root_.Q.qs, root, here, seen, seenL, atP, modE, modD, atOwn, fApp, bnd, owns, shas, shrs, turnL, item_C hw, shr_L, own_Lf, P4_is_cover, r_is_cover (hc c (List.mem_of_getElem? hw)), ac_ok])
  have hk : ∀ x a, vw P4 (.comp (.lis (.var 4)) (.var 4) (.var 2) (.bl true)) [x, some (.int n), some (dC false false cs), a, none] = .ok (dC true true cs) [x, some (.int n), some (dC false false cs), a, none] := fun x a =>
    comp_map (o := none) (x := dC false false cs) (φ := dL false) (ψ := dL true) rfl (by simp [_root_.Q.qs, root, here, seen, seenL, atP, modE, modD, atOwn, fApp, bnd, owns, shas, shrs]) (els_C ..) (owns_map own_Lf) (fun c _ => by simp [_root_.Q.qs, root, here, seen, seenL, atP, modE, modD, atOwn, fApp, bnd, owns, shas, shrs, els_L]; rfl) (by simp [line]; omega)
  have g1 : (1 : Int) ≤ n := by omega
  have g2 : (n : Int) ≤ 6 := by omega
  have g3 : ¬ (6 : Int) < cs.length := by omega
  (unfold c_Wardrobe_init F_Wardrobe_init; refine Eq.trans (_root_.Q.runI_of ?_) ?_; focus rfl); simp [_root_.Q.qs, root, here, seen, seenL, atP, modE, modD, atOwn, fApp, bnd, owns, shas, shrs, P4_is_whole, r_is_whole, ac_ok, P4_g0, P4_i7_3, P4_i7_4, g1, g2, g3, h1, h2, len_C, hr, he, hk]
  rfl
theorem r_put_on {n : Nat} {cs : List (List Nat)} {w : List (List Nat)} {g : Nat} {c : List Nat} (hW : SmallW w) (hc : cs[g]? = some c) (hv : Cov n c) (hn : w.length = n) (h : hasG w g = false) :
    c_put_on [dv n cs, dW w, .int g] = .ok (dW (movedW w true g c)) := by
  obtain ⟨k0, hk0, hk1⟩ := head_c hv.ne
  have hwl := hW.wid
  have hr := rng_nat (n := w.length) (by omega)
  obtain ⟨r0, hr0⟩ : ∃ r, w[k0]? = some r := ⟨_, List.getElem?_eq_getElem (by rw [hn]; exact hv.lt _ hk1)⟩
  have hg : ¬ g ∈ r0 := fun hg => by
    have : hasG w g = true := hasG_iff.mpr ⟨r0, List.mem_of_getElem? hr0, hg⟩
    rw [h] at this; cases this
  have hcomp : vw P4 (.comp (.ife (.cmp .In (.var 4) (.var 3)) (.bin .Add (.ix (.var 1) (.var 4)) (.tup (.cons (.var 2) .nil))) (.ix (.var 1) (.var 4))) (.var 4) (.rng1 (.len (.var 1))) (.bl true)) [some (dv n cs), some (dW w), some (.int g), some (dL true c), none]
      = .ok (dT (movedW w true g c)) [some (dv n cs), some (dW w), some (.int g), some (dL true c), none] := by
    have := comp_map (P := P4) (i := 4) (elt := .ife (.cmp .In (.var 4) (.var 3)) (.bin .Add (.ix (.var 1) (.var 4)) (.tup (.cons (.var 2) .nil))) (.ix (.var 1) (.var 4))) (it := .rng1 (.len (.var 1))) (env := [some (dv n cs), some (dW w), some (.int g), some (dL true c), none]) (o := none) (x := .lst true ((List.range w.length).map fun (i : Nat) => .int (i : Int))) (φ := fun (g : Nat) => .int (g : Int)) (ψ := fun k => dR (if k ∈ c then w.getD k [] ++ [g] else w.getD k [])) rfl (by simp [_root_.Q.qs, root, here, seen, seenL, atP, modE, modD, atOwn, fApp, bnd, owns, shas, shrs, len_W, hr]) els_lst owns_ints (fun k hk => by
      have hk := List.mem_range.mp hk
      obtain ⟨r, hr⟩ : ∃ r, w[k]? = some r := ⟨_, List.getElem?_eq_getElem hk⟩
      have hrl := hW.row r (List.mem_of_getElem? hr)
      have e1 : w.getD k [] = r := by rw [List.getD, hr]; rfl
      rw [e1]
      by_cases hkc : k ∈ c
      · rw [if_pos hkc]; simp [_root_.Q.qs, root, here, seen, seenL, atP, modE, modD, atOwn, fApp, bnd, owns, shas, shrs, in_L, hkc, item_W hr, add_R hrl, line]
      · rw [if_neg hkc]; simp [_root_.Q.qs, root, here, seen, seenL, atP, modE, modD, atOwn, fApp, bnd, owns, shas, shrs, in_L, hkc, item_W hr, own_R]) (by simp [line]; omega)
    rw [this]
    simp only [dT, movedW, List.map_map, Function.comp_def, if_true]
  have hsl : els (dT (movedW w true g c)) = some ((movedW w true g c).map dR) := rfl
  have hso : owns ((movedW w true g c).map dR) = false := owns_map own_R
  have hT : D.tup ((movedW w true g c).map dR) = dW (movedW w true g c) := rfl
  (unfold c_put_on F_put_on; refine Eq.trans (_root_.Q.run_of ?_) ?_; focus rfl); simp [_root_.Q.qs, root, here, seen, seenL, atP, modE, modD, atOwn, fApp, bnd, owns, shas, shrs, mth_V, P4_m7_2, P4_Wardrobe_covers, r_covers hc, shr_V, own_v, ac_ok, sha_L, item_L0 hk0, item_W hr0, in_R, hg, hcomp, hsl, hso, hT]
theorem r_dressed {n : Nat} {cs : List (List Nat)} {o : List Nat} (hO : Ord cs o) (hn : n < 1000) (h6 : cs.length ≤ 6) (hv : ∀ c ∈ cs, Cov n c) : c_dressed [dv n cs, dL false o] = .ok (dW (rowsOf n cs o)) := by
  have ho := hO.len
  have hb := r_bare (n := n) (cs := cs) hn
  obtain ⟨e', he, a, rfl⟩ := loop_map (f := turnL P5 (.var 3) (.asg (.var 2) (.call 17 (.cons (.var 0) (.cons (.var 2) (.cons (.var 3) .nil)))))) (φ := fun (g : Nat) => .int (g : Int)) (l := o)
    (fun j e => ∃ a, e = [some (dv n cs), some (dL false o), some (dW (rowsOf n cs (o.take j))), a]) (env := [some (dv n cs), some (dL false o), some (dW (rowsOf n cs [])), none]) ⟨none, rfl⟩ (fun j g e hj ⟨a, he⟩ => by
    subst he
    have hg := hO.lt g (List.mem_of_getElem? hj)
    obtain ⟨c, hc⟩ : ∃ c, cs[g]? = some c := ⟨_, List.getElem?_eq_getElem hg⟩
    have hno : ¬ g ∈ o.take j := fun h => by
      obtain ⟨i, hi⟩ := List.getElem?_of_mem h
      have hi2 := (List.getElem?_eq_some_iff.mp hi).1
      rw [List.length_take] at hi2
      rw [List.getElem?_take_of_lt (by omega)] at hi
      have := nodup_at hO.nodup hi hj
      omega
    have hp := r_put_on (n := n) (rows_small (cs := cs) (o := o.take j) hn (by simp; omega)) hc (hv c (List.mem_of_getElem? hc)) rows_len (rows_no hno)
    have e : o.take (j + 1) = o.take j ++ [g] := by rw [List.take_succ, hj]; rfl
    rw [rows_snoc hc, ← e] at hp
    refine ⟨[some (dv n cs), some (dL false o), some (dW (rowsOf n cs (o.take (j + 1)))), some (.int g)], .inl ?_, _, rfl⟩
    simp [_root_.Q.qs, root, here, seen, seenL, atP, modE, modD, atOwn, fApp, bnd, owns, shas, shrs, turnL, P5_put_on, shr_V, own_v, shr_W, own_W, hp, ac_ok, sha_W])
  rw [List.take_length, rows_nil] at he
  (unfold c_dressed F_dressed; refine Eq.trans (_root_.Q.run_of ?_) ?_; focus rfl); simp [_root_.Q.qs, root, here, seen, seenL, atP, modE, modD, atOwn, fApp, bnd, owns, shas, shrs, P5_bare_wearing, shr_V, own_v, hb, ac_ok, sha_W, els_L, shr_L, own_Lf, he]
theorem eq_W' (a b) : cmpOp .Eq (dW a) (dW b) = some (decide (a = b)) := by simp only [cmpOp, dat_W (n := 60) (by decide), eqv_W, Bool.and_self, if_true]
/-- what is seen at a place -/
def lastD (r : List Nat) : D := match r.getLast? with | some g => .int g | none => .non
theorem r_seen {w : List (List Nat)} (h : w.length < 1000) : c_seen_in [dW w] = .ok (.lst true (w.map lastD)) := by
  have hcomp : vw P2 (.comp (.ife (.cmp .NotEq (.var 1) (.tup .nil)) (.ix (.var 1) (.neg (.int 1))) .non) (.var 1) (.var 0) (.bl true)) [some (dW w), none] = .ok (.lst true (w.map lastD)) [some (dW w), none] := by
    refine comp_map (o := none) (x := dW w) (φ := dR) (ψ := lastD) rfl (by simp [_root_.Q.qs, root, here, seen, seenL, atP, modE, modD, atOwn, fApp, bnd, owns, shas, shrs]) (els_W ..) (owns_map own_R) (fun r _ => ?_) (by simp [line]; omega)
    have hn := ne_R r []
    have e0 : dR [] = .tup [] := rfl
    rw [e0] at hn
    cases hr : r.getLast? with
    | none =>
      have h0 : r = [] := List.getLast?_eq_none_iff.mp hr
      rw [decide_eq_true h0] at hn
      simp [_root_.Q.qs, root, here, seen, seenL, atP, modE, modD, atOwn, fApp, bnd, owns, shas, shrs, hn, line]
      simp [lastD, hr]
    | some g =>
      have h0 : ¬ r = [] := fun e => by rw [e] at hr; cases hr
      rw [decide_eq_false h0] at hn
      have hi := item_last hr
      simp [_root_.Q.qs, root, here, seen, seenL, atP, modE, modD, atOwn, fApp, bnd, owns, shas, shrs, hn, line, hi]
      simp [lastD, hr]
  (unfold c_seen_in F_seen_in; refine Eq.trans (_root_.Q.run_of ?_) ?_; focus rfl); simp [_root_.Q.qs, root, here, seen, seenL, atP, modE, modD, atOwn, fApp, bnd, owns, shas, shrs, hcomp]
end K41
end
section
set_option linter.all false
set_option autoImplicit false
set_option maxRecDepth 100000
set_option maxHeartbeats 1000000
namespace K41
open Q
inductive Wish where
  | stand (p : Nat) (o : List Nat) | see (p k g : Nat) | bare (p k : Nat)
def wD (b : Bool) : Wish → D
  | .stand p o => .tup [.str [115, 116, 97, 110, 100], .int p, dL b o]
  | .see p k g => .tup [.str [115, 101, 101], .int p, .int k, .int g]
  | .bare p k => .tup [.str [98, 97, 114, 101], .int p, .int k]
def wOk (n m : Nat) (cs : List (List Nat)) : Wish → Prop
  | .stand p o => p < m ∧ Ord cs o
  | .see p k _ => p < m ∧ k < n
  | .bare p k => p < m ∧ k < n
def wB (n : Nat) (cs os : List (List Nat)) : Wish → Bool
  | .stand p o => decide (rowsOf n cs (os.getD p []) = rowsOf n cs o)
  | .see p k g => decide (((rowsOf n cs (os.getD p [])).getD k []).getLast? = some g)
  | .bare p k => decide ((rowsOf n cs (os.getD p [])).getD k [] = [])
theorem shr_wD (b W) : shr (wD b W) = wD false W := by cases W <;> simp [wD, shr, shrs, shr_L]
theorem own_wD (W) : own (wD false W) = false := by cases W <;> simp [wD, own, owns, own_Lf]
theorem sha_wD (W) : sha (wD true W) = false := by cases W <;> simp [wD, sha, shas, sha_L]
theorem stand_iff {n : Nat} {cs : List (List Nat)} {o1 o2 : List Nat} (h1 : Ord cs o1) (h2 : Ord cs o2) (hv : ∀ c ∈ cs, Cov n c) :
    (sortN o1 = sortN o2 ∧ ∀ r ∈ rowsOf n cs o1, r = o2.filter fun g => decide (g ∈ r)) ↔ rowsOf n cs o1 = rowsOf n cs o2 := by
  constructor
  · rintro ⟨q1, q2⟩
    have hm : ∀ g, g ∈ o1 ↔ g ∈ o2 := fun g => by rw [← mem_sortN (l := o1), q1, mem_sortN]
    refine List.ext_getElem? fun k => ?_
    by_cases hk : k < n
    · have e1 := rows_at (cs := cs) (o := o1) hk
      have e2 := rows_at (cs := cs) (o := o2) hk
      rw [e1, e2]
      have := q2 _ (List.mem_of_getElem? e1)
      rw [this]
      congr 1
      refine List.filter_congr fun g hg => ?_
      have : g ∈ o1 := (hm g).mpr hg
      simp [this]
    · rw [List.getElem?_eq_none (by rw [rows_len]; omega), List.getElem?_eq_none (by rw [rows_len]; omega)]
  · intro e
    have hm : ∀ g, g ∈ o1 ↔ g ∈ o2 := fun g => by rw [← hasG_rows h1 hv, e, hasG_rows h2 hv]
    refine ⟨inc_ext (sortN_inc h1.nodup) (sortN_inc h2.nodup) fun g => by rw [mem_sortN, mem_sortN]; exact hm g, fun r hr => ?_⟩
    rw [e] at hr
    obtain ⟨k, hk⟩ := List.mem_iff_getElem?.mp hr
    have hkn : k < n := by have := (List.getElem?_eq_some_iff.mp hk).1; rwa [rows_len] at this
    rw [rows_at hkn] at hk
    cases hk
    refine List.filter_congr fun g hg => ?_
    simp [hg]
section
variable {n : Nat} {cs os : List (List Nat)}
theorem r_law_wish (z : Int) {many : Nat} (hS : Std cs os) (hv : ∀ c ∈ cs, Cov n c) (h1 : 1 ≤ n) (hn : n ≤ 6) (h6 : cs.length ≤ 6) (hm1 : 1 ≤ os.length) (hm3 : os.length ≤ 3) :
    ∃ W, wOk n os.length cs W ∧ c__law_wish [dX false (SS n cs os), dC false false os, .int many, .int z] = .ok (wD true W) := by
  obtain ⟨p, hp, m1⟩ := r_mix z 1 os.length (by decide) (by omega)
  have m1 : c__law_mix [.int z, .int 1, .int os.length] = .ok (.int p) := m1
  obtain ⟨k, hk, m2⟩ := r_mix z 2 n (by decide) (by omega)
  have m2 : c__law_mix [.int z, .int 2, .int n] = .ok (.int k) := m2
  obtain ⟨a, ha, m3⟩ := r_mix z 3 5 (by decide) (by decide)
  have m3 : c__law_mix [.int z, .int 3, .int 5] = .ok (.int a) := m3
  obtain ⟨b, hb, m4⟩ := r_mix z 4 9 (by decide) (by decide)
  have m4 : c__law_mix [.int z, .int 4, .int 9] = .ok (.int b) := m4
  obtain ⟨o, ho⟩ : ∃ o, os[p]? = some o := ⟨_, List.getElem?_eq_getElem hp⟩
  have hO := hS.ord o (List.mem_of_getElem? ho)
  have hw := ss_at (n := n) (cs := cs) ho
  obtain ⟨r, hr⟩ : ∃ r, (rowsOf n cs o)[k]? = some r := ⟨_, rows_at hk⟩
  have hsl : lenD (dX false (SS n cs os)) = some (.int os.length) := by rw [len_X, ss_len]
  have hil := item_X (o := false) hw
  have hln : lenD (dC false false (rowsOf n cs o)) = some (.int n) := by rw [len_C, rows_len]
  have hir := item_C (o := false) (p := false) hr
  have hio := item_C (o := false) (p := false) ho
  obtain ⟨S, hSS⟩ : ∃ S, S = dX false (SS n cs os) := ⟨_, rfl⟩
  obtain ⟨O, hOO⟩ : ∃ O, O = dC false false os := ⟨_, rfl⟩
  obtain ⟨w, hww⟩ : ∃ w, w = dC false false (rowsOf n cs o) := ⟨_, rfl⟩
  rw [← hSS] at hsl hil
  rw [← hww] at hil hln hir
  rw [← hOO] at hio
  rw [← hSS, ← hOO]
  have s0 : exec P3 (nth 0 F__law_wish.body) [some S, some O, some (.int many), some (.int z), none, none, none] = .ok .nx [some S, some O, some (.int many), some (.int z), some (.int p), none, none] := by
    simp only [nth, F__law_wish]; simp [_root_.Q.qs, root, here, seen, seenL, atP, modE, modD, atOwn, fApp, bnd, owns, shas, shrs, hsl, P3__law_mix, m1, ac_no]
  have s1 : exec P3 (nth 1 F__law_wish.body) [some S, some O, some (.int many), some (.int z), some (.int p), none, none] = .ok .nx [some S, some O, some (.int many), some (.int z), some (.int p), some (.int k), none] := by
    simp only [nth, F__law_wish]; simp [_root_.Q.qs, root, here, seen, seenL, atP, modE, modD, atOwn, fApp, bnd, owns, shas, shrs, hil, hln, P3__law_mix, m2, ac_no]
  have s2 : exec P3 (nth 2 F__law_wish.body) [some S, some O, some (.int many), some (.int z), some (.int p), some (.int k), none] = .ok .nx [some S, some O, some (.int many), some (.int z), some (.int p), some (.int k), some (dL false r)] := by
    simp only [nth, F__law_wish]; simp [_root_.Q.qs, root, here, seen, seenL, atP, modE, modD, atOwn, fApp, bnd, owns, shas, shrs, hil, hir, own_Lf]
  have fin : ∀ x e, exec P3 (match F__law_wish.body with | .seq _ (.seq _ (.seq _ b)) => b | _ => .pas) [some S, some O, some (.int many), some (.int z), some (.int p), some (.int k), some (dL false r)] = .ok (.ret x) e → c__law_wish [S, O, .int many, .int z] = .ok x := fun x e h => by
    simp only [nth, F__law_wish] at s0 s1 s2 h
    (unfold c__law_wish F__law_wish; refine Eq.trans (_root_.Q.run_of ?_) ?_; focus rfl)
    show outR (exec P3 _ [some S, some O, some (.int many), some (.int z), none, none, none]) = _
    rw [seq_nx s0, seq_nx s1, seq_nx s2, h, out_ret]
  by_cases a1 : a = 1
  · subst a1
    refine ⟨.stand p o, ⟨hp, hO⟩, fin _ [some S, some O, some (.int many), some (.int z), some (.int p), some (.int k), some (dL false r)] ?_⟩
    simp only [F__law_wish]
    simp [_root_.Q.qs, root, here, seen, seenL, atP, modE, modD, atOwn, fApp, bnd, owns, shas, shrs, P3__law_mix, m3, ac_no, hio, els_L, line, wD]
    rfl
  · have a1' : ¬ (a : Int) = 1 := by omega
    have last : ¬ (0 < many ∧ b = 1) → ∃ W, wOk n os.length cs W ∧ c__law_wish [S, O, .int many, .int z] = .ok (wD true W) := fun hno => by
      have s4 : exec P3 (nth 4 F__law_wish.body) [some S, some O, some (.int many), some (.int z), some (.int p), some (.int k), some (dL false r)] = .ok .nx [some S, some O, some (.int many), some (.int z), some (.int p), some (.int k), some (dL false r)] := by
        simp only [nth, F__law_wish]
        by_cases c1 : 0 < many
        · have b1 : ¬ b = 1 := fun h => hno ⟨c1, h⟩
          have b1' : ¬ (b : Int) = 1 := by omega
          simp [_root_.Q.qs, root, here, seen, seenL, atP, modE, modD, atOwn, fApp, bnd, owns, shas, shrs, c1, P3__law_mix, m4, ac_no, b1, b1']
        · have c1' : ¬ (0 : Int) < many := by omega
          simp [_root_.Q.qs, root, here, seen, seenL, atP, modE, modD, atOwn, fApp, bnd, owns, shas, shrs, c1, c1']
      have s3 : exec P3 (nth 3 F__law_wish.body) [some S, some O, some (.int many), some (.int z), some (.int p), some (.int k), some (dL false r)] = .ok .nx [some S, some O, some (.int many), some (.int z), some (.int p), some (.int k), some (dL false r)] := by
        simp only [nth, F__law_wish]
        simp [_root_.Q.qs, root, here, seen, seenL, atP, modE, modD, atOwn, fApp, bnd, owns, shas, shrs, P3__law_mix, m3, ac_no, a1, a1']
      have heq := eq_Ln false true r
      by_cases hre : r = []
      · rw [decide_eq_true hre] at heq
        refine ⟨.bare p k, ⟨hp, hk⟩, fin _ [some S, some O, some (.int many), some (.int z), none, none, some (dL false r)] ?_⟩
        simp only [nth, F__law_wish] at s3 s4 ⊢
        rw [seq_nx s3, seq_nx s4]
        simp [_root_.Q.qs, root, here, seen, seenL, atP, modE, modD, atOwn, fApp, bnd, owns, shas, shrs, heq, line, wD]
      · rw [decide_eq_false hre] at heq
        obtain ⟨x, hx⟩ : ∃ x, r.getLast? = some x := ⟨_, List.getLast?_eq_some_getLast hre⟩
        have hil := item_lastL (o := false) hx
        refine ⟨.see p k x, ⟨hp, hk⟩, fin _ [some S, some O, some (.int many), some (.int z), none, none, none] ?_⟩
        simp only [nth, F__law_wish] at s3 s4 ⊢
        rw [seq_nx s3, seq_nx s4]
        simp [_root_.Q.qs, root, here, seen, seenL, atP, modE, modD, atOwn, fApp, bnd, owns, shas, shrs, heq, line, wD, hil]
    by_cases hno : 0 < many ∧ b = 1
    · obtain ⟨c1, rfl⟩ := hno
      obtain ⟨g, hg, m5⟩ := r_mix z 5 many (by decide) c1
      have m5 : c__law_mix [.int z, .int 5, .int many] = .ok (.int g) := m5
      have c1' : (0 : Int) < many := by omega
      refine ⟨.see p k g, ⟨hp, hk⟩, fin _ [some S, some O, some (.int many), some (.int z), none, none, some (dL false r)] ?_⟩
      simp only [F__law_wish]
      simp [_root_.Q.qs, root, here, seen, seenL, atP, modE, modD, atOwn, fApp, bnd, owns, shas, shrs, P3__law_mix, m3, ac_no, a1, a1', c1, c1', m4, m5, line, wD]
    · exact last hno
end
end K41
end
section
set_option linter.all false
set_option autoImplicit false
set_option maxRecDepth 100000
set_option maxHeartbeats 1000000
namespace K41
open Q
def alikeB (w : List (List Nat)) (o : List Nat) : Bool := w.all fun r => decide (r = o.filter fun g => decide (g ∈ r))
section
variable {n : Nat} {cs os : List (List Nat)}
theorem r_law_alike {s : List (List (List Nat))} {p : Nat} {w : List (List Nat)} {o : List Nat} (hw : s[p]? = some w) (ho : o.length < 1000) : c__law_alike [dX false s, wD false (.stand p o)] = .ok (.bl (alikeB w o)) := by
  have i1 : item (wD false (.stand p o)) (.int 1) = some (.int p) := rfl
  have i2 : item (wD false (.stand p o)) (.int 2) = some (dL false o) := rfl
  have hoW := own_wD (.stand p o)
  obtain ⟨V, hV⟩ : ∃ V, V = wD false (.stand p o) := ⟨_, rfl⟩
  rw [← hV] at i1 i2 hoW ⊢
  obtain ⟨e', ⟨a, rfl⟩, he⟩ := loop_findM (f := turnL P2 (.var 2) (.ite (.cmp .NotEq (.var 2) (.comp (.var 3) (.var 3) (.ix (.var 1) (.int 2)) (.cmp .In (.var 3) (.var 2)))) (.ret (.bl false)) .pas)) (φ := dL false) (l := w)
    (fun e => ∃ a, e = [some (dX false s), some V, a, none]) (p := fun r => if r = (o.filter fun g => decide (g ∈ r)) then none else some (.bl false)) (env := [some (dX false s), some V, none, none]) ⟨_, rfl⟩ (fun r hr e ⟨a, ha⟩ => by
      subst ha
      have hc := comp_filt (P := P2) (i := 3) (elt := .var 3) (it := .ix (.var 1) (.int 2)) (cond := .cmp .In (.var 3) (.var 2)) (env := [some (dX false s), some V, some (dL false r), none]) (o := none) (x := dL false o) (l := o) (φ := fun (g : Nat) => .int (g : Int)) (ψ := fun (g : Nat) => .int (g : Int)) (p := fun g => decide (g ∈ r)) rfl (by simp [_root_.Q.qs, root, here, seen, seenL, atP, modE, modD, atOwn, fApp, bnd, owns, shas, shrs, i2]) (els_L ..) owns_ints (fun g _ => ⟨by simp [_root_.Q.qs, root, here, seen, seenL, atP, modE, modD, atOwn, fApp, bnd, owns, shas, shrs, in_L], by simp [_root_.Q.qs, root, here, seen, seenL, atP, modE, modD, atOwn, fApp, bnd, owns, shas, shrs]⟩) (by simp [line]; omega)
      have hc : vw P2 (.comp (.var 3) (.var 3) (.ix (.var 1) (.int 2)) (.cmp .In (.var 3) (.var 2))) [some (dX false s), some V, some (dL false r), none] = .ok (dL true (o.filter fun g => decide (g ∈ r))) [some (dX false s), some V, some (dL false r), none] := hc
      have hne := ne_L false true r (o.filter fun g => decide (g ∈ r))
      obtain ⟨F, hF⟩ : ∃ F, F = o.filter fun g => decide (g ∈ r) := ⟨_, rfl⟩
      rw [← hF] at hc hne
      simp only [← hF]
      by_cases q : r = F
      · rw [decide_eq_true q] at hne
        rw [if_pos q]
        refine ⟨[some (dX false s), some V, some (dL false r), none], ⟨_, rfl⟩, .inl ?_⟩
        simp [_root_.Q.qs, root, here, seen, seenL, atP, modE, modD, atOwn, fApp, bnd, owns, shas, shrs, turnL, hc, hne]
      · rw [decide_eq_false q] at hne
        rw [if_neg q]
        refine ⟨[some (dX false s), some V, some (dL false r), none], ⟨_, rfl⟩, ?_⟩
        simp [_root_.Q.qs, root, here, seen, seenL, atP, modE, modD, atOwn, fApp, bnd, owns, shas, shrs, turnL, hc, hne])
  have hix := item_X (o := false) hw
  by_cases hall : alikeB w o = true
  · rw [hall]
    have hno : w.findSome? (fun r => if r = (o.filter fun g => decide (g ∈ r)) then none else some (D.bl false)) = none := by
      rw [List.findSome?_eq_none_iff]
      intro r hr
      have := List.all_eq_true.mp hall r hr
      rw [if_pos (of_decide_eq_true this)]
    rw [hno] at he
    simp only at he
    (unfold c__law_alike F__law_alike; refine Eq.trans (_root_.Q.run_of ?_) ?_; focus rfl)
    simp [_root_.Q.qs, root, here, seen, seenL, atP, modE, modD, atOwn, fApp, bnd, owns, shas, shrs, i1, hix, own_Cf, shr_C, els_C, he]
  · have hf : alikeB w o = false := by simpa using hall
    rw [hf]
    have hsm : w.findSome? (fun r => if r = (o.filter fun g => decide (g ∈ r)) then none else some (D.bl false)) = some (.bl false) := by
      cases q : w.findSome? (fun r => if r = (o.filter fun g => decide (g ∈ r)) then none else some (D.bl false)) with
      | none =>
        exfalso
        apply hall
        refine List.all_eq_true.mpr fun r hr => decide_eq_true ?_
        have := List.findSome?_eq_none_iff.mp q r hr
        by_cases z : r = (o.filter fun g => decide (g ∈ r))
        · exact z
        · rw [if_neg z] at this; cases this
      | some x =>
        obtain ⟨r, hr, hx⟩ := List.exists_of_findSome?_eq_some q
        split at hx
        · cases hx
        · cases hx; rfl
    rw [hsm] at he
    simp only at he
    (unfold c__law_alike F__law_alike; refine Eq.trans (_root_.Q.run_of ?_) ?_; focus rfl)
    simp [_root_.Q.qs, root, here, seen, seenL, atP, modE, modD, atOwn, fApp, bnd, owns, shas, shrs, i1, hix, own_Cf, shr_C, els_C, he]
theorem alike_iff {o1 o2 : List Nat} (h1 : Ord cs o1) (h2 : Ord cs o2) (hv : ∀ c ∈ cs, Cov n c) : (decide (sortN o1 = sortN o2) && alikeB (rowsOf n cs o1) o2) = decide (rowsOf n cs o1 = rowsOf n cs o2) := by
  have := stand_iff (n := n) h1 h2 hv
  rw [Bool.eq_iff_iff, Bool.and_eq_true, decide_eq_true_eq, decide_eq_true_eq, ← this]
  refine and_congr_right fun _ => ?_
  rw [alikeB, List.all_eq_true]
  simp only [decide_eq_true_eq]
theorem wB_at {p : Nat} {o : List Nat} (h : os[p]? = some o) : os.getD p [] = o := getD_of h
theorem r_law_holds {W : Wish} (hS : Std cs os) (hv : ∀ c ∈ cs, Cov n c) (h6 : cs.length ≤ 6) (hW : wOk n os.length cs W) : c__law_holds [dX false (SS n cs os), dC false false os, wD false W] = .ok (.bl (wB n cs os W)) := by
  cases W with
  | stand p o =>
    obtain ⟨hp, hO⟩ := hW
    obtain ⟨o1, ho⟩ : ∃ o, os[p]? = some o := ⟨_, List.getElem?_eq_getElem hp⟩
    have hO1 := hS.ord o1 (List.mem_of_getElem? ho)
    have hl1 := hO1.len
    have hl := hO.len
    have hw := ss_at (n := n) (cs := cs) ho
    have hal := r_law_alike hw (o := o) (by omega)
    have hiff := alike_iff (n := n) hO1 hO hv
    have hwb : wB n cs os (.stand p o) = (decide (sortN o1 = sortN o) && alikeB (rowsOf n cs o1) o) := by rw [hiff]; simp only [wB, wB_at ho]
    rw [hwb]
    have i0 : item (wD false (.stand p o)) (.int 0) = some (.str [115, 116, 97, 110, 100]) := rfl
    have i1 : item (wD false (.stand p o)) (.int 1) = some (.int p) := rfl
    have i2 : item (wD false (.stand p o)) (.int 2) = some (dL false o) := rfl
    have hoW := own_wD (.stand p o)
    have hsW := shr_wD false (.stand p o)
    obtain ⟨V, hV⟩ : ∃ V, V = wD false (.stand p o) := ⟨_, rfl⟩
    rw [← hV] at i0 i1 i2 hoW hsW hal ⊢
    have hio := item_C (o := false) (p := false) ho
    have hcm := comp_map (P := P3) (i := 4) (elt := .var 4) (it := .ix (.var 1) (.ix (.var 2) (.int 1))) (env := [some (dX false (SS n cs os)), some (dC false false os), some V, none, none, none]) (o := none) (x := dL false o1) (φ := fun (g : Nat) => .int (g : Int)) (ψ := fun (g : Nat) => .int (g : Int)) rfl (by simp [_root_.Q.qs, root, here, seen, seenL, atP, modE, modD, atOwn, fApp, bnd, owns, shas, shrs, i1, hio]) (els_L ..) owns_ints (fun g _ => by simp [_root_.Q.qs, root, here, seen, seenL, atP, modE, modD, atOwn, fApp, bnd, owns, shas, shrs]) (by simp [line]; omega)
    have hcm : vw P3 (.comp (.var 4) (.var 4) (.ix (.var 1) (.ix (.var 2) (.int 1))) (.bl true)) [some (dX false (SS n cs os)), some (dC false false os), some V, none, none, none] = .ok (dL true o1) [some (dX false (SS n cs os)), some (dC false false os), some V, none, none, none] := hcm
    have q1 := srt_L true o1
    have q2 := srt_L false o
    have q3 := eq_L true true (sortN o1) (sortN o)
    obtain ⟨S, hSS⟩ : ∃ S, S = dX false (SS n cs os) := ⟨_, rfl⟩
    have hsS : shr S = S := by rw [hSS, shr_X]
    have hoS : own S = false := by rw [hSS, own_Xf]
    rw [← hSS] at hal hcm ⊢
    obtain ⟨A, hA⟩ : ∃ A, A = alikeB (rowsOf n cs o1) o := ⟨_, rfl⟩
    rw [← hA] at hal ⊢
    by_cases q : sortN o1 = sortN o
    · rw [decide_eq_true q] at q3 ⊢
      (unfold c__law_holds F__law_holds; refine Eq.trans (_root_.Q.run_of ?_) ?_; focus rfl)
      simp [_root_.Q.qs, root, here, seen, seenL, atP, modE, modD, atOwn, fApp, bnd, owns, shas, shrs, i0, c_eqs, hcm, own_Lt, q1, i2, q2, q3, P3__law_alike, hsS, hoS, hsW, hoW, hal, ac_no]
    · rw [decide_eq_false q] at q3 ⊢
      (unfold c__law_holds F__law_holds; refine Eq.trans (_root_.Q.run_of ?_) ?_; focus rfl)
      simp [_root_.Q.qs, root, here, seen, seenL, atP, modE, modD, atOwn, fApp, bnd, owns, shas, shrs, i0, c_eqs, hcm, own_Lt, q1, i2, q2, q3]
  | see p k g =>
    obtain ⟨hp, hk⟩ := hW
    obtain ⟨o1, ho⟩ : ∃ o, os[p]? = some o := ⟨_, List.getElem?_eq_getElem hp⟩
    have hw := ss_at (n := n) (cs := cs) ho
    obtain ⟨r, hr⟩ : ∃ r, (rowsOf n cs o1)[k]? = some r := ⟨_, rows_at hk⟩
    have hwb : wB n cs os (.see p k g) = decide (r.getLast? = some g) := by simp only [wB, wB_at ho, getD_of hr]
    rw [hwb]
    have i0 : item (wD false (.see p k g)) (.int 0) = some (.str [115, 101, 101]) := rfl
    have i1 : item (wD false (.see p k g)) (.int 1) = some (.int p) := rfl
    have i2 : item (wD false (.see p k g)) (.int 2) = some (.int k) := rfl
    have i3 : item (wD false (.see p k g)) (.int 3) = some (.int g) := rfl
    obtain ⟨V, hV⟩ : ∃ V, V = wD false (.see p k g) := ⟨_, rfl⟩
    rw [← hV] at i0 i1 i2 i3 ⊢
    have hil := item_X (o := false) hw
    have hir := item_C (o := false) (p := false) hr
    have hne := (ne_L false true r [])
    have e0 : dL true [] = .lst true [] := rfl
    rw [e0] at hne
    by_cases q : r = []
    · rw [decide_eq_true q] at hne
      have : decide (r.getLast? = some g) = false := by rw [q]; rfl
      rw [this]
      (unfold c__law_holds F__law_holds; refine Eq.trans (_root_.Q.run_of ?_) ?_; focus rfl)
      simp [_root_.Q.qs, root, here, seen, seenL, atP, modE, modD, atOwn, fApp, bnd, owns, shas, shrs, i0, c_eqs, i1, i2, hil, hir, own_Lf, line, hne]
    · rw [decide_eq_false q] at hne
      obtain ⟨x, hx⟩ : ∃ x, r.getLast? = some x := ⟨_, List.getLast?_eq_some_getLast q⟩
      have hlx := item_lastL (o := false) hx
      have : decide (r.getLast? = some g) = decide (x = g) := by rw [hx]; simp
      rw [this]
      have hcx : decide ((x : Int) = (g : Int)) = decide (x = g) := decide_eq_decide.mpr ⟨fun h => by omega, fun h => by omega⟩
      (unfold c__law_holds F__law_holds; refine Eq.trans (_root_.Q.run_of ?_) ?_; focus rfl)
      simp [_root_.Q.qs, root, here, seen, seenL, atP, modE, modD, atOwn, fApp, bnd, owns, shas, shrs, i0, c_eqs, i1, i2, hil, hir, own_Lf, line, hne, hlx, i3, hcx]
  | bare p k =>
    obtain ⟨hp, hk⟩ := hW
    obtain ⟨o1, ho⟩ : ∃ o, os[p]? = some o := ⟨_, List.getElem?_eq_getElem hp⟩
    have hw := ss_at (n := n) (cs := cs) ho
    obtain ⟨r, hr⟩ : ∃ r, (rowsOf n cs o1)[k]? = some r := ⟨_, rows_at hk⟩
    have hwb : wB n cs os (.bare p k) = decide (r = []) := by simp only [wB, wB_at ho, getD_of hr]
    rw [hwb]
    have i0 : item (wD false (.bare p k)) (.int 0) = some (.str [98, 97, 114, 101]) := rfl
    have i1 : item (wD false (.bare p k)) (.int 1) = some (.int p) := rfl
    have i2 : item (wD false (.bare p k)) (.int 2) = some (.int k) := rfl
    obtain ⟨V, hV⟩ : ∃ V, V = wD false (.bare p k) := ⟨_, rfl⟩
    rw [← hV] at i0 i1 i2 ⊢
    have hil := item_X (o := false) hw
    have hir := item_C (o := false) (p := false) hr
    have heq := eq_Ln false true r
    obtain ⟨B, hB⟩ : ∃ B, B = decide (r = []) := ⟨_, rfl⟩
    rw [← hB] at heq ⊢
    (unfold c__law_holds F__law_holds; refine Eq.trans (_root_.Q.run_of ?_) ?_; focus rfl)
    simp [_root_.Q.qs, root, here, seen, seenL, atP, modE, modD, atOwn, fApp, bnd, owns, shas, shrs, i0, c_eqs, i1, i2, hil, hir, own_Lf, line, heq]
theorem r_wish_holds {W : Wish} (hS : Std cs os) (hv : ∀ c ∈ cs, Cov n c) (hn : n ≤ 6) (h6 : cs.length ≤ 6) (hW : wOk n os.length cs W) : c_wish_holds [dv n cs, dS (SS n cs os), wD false W] = .ok (.bl (wB n cs os W)) := by
  cases W with
  | stand p o =>
    obtain ⟨hp, hO⟩ := hW
    obtain ⟨o1, ho⟩ : ∃ o, os[p]? = some o := ⟨_, List.getElem?_eq_getElem hp⟩
    have hw := ss_at (n := n) (cs := cs) ho
    have hil := item_S hw
    have hdr := r_dressed hO (n := n) (by omega) h6 hv
    have hwb : wB n cs os (.stand p o) = decide (rowsOf n cs o1 = rowsOf n cs o) := by simp only [wB, wB_at ho]
    rw [hwb]
    have heq := eq_W' (rowsOf n cs o1) (rowsOf n cs o)
    have i0 : item (wD false (.stand p o)) (.int 0) = some (.str [115, 116, 97, 110, 100]) := rfl
    have i1 : item (wD false (.stand p o)) (.int 1) = some (.int p) := rfl
    have i2 : item (wD false (.stand p o)) (.int 2) = some (dL false o) := rfl
    obtain ⟨V, hV⟩ : ∃ V, V = wD false (.stand p o) := ⟨_, rfl⟩
    rw [← hV] at i0 i1 i2 ⊢
    obtain ⟨R1, hR1⟩ : ∃ R1, R1 = dW (rowsOf n cs o1) := ⟨_, rfl⟩
    obtain ⟨R2, hR2⟩ : ∃ R2, R2 = dW (rowsOf n cs o) := ⟨_, rfl⟩
    have o1' : own R1 = false := by rw [hR1, own_W]
    have s2' : sha R2 = false := by rw [hR2, sha_W]
    rw [← hR1] at hil heq
    rw [← hR2] at hdr heq
    obtain ⟨B, hB⟩ : ∃ B, B = decide (rowsOf n cs o1 = rowsOf n cs o) := ⟨_, rfl⟩
    rw [← hB] at heq ⊢
    (unfold c_wish_holds F_wish_holds; refine Eq.trans (_root_.Q.run_of ?_) ?_; focus rfl)
    simp [_root_.Q.qs, root, here, seen, seenL, atP, modE, modD, atOwn, fApp, bnd, owns, shas, shrs, i0, c_eqs, i1, i2, hil, o1', P6_dressed, shr_V, own_v, shr_L, own_Lf, hdr, ac_ok, s2', heq]
  | see p k g =>
    obtain ⟨hp, hk⟩ := hW
    obtain ⟨o1, ho⟩ : ∃ o, os[p]? = some o := ⟨_, List.getElem?_eq_getElem hp⟩
    have hw := ss_at (n := n) (cs := cs) ho
    obtain ⟨r, hr⟩ : ∃ r, (rowsOf n cs o1)[k]? = some r := ⟨_, rows_at hk⟩
    have hwb : wB n cs os (.see p k g) = decide (r.getLast? = some g) := by simp only [wB, wB_at ho, getD_of hr]
    rw [hwb]
    have hse := r_seen (w := rowsOf n cs o1) (by rw [rows_len]; omega)
    have hit : item (.lst true ((rowsOf n cs o1).map lastD)) (.int k) = some (lastD r) := item_map hr
    have i0 : item (wD false (.see p k g)) (.int 0) = some (.str [115, 101, 101]) := rfl
    have i1 : item (wD false (.see p k g)) (.int 1) = some (.int p) := rfl
    have i2 : item (wD false (.see p k g)) (.int 2) = some (.int k) := rfl
    have i3 : item (wD false (.see p k g)) (.int 3) = some (.int g) := rfl
    obtain ⟨V, hV⟩ : ∃ V, V = wD false (.see p k g) := ⟨_, rfl⟩
    rw [← hV] at i0 i1 i2 i3 ⊢
    have hil := item_S hw
    have hol : own (lastD r) = false := by unfold lastD; cases r.getLast? <;> rfl
    have heq : cmpOp .Eq (lastD r) (.int g) = some (decide (r.getLast? = some g)) := by
      unfold lastD
      cases r.getLast? with
      | none => simp [cmpOp, dat, eqv]
      | some x =>
        simp only [cmpOp, dat, eqv_int, Bool.and_self, if_true]
        congr 1
        simp
    obtain ⟨B, hB⟩ : ∃ B, B = decide (r.getLast? = some g) := ⟨_, rfl⟩
    obtain ⟨L, hL⟩ : ∃ L, L = D.lst true ((rowsOf n cs o1).map lastD) := ⟨_, rfl⟩
    have hsL : sha L = false := by
      rw [hL]
      have : shas ((rowsOf n cs o1).map lastD) = false := shas_map fun r => by unfold lastD; cases r.getLast? <;> rfl
      simp [sha, this]
    obtain ⟨z, hz⟩ : ∃ z, z = lastD r := ⟨_, rfl⟩
    rw [← hB, ← hz] at heq
    rw [← hL] at hse hit
    rw [← hz] at hit hol
    rw [← hB]
    obtain ⟨R1, hR1⟩ : ∃ R1, R1 = dW (rowsOf n cs o1) := ⟨_, rfl⟩
    have o1' : own R1 = false := by rw [hR1, own_W]
    have s1' : shr R1 = R1 := by rw [hR1, shr_W]
    rw [← hR1] at hil hse
    (unfold c_wish_holds F_wish_holds; refine Eq.trans (_root_.Q.run_of ?_) ?_; focus rfl)
    simp [_root_.Q.qs, root, here, seen, seenL, atP, modE, modD, atOwn, fApp, bnd, owns, shas, shrs, i0, c_eqs, i1, i2, i3, hil, o1', s1', P6_seen_in, hse, ac_ok, hsL, hit, hol, heq]
  | bare p k =>
    obtain ⟨hp, hk⟩ := hW
    obtain ⟨o1, ho⟩ : ∃ o, os[p]? = some o := ⟨_, List.getElem?_eq_getElem hp⟩
    have hw := ss_at (n := n) (cs := cs) ho
    obtain ⟨r, hr⟩ : ∃ r, (rowsOf n cs o1)[k]? = some r := ⟨_, rows_at hk⟩
    have hwb : wB n cs os (.bare p k) = decide (r = []) := by simp only [wB, wB_at ho, getD_of hr]
    rw [hwb]
    have hse := r_seen (w := rowsOf n cs o1) (by rw [rows_len]; omega)
    have hit : item (.lst true ((rowsOf n cs o1).map lastD)) (.int k) = some (lastD r) := item_map hr
    have i0 : item (wD false (.bare p k)) (.int 0) = some (.str [98, 97, 114, 101]) := rfl
    have i1 : item (wD false (.bare p k)) (.int 1) = some (.int p) := rfl
    have i2 : item (wD false (.bare p k)) (.int 2) = some (.int k) := rfl
    obtain ⟨V, hV⟩ : ∃ V, V = wD false (.bare p k) := ⟨_, rfl⟩
    rw [← hV] at i0 i1 i2 ⊢
    have hil := item_S hw
    have hol : own (lastD r) = false := by unfold lastD; cases r.getLast? <;> rfl
    have heq : isND (lastD r) = .bl (decide (r = [])) := by
      unfold lastD
      cases q : r.getLast? with
      | none =>
        have : r = [] := List.getLast?_eq_none_iff.mp q
        rw [decide_eq_true this]; rfl
      | some x =>
        have : ¬ r = [] := fun e => by rw [e] at q; cases q
        rw [decide_eq_false this]; rfl
    obtain ⟨B, hB⟩ : ∃ B, B = decide (r = []) := ⟨_, rfl⟩
    obtain ⟨L, hL⟩ : ∃ L, L = D.lst true ((rowsOf n cs o1).map lastD) := ⟨_, rfl⟩
    have hsL : sha L = false := by
      rw [hL]
      have : shas ((rowsOf n cs o1).map lastD) = false := shas_map fun r => by unfold lastD; cases r.getLast? <;> rfl
      simp [sha, this]
    obtain ⟨z, hz⟩ : ∃ z, z = lastD r := ⟨_, rfl⟩
    rw [← hB, ← hz] at heq
    rw [← hL] at hse hit
    rw [← hz] at hit hol
    rw [← hB]
    obtain ⟨R1, hR1⟩ : ∃ R1, R1 = dW (rowsOf n cs o1) := ⟨_, rfl⟩
    have o1' : own R1 = false := by rw [hR1, own_W]
    have s1' : shr R1 = R1 := by rw [hR1, shr_W]
    rw [← hR1] at hil hse
    (unfold c_wish_holds F_wish_holds; refine Eq.trans (_root_.Q.run_of ?_) ?_; focus rfl)
    simp [_root_.Q.qs, root, here, seen, seenL, atP, modE, modD, atOwn, fApp, bnd, owns, shas, shrs, i0, c_eqs, i1, i2, hil, o1', s1', P6_seen_in, hse, ac_ok, hsL, hit, hol, heq]
theorem r_is_shown {Ws : List Wish} (hS : Std cs os) (hv : ∀ c ∈ cs, Cov n c) (hn : n ≤ 6) (h6 : cs.length ≤ 6) (hW : ∀ W ∈ Ws, wOk n os.length cs W) (hl : Ws.length < 1000) : c_is_shown [dv n cs, dS (SS n cs os), .lst false (Ws.map (wD false))] = .ok (.bl (Ws.all (wB n cs os))) := by
  have hcm := comp_map (P := P7) (i := 3) (elt := .call 164 (.cons (.var 0) (.cons (.var 1) (.cons (.var 3) .nil)))) (it := .var 2) (env := [some (dv n cs), some (dS (SS n cs os)), some (.lst false (Ws.map (wD false))), none]) (o := none) (x := .lst false (Ws.map (wD false))) (φ := wD false) (ψ := fun W => .bl (wB n cs os W)) rfl (by simp [_root_.Q.qs, root, here, seen, seenL, atP, modE, modD, atOwn, fApp, bnd, owns, shas, shrs]) els_lst (owns_map own_wD) (fun W hm => by
    have := r_wish_holds hS hv hn h6 (hW W hm)
    simp [_root_.Q.qs, root, here, seen, seenL, atP, modE, modD, atOwn, fApp, bnd, owns, shas, shrs, shr_V, own_v, shr_S, own_S, shr_wD, own_wD, P7_wish_holds, this, ac_no]) (by simp [line]; omega)
  have ha := allD_map (f := wB n cs os) (l := Ws) (o := true)
  obtain ⟨M, hM⟩ : ∃ M, M = D.lst true (Ws.map fun W => D.bl (wB n cs os W)) := ⟨_, rfl⟩
  obtain ⟨B, hB⟩ : ∃ B, B = Ws.all (wB n cs os) := ⟨_, rfl⟩
  rw [← hM] at hcm ha
  rw [← hB] at ha ⊢
  (unfold c_is_shown F_is_shown; refine Eq.trans (_root_.Q.run_of ?_) ?_; focus rfl)
  simp [_root_.Q.qs, root, here, seen, seenL, atP, modE, modD, atOwn, fApp, bnd, owns, shas, shrs, hcm, ha]
end
end K41
end
section
set_option linter.all false
set_option autoImplicit false
set_option maxRecDepth 100000
set_option maxHeartbeats 1000000
namespace K41
open Q
section
variable {n : Nat} {cs : List (List Nat)}
theorem bears (hv : ∀ c ∈ cs, Cov n c) (h6 : cs.length ≤ 6) : ∀ {ds : List Deed} {os : List (List Nat)}, Std cs os → (∀ d ∈ ds, DOk cs (SS n cs os) d) → ds.Pairwise (fun d e => crossB cs e d = false) → Bears ds os
  | [], _, _, _, _ => trivial
  | d :: ds, os, hS, h, hp => by
    have hd := h d List.mem_cons_self
    obtain ⟨p1, p2⟩ := List.pairwise_cons.mp hp
    obtain ⟨s1, s2⟩ := std_step hS hv hd
    refine ⟨?_, bears hv h6 s1 (fun e he => by
      rw [← s2]
      exact dok_keep (h e (List.mem_cons_of_mem _ he)) hd (p1 e he)) p2⟩
    obtain ⟨c, w, hc, hw, _, h2⟩ := hd.ex
    obtain ⟨o, ho, rfl⟩ := ss_of hw
    have hO := hS.ord o (List.mem_of_getElem? ho)
    have hl := hO.len
    refine ⟨o, ho, by omega, fun hb => ?_⟩
    obtain ⟨k0, _, hk1⟩ := head_c (hv c (List.mem_of_getElem? hc)).ne
    obtain ⟨r, hr, hlst⟩ := h2 hb k0 hk1
    exact (hasG_rows hO hv).mp (hasG_iff.mpr ⟨r, List.mem_of_getElem? hr, List.mem_of_getLast? hlst⟩)
theorem beat_bears {os : List (List Nat)} {ds : List Deed} (hv : ∀ c ∈ cs, Cov n c) (h6 : cs.length ≤ 6) (hS : Std cs os) (hB : Beat cs (SS n cs os) ds) : Bears ds os :=
  bears hv h6 hS (fun d hd => by
    obtain ⟨q1, q2, q3⟩ := hB.ok d hd
    exact may_dok (hS.inv hv) hv q1 q2 q3) hB.apart
def mD (n : Nat) (cs os : List (List Nat)) : D := .tup [dS (SS n cs os), dC true true os]
def mDf (n : Nat) (cs os : List (List Nat)) : D := .tup [dS (SS n cs os), dC false false os]
theorem shr_mD (os) : shr (mD n cs os) = mDf n cs os := by simp [mD, mDf, shr, shrs, shr_S, shr_C]
def E1 (S : D) (n many m : Nat) (x4 x5 : D) (x7 x8 : D) (x10 : D) (x11 x12 : Option D) : Env := [some S, some (.int n), some (.int many), some (.int m), some x4, some x5, none, some x7, some x8, none, some x10, x11, x12, none, none, none, none, none, none, none, none]
def lawT : St := match nth 8 F_law.body with
  | .forr _ _ b => b
  | _ => .nev
theorem pair_ev {S : D} {many m : Nat} {x4 x5 x10 : D} {x11 x12 : Option D} {os : List (List Nat)} (hSm : Small (SS n cs os)) (hl : os.length < 1000) :
    ev P8 (.tup (.cons (.call 127 (.cons (.var 7) .nil)) (.cons (.lend 8 (.comp (.lis (.var 6)) (.var 6) (.var 8) (.bl true))) .nil))) (E1 S n many m x4 x5 (dX true (SS n cs os)) (dC true true os) x10 x11 x12) = .ok (mD n cs os) (E1 S n many m x4 x5 (dX true (SS n cs os)) (dC true true os) x10 x11 x12) := by
  have hf := r_law_frozen hSm
  have hcm := comp_map (P := P8) (i := 6) (elt := .lis (.var 6)) (it := .var 8) (env := [none, none, none, none, none, none, none, none, some (dC false false os), none, none, none, none, none, none, none, none, none, none, none, none]) (o := none) (x := dC false false os) (φ := dL false) (ψ := dL true) rfl (by simp [_root_.Q.qs, root, here, seen, seenL, atP, modE, modD, atOwn, fApp, bnd, owns, shas, shrs]) (els_C ..) (owns_map own_Lf) (fun r _ => by simp [_root_.Q.qs, root, here, seen, seenL, atP, modE, modD, atOwn, fApp, bnd, owns, shas, shrs, els_L]; rfl) (by simp [line]; omega)
  have hld : vw P8 (.lend 8 (.comp (.lis (.var 6)) (.var 6) (.var 8) (.bl true))) (E1 S n many m x4 x5 (dX true (SS n cs os)) (dC true true os) x10 x11 x12) = .ok (dC true true os) (E1 S n many m x4 x5 (dX true (SS n cs os)) (dC true true os) x10 x11 x12) :=
    v_lend (d := dC true true os) rfl (by rw [shr_C]; exact hcm) (sha_Ct os)
  simp only [E1] at hld ⊢
  have e0 : D.tup [dS (SS n cs os), dC true true os] = mD n cs os := rfl
  simp [_root_.Q.qs, root, here, seen, seenL, atP, modE, modD, atOwn, fApp, bnd, owns, shas, shrs, P8__law_frozen, shr_X, own_Xt, hf, ac_ok, sha_S, own_S, hld, line, e0]
theorem turn1 {S : D} {many m : Nat} {x4 x5 : D} {x11 x12 : Option D} {os : List (List Nat)} {M : List (List (List Nat))} (z : Int) (hx4 : shr x4 = dC false false cs) (hS : Std cs os) (hv : ∀ c ∈ cs, Cov n c) (hn : n ≤ 6) (h6 : cs.length ≤ 6) (hm1 : 1 ≤ os.length) (hm3 : os.length ≤ 3) (hM : M.length < 900) :
    ∃ os' y12, Std cs os' ∧ os'.length = os.length ∧ turnL P8 (.var 11) lawT (.int z) (E1 S n many m x4 x5 (dX true (SS n cs os)) (dC true true os) (.lst true (M.map (mD n cs))) x11 x12) = .ok .nx (E1 S n many m x4 x5 (dX true (SS n cs os')) (dC true true os') (.lst true ((M ++ [os']).map (mD n cs))) (some (.int z)) y12) := by
  have hsm := hS.small hv hn h6 (by omega)
  obtain ⟨ds, hB, hdl, hbt⟩ := r_law_beat z 2 (hS.inv hv) hsm hv hn (by rw [ss_len]; exact hm1) (by decide)
  have hbt : c__law_beat [dX false (SS n cs os), dC false false cs, .int z, .int 2] = _ := hbt
  obtain ⟨b1, b2, b3⟩ := beat_done hv h6 hS hB
  have hdn := r_law_done b1
  rw [b2] at hdn
  have hor := r_law_orders (beat_bears hv h6 hS hB)
  obtain ⟨os', hos⟩ : ∃ os', os' = runD os ds := ⟨_, rfl⟩
  have hlen : os'.length = os.length := by rw [hos]; exact runD_len
  rw [← hos] at hdn hor b3
  have hsm' := b3.small (n := n) hv hn h6 (by omega)
  refine ⟨os', some (.lst true (ds.map dD)), b3, hlen, ?_⟩
  have t0 : exec P8 (nth 0 lawT) (E1 S n many m x4 x5 (dX true (SS n cs os)) (dC true true os) (.lst true (M.map (mD n cs))) (some (.int z)) x12) = .ok .nx (E1 S n many m x4 x5 (dX true (SS n cs os)) (dC true true os) (.lst true (M.map (mD n cs))) (some (.int z)) (some (.lst true (ds.map dD)))) := by
    have hsB : sha (.lst true (ds.map dD)) = false := by simp [sha, shas_map sha_D]
    obtain ⟨L, hL⟩ : ∃ L, L = D.lst true (ds.map dD) := ⟨_, rfl⟩
    rw [← hL] at hbt hsB ⊢
    have hoL : own L = true := by rw [hL]; simp [own]
    simp only [nth, lawT, F_law, E1]
    simp [_root_.Q.qs, root, here, seen, seenL, atP, modE, modD, atOwn, fApp, bnd, owns, shas, shrs, P8__law_beat, shr_X, own_Xt, hx4, hbt, ac_ok, hsB, take_none]
  have t1 : exec P8 (nth 1 lawT) (E1 S n many m x4 x5 (dX true (SS n cs os)) (dC true true os) (.lst true (M.map (mD n cs))) (some (.int z)) (some (.lst true (ds.map dD)))) = .ok .nx (E1 S n many m x4 x5 (dX true (SS n cs os')) (dC true true os) (.lst true (M.map (mD n cs))) (some (.int z)) (some (.lst true (ds.map dD)))) := by
    have hsX := sha_Xt (SS n cs os')
    have hsh : shr (.lst true (ds.map dD)) = .lst false (ds.map dD) := by simp [shr, shrs_map (g := dD) shr_D]
    obtain ⟨L, hL⟩ : ∃ L, L = D.lst true (ds.map dD) := ⟨_, rfl⟩
    obtain ⟨L2, hL2⟩ : ∃ L2, L2 = D.lst false (ds.map dD) := ⟨_, rfl⟩
    rw [← hL2] at hdn hsh
    rw [← hL] at hsh ⊢
    simp only [nth, lawT, F_law, E1]
    simp [_root_.Q.qs, root, here, seen, seenL, atP, modE, modD, atOwn, fApp, bnd, owns, shas, shrs, rts, hx4, hsh, P8__law_done, hdn, hsX]
  have t2 : exec P8 (nth 2 lawT) (E1 S n many m x4 x5 (dX true (SS n cs os')) (dC true true os) (.lst true (M.map (mD n cs))) (some (.int z)) (some (.lst true (ds.map dD)))) = .ok .nx (E1 S n many m x4 x5 (dX true (SS n cs os')) (dC true true os') (.lst true (M.map (mD n cs))) (some (.int z)) (some (.lst true (ds.map dD)))) := by
    have hsC := sha_Ct os'
    have hsh : shr (.lst true (ds.map dD)) = .lst false (ds.map dD) := by simp [shr, shrs_map (g := dD) shr_D]
    obtain ⟨L, hL⟩ : ∃ L, L = D.lst true (ds.map dD) := ⟨_, rfl⟩
    obtain ⟨L2, hL2⟩ : ∃ L2, L2 = D.lst false (ds.map dD) := ⟨_, rfl⟩
    rw [← hL2] at hor hsh
    rw [← hL] at hsh ⊢
    simp only [nth, lawT, F_law, E1]
    simp [_root_.Q.qs, root, here, seen, seenL, atP, modE, modD, atOwn, fApp, bnd, owns, shas, shrs, rts, hsh, P8__law_orders, hor, hsC]
  have t3 : exec P8 (nth 3 lawT) (E1 S n many m x4 x5 (dX true (SS n cs os')) (dC true true os') (.lst true (M.map (mD n cs))) (some (.int z)) (some (.lst true (ds.map dD)))) = .ok .nx (E1 S n many m x4 x5 (dX true (SS n cs os')) (dC true true os') (.lst true ((M ++ [os']).map (mD n cs))) (some (.int z)) (some (.lst true (ds.map dD)))) := by
    have hp := pair_ev (S := S) (many := many) (m := m) (x4 := x4) (x5 := x5) (x10 := .lst true (M.map (mD n cs))) (x11 := some (.int z)) (x12 := some (.lst true (ds.map dD))) hsm' (by omega)
    have e0 : (M ++ [os']).map (mD n cs) = M.map (mD n cs) ++ [mD n cs os'] := by simp
    rw [e0]
    exact app_var (i := 10) rfl hp rfl (by simp [line]; omega)
  show (bnd (.var 11) (.int z) _).bind (fun _ env => exec P8 lawT env) = _
  have hb : bnd (.var 11) (.int z) (E1 S n many m x4 x5 (dX true (SS n cs os)) (dC true true os) (.lst true (M.map (mD n cs))) x11 x12) = .ok () (E1 S n many m x4 x5 (dX true (SS n cs os)) (dC true true os) (.lst true (M.map (mD n cs))) (some (.int z)) x12) := rfl
  rw [hb, bindE]
  simp only [nth, lawT, F_law] at t0 t1 t2 t3 ⊢
  rw [seq_nx t0, seq_nx t1, seq_nx t2, t3]
end
end K41
end
section
set_option linter.all false
set_option autoImplicit false
set_option maxRecDepth 100000
set_option maxHeartbeats 1000000
namespace K41
open Q
section
variable {n : Nat} {cs : List (List Nat)}
def E2 (S : D) (n many m : Nat) (x4 x5 : D) (x7 x8 : D) (x10 : D) (x11 x12 : Option D) (x13 : D) (x14 x15 : Option D) : Env := [some S, some (.int n), some (.int many), some (.int m), some x4, some x5, none, some x7, some x8, none, some x10, x11, x12, some x13, x14, x15, none, none, none, none, none]
def lawU : St := match nth 10 F_law.body with
  | .forr _ _ b => b
  | _ => .nev
theorem own_mD (os) : own (mD n cs os) = true := by simp [mD, own, owns, own_Ct]
theorem own_mDf (os) : own (mDf n cs os) = false := by simp [mDf, own, owns, own_Cf, own_S]
theorem turn2 {S : D} {many m : Nat} {x4 x5 x7 x8 x10 : D} {x11 x12 x14 x15 : Option D} {M : List (List (List Nat))} {Ws : List Wish} (z : Int)
    (hx : x10 = .lst true (M.map (mD n cs)) ∨ x10 = .lst false (M.map (mDf n cs))) (hM : ∀ os ∈ M, Std cs os ∧ os.length = m) (hM1 : 1 ≤ M.length) (hv : ∀ c ∈ cs, Cov n c) (h1 : 1 ≤ n) (hn : n ≤ 6) (h6 : cs.length ≤ 6) (hm1 : 1 ≤ m) (hm3 : m ≤ 3) (hl : Ws.length < 900) :
    ∃ W y14 y15, wOk n m cs W ∧ turnL P8 (.var 11) lawU (.int z) (E2 S n many m x4 x5 x7 x8 x10 x11 x12 (.lst true (Ws.map (wD true))) x14 x15) = .ok .nx (E2 S n many m x4 x5 x7 x8 (.lst false (M.map (mDf n cs))) (some (.int z)) x12 (.lst true ((Ws ++ [W]).map (wD true))) y14 y15) := by
  obtain ⟨a, ha, m1⟩ := r_mix z 6 3 (by decide) (by decide)
  have m1 : c__law_mix [.int z, .int 6, .int 3] = .ok (.int a) := m1
  obtain ⟨mn, hmn, hmn1⟩ : ∃ mn : Nat, min2D (.int 4) (.int (M.length : Nat)) = some (.int mn) ∧ 0 < mn := by
    by_cases q : (M.length : Int) < 4
    · exact ⟨M.length, by simp [min2D, onInt2, q], by omega⟩
    · exact ⟨4, by simp [min2D, onInt2, q], by decide⟩
  obtain ⟨b, hb, m2⟩ := r_mix z 7 mn (by decide) hmn1
  have m2 : c__law_mix [.int z, .int 7, .int mn] = .ok (.int b) := m2
  have hmul := b_mul (i := (a : Int)) (j := (b : Int)) (.inl (by omega))
  have hlen : lenD x10 = some (.int M.length) := by rcases hx with rfl | rfl <;> simp [lenD]
  obtain ⟨r, hr, hr2⟩ := nat_of_mod (x := (a : Int) * b / 2) (m := M.length) hM1
  obtain ⟨j, hj⟩ : ∃ j : Nat, (M.length : Int) - 1 - (r : Int) = (j : Int) ∧ j < M.length := ⟨M.length - 1 - r, by omega, by omega⟩
  obtain ⟨hj, hjl⟩ := hj
  obtain ⟨os, ho⟩ : ∃ os, M[j]? = some os := ⟨_, List.getElem?_eq_getElem hjl⟩
  obtain ⟨hS, hol⟩ := hM os (List.mem_of_getElem? ho)
  obtain ⟨W, hW, hwish⟩ := r_law_wish (many := many) z hS hv h1 hn h6 (by omega) (by omega)
  rw [hol] at hW
  have hth := r_law_thawed (hS.small hv hn h6 (by omega))
  refine ⟨W, some (.int ((a : Int) * b)), some (mDf n cs os), hW, ?_⟩
  obtain ⟨ws, hws⟩ : ∃ ws, ws = D.lst true (Ws.map (wD true)) := ⟨_, rfl⟩
  have hM0 : (0 : Int) < M.length := by omega
  have t0 : exec P8 (nth 0 lawU) (E2 S n many m x4 x5 x7 x8 x10 (some (.int z)) x12 ws x14 x15) = .ok .nx (E2 S n many m x4 x5 x7 x8 x10 (some (.int z)) x12 ws (some (.int ((a : Int) * b))) x15) := by
    simp only [nth, lawU, F_law, E2]
    simp [_root_.Q.qs, root, here, seen, seenL, atP, modE, modD, atOwn, fApp, bnd, owns, shas, shrs, P8__law_mix, m1, ac_no, v_min2, hlen, hmn, m2, hmul]
  have hiv : vw P8 (.bin .Sub (.bin .Sub (.len (.var 10)) (.int 1)) (.bin .Mod (.bin .FloorDiv (.var 14) (.int 2)) (.len (.var 10)))) (E2 S n many m x4 x5 x7 x8 x10 (some (.int z)) x12 ws (some (.int ((a : Int) * b))) x15) = .ok (.int j) (E2 S n many m x4 x5 x7 x8 x10 (some (.int z)) x12 ws (some (.int ((a : Int) * b))) x15) := by
    have hmd := b_mod (i := (a : Int) * b / 2) (j := (M.length : Int)) hM0
    simp only [E2]
    simp [_root_.Q.qs, root, here, seen, seenL, atP, modE, modD, atOwn, fApp, bnd, owns, shas, shrs, hlen, hmd, hr2, hj]
  have hev : ev P8 (.ix (.var 10) (.bin .Sub (.bin .Sub (.len (.var 10)) (.int 1)) (.bin .Mod (.bin .FloorDiv (.var 14) (.int 2)) (.len (.var 10))))) (E2 S n many m x4 x5 x7 x8 x10 (some (.int z)) x12 ws (some (.int ((a : Int) * b))) x15) = .ok (mDf n cs os) (E2 S n many m x4 x5 x7 x8 (.lst false (M.map (mDf n cs))) (some (.int z)) x12 ws (some (.int ((a : Int) * b))) x15) := by
    obtain ⟨IX, hIX⟩ : ∃ IX, IX = Ex.bin .Sub (.bin .Sub (.len (.var 10)) (.int 1)) (.bin .Mod (.bin .FloorDiv (.var 14) (.int 2)) (.len (.var 10))) := ⟨_, rfl⟩
    rw [← hIX] at hiv ⊢
    rcases hx with rfl | rfl
    · have hit : item (.lst true (M.map (mD n cs))) (.int j) = some (mD n cs os) := item_map ho
      have h2 : vw P8 (.ix (.var 10) IX) (E2 S n many m x4 x5 x7 x8 (.lst true (M.map (mD n cs))) (some (.int z)) x12 ws (some (.int ((a : Int) * b))) x15) = .ok (mD n cs os) (E2 S n many m x4 x5 x7 x8 (.lst true (M.map (mD n cs))) (some (.int z)) x12 ws (some (.int ((a : Int) * b))) x15) := by
        simp only [E2] at hiv ⊢
        simp [_root_.Q.qs, root, here, seen, seenL, atP, modE, modD, atOwn, fApp, bnd, owns, shas, shrs, hiv, hit]
      rw [x_ev, h2, bindE]
      show take (some 10) _ _ = _
      rw [take_own (own_mD os), shr_mD, dem_at (d := .lst true (M.map (mD n cs))) rfl]
      have : shr (.lst true (M.map (mD n cs))) = .lst false (M.map (mDf n cs)) := by simp [shr, shrs_map (g := mDf n cs) (shr_mD (n := n) (cs := cs))]
      rw [this]
      rfl
    · have hit : item (.lst false (M.map (mDf n cs))) (.int j) = some (mDf n cs os) := item_map ho
      have h3 := own_mDf (n := n) (cs := cs) os
      simp only [E2] at hiv ⊢
      simp [_root_.Q.qs, root, here, seen, seenL, atP, modE, modD, atOwn, fApp, bnd, owns, shas, shrs, hiv, hit, h3]
  have t1 : exec P8 (nth 1 lawU) (E2 S n many m x4 x5 x7 x8 x10 (some (.int z)) x12 ws (some (.int ((a : Int) * b))) x15) = .ok .nx (E2 S n many m x4 x5 x7 x8 (.lst false (M.map (mDf n cs))) (some (.int z)) x12 ws (some (.int ((a : Int) * b))) (some (mDf n cs os))) := by
    simp only [nth, lawU, F_law]
    rw [x_asg, hev, bindE]
    rfl
  have t2 : exec P8 (nth 2 lawU) (E2 S n many m x4 x5 x7 x8 (.lst false (M.map (mDf n cs))) (some (.int z)) x12 ws (some (.int ((a : Int) * b))) (some (mDf n cs os))) = .ok .nx (E2 S n many m x4 x5 x7 x8 (.lst false (M.map (mDf n cs))) (some (.int z)) x12 (.lst true ((Ws ++ [W]).map (wD true))) (some (.int ((a : Int) * b))) (some (mDf n cs os))) := by
    have i0 : item (mDf n cs os) (.int 0) = some (dS (SS n cs os)) := rfl
    have i1 : item (mDf n cs os) (.int 1) = some (dC false false os) := rfl
    have hsX := sha_Xt (SS n cs os)
    have hsW := sha_wD W
    obtain ⟨V, hV⟩ : ∃ V, V = wD true W := ⟨_, rfl⟩
    obtain ⟨Q2, hQ2⟩ : ∃ Q2, Q2 = mDf n cs os := ⟨_, rfl⟩
    obtain ⟨M2, hM2⟩ : ∃ M2, M2 = D.lst false (M.map (mDf n cs)) := ⟨_, rfl⟩
    have e0 : (Ws ++ [W]).map (wD true) = Ws.map (wD true) ++ [wD true W] := by simp
    rw [e0]
    rw [← hV] at hwish hsW ⊢
    rw [← hQ2] at i0 i1 ⊢
    rw [← hM2]
    have hap : ev P8 (.call 166 (.cons (.call 128 (.cons (.ix (.var 15) (.int 0)) .nil)) (.cons (.ix (.var 15) (.int 1)) (.cons (.var 2) (.cons (.var 11) .nil))))) (E2 S n many m x4 x5 x7 x8 M2 (some (.int z)) x12 ws (some (.int ((a : Int) * b))) (some Q2)) = .ok V (E2 S n many m x4 x5 x7 x8 M2 (some (.int z)) x12 ws (some (.int ((a : Int) * b))) (some Q2)) := by
      simp only [E2]
      simp [_root_.Q.qs, root, here, seen, seenL, atP, modE, modD, atOwn, fApp, bnd, owns, shas, shrs, i0, i1, shr_S, own_S, P8__law_thawed, hth, ac_ok, hsX, shr_X, own_Xt, shr_C, own_Cf, P8__law_wish, hwish, hsW, take_none]
    rw [hws] at hap ⊢
    simp only [nth, lawU, F_law]
    exact app_var (i := 13) rfl hap rfl (by simp [line]; omega)
  show (bnd (.var 11) (.int z) _).bind (fun _ env => exec P8 lawU env) = _
  rw [← hws]
  have hbn : bnd (.var 11) (.int z) (E2 S n many m x4 x5 x7 x8 x10 x11 x12 ws x14 x15) = .ok () (E2 S n many m x4 x5 x7 x8 x10 (some (.int z)) x12 ws x14 x15) := rfl
  rw [hbn, bindE]
  simp only [nth, lawU, F_law] at t0 t1 t2 ⊢
  rw [seq_nx t0, seq_nx t1, t2]
def lawV : St := match nth 12 F_law.body with
  | .forr _ _ b => b
  | _ => .nev
theorem wD_self (W : Wish) : (∀ n, 1 < n → dat n (wD false W) = true) ∧ eqv (wD false W) (wD false W) = true := by
  cases W with
  | stand p o =>
    have h := eq_L false false o o
    simp only [cmpOp, dL, dat, dats_ints] at h
    have h2 : eqvs (o.map fun (g : Nat) => D.int (g : Int)) (o.map fun (g : Nat) => D.int (g : Int)) = true := by simpa [eqv] using h
    exact ⟨fun n hn => by simp [wD, dL, dat, dats, dats_ints]; omega, by simp [wD, dL, eqv, eqvs, h2]⟩
  | see p k g => exact ⟨fun n hn => by simp [wD, dat, dats]; omega, by simp [wD, eqv, eqvs]⟩
  | bare p k => exact ⟨fun n hn => by simp [wD, dat, dats]; omega, by simp [wD, eqv, eqvs]⟩
theorem ne_Ws (X : List Wish) : cmpOp .NotEq (.lst true (X.map (wD false))) (.lst false (X.map (wD false))) = some false := by
  have h1 : dats 59 (X.map (wD false)) = true := dats_map fun W => (wD_self W).1 59 (by decide)
  have h2 : eqvs (X.map (wD false)) (X.map (wD false)) = true := by
    clear h1
    induction X with
    | nil => rfl
    | cons W X ih => simp [eqvs, (wD_self W).2, ih]
  simp [cmpOp, dat, h1, eqv, h2, isDc]
end
end K41
end
section
set_option linter.all false
set_option autoImplicit false
set_option maxRecDepth 100000
set_option maxHeartbeats 2000000
namespace K41
open Q
section
variable {n : Nat} {cs os : List (List Nat)}
def E3 (S : D) (n many m : Nat) (x4 x5 : D) (x6 : Option D) (x7 x8 x10 : D) (x11 x12 : Option D) (x13 : D) (x14 x15 : Option D) (x16 : D) (x18 x19 x20 : Option D) : Env := [some S, some (.int n), some (.int many), some (.int m), some x4, some x5, x6, some x7, some x8, none, some x10, x11, x12, some x13, x14, x15, some x16, none, x18, x19, x20]
theorem turn3 {S : D} {many m : Nat} {x4 x5 : D} {x10 : D} {x6 x11 x12 x14 x15 x18 x19 x20 : Option D} {x13 : D} {X : List Wish} (hx5 : shr x5 = dv n cs) (hS : Std cs os) (hv : ∀ c ∈ cs, Cov n c) (hn : n ≤ 6) (h6 : cs.length ≤ 6) (hX : ∀ W ∈ X, wOk n os.length cs W) (hl : X.length < 1000) :
    ∃ y18 y19 y20, turnL P8 (.var 6) lawV (.lst false (X.map (wD false))) (E3 S n many m x4 x5 x6 (dX true (SS n cs os)) (dC true true os) x10 x11 x12 x13 x14 x15 (dS (SS n cs os)) x18 x19 x20) = .ok .nx (E3 S n many m x4 x5 (some (.lst false (X.map (wD false)))) (dX true (SS n cs os)) (dC true true os) x10 x11 x12 x13 x14 x15 (dS (SS n cs os)) y18 y19 y20) := by
  have hsh := r_is_shown hS hv hn h6 hX hl
  obtain ⟨b, hb⟩ : ∃ b, b = X.all (wB n cs os) := ⟨_, rfl⟩
  rw [← hb] at hsh
  refine ⟨some (.lst true (X.map (wD false))), some (.bl b), some (.bl b), ?_⟩
  have ho : owns (X.map (wD false)) = false := owns_map own_wD
  have hne := ne_Ws X
  have hshr : shr (.lst true (X.map (wD false))) = .lst false (X.map (wD false)) := by simp [shr, shrs_map (g := wD false) (shr_wD false)]
  have hshf : shr (.lst false (X.map (wD false))) = .lst false (X.map (wD false)) := by simp [shr, shrs_map (g := wD false) (shr_wD false)]
  have hcm := comp_map (P := P8) (i := 17) (elt := .call 167 (.cons (.var 7) (.cons (.var 8) (.cons (.var 17) .nil)))) (it := .var 6) (env := E3 S n many m x4 x5 (some (.lst false (X.map (wD false)))) (dX true (SS n cs os)) (dC true true os) x10 x11 x12 x13 x14 x15 (dS (SS n cs os)) (some (.lst true (X.map (wD false)))) (some (.bl b)) x20) (o := none) (x := .lst false (X.map (wD false))) (φ := wD false) (ψ := fun W => .bl (wB n cs os W)) rfl (by simp only [E3]; simp [_root_.Q.qs, root, here, seen, seenL, atP, modE, modD, atOwn, fApp, bnd, owns, shas, shrs]) els_lst ho (fun W hm => by
    have := r_law_holds hS hv h6 (hX W hm)
    have sb : ∀ b, sha (D.bl b) = false := fun _ => rfl
    simp only [E3]
    simp [_root_.Q.qs, root, here, seen, seenL, atP, modE, modD, atOwn, fApp, bnd, owns, shas, shrs, shr_X, own_Xt, shr_C, own_Ct, shr_wD, own_wD, P8__law_holds, this, ac_ok, sb]) (by simp [line]; omega)
  have ha := allD_map (f := wB n cs os) (l := X) (o := true)
  rw [← hb] at ha
  obtain ⟨MM, hMM⟩ : ∃ MM, MM = D.lst true (X.map fun W => D.bl (wB n cs os W)) := ⟨_, rfl⟩
  rw [← hMM] at hcm ha
  have hels : els (D.lst false (X.map (wD false))) = some (X.map (wD false)) := rfl
  obtain ⟨L, hL⟩ : ∃ L, L = D.lst false (X.map (wD false)) := ⟨_, rfl⟩
  obtain ⟨L1, hL1⟩ : ∃ L1, L1 = D.lst true (X.map (wD false)) := ⟨_, rfl⟩
  have hl1 : D.lst true (X.map (wD false)) = L1 := hL1.symm
  have hoL : own L1 = true := by rw [hL1]; simp [own]
  have t0 : exec P8 (nth 0 lawV) (E3 S n many m x4 x5 (some L) (dX true (SS n cs os)) (dC true true os) x10 x11 x12 x13 x14 x15 (dS (SS n cs os)) x18 x19 x20) = .ok .nx (E3 S n many m x4 x5 (some L) (dX true (SS n cs os)) (dC true true os) x10 x11 x12 x13 x14 x15 (dS (SS n cs os)) (some L1) x19 x20) := by
    rw [← hL] at hels
    simp only [nth, lawV, F_law, E3]
    simp [_root_.Q.qs, root, here, seen, seenL, atP, modE, modD, atOwn, fApp, bnd, owns, shas, shrs, hels, ho, hl1, hoL, take_none]
  have t1 : exec P8 (nth 1 lawV) (E3 S n many m x4 x5 (some L) (dX true (SS n cs os)) (dC true true os) x10 x11 x12 x13 x14 x15 (dS (SS n cs os)) (some L1) x19 x20) = .ok .nx (E3 S n many m x4 x5 (some L) (dX true (SS n cs os)) (dC true true os) x10 x11 x12 x13 x14 x15 (dS (SS n cs os)) (some L1) (some (.bl b)) x20) := by
    have sb : ∀ b, sha (D.bl b) = false := fun _ => rfl
    rw [← hL] at hsh hshr
    rw [← hL1] at hshr
    simp only [nth, lawV, F_law, E3]
    simp [_root_.Q.qs, root, here, seen, seenL, atP, modE, modD, atOwn, fApp, bnd, owns, shas, shrs, hx5, shr_S, own_S, hshr, P8_is_shown, hsh, ac_ok, sb]
  have t2 : exec P8 (nth 2 lawV) (E3 S n many m x4 x5 (some L) (dX true (SS n cs os)) (dC true true os) x10 x11 x12 x13 x14 x15 (dS (SS n cs os)) (some L1) (some (.bl b)) x20) = .ok .nx (E3 S n many m x4 x5 (some L) (dX true (SS n cs os)) (dC true true os) x10 x11 x12 x13 x14 x15 (dS (SS n cs os)) (some L1) (some (.bl b)) (some (.bl b))) := by
    rw [← hL, ← hL1] at hcm
    simp only [E3] at hcm
    simp only [nth, lawV, F_law, E3]
    simp [_root_.Q.qs, root, here, seen, seenL, atP, modE, modD, atOwn, fApp, bnd, owns, shas, shrs, hcm, ha]
  have t3 : exec P8 (nth 3 lawV) (E3 S n many m x4 x5 (some L) (dX true (SS n cs os)) (dC true true os) x10 x11 x12 x13 x14 x15 (dS (SS n cs os)) (some L1) (some (.bl b)) (some (.bl b))) = .ok .nx (E3 S n many m x4 x5 (some L) (dX true (SS n cs os)) (dC true true os) x10 x11 x12 x13 x14 x15 (dS (SS n cs os)) (some L1) (some (.bl b)) (some (.bl b))) := by
    have q3 : cmpOp .NotEq (.bl b) (.bl b) = some false := by cases b <;> rfl
    rw [← hL, ← hL1] at hne
    simp only [nth, lawV, F_law, E3]
    simp [_root_.Q.qs, root, here, seen, seenL, atP, modE, modD, atOwn, fApp, bnd, owns, shas, shrs, q3, hne]
  show (bnd (.var 6) (.lst false (X.map (wD false))) _).bind (fun _ env => exec P8 lawV env) = _
  rw [← hL, hl1]
  have hbn : bnd (.var 6) L (E3 S n many m x4 x5 x6 (dX true (SS n cs os)) (dC true true os) x10 x11 x12 x13 x14 x15 (dS (SS n cs os)) x18 x19 x20) = .ok () (E3 S n many m x4 x5 (some L) (dX true (SS n cs os)) (dC true true os) x10 x11 x12 x13 x14 x15 (dS (SS n cs os)) x18 x19 x20) := rfl
  rw [hbn, bindE]
  simp only [nth, lawV, F_law] at t0 t1 t2 t3 ⊢
  rw [seq_nx t0, seq_nx t1, seq_nx t2, t3]
end
end K41
end
section
set_option linter.all false
set_option autoImplicit false
set_option maxRecDepth 100000
set_option maxHeartbeats 4000000
namespace K41
open Q
theorem cut_1 {α : Type} {c : List α} : cut c none (some 1) = c.take 1 := by
  simp only [cut, isIx, List.drop_zero, Nat.sub_zero]
  rw [if_neg (by omega)]
  cases c with
  | nil => rfl
  | cons a c =>
    have : min (1 : Int).toNat (a :: c).length = 1 := by simp only [List.length_cons]; omega
    rw [this]
theorem r_law (ns : List Int) : c_law [.lst false (ns.map .int)] = .ok (.bl true) := by
  have c0 : c__law_draw [.lst false (ns.map .int), .int 0] = _ := r_draw ns 0
  have c1 : c__law_draw [.lst false (ns.map .int), .int 1] = _ := r_draw ns 1
  have c2 : c__law_draw [.lst false (ns.map .int), .int 2] = _ := r_draw ns 2
  have c3 : c__law_draw [.lst false (ns.map .int), .int 3] = _ := r_draw ns 3
  obtain ⟨v0, hv0⟩ : ∃ v, ns.getD 0 0 = v := ⟨_, rfl⟩
  obtain ⟨v1, hv1⟩ : ∃ v, ns.getD 1 0 = v := ⟨_, rfl⟩
  obtain ⟨v2, hv2⟩ : ∃ v, ns.getD 2 0 = v := ⟨_, rfl⟩
  obtain ⟨v3, hv3⟩ : ∃ v, ns.getD 3 0 = v := ⟨_, rfl⟩
  rw [hv0] at c0
  rw [hv1] at c1
  rw [hv2] at c2
  rw [hv3] at c3
  obtain ⟨a0, b0, m0⟩ := r_mix v0 1 6 (by decide) (by decide)
  have m0 : c__law_mix [.int v0, .int 1, .int 6] = .ok (.int a0) := m0
  obtain ⟨many, b1, m1⟩ := r_mix v1 1 7 (by decide) (by decide)
  have m1 : c__law_mix [.int v1, .int 1, .int 7] = .ok (.int many) := m1
  obtain ⟨a2, b2, m2⟩ := r_mix v2 1 3 (by decide) (by decide)
  have m2 : c__law_mix [.int v2, .int 1, .int 3] = .ok (.int a2) := m2
  obtain ⟨n, hn⟩ : ∃ n, n = 1 + a0 := ⟨_, rfl⟩
  obtain ⟨m, hm⟩ : ∃ m, m = 1 + a2 := ⟨_, rfl⟩
  have h1 : 1 ≤ n := by omega
  have h2 : n ≤ 6 := by omega
  have g1 : 1 ≤ m := by omega
  have g2 : m ≤ 3 := by omega
  have hn' : (1 : Int) + (a0 : Int) = (n : Int) := by omega
  have hm' : (1 : Int) + (a2 : Int) = (m : Int) := by omega
  obtain ⟨cs, hcl, hv, hcs⟩ := r_law_covers v3 h1 h2 (m := many) (by omega)
  have h6 : cs.length ≤ 6 := by omega
  have hini := r_init h1 h2 h6 hv
  have s0 : exec P8 (nth 0 F_law.body) [some (.lst false (ns.map .int)), none, none, none, none, none, none, none, none, none, none, none, none, none, none, none, none, none, none, none, none] = .ok .nx [some (.lst false (ns.map .int)), some (.int n), none, none, none, none, none, none, none, none, none, none, none, none, none, none, none, none, none, none, none] := by
    simp only [nth, F_law]; simp [_root_.Q.qs, root, here, seen, seenL, atP, modE, modD, atOwn, fApp, bnd, owns, shas, shrs, P8__law_draw, c0, ac_no, shrs_int0, P8__law_mix, m0, hn']
  have s1 : exec P8 (nth 1 F_law.body) [some (.lst false (ns.map .int)), some (.int n), none, none, none, none, none, none, none, none, none, none, none, none, none, none, none, none, none, none, none] = .ok .nx [some (.lst false (ns.map .int)), some (.int n), some (.int many), none, none, none, none, none, none, none, none, none, none, none, none, none, none, none, none, none, none] := by
    simp only [nth, F_law]; simp [_root_.Q.qs, root, here, seen, seenL, atP, modE, modD, atOwn, fApp, bnd, owns, shas, shrs, P8__law_draw, c1, ac_no, shrs_int0, P8__law_mix, m1]
  have s2 : exec P8 (nth 2 F_law.body) [some (.lst false (ns.map .int)), some (.int n), some (.int many), none, none, none, none, none, none, none, none, none, none, none, none, none, none, none, none, none, none] = .ok .nx [some (.lst false (ns.map .int)), some (.int n), some (.int many), some (.int m), none, none, none, none, none, none, none, none, none, none, none, none, none, none, none, none, none] := by
    simp only [nth, F_law]; simp [_root_.Q.qs, root, here, seen, seenL, atP, modE, modD, atOwn, fApp, bnd, owns, shas, shrs, P8__law_draw, c2, ac_no, shrs_int0, P8__law_mix, m2, hm']
  have s3 : exec P8 (nth 3 F_law.body) [some (.lst false (ns.map .int)), some (.int n), some (.int many), some (.int m), none, none, none, none, none, none, none, none, none, none, none, none, none, none, none, none, none] = .ok .nx [some (.lst false (ns.map .int)), some (.int n), some (.int many), some (.int m), some (dC true true cs), none, none, none, none, none, none, none, none, none, none, none, none, none, none, none, none] := by
    simp only [nth, F_law]; simp [_root_.Q.qs, root, here, seen, seenL, atP, modE, modD, atOwn, fApp, bnd, owns, shas, shrs, P8__law_draw, c3, ac_no, shrs_int0, P8__law_covers, hcs, own_Ct]
  obtain ⟨x4, hx4, hc2⟩ : ∃ x4, shr x4 = dC false false cs ∧ vw P8 (.comp (.lis (.var 6)) (.var 6) (.var 4) (.bl true)) [some (.lst false (ns.map .int)), some (.int n), some (.int many), some (.int m), some (dC true true cs), none, none, none, none, none, none, none, none, none, none, none, none, none, none, none, none] = .ok (dC true true cs) [some (.lst false (ns.map .int)), some (.int n), some (.int many), some (.int m), some x4, none, none, none, none, none, none, none, none, none, none, none, none, none, none, none, none] := by
    by_cases hcne : cs = []
    · subst hcne
      exact ⟨dC true true [], shr_C .., comp_map (o := none) (x := dC true true []) (l := ([] : List (List Nat))) (φ := dL true) (ψ := dL true) rfl (by simp [_root_.Q.qs, root, here, seen, seenL, atP, modE, modD, atOwn, fApp, bnd, owns, shas, shrs]) rfl rfl (fun c hc => nomatch hc) (by simp)⟩
    · refine ⟨dC false false cs, shr_C .., ?_⟩
      have hoc : owns (cs.map (dL true)) = true := by
        cases cs with
        | nil => exact absurd rfl hcne
        | cons c0 cs' => simp [owns, own_Lt]
      refine comp_mapC (env1 := [some (.lst false (ns.map .int)), some (.int n), some (.int many), some (.int m), some (dC true true cs), none, none, none, none, none, none, none, none, none, none, none, none, none, none, none, none]) (x := dC true true cs) (o := none) (φ := dL false) (ψ := dL true) (by simp [_root_.Q.qs, root, here, seen, seenL, atP, modE, modD, atOwn, fApp, bnd, owns, shas, shrs]) ?_ rfl (fun c _ => by simp [_root_.Q.qs, root, here, seen, seenL, atP, modE, modD, atOwn, fApp, bnd, owns, shas, shrs, els_L]; rfl) (by simp [line]; omega)
      have : cont (root (.var 4)) (dC true true cs) [some (.lst false (ns.map .int)), some (.int n), some (.int many), some (.int m), some (dC true true cs), none, none, none, none, none, none, none, none, none, none, none, none, none, none, none, none] = .ok (shrs (cs.map (dL true))) (dem 4 [some (.lst false (ns.map .int)), some (.int n), some (.int many), some (.int m), some (dC true true cs), none, none, none, none, none, none, none, none, none, none, none, none, none, none, none, none]) := cont_own rfl hoc
      rw [this, shrs_map (g := dL false) (shr_L true), dem_at (d := dC true true cs) rfl, shr_C]
      rfl
  have s4 : exec P8 (nth 4 F_law.body) [some (.lst false (ns.map .int)), some (.int n), some (.int many), some (.int m), some (dC true true cs), none, none, none, none, none, none, none, none, none, none, none, none, none, none, none, none] = .ok .nx [some (.lst false (ns.map .int)), some (.int n), some (.int many), some (.int m), some x4, some (dV true n true true cs), none, none, none, none, none, none, none, none, none, none, none, none, none, none, none] := by
    simp only [nth, F_law]; simp [_root_.Q.qs, root, here, seen, seenL, atP, modE, modD, atOwn, fApp, bnd, owns, shas, shrs, hc2, P8_Wardrobe_init, shr_C, hini, own_Ct, ac_ok, sha_V]
  have hbr := r_law_bare (m := m) (n := n) (by omega) (by omega)
  rw [← ss_bare (cs := cs)] at hbr
  have s5 : exec P8 (nth 5 F_law.body) [some (.lst false (ns.map .int)), some (.int n), some (.int many), some (.int m), some x4, some (dV true n true true cs), none, none, none, none, none, none, none, none, none, none, none, none, none, none, none] = .ok .nx [some (.lst false (ns.map .int)), some (.int n), some (.int many), some (.int m), some x4, some (dV true n true true cs), none, some (dX true (SS n cs (List.replicate m []))), none, none, none, none, none, none, none, none, none, none, none, none, none] := by
    simp only [nth, F_law]; simp [_root_.Q.qs, root, here, seen, seenL, atP, modE, modD, atOwn, fApp, bnd, owns, shas, shrs, P8__law_bare, hbr, ac_ok, sha_Xt, own_Xt, take_none]
  have hrm := rng_nat (n := m) (by omega)
  have hor : vw P8 (.comp (.lst .nil) (.var 9) (.rng1 (.var 3)) (.bl true)) [some (.lst false (ns.map .int)), some (.int n), some (.int many), some (.int m), some x4, some (dV true n true true cs), none, some (dX true (SS n cs (List.replicate m []))), none, none, none, none, none, none, none, none, none, none, none, none, none] = .ok (dC true true (List.replicate m [])) [some (.lst false (ns.map .int)), some (.int n), some (.int many), some (.int m), some x4, some (dV true n true true cs), none, some (dX true (SS n cs (List.replicate m []))), none, none, none, none, none, none, none, none, none, none, none, none, none] := by
    have := comp_map (P := P8) (i := 9) (elt := .lst .nil) (it := .rng1 (.var 3)) (env := [some (.lst false (ns.map .int)), some (.int n), some (.int many), some (.int m), some x4, some (dV true n true true cs), none, some (dX true (SS n cs (List.replicate m []))), none, none, none, none, none, none, none, none, none, none, none, none, none]) (o := none) (x := .lst true ((List.range m).map fun (i : Nat) => .int (i : Int))) (l := List.range m) (φ := fun (g : Nat) => .int (g : Int)) (ψ := fun _ => dL true []) rfl (by simp [_root_.Q.qs, root, here, seen, seenL, atP, modE, modD, atOwn, fApp, bnd, owns, shas, shrs, hrm]) els_lst owns_ints (fun g _ => by simp [_root_.Q.qs, root, here, seen, seenL, atP, modE, modD, atOwn, fApp, bnd, owns, shas, shrs, line]; rfl) (by simp [line]; omega)
    have e : (List.range m).map (fun _ => dL true []) = (List.replicate m []).map (dL true) := by rw [List.map_replicate, List.map_const', List.length_range]
    rw [e] at this
    exact this
  have s6 : exec P8 (nth 6 F_law.body) [some (.lst false (ns.map .int)), some (.int n), some (.int many), some (.int m), some x4, some (dV true n true true cs), none, some (dX true (SS n cs (List.replicate m []))), none, none, none, none, none, none, none, none, none, none, none, none, none] = .ok .nx [some (.lst false (ns.map .int)), some (.int n), some (.int many), some (.int m), some x4, some (dV true n true true cs), none, some (dX true (SS n cs (List.replicate m []))), some (dC true true (List.replicate m [])), none, none, none, none, none, none, none, none, none, none, none, none] := by
    simp only [nth, F_law]; simp [_root_.Q.qs, root, here, seen, seenL, atP, modE, modD, atOwn, fApp, bnd, owns, shas, shrs, hor, own_Ct, take_none]
  obtain ⟨bo, hbo⟩ : ∃ bo, bo = List.replicate m ([] : List Nat) := ⟨_, rfl⟩
  have hbS : Std cs bo := by rw [hbo]; exact std_bare
  have hbl : bo.length = m := by rw [hbo]; simp
  rw [← hbo] at s5 s6
  have hpe : ∀ os : List (List Nat), Std cs os → os.length = m → ev P8 (.tup (.cons (.call 127 (.cons (.var 7) .nil)) (.cons (.lend 8 (.comp (.lis (.var 6)) (.var 6) (.var 8) (.bl true))) .nil))) [some (.lst false (ns.map .int)), some (.int n), some (.int many), some (.int m), some x4, some (dV true n true true cs), none, some (dX true (SS n cs os)), some (dC true true os), none, none, none, none, none, none, none, none, none, none, none, none] = .ok (mD n cs os) [some (.lst false (ns.map .int)), some (.int n), some (.int many), some (.int m), some x4, some (dV true n true true cs), none, some (dX true (SS n cs os)), some (dC true true os), none, none, none, none, none, none, none, none, none, none, none, none] := fun os hS hl => by
    have hf := r_law_frozen (hS.small (n := n) hv h2 h6 (by omega))
    have hcm := comp_map (P := P8) (i := 6) (elt := .lis (.var 6)) (it := .var 8) (env := [none, none, none, none, none, none, none, none, some (dC false false os), none, none, none, none, none, none, none, none, none, none, none, none]) (o := none) (x := dC false false os) (φ := dL false) (ψ := dL true) rfl (by simp [_root_.Q.qs, root, here, seen, seenL, atP, modE, modD, atOwn, fApp, bnd, owns, shas, shrs]) (els_C ..) (owns_map own_Lf) (fun r _ => by simp [_root_.Q.qs, root, here, seen, seenL, atP, modE, modD, atOwn, fApp, bnd, owns, shas, shrs, els_L]; rfl) (by simp [line]; omega)
    have hld : vw P8 (.lend 8 (.comp (.lis (.var 6)) (.var 6) (.var 8) (.bl true))) [some (.lst false (ns.map .int)), some (.int n), some (.int many), some (.int m), some x4, some (dV true n true true cs), none, some (dX true (SS n cs os)), some (dC true true os), none, none, none, none, none, none, none, none, none, none, none, none] = .ok (dC true true os) [some (.lst false (ns.map .int)), some (.int n), some (.int many), some (.int m), some x4, some (dV true n true true cs), none, some (dX true (SS n cs os)), some (dC true true os), none, none, none, none, none, none, none, none, none, none, none, none] :=
      v_lend (d := dC true true os) rfl (by rw [shr_C]; exact hcm) (sha_Ct os)
    have e0 : D.tup [dS (SS n cs os), dC true true os] = mD n cs os := rfl
    simp [_root_.Q.qs, root, here, seen, seenL, atP, modE, modD, atOwn, fApp, bnd, owns, shas, shrs, P8__law_frozen, shr_X, own_Xt, hf, ac_ok, sha_S, own_S, hld, line, e0]
  have hpb := hpe bo hbS hbl
  have s7 : exec P8 (nth 7 F_law.body) [some (.lst false (ns.map .int)), some (.int n), some (.int many), some (.int m), some x4, some (dV true n true true cs), none, some (dX true (SS n cs bo)), some (dC true true bo), none, none, none, none, none, none, none, none, none, none, none, none] = .ok .nx [some (.lst false (ns.map .int)), some (.int n), some (.int many), some (.int m), some x4, some (dV true n true true cs), none, some (dX true (SS n cs bo)), some (dC true true bo), none, some (.lst true ([bo].map (mD n cs))), none, none, none, none, none, none, none, none, none, none] := by
    rw [x_ev] at hpb
    simp only [nth, F_law]
    obtain ⟨ce, hce⟩ : ∃ ce, ce = Ex.tup (.cons (.call 127 (.cons (.var 7) .nil)) (.cons (.lend 8 (.comp (.lis (.var 6)) (.var 6) (.var 8) (.bl true))) .nil)) := ⟨_, rfl⟩
    rw [← hce] at hpb ⊢
    obtain ⟨V, hV⟩ : ∃ V, V = mD n cs bo := ⟨_, rfl⟩
    have e1 : [bo].map (mD n cs) = [V] := by rw [hV]; rfl
    rw [e1]
    rw [← hV] at hpb
    simp [_root_.Q.qs, root, here, seen, seenL, atP, modE, modD, atOwn, fApp, bnd, owns, shas, shrs, hpb, line]
  obtain ⟨A, hA⟩ : ∃ A : List Int, A = cut ns (some (8 : Int)) (some (28 : Int)) := ⟨_, rfl⟩
  have hAl : A.length ≤ 20 := by rw [hA]; exact cut_len (l := ns) (a := 8) (b := 28)
  obtain ⟨B, hB⟩ : ∃ B : List Int, B = cut ns (some (30 : Int)) (some (42 : Int)) := ⟨_, rfl⟩
  have hBl : B.length ≤ 12 := by rw [hB]; exact cut_len (l := ns) (a := 30) (b := 42)
  have hslA : ∀ rest, vw P8 (.slc (.var 0) (.int 8) (.int 28)) (some (.lst false (ns.map .int)) :: rest) = .ok (.lst true (A.map .int)) (some (.lst false (ns.map .int)) :: rest) := fun rest => by
    rw [hA]; exact slc_I (by simp [_root_.Q.qs, root, here, seen, seenL, atP, modE, modD, atOwn, fApp, bnd, owns, shas, shrs]; rfl) prt_int prt_int
  have hslB : ∀ rest, vw P8 (.slc (.var 0) (.int 30) (.int 42)) (some (.lst false (ns.map .int)) :: rest) = .ok (.lst true (B.map .int)) (some (.lst false (ns.map .int)) :: rest) := fun rest => by
    rw [hB]; exact slc_I (by simp [_root_.Q.qs, root, here, seen, seenL, atP, modE, modD, atOwn, fApp, bnd, owns, shas, shrs]; rfl) prt_int prt_int
  have hi0 : ∀ l : List Int, owns (l.map D.int) = false := fun _ => owns_int0
  have hi1 : ∀ l : List Int, shrs (l.map D.int) = l.map D.int := fun _ => shrs_int0
  obtain ⟨e1, he1, os, M, x11, x12, rfl, hS, hol, hML, hM1, hM⟩ := loop_map (f := turnL P8 (.var 11) lawT) (φ := D.int) (l := A)
    (fun j e => ∃ (os : List (List Nat)) (M : List (List (List Nat))) (x11 x12 : Option D), e = E1 (.lst false (ns.map .int)) n many m x4 (dV true n true true cs) (dX true (SS n cs os)) (dC true true os) (.lst true (M.map (mD n cs))) x11 x12 ∧ Std cs os ∧ os.length = m ∧ M.length ≤ j + 1 ∧ 1 ≤ M.length ∧ ∀ q ∈ M, Std cs q ∧ q.length = m)
    (env := E1 (.lst false (ns.map .int)) n many m x4 (dV true n true true cs) (dX true (SS n cs bo)) (dC true true bo) (.lst true ([bo].map (mD n cs))) none none) ⟨bo, [bo], none, none, rfl, hbS, hbl, by simp, by simp, fun q hq => by rw [List.mem_singleton.mp hq]; exact ⟨hbS, hbl⟩⟩ (fun j z e hj ⟨os, M, x11, x12, he, hS, hol, hML, hM1, hM⟩ => by
    subst he
    have hjl := (List.getElem?_eq_some_iff.mp hj).1
    obtain ⟨os', y12, q1, q2, q3⟩ := turn1 (S := .lst false (ns.map .int)) (n := n) (many := many) (m := m) (x4 := x4) (x5 := dV true n true true cs) (x11 := x11) (x12 := x12) (M := M) z hx4 hS hv h2 h6 (by omega) (by omega) (by omega)
    refine ⟨_, .inl q3, os', M ++ [os'], _, _, rfl, q1, by omega, by simp; omega, by simp, fun q hq => ?_⟩
    rcases List.mem_append.mp hq with h | h
    · exact hM q h
    · rw [List.mem_singleton.mp h]; exact ⟨q1, by omega⟩)
  simp only [lawT, nth, F_law, E1] at he1
  have s8 : exec P8 (nth 8 F_law.body) [some (.lst false (ns.map .int)), some (.int n), some (.int many), some (.int m), some x4, some (dV true n true true cs), none, some (dX true (SS n cs bo)), some (dC true true bo), none, some (.lst true ([bo].map (mD n cs))), none, none, none, none, none, none, none, none, none, none] = .ok .nx [some (.lst false (ns.map .int)), some (.int n), some (.int many), some (.int m), some x4, some (dV true n true true cs), none, some (dX true (SS n cs os)), some (dC true true os), none, some (.lst true (M.map (mD n cs))), x11, x12, none, none, none, none, none, none, none, none] := by
    obtain ⟨MM, hMM⟩ : ∃ MM, MM = D.lst true ([bo].map (mD n cs)) := ⟨_, rfl⟩
    rw [← hMM] at he1 ⊢
    simp only [nth, F_law]; simp [_root_.Q.qs, root, here, seen, seenL, atP, modE, modD, atOwn, fApp, bnd, owns, shas, shrs, hslA, hi0, hi1, he1]
  have s9 : exec P8 (nth 9 F_law.body) [some (.lst false (ns.map .int)), some (.int n), some (.int many), some (.int m), some x4, some (dV true n true true cs), none, some (dX true (SS n cs os)), some (dC true true os), none, some (.lst true (M.map (mD n cs))), x11, x12, none, none, none, none, none, none, none, none] = .ok .nx [some (.lst false (ns.map .int)), some (.int n), some (.int many), some (.int m), some x4, some (dV true n true true cs), none, some (dX true (SS n cs os)), some (dC true true os), none, some (.lst true (M.map (mD n cs))), x11, x12, some (.lst true (([] : List Wish).map (wD true))), none, none, none, none, none, none, none] := by
    simp only [nth, F_law]; simp [_root_.Q.qs, root, here, seen, seenL, atP, modE, modD, atOwn, fApp, bnd, owns, shas, shrs, line]
  obtain ⟨e2, he2, x10, Ws, y11, y14, y15, rfl, hx10, hWl, hWs⟩ := loop_map (f := turnL P8 (.var 11) lawU) (φ := D.int) (l := B)
    (fun j e => ∃ (x10 : D) (Ws : List Wish) (y11 y14 y15 : Option D), e = E2 (.lst false (ns.map .int)) n many m x4 (dV true n true true cs) (dX true (SS n cs os)) (dC true true os) x10 y11 x12 (.lst true (Ws.map (wD true))) y14 y15 ∧ (x10 = .lst true (M.map (mD n cs)) ∨ x10 = .lst false (M.map (mDf n cs))) ∧ Ws.length ≤ j ∧ ∀ W ∈ Ws, wOk n m cs W)
    (env := E2 (.lst false (ns.map .int)) n many m x4 (dV true n true true cs) (dX true (SS n cs os)) (dC true true os) (.lst true (M.map (mD n cs))) x11 x12 (.lst true (([] : List Wish).map (wD true))) none none) ⟨_, [], x11, none, none, rfl, .inl rfl, Nat.le_refl _, fun _ h => (nomatch h)⟩ (fun j z e hj ⟨x10, Ws, y11, y14, y15, he, hx, hl, hW⟩ => by
    subst he
    have hjl := (List.getElem?_eq_some_iff.mp hj).1
    obtain ⟨W, z14, z15, q1, q2⟩ := turn2 (S := .lst false (ns.map .int)) (n := n) (many := many) (m := m) (x4 := x4) (x5 := dV true n true true cs) (x7 := dX true (SS n cs os)) (x8 := dC true true os) (x11 := y11) (x12 := x12) (x14 := y14) (x15 := y15) (Ws := Ws) z hx hM hM1 hv h1 h2 h6 g1 g2 (by omega)
    refine ⟨_, .inl q2, _, Ws ++ [W], _, _, _, rfl, .inr rfl, by simp; omega, fun V hV => ?_⟩
    rcases List.mem_append.mp hV with h | h
    · exact hW V h
    · rw [List.mem_singleton.mp h]; exact q1)
  simp only [lawU, nth, F_law, E2] at he2
  have s10 : exec P8 (nth 10 F_law.body) [some (.lst false (ns.map .int)), some (.int n), some (.int many), some (.int m), some x4, some (dV true n true true cs), none, some (dX true (SS n cs os)), some (dC true true os), none, some (.lst true (M.map (mD n cs))), x11, x12, some (.lst true (([] : List Wish).map (wD true))), none, none, none, none, none, none, none] = .ok .nx [some (.lst false (ns.map .int)), some (.int n), some (.int many), some (.int m), some x4, some (dV true n true true cs), none, some (dX true (SS n cs os)), some (dC true true os), none, some x10, y11, x12, some (.lst true (Ws.map (wD true))), y14, y15, none, none, none, none, none] := by
    obtain ⟨MM, hMM⟩ : ∃ MM, MM = D.lst true (M.map (mD n cs)) := ⟨_, rfl⟩
    rw [← hMM] at he2 ⊢
    obtain ⟨W0, hW0⟩ : ∃ W0, W0 = D.lst true (([] : List Wish).map (wD true)) := ⟨_, rfl⟩
    rw [← hW0] at he2 ⊢
    simp only [nth, F_law]; simp [_root_.Q.qs, root, here, seen, seenL, atP, modE, modD, atOwn, fApp, bnd, owns, shas, shrs, hslB, hi0, hi1, he2]
  have hfr := r_law_frozen (hS.small (n := n) hv h2 h6 (by omega))
  have s11 : exec P8 (nth 11 F_law.body) [some (.lst false (ns.map .int)), some (.int n), some (.int many), some (.int m), some x4, some (dV true n true true cs), none, some (dX true (SS n cs os)), some (dC true true os), none, some x10, y11, x12, some (.lst true (Ws.map (wD true))), y14, y15, none, none, none, none, none] = .ok .nx [some (.lst false (ns.map .int)), some (.int n), some (.int many), some (.int m), some x4, some (dV true n true true cs), none, some (dX true (SS n cs os)), some (dC true true os), none, some x10, y11, x12, some (.lst true (Ws.map (wD true))), y14, y15, some (dS (SS n cs os)), none, none, none, none] := by
    simp only [nth, F_law]; simp [_root_.Q.qs, root, here, seen, seenL, atP, modE, modD, atOwn, fApp, bnd, owns, shas, shrs, P8__law_frozen, shr_X, own_Xt, hfr, ac_ok, sha_S, own_S]
  obtain ⟨XS, hXS⟩ : ∃ XS : List (List Wish), XS = [Ws, [], Ws.take 1] ++ Ws.map fun W => [W] := ⟨_, rfl⟩
  have hXo : ∀ X ∈ XS, (∀ W ∈ X, wOk n os.length cs W) ∧ X.length < 1000 := fun X hX => by
    rw [hol]
    rw [hXS] at hX
    simp only [List.cons_append, List.nil_append, List.mem_cons, List.mem_map] at hX
    rcases hX with rfl | rfl | rfl | ⟨W, hW, rfl⟩
    · exact ⟨hWs, by omega⟩
    · exact ⟨fun _ h => (nomatch h), by simp⟩
    · exact ⟨fun W hW => hWs W (List.mem_of_mem_take hW), by simp; omega⟩
    · exact ⟨fun V hV => by rw [List.mem_singleton.mp hV]; exact hWs W hW, by simp⟩
  have hown : own (.lst true (Ws.map (wD true))) = true := by simp [own]
  have hshr : shr (.lst true (Ws.map (wD true))) = .lst false (Ws.map (wD false)) := by simp [shr, shrs_map (g := wD false) (shr_wD true)]
  have hsl : vw P8 (.slc (.var 13) .nil (.int 1)) [some (.lst false (ns.map .int)), some (.int n), some (.int many), some (.int m), some x4, some (dV true n true true cs), none, some (dX true (SS n cs os)), some (dC true true os), none, some x10, y11, x12, some (.lst false (Ws.map (wD false))), y14, y15, some (dS (SS n cs os)), none, none, none, none] = .ok (.lst true ((Ws.take 1).map (wD false))) [some (.lst false (ns.map .int)), some (.int n), some (.int many), some (.int m), some x4, some (dV true n true true cs), none, some (dX true (SS n cs os)), some (dC true true os), none, some x10, y11, x12, some (.lst false (Ws.map (wD false))), y14, y15, some (dS (SS n cs os)), none, none, none, none] := by
    have := slc_G (P := P8) (φ := wD false) (o := false) (c := Ws) (e := .var 13) (lo := .nil) (hi := .int 1) (l := none) (h := some (1 : Int)) (env := [some (.lst false (ns.map .int)), some (.int n), some (.int many), some (.int m), some x4, some (dV true n true true cs), none, some (dX true (SS n cs os)), some (dC true true os), none, some x10, y11, x12, some (.lst false (Ws.map (wD false))), y14, y15, some (dS (SS n cs os)), none, none, none, none]) (owns_map own_wD) (by simp [_root_.Q.qs, root, here, seen, seenL, atP, modE, modD, atOwn, fApp, bnd, owns, shas, shrs]) prt_nil prt_int
    rw [this, cut_1]
  have hcm := comp_map (P := P8) (i := 17) (elt := .lst (.cons (.var 17) .nil)) (it := .var 13) (env := [some (.lst false (ns.map .int)), some (.int n), some (.int many), some (.int m), some x4, some (dV true n true true cs), none, some (dX true (SS n cs os)), some (dC true true os), none, some x10, y11, x12, some (.lst false (Ws.map (wD false))), y14, y15, some (dS (SS n cs os)), none, none, none, none]) (o := none) (x := .lst false (Ws.map (wD false))) (φ := wD false) (ψ := fun W => .lst true [wD false W]) rfl (by simp [_root_.Q.qs, root, here, seen, seenL, atP, modE, modD, atOwn, fApp, bnd, owns, shas, shrs]) els_lst (owns_map own_wD) (fun W _ => by simp [_root_.Q.qs, root, here, seen, seenL, atP, modE, modD, atOwn, fApp, bnd, owns, shas, shrs, own_wD, line]) (by simp [line]; omega)
  have hct : vw P8 (.catT (.lst (.cons (.var 13) (.cons (.lst .nil) (.cons (.slc (.var 13) .nil (.int 1)) .nil)))) (.comp (.lst (.cons (.var 17) .nil)) (.var 17) (.var 13) (.bl true))) [some (.lst false (ns.map .int)), some (.int n), some (.int many), some (.int m), some x4, some (dV true n true true cs), none, some (dX true (SS n cs os)), some (dC true true os), none, some x10, y11, x12, some (.lst true (Ws.map (wD true))), y14, y15, some (dS (SS n cs os)), none, none, none, none] = .ok (.lst true ([.lst false (Ws.map (wD false)), .lst true [], .lst true ((Ws.take 1).map (wD false))] ++ Ws.map fun W => .lst true [wD false W])) [some (.lst false (ns.map .int)), some (.int n), some (.int many), some (.int m), some x4, some (dV true n true true cs), none, some (dX true (SS n cs os)), some (dC true true os), none, some x10, y11, x12, some (.lst false (Ws.map (wD false))), y14, y15, some (dS (SS n cs os)), none, none, none, none] := by
    have tk : take (some 13) (.lst true (Ws.map (wD true))) [some (.lst false (ns.map .int)), some (.int n), some (.int many), some (.int m), some x4, some (dV true n true true cs), none, some (dX true (SS n cs os)), some (dC true true os), none, some x10, y11, x12, some (.lst true (Ws.map (wD true))), y14, y15, some (dS (SS n cs os)), none, none, none, none] = .ok (.lst false (Ws.map (wD false))) [some (.lst false (ns.map .int)), some (.int n), some (.int many), some (.int m), some x4, some (dV true n true true cs), none, some (dX true (SS n cs os)), some (dC true true os), none, some x10, y11, x12, some (.lst false (Ws.map (wD false))), y14, y15, some (dS (SS n cs os)), none, none, none, none] := by
      rw [take_own hown, hshr, dem_at (d := .lst true (Ws.map (wD true))) rfl, hshr]
      rfl
    have cd : catD (.lst true [.lst false (Ws.map (wD false)), .lst true [], .lst true ((Ws.take 1).map (wD false))]) (.lst true (Ws.map fun W => .lst true [wD false W])) = some (.lst true ([.lst false (Ws.map (wD false)), .lst true [], .lst true ((Ws.take 1).map (wD false))] ++ Ws.map fun W => .lst true [wD false W])) := by
      simp only [catD]
      rw [if_pos (by simp [line]; omega)]
    obtain ⟨RR, hRR⟩ : ∃ RR, RR = D.lst true ([.lst false (Ws.map (wD false)), .lst true [], .lst true ((Ws.take 1).map (wD false))] ++ Ws.map fun W => .lst true [wD false W]) := ⟨_, rfl⟩
    rw [← hRR] at cd ⊢
    obtain ⟨L0, hL0⟩ : ∃ L0, L0 = D.lst true (Ws.map (wD true)) := ⟨_, rfl⟩
    obtain ⟨L9, hL9⟩ : ∃ L9, L9 = D.lst false (Ws.map (wD false)) := ⟨_, rfl⟩
    obtain ⟨T1, hT1⟩ : ∃ T1, T1 = D.lst true ((Ws.take 1).map (wD false)) := ⟨_, rfl⟩
    obtain ⟨C1, hC1⟩ : ∃ C1, C1 = D.lst true (Ws.map fun W => D.lst true [wD false W]) := ⟨_, rfl⟩
    rw [← hL0, ← hL9] at tk
    rw [← hL9, ← hT1, ← hC1] at cd
    rw [← hL9, ← hT1] at hsl
    rw [← hL9, ← hC1] at hcm
    rw [← hL0, ← hL9]
    rw [v_catT]
    simp [_root_.Q.qs, root, here, seen, seenL, atP, modE, modD, atOwn, fApp, bnd, owns, shas, shrs, tk, hsl, line, hcm, cd, take_none]
  have hxs : shrs ([.lst false (Ws.map (wD false)), .lst true [], .lst true ((Ws.take 1).map (wD false))] ++ Ws.map fun W => .lst true [wD false W]) = XS.map fun X => .lst false (X.map (wD false)) := by
    have e1 : ∀ l : List Wish, shrs (l.map (wD false)) = l.map (wD false) := fun l => shrs_map (shr_wD false)
    have e2 : ∀ l : List Wish, shrs (l.map fun W => D.lst true [wD false W]) = l.map fun W => D.lst false [wD false W] := fun l => shrs_map (g := fun W => D.lst false [wD false W]) fun W => by simp [shr, shrs, shr_wD]
    have e3 : ∀ (o : Bool) (l : List Wish), shr (.lst o (l.map (wD false))) = .lst false (l.map (wD false)) := fun o l => by rw [shr, e1]
    rw [hXS]
    show shr (.lst false (Ws.map (wD false))) :: shr (.lst true []) :: shr (.lst true ((Ws.take 1).map (wD false))) :: shrs (Ws.map fun W => D.lst true [wD false W]) = _
    rw [e3, e3, e2]
    simp only [List.cons_append, List.nil_append, List.map_cons, List.map_nil, List.map_map, Function.comp_def]
    rfl
  obtain ⟨e3, he3, y6, y18, y19, y20, rfl⟩ := loop_all (P := P8) (tg := .var 6) (b := lawV) (φ := fun X : List Wish => D.lst false (X.map (wD false))) (l := XS)
    (fun e => ∃ y6 y18 y19 y20, e = E3 (.lst false (ns.map .int)) n many m x4 (dV true n true true cs) y6 (dX true (SS n cs os)) (dC true true os) x10 y11 x12 (.lst false (Ws.map (wD false))) y14 y15 (dS (SS n cs os)) y18 y19 y20)
    (env := E3 (.lst false (ns.map .int)) n many m x4 (dV true n true true cs) none (dX true (SS n cs os)) (dC true true os) x10 y11 x12 (.lst false (Ws.map (wD false))) y14 y15 (dS (SS n cs os)) none none none) ⟨_, _, _, _, rfl⟩ (fun X hX e ⟨y6, y18, y19, y20, he⟩ => by
    subst he
    obtain ⟨q1, q2⟩ := hXo X hX
    obtain ⟨z18, z19, z20, q3⟩ := turn3 (S := .lst false (ns.map .int)) (many := many) (m := m) (x4 := x4) (x5 := dV true n true true cs) (x10 := x10) (x6 := y6) (x11 := y11) (x12 := x12) (x13 := .lst false (Ws.map (wD false))) (x14 := y14) (x15 := y15) (x18 := y18) (x19 := y19) (x20 := y20) (X := X) (shr_V ..) hS hv h2 h6 q1 q2
    exact ⟨_, q3, _, _, _, _, rfl⟩)
  simp only [lawV, nth, F_law, E3] at he3
  have s12 : exec P8 (nth 12 F_law.body) [some (.lst false (ns.map .int)), some (.int n), some (.int many), some (.int m), some x4, some (dV true n true true cs), none, some (dX true (SS n cs os)), some (dC true true os), none, some x10, y11, x12, some (.lst true (Ws.map (wD true))), y14, y15, some (dS (SS n cs os)), none, none, none, none] = .ok .nx [some (.lst false (ns.map .int)), some (.int n), some (.int many), some (.int m), some x4, some (dV true n true true cs), y6, some (dX true (SS n cs os)), some (dC true true os), none, some x10, y11, x12, some (.lst false (Ws.map (wD false))), y14, y15, some (dS (SS n cs os)), none, y18, y19, y20] := by
    obtain ⟨AA, hAA⟩ : ∃ AA, AA = ([.lst false (Ws.map (wD false)), .lst true [], .lst true ((Ws.take 1).map (wD false))] ++ Ws.map fun W => .lst true [wD false W] : List D) := ⟨_, rfl⟩
    rw [← hAA] at hct hxs
    obtain ⟨BB, hBB⟩ : ∃ BB, BB = XS.map fun X => D.lst false (X.map (wD false)) := ⟨_, rfl⟩
    rw [← hBB] at hxs he3
    obtain ⟨L0, hL0⟩ : ∃ L0, L0 = D.lst true (Ws.map (wD true)) := ⟨_, rfl⟩
    obtain ⟨L9, hL9⟩ : ∃ L9, L9 = D.lst false (Ws.map (wD false)) := ⟨_, rfl⟩
    have hoA : own (.lst true AA) = true := by simp [own]
    have hsA : shr (.lst true AA) = .lst false BB := by simp [shr, hxs]
    have hrt : root (Ex.catT (.lst (.cons (.var 13) (.cons (.lst .nil) (.cons (.slc (.var 13) .nil (.int 1)) .nil)))) (.comp (.lst (.cons (.var 17) .nil)) (.var 17) (.var 13) (.bl true))) = none := rfl
    rw [← hL0, ← hL9] at hct
    rw [← hL9] at he3
    rw [← hL0, ← hL9]
    simp only [nth, F_law]
    obtain ⟨ce, hce⟩ : ∃ ce, ce = Ex.catT (.lst (.cons (.var 13) (.cons (.lst .nil) (.cons (.slc (.var 13) .nil (.int 1)) .nil)))) (.comp (.lst (.cons (.var 17) .nil)) (.var 17) (.var 13) (.bl true)) := ⟨_, rfl⟩
    have hnz : ∀ a b, ce ≠ .zip a b := fun a b h => by rw [hce] at h; cases h
    rw [← hce] at hct hrt ⊢
    obtain ⟨LA, hLA⟩ : ∃ LA, LA = D.lst true AA := ⟨_, rfl⟩
    rw [← hLA] at hct hoA hsA
    have hfi : forIt P8 ce [some (.lst false (ns.map .int)), some (.int n), some (.int many), some (.int m), some x4, some (dV true n true true cs), none, some (dX true (SS n cs os)), some (dC true true os), none, some x10, y11, x12, some L0, y14, y15, some (dS (SS n cs os)), none, none, none, none] = .ok BB [some (.lst false (ns.map .int)), some (.int n), some (.int many), some (.int m), some x4, some (dV true n true true cs), none, some (dX true (SS n cs os)), some (dC true true os), none, some x10, y11, x12, some L9, y14, y15, some (dS (SS n cs os)), none, none, none, none] := by
      have hsA' : els (shr LA) = some BB := by rw [hsA]; rfl
      rw [f_it hnz, x_ev, hct, bindE, hrt, take_none, bindE, hsA']
    rw [x_for, hfi, bindE]
    exact he3
  have s13 : exec P8 (.ret (.bl true)) [some (.lst false (ns.map .int)), some (.int n), some (.int many), some (.int m), some x4, some (dV true n true true cs), y6, some (dX true (SS n cs os)), some (dC true true os), none, some x10, y11, x12, some (.lst false (Ws.map (wD false))), y14, y15, some (dS (SS n cs os)), none, y18, y19, y20] = .ok (.ret (.bl true)) [some (.lst false (ns.map .int)), some (.int n), some (.int many), some (.int m), some x4, some (dV true n true true cs), y6, some (dX true (SS n cs os)), some (dC true true os), none, some x10, y11, x12, some (.lst false (Ws.map (wD false))), y14, y15, some (dS (SS n cs os)), none, y18, y19, y20] := by simp [_root_.Q.qs, root, here, seen, seenL, atP, modE, modD, atOwn, fApp, bnd, owns, shas, shrs]
  simp only [hbo] at s7
  simp only [nth, F_law] at s0 s1 s2 s3 s4 s5 s6 s7 s8 s9 s10 s11 s12
  rw [hbo] at s5 s6 s8
  (unfold c_law F_law; refine Eq.trans (_root_.Q.run_of ?_) ?_; focus rfl)
  show outR (exec P8 _ [some (.lst false (ns.map .int)), none, none, none, none, none, none, none, none, none, none, none, none, none, none, none, none, none, none, none, none]) = _
  rw [seq_nx s0, seq_nx s1, seq_nx s2, seq_nx s3, seq_nx s4, seq_nx s5, seq_nx s6, seq_nx s7, seq_nx s8, seq_nx s9, seq_nx s10, seq_nx s11, seq_nx s12, s13, out_ret]
end K41
end
section

end
section
set_option linter.all false
set_option autoImplicit false
set_option maxRecDepth 100000
set_option maxHeartbeats 4000000
namespace K41
open PySem L2
local macro_rules | `(tactic| row_lines q q_vis) => `(tactic| first | exact Or.inl rfl | exact Or.inr (Or.inl rfl) | exact Or.inr (Or.inr rfl))
local macro_rules | `(tactic| row_lines q q_boot) => `(tactic| first
  | exact PyProof.Rows.Boot.«len» | exact PyProof.Rows.Boot.«list» | exact PyProof.Rows.Boot.«tuple» | exact PyProof.Rows.Boot.«int» | exact PyProof.Rows.Boot.«bool» | exact PyProof.Rows.Boot.«str» | exact PyProof.Rows.Boot.«dict» | exact PyProof.Rows.Boot.«sorted»
  | exact PyProof.Rows.boot_set | exact PyProof.Rows.Boot.«any» | exact PyProof.Rows.Boot.«all» | exact PyProof.Rows.Boot.«sum» | exact PyProof.Rows.Boot.«min» | exact PyProof.Rows.Boot.«max» | exact PyProof.Rows.Boot.«isinstance» | exact PyProof.Rows.Boot.«ValueError»)
local macro_rules | `(tactic| row_lines q q_blt) => `(tactic| exact ⟨by rfl, by assumption, by row_lines q q_boot, by decide, by decide⟩)
local macro_rules | `(tactic| row_lines q q_mk) => `(tactic| exact Q.mk_of (by assumption) (Q.room_le (by assumption) (by decide)) (by rfl) (by decide))
local macro_rules | `(tactic| row_lines q q_met) => `(tactic| exact Q.met_of (by assumption) (Q.room_le (by assumption) (by decide)))
local macro_rules | `(tactic| walk_at "q_h0") => `(tactic| first | exact fun h => absurd (by assumption) h | exact fun _ => by decide)
local macro_rules | `(tactic| row_lines q q_room) => `(tactic| assumption)
local macro_rules | `(tactic| row_lines q q_pass) => `(tactic| first | exact Q.pass_F | exact fun σ => L2.passAt (by assumption) σ | exact fun σ => L2.passAt (L2.takes_of rfl rfl rfl rfl) σ)
local macro_rules | `(tactic| row_lines q q_tk) => `(tactic| first | assumption | exact L2.takes_of rfl rfl rfl rfl)
local macro_rules | `(tactic| row_lines q q_cs) => `(tactic| first | exact Q.isxs_one (by assumption) (by rfl) (by decide) | (refine Q.isxs_cons (by assumption) (by rfl) (by decide) ?_; row_lines q q_cs))
local macro_rules | `(tactic| row_lines q q_cal) => `(tactic| exact Q.cal_of (by assumption) (Q.room_le (by assumption) (by decide)) (by rfl) (by decide))
local macro_rules | `(tactic| row_lines q q_cam) => `(tactic| exact Q.cam_of (by assumption) (Q.room_le (by assumption) (by decide)) (by rfl) (by decide))
local macro_rules | `(tactic| row_lines q q_e) => `(tactic| first
  | exact Q.e_int | exact Q.e_bl | exact Q.e_non | exact Q.e_str (by rfl)
  | exact Q.e_var (by rfl) (by row_lines q q_vis) (by decide) (by decide)
  | exact Q.e_mov (by rfl) (by row_lines q q_vis) (by decide) (by decide)
  | exact Q.e_glb' (by assumption) (by rfl) (by decide)
  | (refine Q.e_lend (by rfl) ?_ ; row_lines q q_e)
  | (refine Q.e_lendA (by rfl) ?_ ; row_lines q q_e)
  | (refine Q.e_catT ?_ ?_ <;> row_lines q q_e)
  | (refine Q.e_bin ?_ ?_ <;> row_lines q q_e)
  | (refine Q.e_cmp (by row_lines q q_room) ?_ ?_ (by rfl) <;> row_lines q q_e)
  | (refine Q.e_ix (by rfl) ?_ ?_ <;> row_lines q q_e)
  | (refine Q.e_len (by row_lines q q_blt) ?_ (by rfl) <;> row_lines q q_e)
  | (refine Q.e_call (by row_lines q q_cal) (by row_lines q q_pass) (by rfl) (by rfl) (by rfl) (by rfl) ?_ <;> row_lines q q_ar)
  | (refine Q.e_new (by row_lines q q_mk) (by row_lines q q_pass) (by rfl) (by rfl) (by rfl) (by rfl) ?_ <;> row_lines q q_ar)
  | (refine Q.e_meth (by row_lines q q_met) (by row_lines q q_pass) (by rfl) (by rfl) (by rfl) (by rfl) (by decide) (by rfl) (by rfl) ?_ ?_ <;> first | row_lines q q_e | row_lines q q_ar)
  | (refine Q.e_fld (by assumption) (by assumption) (by rfl) ?_ <;> row_lines q q_e)
  | (refine Q.e_slc ?_ ?_ ?_ <;> first | row_lines q q_e | row_lines q q_p)
  | (refine Q.e_rev ?_ <;> row_lines q q_e)
  | (refine Q.e_lst ?_ <;> row_lines q q_a)
  | (refine Q.e_lstZ ?_ <;> row_lines q q_a)
  | (refine Q.e_tup ?_ <;> row_lines q q_a)
  | (refine Q.e_comp rfl (by assumption) ?_ (L2.blkOk_by (by rfl)) (fun h => by first | exact ⟨_, rfl⟩ | cases h) (fun s H C cl fp => ?_) (fun s H C cl fp => ?_) (fun s H C cl fp => ?_) (fun _ => rfl) <;> first | row_lines q q_i | row_lines q q_g | exact Q.ts_nil | (refine Q.ts_one ?_; row_lines q q_t) | row_lines q q_e)
  | (refine Q.e_ife ?_ ?_ ?_ <;> first | row_lines q q_t | row_lines q q_e)
  | (refine Q.e_not ?_ <;> row_lines q q_e)
  | (refine Q.e_neg ?_ <;> row_lines q q_e)
  | (refine Q.e_isN ?_ <;> row_lines q q_e)
  | (refine Q.e_notN ?_ <;> row_lines q q_e)
  | (refine Q.e_cmp2' (by row_lines q q_room) ?_ ?_ ?_ (by rfl) <;> row_lines q q_e)
  | (refine Q.e_lisR rfl (by rfl) (by assumption) (by rfl) (by assumption) (by rfl) ?_ <;> row_lines q q_e)
  | (refine Q.e_lis (by row_lines q q_blt) ?_ (by rfl) <;> row_lines q q_e)
  | (refine Q.e_tpl (by row_lines q q_blt) ?_ (by rfl) <;> row_lines q q_e)
  | (refine Q.e_toI (by row_lines q q_blt) ?_ (by rfl) <;> row_lines q q_e)
  | (refine Q.e_sset rfl (by row_lines q q_blt) (by row_lines q q_blt) ?_ (by rfl) <;> row_lines q q_e)
  | (refine Q.e_srt (by row_lines q q_room) (by row_lines q q_blt) ?_ (by rfl) <;> row_lines q q_e)
  | (refine Q.e_any rfl (by row_lines q q_blt) ?_ (by rfl) <;> row_lines q q_e)
  | (refine Q.e_all rfl (by row_lines q q_blt) ?_ (by rfl) <;> row_lines q q_e)
  | (refine Q.e_sum rfl (by row_lines q q_blt) ?_ (by rfl) <;> row_lines q q_e)
  | (refine Q.e_min1 rfl (by row_lines q q_blt) ?_ (by rfl) <;> row_lines q q_e)
  | (refine Q.e_max1 rfl (by row_lines q q_blt) ?_ (by rfl) <;> row_lines q q_e)
  | (refine Q.e_min2 rfl (by row_lines q q_blt) ?_ ?_ (by rfl) (by rfl) <;> row_lines q q_e)
  | (refine Q.e_max2 rfl (by row_lines q q_blt) ?_ ?_ (by rfl) (by rfl) <;> row_lines q q_e)
  | (refine Q.e_idx (by row_lines q q_room) (by rfl) (by rfl) (by rfl) ?_ ?_ <;> row_lines q q_e)
  | (refine Q.e_cnt (by row_lines q q_room) (by rfl) (by rfl) (by rfl) ?_ ?_ <;> row_lines q q_e)
  | (refine Q.e_isT (by assumption) (by decide) (by row_lines q q_blt) (by row_lines q q_blt) (by rfl) ?_ <;> row_lines q q_e)
  | exact Q.e_dcl
  | (refine Q.e_isX1 (by assumption) (by row_lines q q_blt) (by rfl) (by decide) (by rfl) ?_ <;> row_lines q q_e)
  | (refine Q.e_isXV (by assumption) (by row_lines q q_blt) (by row_lines q q_blt) (by rfl) ?_ <;> row_lines q q_e)
  | (refine Q.e_isXT (by row_lines q q_cs) (by decide) (by row_lines q q_blt) (by rfl) ?_ <;> row_lines q q_e)
  | (refine Q.v_pe ?_ rfl <;> row_lines q q_v)
  | exact Q.e_nev)
local macro_rules | `(tactic| row_lines q q_v) => `(tactic| first
  | (refine Q.v_and ?_ ?_ <;> first | row_lines q q_e | row_lines q q_v)
  | (refine Q.v_or ?_ ?_ <;> first | row_lines q q_e | row_lines q q_v)
  | (refine Q.v_ev (Q.v_and ?_ ?_) rfl <;> first | row_lines q q_e | row_lines q q_v)
  | (refine Q.v_ev (Q.v_or ?_ ?_) rfl <;> first | row_lines q q_e | row_lines q q_v)
  | (refine Q.OkV.one (Q.OkE.ev ?_) <;> row_lines q q_e))
local macro_rules | `(tactic| row_lines q q_t) => `(tactic| first
  | (refine Q.t_lendA ?_ ; row_lines q q_t)
  | (refine Q.t_cmp (by row_lines q q_room) ?_ ?_ (by rfl) <;> row_lines q q_e)
  | (refine Q.t_not ?_ <;> row_lines q q_t)
  | (refine Q.OkT.pw ?_ <;> row_lines q q_w)
  | (refine Q.t_isN ?_ <;> row_lines q q_e)
  | (refine Q.t_notN ?_ <;> row_lines q q_e)
  | (refine Q.t_cmp2' (by row_lines q q_room) ?_ ?_ ?_ (by rfl) <;> row_lines q q_e)
  | (refine Q.t_any ?_ (fun _ => rfl) <;> row_lines q q_e))
local macro_rules | `(tactic| row_lines q q_w) => `(tactic| first
  | (refine Q.w_and ?_ ?_ <;> first | row_lines q q_t | row_lines q q_w)
  | (refine Q.w_or ?_ ?_ <;> first | row_lines q q_t | row_lines q q_w)
  | (refine Q.w_and1 ?_ <;> row_lines q q_t)
  | (refine Q.w_or1 ?_ <;> row_lines q q_t))
local macro_rules | `(tactic| row_lines q q_a) => `(tactic| first | exact Q.a_nil | (refine Q.a_cons ?_ ?_ (Q.star_cons (by rfl)) <;> first | row_lines q q_e | row_lines q q_a))
local macro_rules | `(tactic| row_lines q q_ar) => `(tactic| first | exact Q.aa_nil | (refine Q.aa_cons ?_ ?_ (by rfl) <;> first | row_lines q q_e | row_lines q q_ar))
local macro_rules | `(tactic| row_lines q q_p) => `(tactic| first | exact Q.p_none | (refine Q.p_some (fun h => nomatch h) ?_ <;> row_lines q q_e))
local macro_rules | `(tactic| row_lines q q_g) => `(tactic| first
  | exact Q.g_var (by assumption) (by rfl) (by first | exact Or.inl rfl | exact Or.inr rfl) (by first | exact Or.inl rfl | exact Or.inr rfl)
  | (refine Q.g_tup rfl (by rfl) ?_ (by rfl) (by rfl) <;> row_lines q q_gs))
local macro_rules | `(tactic| row_lines q q_gs) => `(tactic| first | exact Q.gs_nil | (refine Q.gs_cons ?_ ?_ (by rfl) <;> first | row_lines q q_g | row_lines q q_gs))
local macro_rules | `(tactic| row_lines q q_i) => `(tactic| first
  | (refine Q.i_rng1 (by rfl) (by assumption) (by rfl) ?_ <;> row_lines q q_e)
  | (refine Q.i_rng2 (by rfl) (by assumption) (by rfl) (by rfl) ?_ ?_ <;> row_lines q q_e)
  | (refine Q.i_zip (by rfl) (by assumption) (by rfl) (by rfl) ?_ ?_ <;> row_lines q q_e)
  | (refine Q.i_seq ?_ <;> row_lines q q_e))
local macro_rules | `(tactic| row_lines q q_f) => `(tactic| first
  | (refine Q.f_rng1 (by rfl) (by assumption) (by rfl) ?_ <;> row_lines q q_e)
  | (refine Q.f_rng2 (by rfl) (by assumption) (by rfl) (by rfl) ?_ ?_ <;> row_lines q q_e)
  | (refine Q.f_zip (by rfl) (by assumption) (by rfl) (by rfl) ?_ ?_ <;> row_lines q q_e)
  | (refine Q.f_seq (by rfl) ?_ <;> row_lines q q_e))
local macro_rules | `(tactic| row_lines q q_x) => `(tactic| first | exact Q.x_nil | (refine Q.x_var (by walk_at "q_h0") ?_ ?_ (by rfl) <;> first | row_lines q q_g | row_lines q q_x) | (refine Q.x_ix (by rfl) (Q.l_of ?_) ?_ ?_ (by rfl) <;> first | row_lines q q_k | row_lines q q_e | row_lines q q_x))
local macro_rules | `(tactic| row_lines q q_k) => `(tactic| first
  | exact Q.k_var (by rfl) (by row_lines q q_vis) (by decide) (by decide)
  | (refine Q.k_ix (by rfl) ?_ ?_ <;> first | row_lines q q_k | row_lines q q_e))
local macro_rules | `(tactic| row_lines q q_s) => `(tactic| first
  | exact Q.s_nev | exact Q.s_pas | exact Q.s_brk | exact Q.s_cont | exact Q.s_retN
  | (refine Q.s_ret ?_ <;> row_lines q q_e)
  | (refine Q.s_ite ?_ ?_ ?_ <;> first | row_lines q q_t | row_lines q q_b)
  | (refine Q.s_setLcL (by walk_at "q_h0") rfl (by assumption) (by rfl) (by rfl) (L2.sw_true rfl rfl (by rfl) (by rfl)) ?_ (L2.blkOk_by (by rfl)) (fun h => by first | exact ⟨_, rfl⟩ | cases h) (fun s H C cl fp => ?_) (fun s H C cl fp => ?_) (fun s H C cl fp => ?_) (fun _ => rfl) <;> first | row_lines q q_i | row_lines q q_g | exact Q.ts_nil | (refine Q.ts_one ?_; row_lines q q_t) | row_lines q q_e)
  | (refine Q.s_setLc (by walk_at "q_h0") rfl (by assumption) (by rfl) (by rfl) (L2.sw_true rfl rfl (by rfl) (by rfl)) ?_ (L2.blkOk_by (by rfl)) (fun h => by first | exact ⟨_, rfl⟩ | cases h) (fun s H C cl fp => ?_) (fun s H C cl fp => ?_) (fun s H C cl fp => ?_) (fun _ => rfl) <;> first | row_lines q q_i | row_lines q q_g | exact Q.ts_nil | (refine Q.ts_one ?_; row_lines q q_t) | row_lines q q_e)
  | (refine Q.s_asg (by walk_at "q_h0") ?_ (Q.OkE.ev ?_) (by rfl) (by rfl) (by rfl) <;> first | row_lines q q_g | row_lines q q_e)
  | (refine Q.s_forA (fun _ => rfl) (L2.passes_of rfl) rfl (by assumption) (by rfl) (by rfl) (by first | exact Or.inl rfl | exact Or.inr rfl) (by row_lines q q_vis) (by row_lines q q_vis) (by first | exact Or.inl rfl | exact Or.inr rfl) (by decide) (by decide) (by decide) (by decide) (by walk_at "q_h0") (by rfl) (by rfl) ?_ (fun _ => rfl) <;> row_lines q q_e)
  | (refine Q.s_forT (by walk_at "q_h0") (L2.passes_of rfl) rfl ?_ ?_ ?_ ?_ (fun h => by first | exact ⟨_, rfl⟩ | cases h) (fun _ => rfl) <;> first | row_lines q q_f | row_lines q q_g | row_lines q q_t | row_lines q q_e)
  | (refine Q.s_for (by walk_at "q_h0") (L2.passes_of rfl) rfl ?_ ?_ ?_ (fun h => by first | exact ⟨_, rfl⟩ | cases h) (fun _ => rfl) <;> first | row_lines q q_f | row_lines q q_g | (intro G1 hG1; (first | replace hG1 := hG1 (by assumption) | skip); row_lines q q_b))
  | (refine Q.s_whl (L2.passes_of rfl) ?_ ?_ <;> first | row_lines q q_t | row_lines q q_b)
  | (refine Q.s_appP (by rfl) (by rfl) (by rfl) (by rfl) (by rfl) (Q.l_of ?_) (Q.l_of ?_) ?_ <;> first | row_lines q q_k | row_lines q q_e)
  | (refine Q.s_app (by rfl) (by rfl) (by rfl) (Q.l_of ?_) ?_ <;> first | row_lines q q_k | row_lines q q_e)
  | (refine Q.s_ext (by rfl) (by rfl) (by rfl) (Q.l_of ?_) ?_ <;> first | row_lines q q_k | row_lines q q_e)
  | (refine Q.s_ins (by rfl) (by rfl) (by rfl) (by rfl) (Q.l_of ?_) ?_ ?_ <;> first | row_lines q q_k | row_lines q q_e)
  | (refine Q.s_clr (by rfl) (by rfl) (Q.l_of ?_) <;> row_lines q q_k)
  | (refine Q.s_pop (by rfl) (by rfl) (Q.l_of ?_) <;> row_lines q q_k)
  | (refine Q.s_popG (by walk_at "q_h0") (by rfl) (by rfl) (Q.l_of ?_) ?_ (by rfl) (by rfl) (by rfl) <;> first | row_lines q q_k | row_lines q q_g)
  | (refine Q.s_popA (by rfl) (by rfl) (by rfl) (Q.l_of ?_) ?_ <;> first | row_lines q q_k | row_lines q q_e)
  | (refine Q.s_popAG (by walk_at "q_h0") (by rfl) (by rfl) (by rfl) (Q.l_of ?_) ?_ ?_ (by rfl) (by rfl) (by rfl) <;> first | row_lines q q_k | row_lines q q_e | row_lines q q_g)
  | (refine Q.s_rem (by rfl) (by rfl) (by rfl) (Q.l_of ?_) ?_ <;> first | row_lines q q_k | row_lines q q_e)
  | (refine Q.s_sti (by rfl) (Q.l_of ?_) ?_ ?_ (by rfl) (by rfl) (by rfl) <;> first | row_lines q q_k | row_lines q q_e)
  | (refine Q.s_par2 (by walk_at "q_h0") rfl (by assumption) (by rfl) (by rfl) (by decide) (by rfl) (by rfl) ?_ (by rfl) <;> row_lines q q_a)
  | (refine Q.s_parX rfl ?_ ?_ (by rfl) (by rfl) (by decide) (by rfl) (by rfl) (by rfl) (by rfl) (by rfl) <;> first | row_lines q q_x | row_lines q q_a)
  | (refine Q.s_stf (by assumption) (by assumption) (by assumption) (by rfl) (by row_lines q q_vis) (by decide) (by decide) (by rfl) ?_ <;> row_lines q q_e)
  | exact Q.s_rai0 (by assumption) (by rfl) (by decide) rfl (by row_lines q q_tk)
  | exact Q.s_raiD (by assumption) (Q.room_le (by assumption) (by decide)) (by rfl) (by decide) rfl (by row_lines q q_tk)
  | (refine Q.s_raiT (by assumption) (Q.room_le (by assumption) (by decide)) (by rfl) (by decide) rfl (by row_lines q q_tk) (by rfl) ?_ <;> row_lines q q_a)
  | (refine Q.s_tryT (by assumption) (by rfl) (by decide) rfl rfl (by assumption) (by rfl) (by rfl) (by rfl) (by rfl) (by row_lines q q_tk) (by decide) (by decide) (by rfl) (by first | exact Or.inl rfl | exact Or.inr rfl) (fun h => by first | exact absurd (by assumption) h | exact (by decide)) (fun W pn xe tkW pxW => ?_); row_lines q q_b)
  | (refine Q.s_callM (by row_lines q q_cam) (by row_lines q q_pass) (by rfl) (by rfl) (by rfl) (by rfl) (by rfl) (by row_lines q q_vis) (by decide) (by decide) ?_ <;> row_lines q q_ar)
  | (refine Q.s_exp ?_ (by rfl) <;> row_lines q q_e))
local macro_rules | `(tactic| row_lines q q_b) => `(tactic| first | exact Q.b_nil | (refine Q.b_cons ?_ ?_ <;> first | row_lines q q_s | row_lines q q_b) | (refine Q.b_one ?_ <;> row_lines q q_s))

def top (i : Nat) : Stmt := PySem.Challenge.pw_quickchange_k41_wishes_seen.main.body.getD i (.Pass ⟨0, 0, 0, 0⟩)
section
variable {P : Program} {w : World} {K : PySem.W.Frag} {mg : Str → Option Value} {base : Heap} {N : Q.Nm} {Pg : Q.Pg}
theorem sc_seen_in : FnScope ["wearing", "row"] ["wearing"] (defScope (top 8)) := ⟨rfl, rfl, rfl, by decide +kernel, rfl, by decide +kernel, by decide +kernel⟩
theorem ok_seen_in {f : Addr} {fd : FuncData} (FF : Fun K "seen_in" "seen_in" (top 8) f fd) (hN : Q.NmOk K N) (hI : ∀ c g, Pg.insF c g = true → N.insF c g = true) (n0 : N.fld 0 = "row") (n1 : N.fld 1 = "garment") (n3 : N.fld 3 = "body") (n4 : N.fld 4 = "covering")  : FnOk P w K mg base (L2.CX P w) 2 f fd ["wearing"] (Q.spT K N 1 (Q.runFn Pg F_seen_in)) := by
  refine Q.fn_ok FF sc_seen_in rfl rfl rfl fun cdv A outer s H E hr G hG => ?_
  have nd := sc_seen_in.nd
  row_lines q q_b
theorem sc_is_whole : FnScope ["thing"] ["thing"] (defScope (top 16)) := ⟨rfl, rfl, rfl, by decide +kernel, rfl, by decide +kernel, by decide +kernel⟩
theorem ok_is_whole {f : Addr} {fd : FuncData} (FF : Fun K "is_whole" "is_whole" (top 16) f fd) (hN : Q.NmOk K N) (hI : ∀ c g, Pg.insF c g = true → N.insF c g = true) (n0 : N.fld 0 = "row") (n1 : N.fld 1 = "garment") (n3 : N.fld 3 = "body") (n4 : N.fld 4 = "covering") (m_isinstance : mg "isinstance" = none) (m_int : mg "int" = none) (m_bool : mg "bool" = none) : FnOk P w K mg base (L2.CX P w) 2 f fd ["thing"] (Q.spT K N 1 (Q.runFn Pg F_is_whole)) := by
  refine Q.fn_ok FF sc_is_whole rfl rfl rfl fun cdv A outer s H E hr G hG => ?_
  have nd := sc_is_whole.nd
  row_lines q q_b
theorem sc_Wardrobe_spots : FnScope ["self"] ["self"] (defScope (inClass (top 18) 1)) := ⟨rfl, rfl, rfl, by decide +kernel, rfl, by decide +kernel, by decide +kernel⟩
theorem ok_Wardrobe_spots {f : Addr} {fd : FuncData} (FF : Fun K "spots" "Wardrobe.spots" (inClass (top 18) 1) f fd) (hN : Q.NmOk K N) (hI : ∀ c g, Pg.insF c g = true → N.insF c g = true) (n0 : N.fld 0 = "row") (n1 : N.fld 1 = "garment") (n3 : N.fld 3 = "body") (n4 : N.fld 4 = "covering")  : FnOk P w K mg base (L2.CX P w) 2 f fd ["self"] (Q.spT K N 1 (Q.runFn Pg F_Wardrobe_spots)) := by
  refine Q.fn_ok FF sc_Wardrobe_spots rfl rfl rfl fun cdv A outer s H E hr G hG => ?_
  have nd := sc_Wardrobe_spots.nd
  row_lines q q_b
theorem sc__law_draw : FnScope ["script", "k", "found"] ["script", "k"] (defScope (top 20)) := ⟨rfl, rfl, rfl, by decide +kernel, rfl, by decide +kernel, by decide +kernel⟩
theorem ok__law_draw {f : Addr} {fd : FuncData} (FF : Fun K "_law_draw" "_law_draw" (top 20) f fd) (hN : Q.NmOk K N) (hI : ∀ c g, Pg.insF c g = true → N.insF c g = true) (n0 : N.fld 0 = "row") (n1 : N.fld 1 = "garment") (n3 : N.fld 3 = "body") (n4 : N.fld 4 = "covering")  : FnOk P w K mg base (L2.CX P w) 2 f fd ["script", "k"] (Q.spT K N 2 (Q.runFn Pg F__law_draw)) := by
  refine Q.fn_ok FF sc__law_draw rfl rfl rfl fun cdv A outer s H E hr G hG => ?_
  have nd := sc__law_draw.nd
  row_lines q q_b
theorem sc__law_mix : FnScope ["cell", "turn", "many", "place", "by", "prime", "x"] ["cell", "turn", "many"] (defScope (top 21)) := ⟨rfl, rfl, rfl, by decide +kernel, rfl, by decide +kernel, by decide +kernel⟩
theorem ok__law_mix {f : Addr} {fd : FuncData} (FF : Fun K "_law_mix" "_law_mix" (top 21) f fd) (hN : Q.NmOk K N) (hI : ∀ c g, Pg.insF c g = true → N.insF c g = true) (n0 : N.fld 0 = "row") (n1 : N.fld 1 = "garment") (n3 : N.fld 3 = "body") (n4 : N.fld 4 = "covering")  : FnOk P w K mg base (L2.CX P w) 2 f fd ["cell", "turn", "many"] (Q.spT K N 3 (Q.runFn Pg F__law_mix)) := by
  refine Q.fn_ok FF sc__law_mix rfl rfl rfl fun cdv A outer s H E hr G hG => ?_
  have nd := sc__law_mix.nd
  row_lines q q_b
theorem sc__law_part : FnScope ["cell", "k", "left", "j"] ["cell", "k"] (defScope (top 22)) := ⟨rfl, rfl, rfl, by decide +kernel, rfl, by decide +kernel, by decide +kernel⟩
theorem ok__law_part {f : Addr} {fd : FuncData} (FF : Fun K "_law_part" "_law_part" (top 22) f fd) (hN : Q.NmOk K N) (hI : ∀ c g, Pg.insF c g = true → N.insF c g = true) (n0 : N.fld 0 = "row") (n1 : N.fld 1 = "garment") (n3 : N.fld 3 = "body") (n4 : N.fld 4 = "covering") (m_range : mg "range" = none) : FnOk P w K mg base (L2.CX P w) 2 f fd ["cell", "k"] (Q.spT K N 2 (Q.runFn Pg F__law_part)) := by
  refine Q.fn_ok FF sc__law_part rfl rfl rfl fun cdv A outer s H E hr G hG => ?_
  have nd := sc__law_part.nd
  row_lines q q_b
theorem sc__law_wearer : FnScope ["state", "garment", "player", "row"] ["state", "garment"] (defScope (top 24)) := ⟨rfl, rfl, rfl, by decide +kernel, rfl, by decide +kernel, by decide +kernel⟩
theorem ok__law_wearer {f : Addr} {fd : FuncData} (FF : Fun K "_law_wearer" "_law_wearer" (top 24) f fd) (hN : Q.NmOk K N) (hI : ∀ c g, Pg.insF c g = true → N.insF c g = true) (n0 : N.fld 0 = "row") (n1 : N.fld 1 = "garment") (n3 : N.fld 3 = "body") (n4 : N.fld 4 = "covering") (m_range : mg "range" = none) (m_len : mg "len" = none) (m_any : mg "any" = none) : FnOk P w K mg base (L2.CX P w) 2 f fd ["state", "garment"] (Q.spT K N 2 (Q.runFn Pg F__law_wearer)) := by
  refine Q.fn_ok FF sc__law_wearer rfl rfl rfl fun cdv A outer s H E hr G hG => ?_
  have nd := sc__law_wearer.nd
  row_lines q q_b
theorem sc__law_above : FnScope ["state", "covers", "player", "garment", "found", "place", "row"] ["state", "covers", "player", "garment"] (defScope (top 25)) := ⟨rfl, rfl, rfl, by decide +kernel, rfl, by decide +kernel, by decide +kernel⟩
theorem ok__law_above {f : Addr} {fd : FuncData} (FF : Fun K "_law_above" "_law_above" (top 25) f fd) (hN : Q.NmOk K N) (hI : ∀ c g, Pg.insF c g = true → N.insF c g = true) (n0 : N.fld 0 = "row") (n1 : N.fld 1 = "garment") (n3 : N.fld 3 = "body") (n4 : N.fld 4 = "covering")  : FnOk P w K mg base (L2.CX P w) 2 f fd ["state", "covers", "player", "garment"] (Q.spT K N 4 (Q.runFn Pg F__law_above)) := by
  refine Q.fn_ok FF sc__law_above rfl rfl rfl fun cdv A outer s H E hr G hG => ?_
  have nd := sc__law_above.nd
  row_lines q q_b
theorem sc__law_do : FnScope ["state", "covers", "deed", "player", "word", "garment", "place"] ["state", "covers", "deed"] (defScope (top 26)) := ⟨rfl, rfl, rfl, by decide +kernel, rfl, by decide +kernel, by decide +kernel⟩
theorem ok__law_do {f : Addr} {fd : FuncData} (FF : Fun K "_law_do" "_law_do" (top 26) f fd) (hN : Q.NmOk K N) (hI : ∀ c g, Pg.insF c g = true → N.insF c g = true) (n0 : N.fld 0 = "row") (n1 : N.fld 1 = "garment") (n3 : N.fld 3 = "body") (n4 : N.fld 4 = "covering")  : FnOk P w K mg base (L2.CX P w) 2 f fd ["state", "covers", "deed"] (Q.spM K N 2 (Q.runM Pg F__law_do)) := by
  refine Q.fn_mut FF sc__law_do rfl rfl rfl fun cdv A outer s H E hr G => ?_
  have nd := sc__law_do.nd
  row_lines q q_b
theorem sc__law_frozen : FnScope ["state", "row", "wearing"] ["state"] (defScope (top 27)) := ⟨rfl, rfl, rfl, by decide +kernel, rfl, by decide +kernel, by decide +kernel⟩
theorem ok__law_frozen {f : Addr} {fd : FuncData} (FF : Fun K "_law_frozen" "_law_frozen" (top 27) f fd) (hN : Q.NmOk K N) (hI : ∀ c g, Pg.insF c g = true → N.insF c g = true) (n0 : N.fld 0 = "row") (n1 : N.fld 1 = "garment") (n3 : N.fld 3 = "body") (n4 : N.fld 4 = "covering") (m_tuple : mg "tuple" = none) : FnOk P w K mg base (L2.CX P w) 2 f fd ["state"] (Q.spT K N 1 (Q.runFn Pg F__law_frozen)) := by
  refine Q.fn_ok FF sc__law_frozen rfl rfl rfl fun cdv A outer s H E hr G hG => ?_
  have nd := sc__law_frozen.nd
  row_lines q q_b
theorem sc__law_thawed : FnScope ["standing", "row", "wearing"] ["standing"] (defScope (top 28)) := ⟨rfl, rfl, rfl, by decide +kernel, rfl, by decide +kernel, by decide +kernel⟩
theorem ok__law_thawed {f : Addr} {fd : FuncData} (FF : Fun K "_law_thawed" "_law_thawed" (top 28) f fd) (hN : Q.NmOk K N) (hI : ∀ c g, Pg.insF c g = true → N.insF c g = true) (n0 : N.fld 0 = "row") (n1 : N.fld 1 = "garment") (n3 : N.fld 3 = "body") (n4 : N.fld 4 = "covering") (m_list : mg "list" = none) : FnOk P w K mg base (L2.CX P w) 2 f fd ["standing"] (Q.spT K N 1 (Q.runFn Pg F__law_thawed)) := by
  refine Q.fn_ok FF sc__law_thawed rfl rfl rfl fun cdv A outer s H E hr G hG => ?_
  have nd := sc__law_thawed.nd
  row_lines q q_b
theorem sc__law_bare : FnScope ["players", "places", "place", "player"] ["players", "places"] (defScope (top 29)) := ⟨rfl, rfl, rfl, by decide +kernel, rfl, by decide +kernel, by decide +kernel⟩
theorem ok__law_bare {f : Addr} {fd : FuncData} (FF : Fun K "_law_bare" "_law_bare" (top 29) f fd) (hN : Q.NmOk K N) (hI : ∀ c g, Pg.insF c g = true → N.insF c g = true) (n0 : N.fld 0 = "row") (n1 : N.fld 1 = "garment") (n3 : N.fld 3 = "body") (n4 : N.fld 4 = "covering") (m_range : mg "range" = none) : FnOk P w K mg base (L2.CX P w) 2 f fd ["players", "places"] (Q.spT K N 2 (Q.runFn Pg F__law_bare)) := by
  refine Q.fn_ok FF sc__law_bare rfl rfl rfl fun cdv A outer s H E hr G hG => ?_
  have nd := sc__law_bare.nd
  row_lines q q_b
theorem sc__law_cross : FnScope ["covers", "one", "other", "place"] ["covers", "one", "other"] (defScope (top 31)) := ⟨rfl, rfl, rfl, by decide +kernel, rfl, by decide +kernel, by decide +kernel⟩
theorem ok__law_cross {f : Addr} {fd : FuncData} (FF : Fun K "_law_cross" "_law_cross" (top 31) f fd) (hN : Q.NmOk K N) (hI : ∀ c g, Pg.insF c g = true → N.insF c g = true) (n0 : N.fld 0 = "row") (n1 : N.fld 1 = "garment") (n3 : N.fld 3 = "body") (n4 : N.fld 4 = "covering") (m_any : mg "any" = none) : FnOk P w K mg base (L2.CX P w) 2 f fd ["covers", "one", "other"] (Q.spT K N 3 (Q.runFn Pg F__law_cross)) := by
  refine Q.fn_ok FF sc__law_cross rfl rfl rfl fun cdv A outer s H E hr G hG => ?_
  have nd := sc__law_cross.nd
  row_lines q q_b
theorem sc__law_orders : FnScope ["orders", "beat", "player", "word", "garment"] ["orders", "beat"] (defScope (top 35)) := ⟨rfl, rfl, rfl, by decide +kernel, rfl, by decide +kernel, by decide +kernel⟩
theorem ok__law_orders {f : Addr} {fd : FuncData} (FF : Fun K "_law_orders" "_law_orders" (top 35) f fd) (hN : Q.NmOk K N) (hI : ∀ c g, Pg.insF c g = true → N.insF c g = true) (n0 : N.fld 0 = "row") (n1 : N.fld 1 = "garment") (n3 : N.fld 3 = "body") (n4 : N.fld 4 = "covering")  : FnOk P w K mg base (L2.CX P w) 2 f fd ["orders", "beat"] (Q.spM K N 1 (Q.runM Pg F__law_orders)) := by
  refine Q.fn_mut FF sc__law_orders rfl rfl rfl fun cdv A outer s H E hr G => ?_
  have nd := sc__law_orders.nd
  row_lines q q_b
theorem sc__law_alike : FnScope ["state", "wish", "row", "garment"] ["state", "wish"] (defScope (top 38)) := ⟨rfl, rfl, rfl, by decide +kernel, rfl, by decide +kernel, by decide +kernel⟩
theorem ok__law_alike {f : Addr} {fd : FuncData} (FF : Fun K "_law_alike" "_law_alike" (top 38) f fd) (hN : Q.NmOk K N) (hI : ∀ c g, Pg.insF c g = true → N.insF c g = true) (n0 : N.fld 0 = "row") (n1 : N.fld 1 = "garment") (n3 : N.fld 3 = "body") (n4 : N.fld 4 = "covering")  : FnOk P w K mg base (L2.CX P w) 2 f fd ["state", "wish"] (Q.spT K N 2 (Q.runFn Pg F__law_alike)) := by
  refine Q.fn_ok FF sc__law_alike rfl rfl rfl fun cdv A outer s H E hr G hG => ?_
  have nd := sc__law_alike.nd
  row_lines q q_b
theorem sc_bare_wearing : FnScope ["wardrobe", "place"] ["wardrobe"] (defScope (top 7)) := ⟨rfl, rfl, rfl, by decide +kernel, rfl, by decide +kernel, by decide +kernel⟩
theorem ok_bare_wearing {f : Addr} {fd : FuncData} (FF : Fun K "bare_wearing" "bare_wearing" (top 7) f fd) (hN : Q.NmOk K N) (hI : ∀ c g, Pg.insF c g = true → N.insF c g = true) (n0 : N.fld 0 = "row") (n1 : N.fld 1 = "garment") (n3 : N.fld 3 = "body") (n4 : N.fld 4 = "covering") (m_tuple : mg "tuple" = none) (m_range : mg "range" = none) (M0 : Q.MetOk P w K mg base N Pg 2 0 0 "spots") : FnOk P w K mg base (L2.CX P w) 3 f fd ["wardrobe"] (Q.spT K N 1 (Q.runFn Pg F_bare_wearing)) := by
  refine Q.fn_ok FF sc_bare_wearing rfl rfl rfl fun cdv A outer s H E hr G hG => ?_
  have nd := sc_bare_wearing.nd
  row_lines q q_b
theorem sc_is_cover : FnScope ["thing", "places", "last", "place"] ["thing", "places"] (defScope (top 17)) := ⟨rfl, rfl, rfl, by decide +kernel, rfl, by decide +kernel, by decide +kernel⟩
theorem ok_is_cover {f : Addr} {fd : FuncData} (FF : Fun K "is_cover" "is_cover" (top 17) f fd) (hN : Q.NmOk K N) (hI : ∀ c g, Pg.insF c g = true → N.insF c g = true) (n0 : N.fld 0 = "row") (n1 : N.fld 1 = "garment") (n3 : N.fld 3 = "body") (n4 : N.fld 4 = "covering") (m_isinstance : mg "isinstance" = none) (m_list : mg "list" = none) (D0 : Q.DefOk P w K mg base N Pg 2 6 1 "is_whole") : FnOk P w K mg base (L2.CX P w) 3 f fd ["thing", "places"] (Q.spT K N 2 (Q.runFn Pg F_is_cover)) := by
  refine Q.fn_ok FF sc_is_cover rfl rfl rfl fun cdv A outer s H E hr G hG => ?_
  have nd := sc_is_cover.nd
  row_lines q q_b
theorem sc_Wardrobe_covers : FnScope ["self", "garment"] ["self", "garment"] (defScope (inClass (top 18) 3)) := ⟨rfl, rfl, rfl, by decide +kernel, rfl, by decide +kernel, by decide +kernel⟩
theorem ok_Wardrobe_covers {f : Addr} {fd : FuncData} (FF : Fun K "covers" "Wardrobe.covers" (inClass (top 18) 3) f fd) (hN : Q.NmOk K N) (hI : ∀ c g, Pg.insF c g = true → N.insF c g = true) (n0 : N.fld 0 = "row") (n1 : N.fld 1 = "garment") (n3 : N.fld 3 = "body") (n4 : N.fld 4 = "covering") (m_len : mg "len" = none) (m_list : mg "list" = none) (D0 : Q.DefOk P w K mg base N Pg 2 6 1 "is_whole") : FnOk P w K mg base (L2.CX P w) 3 f fd ["self", "garment"] (Q.spT K N 2 (Q.runFn Pg F_Wardrobe_covers)) := by
  refine Q.fn_ok FF sc_Wardrobe_covers rfl rfl rfl fun cdv A outer s H E hr G hG => ?_
  have nd := sc_Wardrobe_covers.nd
  row_lines q q_b
theorem sc__law_covers : FnScope ["cell", "places", "many", "covers", "k", "number", "bits", "place"] ["cell", "places", "many"] (defScope (top 23)) := ⟨rfl, rfl, rfl, by decide +kernel, rfl, by decide +kernel, by decide +kernel⟩
theorem ok__law_covers {f : Addr} {fd : FuncData} (FF : Fun K "_law_covers" "_law_covers" (top 23) f fd) (hN : Q.NmOk K N) (hI : ∀ c g, Pg.insF c g = true → N.insF c g = true) (n0 : N.fld 0 = "row") (n1 : N.fld 1 = "garment") (n3 : N.fld 3 = "body") (n4 : N.fld 4 = "covering") (m_range : mg "range" = none) (D0 : Q.DefOk P w K mg base N Pg 2 123 2 "_law_part") (D1 : Q.DefOk P w K mg base N Pg 2 24 3 "_law_mix") : FnOk P w K mg base (L2.CX P w) 3 f fd ["cell", "places", "many"] (Q.spT K N 3 (Q.runFn Pg F__law_covers)) := by
  refine Q.fn_ok FF sc__law_covers rfl rfl rfl fun cdv A outer s H E hr G hG => ?_
  have nd := sc__law_covers.nd
  row_lines q q_b
theorem sc__law_may : FnScope ["state", "covers", "deed", "player", "word", "garment"] ["state", "covers", "deed"] (defScope (top 30)) := ⟨rfl, rfl, rfl, by decide +kernel, rfl, by decide +kernel, by decide +kernel⟩
theorem ok__law_may {f : Addr} {fd : FuncData} (FF : Fun K "_law_may" "_law_may" (top 30) f fd) (hN : Q.NmOk K N) (hI : ∀ c g, Pg.insF c g = true → N.insF c g = true) (n0 : N.fld 0 = "row") (n1 : N.fld 1 = "garment") (n3 : N.fld 3 = "body") (n4 : N.fld 4 = "covering") (D0 : Q.DefOk P w K mg base N Pg 2 124 2 "_law_wearer") (D1 : Q.DefOk P w K mg base N Pg 2 125 4 "_law_above") : FnOk P w K mg base (L2.CX P w) 3 f fd ["state", "covers", "deed"] (Q.spT K N 3 (Q.runFn Pg F__law_may)) := by
  refine Q.fn_ok FF sc__law_may rfl rfl rfl fun cdv A outer s H E hr G hG => ?_
  have nd := sc__law_may.nd
  row_lines q q_b
theorem sc__law_deed : FnScope ["state", "covers", "number", "garment", "player"] ["state", "covers", "number"] (defScope (top 32)) := ⟨rfl, rfl, rfl, by decide +kernel, rfl, by decide +kernel, by decide +kernel⟩
theorem ok__law_deed {f : Addr} {fd : FuncData} (FF : Fun K "_law_deed" "_law_deed" (top 32) f fd) (hN : Q.NmOk K N) (hI : ∀ c g, Pg.insF c g = true → N.insF c g = true) (n0 : N.fld 0 = "row") (n1 : N.fld 1 = "garment") (n3 : N.fld 3 = "body") (n4 : N.fld 4 = "covering") (m_len : mg "len" = none) (D0 : Q.DefOk P w K mg base N Pg 2 24 3 "_law_mix") (D1 : Q.DefOk P w K mg base N Pg 2 124 2 "_law_wearer") : FnOk P w K mg base (L2.CX P w) 3 f fd ["state", "covers", "number"] (Q.spT K N 3 (Q.runFn Pg F__law_deed)) := by
  refine Q.fn_ok FF sc__law_deed rfl rfl rfl fun cdv A outer s H E hr G hG => ?_
  have nd := sc__law_deed.nd
  row_lines q q_b
theorem sc__law_done : FnScope ["state", "covers", "beat", "deed"] ["state", "covers", "beat"] (defScope (top 34)) := ⟨rfl, rfl, rfl, by decide +kernel, rfl, by decide +kernel, by decide +kernel⟩
theorem ok__law_done {f : Addr} {fd : FuncData} (FF : Fun K "_law_done" "_law_done" (top 34) f fd) (hN : Q.NmOk K N) (hI : ∀ c g, Pg.insF c g = true → N.insF c g = true) (n0 : N.fld 0 = "row") (n1 : N.fld 1 = "garment") (n3 : N.fld 3 = "body") (n4 : N.fld 4 = "covering") (D0 : Q.MutOk P w K mg base N Pg 2 126 2 "_law_do") : FnOk P w K mg base (L2.CX P w) 3 f fd ["state", "covers", "beat"] (Q.spM K N 2 (Q.runM Pg F__law_done)) := by
  refine Q.fn_mut FF sc__law_done rfl rfl rfl fun cdv A outer s H E hr G => ?_
  have nd := sc__law_done.nd
  row_lines q q_b
theorem sc__law_wish : FnScope ["state", "orders", "many", "number", "player", "place", "row"] ["state", "orders", "many", "number"] (defScope (top 36)) := ⟨rfl, rfl, rfl, by decide +kernel, rfl, by decide +kernel, by decide +kernel⟩
theorem ok__law_wish {f : Addr} {fd : FuncData} (FF : Fun K "_law_wish" "_law_wish" (top 36) f fd) (hN : Q.NmOk K N) (hI : ∀ c g, Pg.insF c g = true → N.insF c g = true) (n0 : N.fld 0 = "row") (n1 : N.fld 1 = "garment") (n3 : N.fld 3 = "body") (n4 : N.fld 4 = "covering") (m_len : mg "len" = none) (m_list : mg "list" = none) (D0 : Q.DefOk P w K mg base N Pg 2 24 3 "_law_mix") : FnOk P w K mg base (L2.CX P w) 3 f fd ["state", "orders", "many", "number"] (Q.spT K N 4 (Q.runFn Pg F__law_wish)) := by
  refine Q.fn_ok FF sc__law_wish rfl rfl rfl fun cdv A outer s H E hr G hG => ?_
  have nd := sc__law_wish.nd
  row_lines q q_b
theorem sc__law_holds : FnScope ["state", "orders", "wish", "garments", "garment", "row"] ["state", "orders", "wish"] (defScope (top 37)) := ⟨rfl, rfl, rfl, by decide +kernel, rfl, by decide +kernel, by decide +kernel⟩
theorem ok__law_holds {f : Addr} {fd : FuncData} (FF : Fun K "_law_holds" "_law_holds" (top 37) f fd) (hN : Q.NmOk K N) (hI : ∀ c g, Pg.insF c g = true → N.insF c g = true) (n0 : N.fld 0 = "row") (n1 : N.fld 1 = "garment") (n3 : N.fld 3 = "body") (n4 : N.fld 4 = "covering") (m_sorted : mg "sorted" = none) (D0 : Q.DefOk P w K mg base N Pg 2 168 2 "_law_alike") : FnOk P w K mg base (L2.CX P w) 3 f fd ["state", "orders", "wish"] (Q.spT K N 3 (Q.runFn Pg F__law_holds)) := by
  refine Q.fn_ok FF sc__law_holds rfl rfl rfl fun cdv A outer s H E hr G hG => ?_
  have nd := sc__law_holds.nd
  row_lines q q_b
theorem sc_put_on : FnScope ["wardrobe", "wearing", "garment", "places", "k"] ["wardrobe", "wearing", "garment"] (defScope (top 9)) := ⟨rfl, rfl, rfl, by decide +kernel, rfl, by decide +kernel, by decide +kernel⟩
theorem ok_put_on {f : Addr} {fd : FuncData} (FF : Fun K "put_on" "put_on" (top 9) f fd) (hN : Q.NmOk K N) (hI : ∀ c g, Pg.insF c g = true → N.insF c g = true) (n0 : N.fld 0 = "row") (n1 : N.fld 1 = "garment") (n3 : N.fld 3 = "body") (n4 : N.fld 4 = "covering") (m_tuple : mg "tuple" = none) (m_range : mg "range" = none) (m_len : mg "len" = none) (M0 : Q.MetOk P w K mg base N Pg 3 2 1 "covers") : FnOk P w K mg base (L2.CX P w) 4 f fd ["wardrobe", "wearing", "garment"] (Q.spT K N 3 (Q.runFn Pg F_put_on)) := by
  refine Q.fn_ok FF sc_put_on rfl rfl rfl fun cdv A outer s H E hr G hG => ?_
  have nd := sc_put_on.nd
  row_lines q q_b
theorem sc_Wardrobe_init : FnScope ["self", "places", "covers", "garment", "cover"] ["self", "places", "covers"] (defScope (inClass (top 18) 0)) := ⟨rfl, rfl, rfl, by decide +kernel, rfl, by decide +kernel, by decide +kernel⟩
theorem ok_Wardrobe_init {f : Addr} {fd : FuncData} (FF : Fun K "__init__" "Wardrobe.__init__" (inClass (top 18) 0) f fd) (hN : Q.NmOk K N) (hI : ∀ c g, Pg.insF c g = true → N.insF c g = true) (n0 : N.fld 0 = "row") (n1 : N.fld 1 = "garment") (n3 : N.fld 3 = "body") (n4 : N.fld 4 = "covering") (G_MOST : Q.GlT K N mg Pg 0 "MOST") (m_len : mg "len" = none) (m_range : mg "range" = none) (m_list : mg "list" = none) (D0 : Q.DefOk P w K mg base N Pg 2 6 1 "is_whole") (D1 : Q.DefOk P w K mg base N Pg 3 7 2 "is_cover") : FnOk P w K mg base (L2.CX P w) 4 f fd ["self", "places", "covers"] (Q.spI K N 2 7 (Q.runFn Pg F_Wardrobe_init)) := by
  refine Q.fn_init FF sc_Wardrobe_init rfl rfl rfl rfl fun cdv A outer s H E hr G => ?_
  have nd := sc_Wardrobe_init.nd
  row_lines q q_b
theorem sc__law_beat : FnScope ["state", "covers", "cell", "most", "found", "k", "deed", "one"] ["state", "covers", "cell", "most"] (defScope (top 33)) := ⟨rfl, rfl, rfl, by decide +kernel, rfl, by decide +kernel, by decide +kernel⟩
theorem ok__law_beat {f : Addr} {fd : FuncData} (FF : Fun K "_law_beat" "_law_beat" (top 33) f fd) (hN : Q.NmOk K N) (hI : ∀ c g, Pg.insF c g = true → N.insF c g = true) (n0 : N.fld 0 = "row") (n1 : N.fld 1 = "garment") (n3 : N.fld 3 = "body") (n4 : N.fld 4 = "covering") (m_range : mg "range" = none) (m_any : mg "any" = none) (D0 : Q.DefOk P w K mg base N Pg 2 24 3 "_law_mix") (D1 : Q.DefOk P w K mg base N Pg 3 28 3 "_law_deed") (D2 : Q.DefOk P w K mg base N Pg 2 123 2 "_law_part") (D3 : Q.DefOk P w K mg base N Pg 3 130 3 "_law_may") (D4 : Q.DefOk P w K mg base N Pg 2 131 3 "_law_cross") : FnOk P w K mg base (L2.CX P w) 4 f fd ["state", "covers", "cell", "most"] (Q.spT K N 4 (Q.runFn Pg F__law_beat)) := by
  refine Q.fn_ok FF sc__law_beat rfl rfl rfl fun cdv A outer s H E hr G hG => ?_
  have nd := sc__law_beat.nd
  row_lines q q_b
theorem sc_dressed : FnScope ["wardrobe", "order", "found", "garment"] ["wardrobe", "order"] (defScope (top 10)) := ⟨rfl, rfl, rfl, by decide +kernel, rfl, by decide +kernel, by decide +kernel⟩
theorem ok_dressed {f : Addr} {fd : FuncData} (FF : Fun K "dressed" "dressed" (top 10) f fd) (hN : Q.NmOk K N) (hI : ∀ c g, Pg.insF c g = true → N.insF c g = true) (n0 : N.fld 0 = "row") (n1 : N.fld 1 = "garment") (n3 : N.fld 3 = "body") (n4 : N.fld 4 = "covering") (D0 : Q.DefOk P w K mg base N Pg 3 13 1 "bare_wearing") (D1 : Q.DefOk P w K mg base N Pg 4 17 3 "put_on") : FnOk P w K mg base (L2.CX P w) 5 f fd ["wardrobe", "order"] (Q.spT K N 2 (Q.runFn Pg F_dressed)) := by
  refine Q.fn_ok FF sc_dressed rfl rfl rfl fun cdv A outer s H E hr G hG => ?_
  have nd := sc_dressed.nd
  row_lines q q_b
theorem sc_wish_holds : FnScope ["wardrobe", "standing", "wish", "wearing", "there"] ["wardrobe", "standing", "wish"] (defScope (top 12)) := ⟨rfl, rfl, rfl, by decide +kernel, rfl, by decide +kernel, by decide +kernel⟩
theorem ok_wish_holds {f : Addr} {fd : FuncData} (FF : Fun K "wish_holds" "wish_holds" (top 12) f fd) (hN : Q.NmOk K N) (hI : ∀ c g, Pg.insF c g = true → N.insF c g = true) (n0 : N.fld 0 = "row") (n1 : N.fld 1 = "garment") (n3 : N.fld 3 = "body") (n4 : N.fld 4 = "covering") (D0 : Q.DefOk P w K mg base N Pg 5 61 2 "dressed") (D1 : Q.DefOk P w K mg base N Pg 2 53 1 "seen_in") : FnOk P w K mg base (L2.CX P w) 6 f fd ["wardrobe", "standing", "wish"] (Q.spT K N 3 (Q.runFn Pg F_wish_holds)) := by
  refine Q.fn_ok FF sc_wish_holds rfl rfl rfl fun cdv A outer s H E hr G hG => ?_
  have nd := sc_wish_holds.nd
  row_lines q q_b
theorem sc_is_shown : FnScope ["wardrobe", "standing", "wishes", "wish"] ["wardrobe", "standing", "wishes"] (defScope (top 13)) := ⟨rfl, rfl, rfl, by decide +kernel, rfl, by decide +kernel, by decide +kernel⟩
theorem ok_is_shown {f : Addr} {fd : FuncData} (FF : Fun K "is_shown" "is_shown" (top 13) f fd) (hN : Q.NmOk K N) (hI : ∀ c g, Pg.insF c g = true → N.insF c g = true) (n0 : N.fld 0 = "row") (n1 : N.fld 1 = "garment") (n3 : N.fld 3 = "body") (n4 : N.fld 4 = "covering") (m_all : mg "all" = none) (D0 : Q.DefOk P w K mg base N Pg 6 164 3 "wish_holds") : FnOk P w K mg base (L2.CX P w) 7 f fd ["wardrobe", "standing", "wishes"] (Q.spT K N 3 (Q.runFn Pg F_is_shown)) := by
  refine Q.fn_ok FF sc_is_shown rfl rfl rfl fun cdv A outer s H E hr G hG => ?_
  have nd := sc_is_shown.nd
  row_lines q q_b
theorem sc_law : FnScope ["script", "places", "many", "players", "covers", "wardrobe", "some", "state", "orders", "player", "met", "cell", "beat", "wishes", "back", "there", "standing", "wish", "handed", "found", "due"] ["script"] (defScope (top 39)) := ⟨rfl, rfl, rfl, by decide +kernel, rfl, by decide +kernel, by decide +kernel⟩
theorem ok_law {f : Addr} {fd : FuncData} (FF : Fun K "law" "law" (top 39) f fd) (hN : Q.NmOk K N) (hI : ∀ c g, Pg.insF c g = true → N.insF c g = true) (n0 : N.fld 0 = "row") (n1 : N.fld 1 = "garment") (n3 : N.fld 3 = "body") (n4 : N.fld 4 = "covering") (m_list : mg "list" = none) (m_range : mg "range" = none) (m_min : mg "min" = none) (m_len : mg "len" = none) (m_all : mg "all" = none) (m_isinstance : mg "isinstance" = none) (m_bool : mg "bool" = none) (D0 : Q.DefOk P w K mg base N Pg 2 24 3 "_law_mix") (D1 : Q.DefOk P w K mg base N Pg 2 122 2 "_law_draw") (D2 : Q.DefOk P w K mg base N Pg 3 26 3 "_law_covers") (D3 : Q.DefOk P w K mg base N Pg 2 129 2 "_law_bare") (D4 : Q.DefOk P w K mg base N Pg 2 127 1 "_law_frozen") (D5 : Q.DefOk P w K mg base N Pg 4 132 4 "_law_beat") (D6 : Q.MutOk P w K mg base N Pg 3 58 2 "_law_done") (D7 : Q.MutOk P w K mg base N Pg 2 160 1 "_law_orders") (D8 : Q.DefOk P w K mg base N Pg 3 166 4 "_law_wish") (D9 : Q.DefOk P w K mg base N Pg 2 128 1 "_law_thawed") (D10 : Q.DefOk P w K mg base N Pg 7 165 3 "is_shown") (D11 : Q.DefOk P w K mg base N Pg 3 167 3 "_law_holds") (C0 : Q.IniOk P w K mg base N Pg 4 8 2 7 "Wardrobe") : FnOk P w K mg base (L2.CX P w) 8 f fd ["script"] (Q.spT K N 1 (Q.runFn Pg F_law)) := by
  refine Q.fn_ok FF sc_law rfl rfl rfl fun cdv A outer s H E hr G hG => ?_
  have nd := sc_law.nd
  row_lines q q_b
end
end K41
end
section
set_option linter.all false
set_option autoImplicit false
set_option maxRecDepth 100000
set_option maxHeartbeats 4000000
namespace K41
open PySem L2
section
theorem ins_cases {c g : Nat} (h : insK c g = true) : (c = 7 ∧ g = 3) ∨ (c = 7 ∧ g = 4) := by
  simpa [insK] using h
def nmsK : List Str := ["row", "garment", "over", "body", "covering"]
theorem nms_inj : ∀ f g, Q.fldN nmsK f = Q.fldN nmsK g → f = g := Q.fldN_inj (by decide +kernel) (by decide +kernel)
theorem ne_0 : ∀ g, insK 7 g = true → Q.fldN nmsK g ≠ "spots" := fun g hg => by
  rcases ins_cases hg with ⟨_, rfl⟩ | ⟨_, rfl⟩ <;> first | (exfalso; omega) | decide +kernel
theorem mth0_u (Pg : Q.Pg) (e : Pg.mth = mthK) : ∀ c f, Pg.mth c 0 = some f → c = 7 ∧ f = 9 := fun c f h => by
  rw [e] at h
  unfold mthK at h
  repeat (split at h; (first | (rename_i q; exact ⟨q.1, (Option.some.inj h).symm⟩) | (rename_i q; exact absurd q.2 (by decide))))
  cases h
theorem ne_2 : ∀ g, insK 7 g = true → Q.fldN nmsK g ≠ "covers" := fun g hg => by
  rcases ins_cases hg with ⟨_, rfl⟩ | ⟨_, rfl⟩ <;> first | (exfalso; omega) | decide +kernel
theorem mth2_u (Pg : Q.Pg) (e : Pg.mth = mthK) : ∀ c f, Pg.mth c 2 = some f → c = 7 ∧ f = 11 := fun c f h => by
  rw [e] at h
  unfold mthK at h
  repeat (split at h; (first | (rename_i q; exact ⟨q.1, (Option.some.inj h).symm⟩) | (rename_i q; exact absurd q.2 (by decide))))
  cases h
theorem all_mk {l : PySem.W.OpenLaw} {w : World} {K : PySem.W.Frag} {h : Heap} {mg : Str → Option Value} {fa C7 f1 f2 f3 f4 f5 f6 f7 f8 f9 f10 f11 f12 f13 f14 f15 f16 f17 f18 f19 f20 f21 f22 f23 f24 f25 f26 f27 f28 f29 f30 f31 : Addr} (X : K.In h) (G : h.Ns mainGlobals mg) (hfa : mg "law" = some (.ref fa))
    {od1 an1 od2 an2 od3 an3 od4 an4 od5 an5 od6 an6 od7 an7 od8 an8 od9 an9 od10 an10 od11 an11 od12 an12 od13 an13 od14 an14 od15 an15 od16 an16 od17 an17 od18 an18 od19 an19 od20 an20 od21 an21 od22 an22 od23 an23 od24 an24 od25 an25 od26 an26 od27 an27 od28 an28 od29 an29 od30 an30 od31 an31 : Option Addr} {sl1 sl2 sl3 sl4 sl5 sl6 sl7 sl8 sl9 sl10 sl11 sl12 sl13 sl14 sl15 sl16 sl17 sl18 sl19 sl20 sl21 sl22 sl23 sl24 sl25 sl26 sl27 sl28 sl29 sl30 sl31 : Array (Option Value)} {oc1 kV1 dc1 pm1 cd1 ct1 oc2 kV2 dc2 pm2 cd2 ct2 oc3 kV3 dc3 pm3 cd3 ct3 oc4 kV4 dc4 pm4 cd4 ct4 oc5 kV5 dc5 pm5 cd5 ct5 oc6 kV6 dc6 pm6 cd6 ct6 oc7 kV7 dc7 pm7 cd7 ct7 oc8 kV8 dc8 pm8 cd8 ct8 oc9 kV9 dc9 pm9 cd9 ct9 oc10 kV10 dc10 pm10 cd10 ct10 oc11 kV11 dc11 pm11 cd11 ct11 oc12 kV12 dc12 pm12 cd12 ct12 oc13 kV13 dc13 pm13 cd13 ct13 oc14 kV14 dc14 pm14 cd14 ct14 oc15 kV15 dc15 pm15 cd15 ct15 oc16 kV16 dc16 pm16 cd16 ct16 oc17 kV17 dc17 pm17 cd17 ct17 oc18 kV18 dc18 pm18 cd18 ct18 oc19 kV19 dc19 pm19 cd19 ct19 oc20 kV20 dc20 pm20 cd20 ct20 oc21 kV21 dc21 pm21 cd21 ct21 oc22 kV22 dc22 pm22 cd22 ct22 oc23 kV23 dc23 pm23 cd23 ct23 oc24 kV24 dc24 pm24 cd24 ct24 oc25 kV25 dc25 pm25 cd25 ct25 oc26 kV26 dc26 pm26 cd26 ct26 oc27 kV27 dc27 pm27 cd27 ct27 oc28 kV28 dc28 pm28 cd28 ct28 oc29 kV29 dc29 pm29 cd29 ct29 oc30 kV30 dc30 pm30 cd30 ct30 oc31 kV31 dc31 pm31 cd31 ct31 : Value} {tg0 : Tok}
    (nC7 : PySem.W.nsIn K mainGlobals "Wardrobe" = some (some (.ref C7)))
    (a1 : PySem.W.nsIn K mainGlobals "seen_in" = some (some (.ref f1)))
    (l1 : K.lookup f1 = some ⟨oc1, od1, .func (PySem.W.fnOf "seen_in" "seen_in" (defArgs (top 8)) (defBody (top 8)) (defScope (top 8)) .none kV1 dc1 pm1 an1 cd1 ct1), sl1⟩)
    (c1 : PySem.W.codeIn K cd1 "seen_in" = true)
    (k1 : PySem.W.keepIn K (.ref f1) = true)
    (a2 : PySem.W.nsIn K mainGlobals "is_whole" = some (some (.ref f2)))
    (l2 : K.lookup f2 = some ⟨oc2, od2, .func (PySem.W.fnOf "is_whole" "is_whole" (defArgs (top 16)) (defBody (top 16)) (defScope (top 16)) .none kV2 dc2 pm2 an2 cd2 ct2), sl2⟩)
    (c2 : PySem.W.codeIn K cd2 "is_whole" = true)
    (k2 : PySem.W.keepIn K (.ref f2) = true)
    (a3 : PySem.W.findIn K (.ref C7) "spots" = some (some (.ref f3)))
    (i3 : PySem.W.isFn K (.ref f3) = true)
    (l3 : K.lookup f3 = some ⟨oc3, od3, .func (PySem.W.fnOf "spots" "Wardrobe.spots" (defArgs (inClass (top 18) 1)) (defBody (inClass (top 18) 1)) (defScope (inClass (top 18) 1)) .none kV3 dc3 pm3 an3 cd3 ct3), sl3⟩)
    (c3 : PySem.W.codeIn K cd3 "Wardrobe.spots" = true)
    (k3 : PySem.W.keepIn K (.ref f3) = true)
    (a4 : PySem.W.nsIn K mainGlobals "_law_draw" = some (some (.ref f4)))
    (l4 : K.lookup f4 = some ⟨oc4, od4, .func (PySem.W.fnOf "_law_draw" "_law_draw" (defArgs (top 20)) (defBody (top 20)) (defScope (top 20)) .none kV4 dc4 pm4 an4 cd4 ct4), sl4⟩)
    (c4 : PySem.W.codeIn K cd4 "_law_draw" = true)
    (k4 : PySem.W.keepIn K (.ref f4) = true)
    (a5 : PySem.W.nsIn K mainGlobals "_law_mix" = some (some (.ref f5)))
    (l5 : K.lookup f5 = some ⟨oc5, od5, .func (PySem.W.fnOf "_law_mix" "_law_mix" (defArgs (top 21)) (defBody (top 21)) (defScope (top 21)) .none kV5 dc5 pm5 an5 cd5 ct5), sl5⟩)
    (c5 : PySem.W.codeIn K cd5 "_law_mix" = true)
    (k5 : PySem.W.keepIn K (.ref f5) = true)
    (a6 : PySem.W.nsIn K mainGlobals "_law_part" = some (some (.ref f6)))
    (l6 : K.lookup f6 = some ⟨oc6, od6, .func (PySem.W.fnOf "_law_part" "_law_part" (defArgs (top 22)) (defBody (top 22)) (defScope (top 22)) .none kV6 dc6 pm6 an6 cd6 ct6), sl6⟩)
    (c6 : PySem.W.codeIn K cd6 "_law_part" = true)
    (k6 : PySem.W.keepIn K (.ref f6) = true)
    (a7 : PySem.W.nsIn K mainGlobals "_law_wearer" = some (some (.ref f7)))
    (l7 : K.lookup f7 = some ⟨oc7, od7, .func (PySem.W.fnOf "_law_wearer" "_law_wearer" (defArgs (top 24)) (defBody (top 24)) (defScope (top 24)) .none kV7 dc7 pm7 an7 cd7 ct7), sl7⟩)
    (c7 : PySem.W.codeIn K cd7 "_law_wearer" = true)
    (k7 : PySem.W.keepIn K (.ref f7) = true)
    (a8 : PySem.W.nsIn K mainGlobals "_law_above" = some (some (.ref f8)))
    (l8 : K.lookup f8 = some ⟨oc8, od8, .func (PySem.W.fnOf "_law_above" "_law_above" (defArgs (top 25)) (defBody (top 25)) (defScope (top 25)) .none kV8 dc8 pm8 an8 cd8 ct8), sl8⟩)
    (c8 : PySem.W.codeIn K cd8 "_law_above" = true)
    (k8 : PySem.W.keepIn K (.ref f8) = true)
    (a9 : PySem.W.nsIn K mainGlobals "_law_do" = some (some (.ref f9)))
    (l9 : K.lookup f9 = some ⟨oc9, od9, .func (PySem.W.fnOf "_law_do" "_law_do" (defArgs (top 26)) (defBody (top 26)) (defScope (top 26)) .none kV9 dc9 pm9 an9 cd9 ct9), sl9⟩)
    (c9 : PySem.W.codeIn K cd9 "_law_do" = true)
    (k9 : PySem.W.keepIn K (.ref f9) = true)
    (a10 : PySem.W.nsIn K mainGlobals "_law_frozen" = some (some (.ref f10)))
    (l10 : K.lookup f10 = some ⟨oc10, od10, .func (PySem.W.fnOf "_law_frozen" "_law_frozen" (defArgs (top 27)) (defBody (top 27)) (defScope (top 27)) .none kV10 dc10 pm10 an10 cd10 ct10), sl10⟩)
    (c10 : PySem.W.codeIn K cd10 "_law_frozen" = true)
    (k10 : PySem.W.keepIn K (.ref f10) = true)
    (a11 : PySem.W.nsIn K mainGlobals "_law_thawed" = some (some (.ref f11)))
    (l11 : K.lookup f11 = some ⟨oc11, od11, .func (PySem.W.fnOf "_law_thawed" "_law_thawed" (defArgs (top 28)) (defBody (top 28)) (defScope (top 28)) .none kV11 dc11 pm11 an11 cd11 ct11), sl11⟩)
    (c11 : PySem.W.codeIn K cd11 "_law_thawed" = true)
    (k11 : PySem.W.keepIn K (.ref f11) = true)
    (a12 : PySem.W.nsIn K mainGlobals "_law_bare" = some (some (.ref f12)))
    (l12 : K.lookup f12 = some ⟨oc12, od12, .func (PySem.W.fnOf "_law_bare" "_law_bare" (defArgs (top 29)) (defBody (top 29)) (defScope (top 29)) .none kV12 dc12 pm12 an12 cd12 ct12), sl12⟩)
    (c12 : PySem.W.codeIn K cd12 "_law_bare" = true)
    (k12 : PySem.W.keepIn K (.ref f12) = true)
    (a13 : PySem.W.nsIn K mainGlobals "_law_cross" = some (some (.ref f13)))
    (l13 : K.lookup f13 = some ⟨oc13, od13, .func (PySem.W.fnOf "_law_cross" "_law_cross" (defArgs (top 31)) (defBody (top 31)) (defScope (top 31)) .none kV13 dc13 pm13 an13 cd13 ct13), sl13⟩)
    (c13 : PySem.W.codeIn K cd13 "_law_cross" = true)
    (k13 : PySem.W.keepIn K (.ref f13) = true)
    (a14 : PySem.W.nsIn K mainGlobals "_law_orders" = some (some (.ref f14)))
    (l14 : K.lookup f14 = some ⟨oc14, od14, .func (PySem.W.fnOf "_law_orders" "_law_orders" (defArgs (top 35)) (defBody (top 35)) (defScope (top 35)) .none kV14 dc14 pm14 an14 cd14 ct14), sl14⟩)
    (c14 : PySem.W.codeIn K cd14 "_law_orders" = true)
    (k14 : PySem.W.keepIn K (.ref f14) = true)
    (a15 : PySem.W.nsIn K mainGlobals "_law_alike" = some (some (.ref f15)))
    (l15 : K.lookup f15 = some ⟨oc15, od15, .func (PySem.W.fnOf "_law_alike" "_law_alike" (defArgs (top 38)) (defBody (top 38)) (defScope (top 38)) .none kV15 dc15 pm15 an15 cd15 ct15), sl15⟩)
    (c15 : PySem.W.codeIn K cd15 "_law_alike" = true)
    (k15 : PySem.W.keepIn K (.ref f15) = true)
    (a16 : PySem.W.nsIn K mainGlobals "bare_wearing" = some (some (.ref f16)))
    (l16 : K.lookup f16 = some ⟨oc16, od16, .func (PySem.W.fnOf "bare_wearing" "bare_wearing" (defArgs (top 7)) (defBody (top 7)) (defScope (top 7)) .none kV16 dc16 pm16 an16 cd16 ct16), sl16⟩)
    (c16 : PySem.W.codeIn K cd16 "bare_wearing" = true)
    (k16 : PySem.W.keepIn K (.ref f16) = true)
    (a17 : PySem.W.nsIn K mainGlobals "is_cover" = some (some (.ref f17)))
    (l17 : K.lookup f17 = some ⟨oc17, od17, .func (PySem.W.fnOf "is_cover" "is_cover" (defArgs (top 17)) (defBody (top 17)) (defScope (top 17)) .none kV17 dc17 pm17 an17 cd17 ct17), sl17⟩)
    (c17 : PySem.W.codeIn K cd17 "is_cover" = true)
    (k17 : PySem.W.keepIn K (.ref f17) = true)
    (a18 : PySem.W.findIn K (.ref C7) "covers" = some (some (.ref f18)))
    (i18 : PySem.W.isFn K (.ref f18) = true)
    (l18 : K.lookup f18 = some ⟨oc18, od18, .func (PySem.W.fnOf "covers" "Wardrobe.covers" (defArgs (inClass (top 18) 3)) (defBody (inClass (top 18) 3)) (defScope (inClass (top 18) 3)) .none kV18 dc18 pm18 an18 cd18 ct18), sl18⟩)
    (c18 : PySem.W.codeIn K cd18 "Wardrobe.covers" = true)
    (k18 : PySem.W.keepIn K (.ref f18) = true)
    (a19 : PySem.W.nsIn K mainGlobals "_law_covers" = some (some (.ref f19)))
    (l19 : K.lookup f19 = some ⟨oc19, od19, .func (PySem.W.fnOf "_law_covers" "_law_covers" (defArgs (top 23)) (defBody (top 23)) (defScope (top 23)) .none kV19 dc19 pm19 an19 cd19 ct19), sl19⟩)
    (c19 : PySem.W.codeIn K cd19 "_law_covers" = true)
    (k19 : PySem.W.keepIn K (.ref f19) = true)
    (a20 : PySem.W.nsIn K mainGlobals "_law_may" = some (some (.ref f20)))
    (l20 : K.lookup f20 = some ⟨oc20, od20, .func (PySem.W.fnOf "_law_may" "_law_may" (defArgs (top 30)) (defBody (top 30)) (defScope (top 30)) .none kV20 dc20 pm20 an20 cd20 ct20), sl20⟩)
    (c20 : PySem.W.codeIn K cd20 "_law_may" = true)
    (k20 : PySem.W.keepIn K (.ref f20) = true)
    (a21 : PySem.W.nsIn K mainGlobals "_law_deed" = some (some (.ref f21)))
    (l21 : K.lookup f21 = some ⟨oc21, od21, .func (PySem.W.fnOf "_law_deed" "_law_deed" (defArgs (top 32)) (defBody (top 32)) (defScope (top 32)) .none kV21 dc21 pm21 an21 cd21 ct21), sl21⟩)
    (c21 : PySem.W.codeIn K cd21 "_law_deed" = true)
    (k21 : PySem.W.keepIn K (.ref f21) = true)
    (a22 : PySem.W.nsIn K mainGlobals "_law_done" = some (some (.ref f22)))
    (l22 : K.lookup f22 = some ⟨oc22, od22, .func (PySem.W.fnOf "_law_done" "_law_done" (defArgs (top 34)) (defBody (top 34)) (defScope (top 34)) .none kV22 dc22 pm22 an22 cd22 ct22), sl22⟩)
    (c22 : PySem.W.codeIn K cd22 "_law_done" = true)
    (k22 : PySem.W.keepIn K (.ref f22) = true)
    (a23 : PySem.W.nsIn K mainGlobals "_law_wish" = some (some (.ref f23)))
    (l23 : K.lookup f23 = some ⟨oc23, od23, .func (PySem.W.fnOf "_law_wish" "_law_wish" (defArgs (top 36)) (defBody (top 36)) (defScope (top 36)) .none kV23 dc23 pm23 an23 cd23 ct23), sl23⟩)
    (c23 : PySem.W.codeIn K cd23 "_law_wish" = true)
    (k23 : PySem.W.keepIn K (.ref f23) = true)
    (a24 : PySem.W.nsIn K mainGlobals "_law_holds" = some (some (.ref f24)))
    (l24 : K.lookup f24 = some ⟨oc24, od24, .func (PySem.W.fnOf "_law_holds" "_law_holds" (defArgs (top 37)) (defBody (top 37)) (defScope (top 37)) .none kV24 dc24 pm24 an24 cd24 ct24), sl24⟩)
    (c24 : PySem.W.codeIn K cd24 "_law_holds" = true)
    (k24 : PySem.W.keepIn K (.ref f24) = true)
    (a25 : PySem.W.nsIn K mainGlobals "put_on" = some (some (.ref f25)))
    (l25 : K.lookup f25 = some ⟨oc25, od25, .func (PySem.W.fnOf "put_on" "put_on" (defArgs (top 9)) (defBody (top 9)) (defScope (top 9)) .none kV25 dc25 pm25 an25 cd25 ct25), sl25⟩)
    (c25 : PySem.W.codeIn K cd25 "put_on" = true)
    (k25 : PySem.W.keepIn K (.ref f25) = true)
    (a26 : PySem.W.findIn K (.ref C7) "__init__" = some (some (.ref f26)))
    (i26 : PySem.W.isFn K (.ref f26) = true)
    (l26 : K.lookup f26 = some ⟨oc26, od26, .func (PySem.W.fnOf "__init__" "Wardrobe.__init__" (defArgs (inClass (top 18) 0)) (defBody (inClass (top 18) 0)) (defScope (inClass (top 18) 0)) .none kV26 dc26 pm26 an26 cd26 ct26), sl26⟩)
    (c26 : PySem.W.codeIn K cd26 "Wardrobe.__init__" = true)
    (k26 : PySem.W.keepIn K (.ref f26) = true)
    (a27 : PySem.W.nsIn K mainGlobals "_law_beat" = some (some (.ref f27)))
    (l27 : K.lookup f27 = some ⟨oc27, od27, .func (PySem.W.fnOf "_law_beat" "_law_beat" (defArgs (top 33)) (defBody (top 33)) (defScope (top 33)) .none kV27 dc27 pm27 an27 cd27 ct27), sl27⟩)
    (c27 : PySem.W.codeIn K cd27 "_law_beat" = true)
    (k27 : PySem.W.keepIn K (.ref f27) = true)
    (a28 : PySem.W.nsIn K mainGlobals "dressed" = some (some (.ref f28)))
    (l28 : K.lookup f28 = some ⟨oc28, od28, .func (PySem.W.fnOf "dressed" "dressed" (defArgs (top 10)) (defBody (top 10)) (defScope (top 10)) .none kV28 dc28 pm28 an28 cd28 ct28), sl28⟩)
    (c28 : PySem.W.codeIn K cd28 "dressed" = true)
    (k28 : PySem.W.keepIn K (.ref f28) = true)
    (a29 : PySem.W.nsIn K mainGlobals "wish_holds" = some (some (.ref f29)))
    (l29 : K.lookup f29 = some ⟨oc29, od29, .func (PySem.W.fnOf "wish_holds" "wish_holds" (defArgs (top 12)) (defBody (top 12)) (defScope (top 12)) .none kV29 dc29 pm29 an29 cd29 ct29), sl29⟩)
    (c29 : PySem.W.codeIn K cd29 "wish_holds" = true)
    (k29 : PySem.W.keepIn K (.ref f29) = true)
    (a30 : PySem.W.nsIn K mainGlobals "is_shown" = some (some (.ref f30)))
    (l30 : K.lookup f30 = some ⟨oc30, od30, .func (PySem.W.fnOf "is_shown" "is_shown" (defArgs (top 13)) (defBody (top 13)) (defScope (top 13)) .none kV30 dc30 pm30 an30 cd30 ct30), sl30⟩)
    (c30 : PySem.W.codeIn K cd30 "is_shown" = true)
    (k30 : PySem.W.keepIn K (.ref f30) = true)
    (a31 : PySem.W.nsIn K mainGlobals "law" = some (some (.ref f31)))
    (l31 : K.lookup f31 = some ⟨oc31, od31, .func (PySem.W.fnOf "law" "law" (defArgs (top 39)) (defBody (top 39)) (defScope (top 39)) .none kV31 dc31 pm31 an31 cd31 ct31), sl31⟩)
    (c31 : PySem.W.codeIn K cd31 "law" = true)
    (k31 : PySem.W.keepIn K (.ref f31) = true)
    (pgC7 : PySem.W.plainGet K C7 Str.empty = true)
    (hdC7 : PySem.W.hasDictIn K C7 = true)
    (poC7 : PySem.W.plainOver K C7 = true)
    (saC7 : PySem.W.findIn K (.ref C7) "__setattr__" = some (some (.builtin "object.__setattr__")))
    (mkC7 : PySem.W.makesIn K C7 = true)
    (kcC7 : PySem.W.keepIn K (.ref C7) = true)
    (haC7 : PySem.W.findIn K (.ref C7) "__class__" = some (some (.builtin "object.__class__")))
    (hmC7 : PySem.W.mroIn K C7 (.type "object") = some true)
    (noC7_3 : PySem.W.findIn K (.ref C7) "body" = some none)
    (noC7_4 : PySem.W.findIn K (.ref C7) "covering" = some none)
    (koC7_0 : PySem.W.subIn K (.ref C7) (.type "int") = some false)
    (koC7_1 : PySem.W.subIn K (.ref C7) (.type "bool") = some false)
    (koC7_2 : PySem.W.subIn K (.ref C7) (.type "list") = some false)
    (koC7_3 : PySem.W.subIn K (.ref C7) (.type "tuple") = some false)
    (koC7_4 : PySem.W.subIn K (.ref C7) (.type "str") = some false)
    (koC7_5 : PySem.W.subIn K (.ref C7) (.type "dict") = some false)
    (hnX : PySem.W.specialIn K (.builtin "object.__class__") "__get__" = some (some (.builtin "getset_descriptor.__get__")))
    (htX : PySem.W.takesIn K (.builtin "object.__class__") = some true)
    (z_isinstance : PySem.W.nsIn K mainGlobals "isinstance" = some none)
    (z_int : PySem.W.nsIn K mainGlobals "int" = some none)
    (z_bool : PySem.W.nsIn K mainGlobals "bool" = some none)
    (z_range : PySem.W.nsIn K mainGlobals "range" = some none)
    (z_len : PySem.W.nsIn K mainGlobals "len" = some none)
    (z_any : PySem.W.nsIn K mainGlobals "any" = some none)
    (z_tuple : PySem.W.nsIn K mainGlobals "tuple" = some none)
    (z_list : PySem.W.nsIn K mainGlobals "list" = some none)
    (z_sorted : PySem.W.nsIn K mainGlobals "sorted" = some none)
    (z_all : PySem.W.nsIn K mainGlobals "all" = some none)
    (z_min : PySem.W.nsIn K mainGlobals "min" = some none)
    (g_MOST : PySem.W.nsIn K mainGlobals "MOST" = some (some (.int 6 tg0)))
    : ∃ fd : FuncData, (∀ (s : Shared) (v : Value), BindsTo s fd ⟨[v], []⟩ [("script", v)]) ∧ ∃ (N : Q.Nm) (c : List Q.D → Q.CR), (∀ ns : List Int, ns.length ≤ 63 → c [.lst false (ns.map .int)] = .ok (.bl true)) ∧
      ∀ base : Heap, K.In base → base.Ns mainGlobals mg → FnOk l.prog w K mg base (L2.CX l.prog w) 8 fa fd ["script"] (Q.spT K N 1 c) := by
  have e := hfa.symm.trans (PySem.W.mg_of X G a31)
  cases e
  let N : Q.Nm := ⟨fun c =>  C7, Q.fldN nmsK, nms_inj, fun _ => none, insK⟩
  have KC7 : Cls K C7 := ⟨pgC7, hdC7, poC7, saC7⟩
  have IC7 : Q.ClsI K C7 := ⟨KC7, haC7, hnX, htX, hmC7⟩
  have TC7 : ∀ T, T < 6 → PySem.W.kitOne K (.ref C7) (.type (Q.tyN T)) = some false := fun T hT => match T, hT with | 0, _ => Q.kit_sub koC7_0 (by decide +kernel) | 1, _ => Q.kit_sub koC7_1 (by decide +kernel) | 2, _ => Q.kit_sub koC7_2 (by decide +kernel) | 3, _ => Q.kit_sub koC7_3 (by decide +kernel) | 4, _ => Q.kit_sub koC7_4 (by decide +kernel) | 5, _ => Q.kit_sub koC7_5 (by decide +kernel)
  have hN : Q.NmOk K N := by
    refine ⟨fun c g hg => ?_, fun c fs hg => (nomatch hg), Q.ty_all, fun c g T hg hT => ?_⟩
    · rcases ins_cases hg with ⟨rfl, rfl⟩ | ⟨rfl, rfl⟩
      · exact ⟨IC7, noC7_3⟩
      · exact ⟨IC7, noC7_4⟩
    · rcases ins_cases hg with ⟨rfl, rfl⟩ | ⟨rfl, rfl⟩
      · exact TC7 T hT
      · exact TC7 T hT
  have m_isinstance := PySem.W.mg_none_of X G z_isinstance
  have m_int := PySem.W.mg_none_of X G z_int
  have m_bool := PySem.W.mg_none_of X G z_bool
  have m_range := PySem.W.mg_none_of X G z_range
  have m_len := PySem.W.mg_none_of X G z_len
  have m_any := PySem.W.mg_none_of X G z_any
  have m_tuple := PySem.W.mg_none_of X G z_tuple
  have m_list := PySem.W.mg_none_of X G z_list
  have m_sorted := PySem.W.mg_none_of X G z_sorted
  have m_all := PySem.W.mg_none_of X G z_all
  have m_min := PySem.W.mg_none_of X G z_min
  have F1 := fun_mk (st := top 8) l1 c1 k1
  have b1 := F1.binds (ps := ["wearing"]) fun _ _ _ _ _ _ us hl => match us, hl with | [_], _ => rfl
  have F2 := fun_mk (st := top 16) l2 c2 k2
  have b2 := F2.binds (ps := ["thing"]) fun _ _ _ _ _ _ us hl => match us, hl with | [_], _ => rfl
  have F3 := fun_mk (st := inClass (top 18) 1) l3 c3 k3
  have b3 := F3.binds (ps := ["self"]) fun _ _ _ _ _ _ us hl => match us, hl with | [_], _ => rfl
  have F4 := fun_mk (st := top 20) l4 c4 k4
  have b4 := F4.binds (ps := ["script", "k"]) fun _ _ _ _ _ _ us hl => match us, hl with | [_, _], _ => rfl
  have F5 := fun_mk (st := top 21) l5 c5 k5
  have b5 := F5.binds (ps := ["cell", "turn", "many"]) fun _ _ _ _ _ _ us hl => match us, hl with | [_, _, _], _ => rfl
  have F6 := fun_mk (st := top 22) l6 c6 k6
  have b6 := F6.binds (ps := ["cell", "k"]) fun _ _ _ _ _ _ us hl => match us, hl with | [_, _], _ => rfl
  have F7 := fun_mk (st := top 24) l7 c7 k7
  have b7 := F7.binds (ps := ["state", "garment"]) fun _ _ _ _ _ _ us hl => match us, hl with | [_, _], _ => rfl
  have F8 := fun_mk (st := top 25) l8 c8 k8
  have b8 := F8.binds (ps := ["state", "covers", "player", "garment"]) fun _ _ _ _ _ _ us hl => match us, hl with | [_, _, _, _], _ => rfl
  have F9 := fun_mk (st := top 26) l9 c9 k9
  have b9 := F9.binds (ps := ["state", "covers", "deed"]) fun _ _ _ _ _ _ us hl => match us, hl with | [_, _, _], _ => rfl
  have F10 := fun_mk (st := top 27) l10 c10 k10
  have b10 := F10.binds (ps := ["state"]) fun _ _ _ _ _ _ us hl => match us, hl with | [_], _ => rfl
  have F11 := fun_mk (st := top 28) l11 c11 k11
  have b11 := F11.binds (ps := ["standing"]) fun _ _ _ _ _ _ us hl => match us, hl with | [_], _ => rfl
  have F12 := fun_mk (st := top 29) l12 c12 k12
  have b12 := F12.binds (ps := ["players", "places"]) fun _ _ _ _ _ _ us hl => match us, hl with | [_, _], _ => rfl
  have F13 := fun_mk (st := top 31) l13 c13 k13
  have b13 := F13.binds (ps := ["covers", "one", "other"]) fun _ _ _ _ _ _ us hl => match us, hl with | [_, _, _], _ => rfl
  have F14 := fun_mk (st := top 35) l14 c14 k14
  have b14 := F14.binds (ps := ["orders", "beat"]) fun _ _ _ _ _ _ us hl => match us, hl with | [_, _], _ => rfl
  have F15 := fun_mk (st := top 38) l15 c15 k15
  have b15 := F15.binds (ps := ["state", "wish"]) fun _ _ _ _ _ _ us hl => match us, hl with | [_, _], _ => rfl
  have F16 := fun_mk (st := top 7) l16 c16 k16
  have b16 := F16.binds (ps := ["wardrobe"]) fun _ _ _ _ _ _ us hl => match us, hl with | [_], _ => rfl
  have F17 := fun_mk (st := top 17) l17 c17 k17
  have b17 := F17.binds (ps := ["thing", "places"]) fun _ _ _ _ _ _ us hl => match us, hl with | [_, _], _ => rfl
  have F18 := fun_mk (st := inClass (top 18) 3) l18 c18 k18
  have b18 := F18.binds (ps := ["self", "garment"]) fun _ _ _ _ _ _ us hl => match us, hl with | [_, _], _ => rfl
  have F19 := fun_mk (st := top 23) l19 c19 k19
  have b19 := F19.binds (ps := ["cell", "places", "many"]) fun _ _ _ _ _ _ us hl => match us, hl with | [_, _, _], _ => rfl
  have F20 := fun_mk (st := top 30) l20 c20 k20
  have b20 := F20.binds (ps := ["state", "covers", "deed"]) fun _ _ _ _ _ _ us hl => match us, hl with | [_, _, _], _ => rfl
  have F21 := fun_mk (st := top 32) l21 c21 k21
  have b21 := F21.binds (ps := ["state", "covers", "number"]) fun _ _ _ _ _ _ us hl => match us, hl with | [_, _, _], _ => rfl
  have F22 := fun_mk (st := top 34) l22 c22 k22
  have b22 := F22.binds (ps := ["state", "covers", "beat"]) fun _ _ _ _ _ _ us hl => match us, hl with | [_, _, _], _ => rfl
  have F23 := fun_mk (st := top 36) l23 c23 k23
  have b23 := F23.binds (ps := ["state", "orders", "many", "number"]) fun _ _ _ _ _ _ us hl => match us, hl with | [_, _, _, _], _ => rfl
  have F24 := fun_mk (st := top 37) l24 c24 k24
  have b24 := F24.binds (ps := ["state", "orders", "wish"]) fun _ _ _ _ _ _ us hl => match us, hl with | [_, _, _], _ => rfl
  have F25 := fun_mk (st := top 9) l25 c25 k25
  have b25 := F25.binds (ps := ["wardrobe", "wearing", "garment"]) fun _ _ _ _ _ _ us hl => match us, hl with | [_, _, _], _ => rfl
  have F26 := fun_mk (st := inClass (top 18) 0) l26 c26 k26
  have b26 := F26.binds (ps := ["self", "places", "covers"]) fun _ _ _ _ _ _ us hl => match us, hl with | [_, _, _], _ => rfl
  have F27 := fun_mk (st := top 33) l27 c27 k27
  have b27 := F27.binds (ps := ["state", "covers", "cell", "most"]) fun _ _ _ _ _ _ us hl => match us, hl with | [_, _, _, _], _ => rfl
  have F28 := fun_mk (st := top 10) l28 c28 k28
  have b28 := F28.binds (ps := ["wardrobe", "order"]) fun _ _ _ _ _ _ us hl => match us, hl with | [_, _], _ => rfl
  have F29 := fun_mk (st := top 12) l29 c29 k29
  have b29 := F29.binds (ps := ["wardrobe", "standing", "wish"]) fun _ _ _ _ _ _ us hl => match us, hl with | [_, _, _], _ => rfl
  have F30 := fun_mk (st := top 13) l30 c30 k30
  have b30 := F30.binds (ps := ["wardrobe", "standing", "wishes"]) fun _ _ _ _ _ _ us hl => match us, hl with | [_, _, _], _ => rfl
  have F31 := fun_mk (st := top 39) l31 c31 k31
  have b31 := F31.binds (ps := ["script"]) fun _ _ _ _ _ _ us hl => match us, hl with | [_], _ => rfl
  refine ⟨PySem.W.fnOf "law" "law" (defArgs (top 39)) (defBody (top 39)) (defScope (top 39)) .none kV31 dc31 pm31 an31 cd31 ct31, fun s v => .of_eq rfl, N, c_law, fun ns _ => r_law ns, fun base _ _ => ?_⟩
  have O1 : FnOk l.prog w K mg base (L2.CX l.prog w) 2 f1 _ ["wearing"] (Q.spT K N 1 c_seen_in) := ok_seen_in (Pg := P2) F1 hN (fun _ _ h => h) rfl rfl rfl rfl
  have O2 : FnOk l.prog w K mg base (L2.CX l.prog w) 2 f2 _ ["thing"] (Q.spT K N 1 c_is_whole) := ok_is_whole (Pg := P2) F2 hN (fun _ _ h => h) rfl rfl rfl rfl m_isinstance m_int m_bool
  have O3 : FnOk l.prog w K mg base (L2.CX l.prog w) 2 f3 _ ["self"] (Q.spT K N 1 c_Wardrobe_spots) := ok_Wardrobe_spots (Pg := P2) F3 hN (fun _ _ h => h) rfl rfl rfl rfl
  have O4 : FnOk l.prog w K mg base (L2.CX l.prog w) 2 f4 _ ["script", "k"] (Q.spT K N 2 c__law_draw) := ok__law_draw (Pg := P2) F4 hN (fun _ _ h => h) rfl rfl rfl rfl
  have O5 : FnOk l.prog w K mg base (L2.CX l.prog w) 2 f5 _ ["cell", "turn", "many"] (Q.spT K N 3 c__law_mix) := ok__law_mix (Pg := P2) F5 hN (fun _ _ h => h) rfl rfl rfl rfl
  have O6 : FnOk l.prog w K mg base (L2.CX l.prog w) 2 f6 _ ["cell", "k"] (Q.spT K N 2 c__law_part) := ok__law_part (Pg := P2) F6 hN (fun _ _ h => h) rfl rfl rfl rfl m_range
  have O7 : FnOk l.prog w K mg base (L2.CX l.prog w) 2 f7 _ ["state", "garment"] (Q.spT K N 2 c__law_wearer) := ok__law_wearer (Pg := P2) F7 hN (fun _ _ h => h) rfl rfl rfl rfl m_range m_len m_any
  have O8 : FnOk l.prog w K mg base (L2.CX l.prog w) 2 f8 _ ["state", "covers", "player", "garment"] (Q.spT K N 4 c__law_above) := ok__law_above (Pg := P2) F8 hN (fun _ _ h => h) rfl rfl rfl rfl
  have O9 : FnOk l.prog w K mg base (L2.CX l.prog w) 2 f9 _ ["state", "covers", "deed"] (Q.spM K N 2 c__law_do) := ok__law_do (Pg := P2) F9 hN (fun _ _ h => h) rfl rfl rfl rfl
  have O10 : FnOk l.prog w K mg base (L2.CX l.prog w) 2 f10 _ ["state"] (Q.spT K N 1 c__law_frozen) := ok__law_frozen (Pg := P2) F10 hN (fun _ _ h => h) rfl rfl rfl rfl m_tuple
  have O11 : FnOk l.prog w K mg base (L2.CX l.prog w) 2 f11 _ ["standing"] (Q.spT K N 1 c__law_thawed) := ok__law_thawed (Pg := P2) F11 hN (fun _ _ h => h) rfl rfl rfl rfl m_list
  have O12 : FnOk l.prog w K mg base (L2.CX l.prog w) 2 f12 _ ["players", "places"] (Q.spT K N 2 c__law_bare) := ok__law_bare (Pg := P2) F12 hN (fun _ _ h => h) rfl rfl rfl rfl m_range
  have O13 : FnOk l.prog w K mg base (L2.CX l.prog w) 2 f13 _ ["covers", "one", "other"] (Q.spT K N 3 c__law_cross) := ok__law_cross (Pg := P2) F13 hN (fun _ _ h => h) rfl rfl rfl rfl m_any
  have O14 : FnOk l.prog w K mg base (L2.CX l.prog w) 2 f14 _ ["orders", "beat"] (Q.spM K N 1 c__law_orders) := ok__law_orders (Pg := P2) F14 hN (fun _ _ h => h) rfl rfl rfl rfl
  have O15 : FnOk l.prog w K mg base (L2.CX l.prog w) 2 f15 _ ["state", "wish"] (Q.spT K N 2 c__law_alike) := ok__law_alike (Pg := P2) F15 hN (fun _ _ h => h) rfl rfl rfl rfl
  have O16 : FnOk l.prog w K mg base (L2.CX l.prog w) 3 f16 _ ["wardrobe"] (Q.spT K N 1 c_bare_wearing) := ok_bare_wearing (Pg := P3) F16 hN (fun _ _ h => h) rfl rfl rfl rfl m_tuple m_range (Q.MetOk.of (Pg := P3) (cl := 7) (n := 0) O3 P3_Wardrobe_spots rfl (mth0_u P3 rfl) KC7 ⟨a3, i3, k3⟩ b3 (ne_0))
  have O17 : FnOk l.prog w K mg base (L2.CX l.prog w) 3 f17 _ ["thing", "places"] (Q.spT K N 2 c_is_cover) := ok_is_cover (Pg := P3) F17 hN (fun _ _ h => h) rfl rfl rfl rfl m_isinstance m_list (Q.DefOk.of (Pg := P3) O2 P3_is_whole rfl (PySem.W.mg_of X G a2) k2 b2)
  have O18 : FnOk l.prog w K mg base (L2.CX l.prog w) 3 f18 _ ["self", "garment"] (Q.spT K N 2 c_Wardrobe_covers) := ok_Wardrobe_covers (Pg := P3) F18 hN (fun _ _ h => h) rfl rfl rfl rfl m_len m_list (Q.DefOk.of (Pg := P3) O2 P3_is_whole rfl (PySem.W.mg_of X G a2) k2 b2)
  have O19 : FnOk l.prog w K mg base (L2.CX l.prog w) 3 f19 _ ["cell", "places", "many"] (Q.spT K N 3 c__law_covers) := ok__law_covers (Pg := P3) F19 hN (fun _ _ h => h) rfl rfl rfl rfl m_range (Q.DefOk.of (Pg := P3) O6 P3__law_part rfl (PySem.W.mg_of X G a6) k6 b6) (Q.DefOk.of (Pg := P3) O5 P3__law_mix rfl (PySem.W.mg_of X G a5) k5 b5)
  have O20 : FnOk l.prog w K mg base (L2.CX l.prog w) 3 f20 _ ["state", "covers", "deed"] (Q.spT K N 3 c__law_may) := ok__law_may (Pg := P3) F20 hN (fun _ _ h => h) rfl rfl rfl rfl (Q.DefOk.of (Pg := P3) O7 P3__law_wearer rfl (PySem.W.mg_of X G a7) k7 b7) (Q.DefOk.of (Pg := P3) O8 P3__law_above rfl (PySem.W.mg_of X G a8) k8 b8)
  have O21 : FnOk l.prog w K mg base (L2.CX l.prog w) 3 f21 _ ["state", "covers", "number"] (Q.spT K N 3 c__law_deed) := ok__law_deed (Pg := P3) F21 hN (fun _ _ h => h) rfl rfl rfl rfl m_len (Q.DefOk.of (Pg := P3) O5 P3__law_mix rfl (PySem.W.mg_of X G a5) k5 b5) (Q.DefOk.of (Pg := P3) O7 P3__law_wearer rfl (PySem.W.mg_of X G a7) k7 b7)
  have O22 : FnOk l.prog w K mg base (L2.CX l.prog w) 3 f22 _ ["state", "covers", "beat"] (Q.spM K N 2 c__law_done) := ok__law_done (Pg := P3) F22 hN (fun _ _ h => h) rfl rfl rfl rfl (Q.MutOk.of (Pg := P3) O9 P3__law_do rfl (PySem.W.mg_of X G a9) k9 b9)
  have O23 : FnOk l.prog w K mg base (L2.CX l.prog w) 3 f23 _ ["state", "orders", "many", "number"] (Q.spT K N 4 c__law_wish) := ok__law_wish (Pg := P3) F23 hN (fun _ _ h => h) rfl rfl rfl rfl m_len m_list (Q.DefOk.of (Pg := P3) O5 P3__law_mix rfl (PySem.W.mg_of X G a5) k5 b5)
  have O24 : FnOk l.prog w K mg base (L2.CX l.prog w) 3 f24 _ ["state", "orders", "wish"] (Q.spT K N 3 c__law_holds) := ok__law_holds (Pg := P3) F24 hN (fun _ _ h => h) rfl rfl rfl rfl m_sorted (Q.DefOk.of (Pg := P3) O15 P3__law_alike rfl (PySem.W.mg_of X G a15) k15 b15)
  have O25 : FnOk l.prog w K mg base (L2.CX l.prog w) 4 f25 _ ["wardrobe", "wearing", "garment"] (Q.spT K N 3 c_put_on) := ok_put_on (Pg := P4) F25 hN (fun _ _ h => h) rfl rfl rfl rfl m_tuple m_range m_len (Q.MetOk.of (Pg := P4) (cl := 7) (n := 1) O18 P4_Wardrobe_covers rfl (mth2_u P4 rfl) KC7 ⟨a18, i18, k18⟩ b18 (ne_2))
  have O26 : FnOk l.prog w K mg base (L2.CX l.prog w) 4 f26 _ ["self", "places", "covers"] (Q.spI K N 2 7 c_Wardrobe_init) := ok_Wardrobe_init (Pg := P4) F26 hN (fun _ _ h => h) rfl rfl rfl rfl (Q.GlT.int P4_g0 (PySem.W.mg_of X G g_MOST) ⟨_, rfl⟩) m_len m_range m_list (Q.DefOk.of (Pg := P4) O2 P4_is_whole rfl (PySem.W.mg_of X G a2) k2 b2) (Q.DefOk.of (Pg := P4) O17 P4_is_cover rfl (PySem.W.mg_of X G a17) k17 b17)
  have O27 : FnOk l.prog w K mg base (L2.CX l.prog w) 4 f27 _ ["state", "covers", "cell", "most"] (Q.spT K N 4 c__law_beat) := ok__law_beat (Pg := P4) F27 hN (fun _ _ h => h) rfl rfl rfl rfl m_range m_any (Q.DefOk.of (Pg := P4) O5 P4__law_mix rfl (PySem.W.mg_of X G a5) k5 b5) (Q.DefOk.of (Pg := P4) O21 P4__law_deed rfl (PySem.W.mg_of X G a21) k21 b21) (Q.DefOk.of (Pg := P4) O6 P4__law_part rfl (PySem.W.mg_of X G a6) k6 b6) (Q.DefOk.of (Pg := P4) O20 P4__law_may rfl (PySem.W.mg_of X G a20) k20 b20) (Q.DefOk.of (Pg := P4) O13 P4__law_cross rfl (PySem.W.mg_of X G a13) k13 b13)
  have O28 : FnOk l.prog w K mg base (L2.CX l.prog w) 5 f28 _ ["wardrobe", "order"] (Q.spT K N 2 c_dressed) := ok_dressed (Pg := P5) F28 hN (fun _ _ h => h) rfl rfl rfl rfl (Q.DefOk.of (Pg := P5) O16 P5_bare_wearing rfl (PySem.W.mg_of X G a16) k16 b16) (Q.DefOk.of (Pg := P5) O25 P5_put_on rfl (PySem.W.mg_of X G a25) k25 b25)
  have O29 : FnOk l.prog w K mg base (L2.CX l.prog w) 6 f29 _ ["wardrobe", "standing", "wish"] (Q.spT K N 3 c_wish_holds) := ok_wish_holds (Pg := P6) F29 hN (fun _ _ h => h) rfl rfl rfl rfl (Q.DefOk.of (Pg := P6) O28 P6_dressed rfl (PySem.W.mg_of X G a28) k28 b28) (Q.DefOk.of (Pg := P6) O1 P6_seen_in rfl (PySem.W.mg_of X G a1) k1 b1)
  have O30 : FnOk l.prog w K mg base (L2.CX l.prog w) 7 f30 _ ["wardrobe", "standing", "wishes"] (Q.spT K N 3 c_is_shown) := ok_is_shown (Pg := P7) F30 hN (fun _ _ h => h) rfl rfl rfl rfl m_all (Q.DefOk.of (Pg := P7) O29 P7_wish_holds rfl (PySem.W.mg_of X G a29) k29 b29)
  have O31 : FnOk l.prog w K mg base (L2.CX l.prog w) 8 fa _ ["script"] (Q.spT K N 1 c_law) := ok_law (Pg := P8) F31 hN (fun _ _ h => h) rfl rfl rfl rfl m_list m_range m_min m_len m_all m_isinstance m_bool (Q.DefOk.of (Pg := P8) O5 P8__law_mix rfl (PySem.W.mg_of X G a5) k5 b5) (Q.DefOk.of (Pg := P8) O4 P8__law_draw rfl (PySem.W.mg_of X G a4) k4 b4) (Q.DefOk.of (Pg := P8) O19 P8__law_covers rfl (PySem.W.mg_of X G a19) k19 b19) (Q.DefOk.of (Pg := P8) O12 P8__law_bare rfl (PySem.W.mg_of X G a12) k12 b12) (Q.DefOk.of (Pg := P8) O10 P8__law_frozen rfl (PySem.W.mg_of X G a10) k10 b10) (Q.DefOk.of (Pg := P8) O27 P8__law_beat rfl (PySem.W.mg_of X G a27) k27 b27) (Q.MutOk.of (Pg := P8) O22 P8__law_done rfl (PySem.W.mg_of X G a22) k22 b22) (Q.MutOk.of (Pg := P8) O14 P8__law_orders rfl (PySem.W.mg_of X G a14) k14 b14) (Q.DefOk.of (Pg := P8) O23 P8__law_wish rfl (PySem.W.mg_of X G a23) k23 b23) (Q.DefOk.of (Pg := P8) O11 P8__law_thawed rfl (PySem.W.mg_of X G a11) k11 b11) (Q.DefOk.of (Pg := P8) O30 P8_is_shown rfl (PySem.W.mg_of X G a30) k30 b30) (Q.DefOk.of (Pg := P8) O24 P8__law_holds rfl (PySem.W.mg_of X G a24) k24 b24) (Q.IniOk.of (Pg := P8) (cl := 7) O26 P8_Wardrobe_init ⟨mkC7, a26, i26, kcC7⟩ (PySem.W.mg_of X G nC7) b26)
  exact O31
end
end K41
end
section
set_option linter.all false
set_option autoImplicit false
set_option maxRecDepth 100000
open PySem PySem.W PyProof.Rows in
set_option maxRecDepth 100000 in
set_option maxHeartbeats 0 in
theorem PySem.Challenge.cw_quickchange_k41_wishes_seen_holds : PySem.Challenge.rw_quickchange_k41_wishes_seen.Holds := by
  w_on; o_law; k_head; (case hw => w_witness2)
  k_fill
  refine Q.walk_T (l := PySem.Challenge.rw_quickchange_k41_wishes_seen) (n := 63) (k := 8) (x := "script") rfl (by decide) rfl ⟨rfl, by decide, by decide⟩ (fun w h Y => PySem.W.kIn_of Y) ?F
  case F =>
    intro w mg fa h KX G hmg
    refine' K41.all_mk KX G hmg ?nC7 ?a1 ?l1 ?c1 ?k1 ?a2 ?l2 ?c2 ?k2 ?a3 ?i3 ?l3 ?c3 ?k3 ?a4 ?l4 ?c4 ?k4 ?a5 ?l5 ?c5 ?k5 ?a6 ?l6 ?c6 ?k6 ?a7 ?l7 ?c7 ?k7 ?a8 ?l8 ?c8 ?k8 ?a9 ?l9 ?c9 ?k9 ?a10 ?l10 ?c10 ?k10 ?a11 ?l11 ?c11 ?k11 ?a12 ?l12 ?c12 ?k12 ?a13 ?l13 ?c13 ?k13 ?a14 ?l14 ?c14 ?k14 ?a15 ?l15 ?c15 ?k15 ?a16 ?l16 ?c16 ?k16 ?a17 ?l17 ?c17 ?k17 ?a18 ?i18 ?l18 ?c18 ?k18 ?a19 ?l19 ?c19 ?k19 ?a20 ?l20 ?c20 ?k20 ?a21 ?l21 ?c21 ?k21 ?a22 ?l22 ?c22 ?k22 ?a23 ?l23 ?c23 ?k23 ?a24 ?l24 ?c24 ?k24 ?a25 ?l25 ?c25 ?k25 ?a26 ?i26 ?l26 ?c26 ?k26 ?a27 ?l27 ?c27 ?k27 ?a28 ?l28 ?c28 ?k28 ?a29 ?l29 ?c29 ?k29 ?a30 ?l30 ?c30 ?k30 ?a31 ?l31 ?c31 ?k31 ?pgC7 ?hdC7 ?poC7 ?saC7 ?mkC7 ?kcC7 ?haC7 ?hmC7 ?noC7_3 ?noC7_4 ?koC7_0 ?koC7_1 ?koC7_2 ?koC7_3 ?koC7_4 ?koC7_5 ?hnX ?htX ?z_isinstance ?z_int ?z_bool ?z_range ?z_len ?z_any ?z_tuple ?z_list ?z_sorted ?z_all ?z_min ?g_MOST
    (case nC7 => k_is)
    (case a1 => k_is)
    (case l1 => k_is)
    (case c1 => k_is)
    (case k1 => k_is)
    (case a2 => k_is)
    (case l2 => k_is)
    (case c2 => k_is)
    (case k2 => k_is)
    (case a3 => k_is)
    (case i3 => k_is)
    (case l3 => k_is)
    (case c3 => k_is)
    (case k3 => k_is)
    (case a4 => k_is)
    (case l4 => k_is)
    (case c4 => k_is)
    (case k4 => k_is)
    (case a5 => k_is)
    (case l5 => k_is)
    (case c5 => k_is)
    (case k5 => k_is)
    (case a6 => k_is)
    (case l6 => k_is)
    (case c6 => k_is)
    (case k6 => k_is)
    (case a7 => k_is)
    (case l7 => k_is)
    (case c7 => k_is)
    (case k7 => k_is)
    (case a8 => k_is)
    (case l8 => k_is)
    (case c8 => k_is)
    (case k8 => k_is)
    (case a9 => k_is)
    (case l9 => k_is)
    (case c9 => k_is)
    (case k9 => k_is)
    (case a10 => k_is)
    (case l10 => k_is)
    (case c10 => k_is)
    (case k10 => k_is)
    (case a11 => k_is)
    (case l11 => k_is)
    (case c11 => k_is)
    (case k11 => k_is)
    (case a12 => k_is)
    (case l12 => k_is)
    (case c12 => k_is)
    (case k12 => k_is)
    (case a13 => k_is)
    (case l13 => k_is)
    (case c13 => k_is)
    (case k13 => k_is)
    (case a14 => k_is)
    (case l14 => k_is)
    (case c14 => k_is)
    (case k14 => k_is)
    (case a15 => k_is)
    (case l15 => k_is)
    (case c15 => k_is)
    (case k15 => k_is)
    (case a16 => k_is)
    (case l16 => k_is)
    (case c16 => k_is)
    (case k16 => k_is)
    (case a17 => k_is)
    (case l17 => k_is)
    (case c17 => k_is)
    (case k17 => k_is)
    (case a18 => k_is)
    (case i18 => k_is)
    (case l18 => k_is)
    (case c18 => k_is)
    (case k18 => k_is)
    (case a19 => k_is)
    (case l19 => k_is)
    (case c19 => k_is)
    (case k19 => k_is)
    (case a20 => k_is)
    (case l20 => k_is)
    (case c20 => k_is)
    (case k20 => k_is)
    (case a21 => k_is)
    (case l21 => k_is)
    (case c21 => k_is)
    (case k21 => k_is)
    (case a22 => k_is)
    (case l22 => k_is)
    (case c22 => k_is)
    (case k22 => k_is)
    (case a23 => k_is)
    (case l23 => k_is)
    (case c23 => k_is)
    (case k23 => k_is)
    (case a24 => k_is)
    (case l24 => k_is)
    (case c24 => k_is)
    (case k24 => k_is)
    (case a25 => k_is)
    (case l25 => k_is)
    (case c25 => k_is)
    (case k25 => k_is)
    (case a26 => k_is)
    (case i26 => k_is)
    (case l26 => k_is)
    (case c26 => k_is)
    (case k26 => k_is)
    (case a27 => k_is)
    (case l27 => k_is)
    (case c27 => k_is)
    (case k27 => k_is)
    (case a28 => k_is)
    (case l28 => k_is)
    (case c28 => k_is)
    (case k28 => k_is)
    (case a29 => k_is)
    (case l29 => k_is)
    (case c29 => k_is)
    (case k29 => k_is)
    (case a30 => k_is)
    (case l30 => k_is)
    (case c30 => k_is)
    (case k30 => k_is)
    (case a31 => k_is)
    (case l31 => k_is)
    (case c31 => k_is)
    (case k31 => k_is)
    (case pgC7 => k_is)
    (case hdC7 => k_is)
    (case poC7 => k_is)
    (case saC7 => k_is)
    (case mkC7 => k_is)
    (case kcC7 => k_is)
    (case haC7 => k_is)
    (case hmC7 => k_is)
    (case noC7_3 => k_is)
    (case noC7_4 => k_is)
    (case koC7_0 => k_is)
    (case koC7_1 => k_is)
    (case koC7_2 => k_is)
    (case koC7_3 => k_is)
    (case koC7_4 => k_is)
    (case koC7_5 => k_is)
    (case hnX => k_is)
    (case htX => k_is)
    (case z_isinstance => k_is)
    (case z_int => k_is)
    (case z_bool => k_is)
    (case z_range => k_is)
    (case z_len => k_is)
    (case z_any => k_is)
    (case z_tuple => k_is)
    (case z_list => k_is)
    (case z_sorted => k_is)
    (case z_all => k_is)
    (case z_min => k_is)
    (case g_MOST => k_is)
end
