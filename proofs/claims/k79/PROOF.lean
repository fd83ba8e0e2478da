import PyProof.Rows.All
import Wide.All
import OpenK.AllK
import Wide.FinOn
import HandS.ForMost
import HandS.Wide
import KE.SortData
import PyProof.ReprReads
import PyProof.Rows.StrStep
import HandS.Exc
import HandS.More
import HandS.Iter
import PyProof.NeKinds
import PyProof.P3In
import HandS.TupAny
import HandS.TupMul
import HandS.Style
import PyProof.AutoIntOpsIf
import PyProof.IsRules
import PyProof.Rows.IntBool
import KE.LtData
import HandS.Text
import KE.SortLaws
import HandS.RaiseMore
import PyProof.ReprRoads
import HandS.CallSlots
import HandS.Defaults
import HandS.WordsExc
import HandS.Ends
import HandS.HeadWalk
import HandS.ExcIs
import HandS.ExcField
import HandS.IsInst
import HandS.Comp
import HandS.Zip
import HandS.TryOnly
import KE.GoesEnum
import PyProof.FitsReplace
import PyProof.FitsStr
import HandS.Strs
import HandS.SetFor
import HandS.Star
import HandS.FStr
import KE.KUnpackStar
import PyProof.Rows.MatchSeqLen
import PyProof.RulesMatch
import HandS.TryMany
import HandS.MakeKwOnly
import PyProof.StrLawsRepr
import HandS.Codes
import PySem.PyData
import KE.KIntText
import PyProof.Rows.RegStrFacts
import PyProof.Rows.StrFit
import PySem.Challenge.RW_callsend_k79_expression_texts
set_option Elab.async false
set_option maxRecDepth 100000
/-! Px0: values as data, a store of mutable cells, the intermediate form, its meaning as a function. -/
namespace Px
open PySem

/-- a value: data, a mutable object of the store, a caught exception -/
inductive W where
  | p (d : PyData)
  | ref (i : Nat)
  | ex (c : Nat) (d : PyData)
  | kd (kvs : List (Str × PyData))
  /-- a list of the module: ints, read only -/
  | kl (is : List Int)
  /-- a tuple of the module -/
  | kt (ds : List PyData)
  /-- a def of the module -/
  | fn (x : Str)
/-- a mutable object -/
inductive MO where
  | lst (xs : List PyData)
  | dct (kvs : List (PyData × PyData))
  /-- an instance of the module's class x: its attributes -/
  | obj (x : Str) (fs : List (Str × PyData))
  | gone
abbrev Store := List MO
/-- an exception: its class, what it keeps -/
structure EV where
  c : Nat
  d : PyData
inductive R (α : Type) where
  | ok (a : α) (S : Store)
  | exc (e : EV) (S : Store)
  | stuck
def R.bind {α β : Type} (r : R α) (f : α → Store → R β) : R β :=
  match r with
  | .ok a S => f a S
  | .exc e S => .exc e S
  | .stuck => .stuck
@[simp] theorem R.bind_ok {α β : Type} (a : α) (S : Store) (f : α → Store → R β) : (R.ok a S).bind f = f a S := rfl
@[simp] theorem R.bind_exc {α β : Type} (e : EV) (S : Store) (f : α → Store → R β) : (R.exc e S : R α).bind f = .exc e S := rfl
@[simp] theorem R.bind_stuck {α β : Type} (f : α → Store → R β) : (R.stuck : R α).bind f = .stuck := rfl
def R.opt {α : Type} (S : Store) : Option α → R α
  | some a => .ok a S
  | none => .stuck
@[simp] theorem R.opt_some {α : Type} (S : Store) (a : α) : R.opt S (some a) = .ok a S := rfl
@[simp] theorem R.opt_none {α : Type} (S : Store) : R.opt S (none : Option α) = .stuck := rfl

abbrev Env := List (Option W)

inductive Bi where
  | abs | len | max | min | int | str | repr | sum | all | any | list | tuple | sorted
  deriving DecidableEq
inductive Me where
  | append | extend | index | indexT | count | upper | get | join | partition
  deriving DecidableEq
inductive Ty where
  | int | bool | str | tuple | list | dict
  deriving DecidableEq

mutual
inductive E where
  | k (d : PyData)
  | v (i : Nat)
  | g (j : Nat)
  | bin (m : Bool) (op : Operator) (a b : E)
  | un (op : UnaryOp) (a : E)
  | boo (op : BoolOp) (es : Es)
  | cmp (op : CmpOp) (a b : E)
  | ch (a : E) (op : CmpOp) (b : E) (op' : CmpOp) (c : E)
  | ife (t a b : E)
  | tup (es : Es)
  | lst (m : Bool) (es : Es)
  | dct (m : Bool) (ks vs : Es)
  | sub (a i : E)
  | slc (m : Bool) (a : E) (lo hi : Op)
  | rev (a : E)
  | call (f : Nat) (as : Es)
  | callK (f : Nat) (as : Es) (kn : List Str) (kv : Es) (mp : List (Sum Nat PyData))
  | bi (m : Bool) (b : Bi) (as : Es)
  | me (m : Me) (o : E) (as : Es)
  | isi (a : E) (ts : List Ty)
  | lc (m : Bool) (elt : E) (tg : Tg) (it : It) (ifs : Es)
  | frz (e : E)
  | stk
  | sset (m : Bool) (e : E)
  /-- isinstance(name, own class); name.attribute, the name an except clause's -/
  | isx (i : Nat) (c : Nat) (tab : List Bool)
  | exa (i : Nat) (nm : Str) (tab : List Bool)
  /-- o.nm, o an instance of x; o.m(as), the method the def f; x(as), its __init__ the def f -/
  | attr (x nm : Str) (o : E)
  | mc (f : Nat) (x m : Str) (o : E) (as : Es)
  | mk (f : Nat) (x : Str) (as : Es)
  /-- an f-string's parts -/
  | fs (es : Es)
  /-- a def as a value; v(as), the variable i holding the def x, at f -/
  | fv (x : Str)
  | cv (i f : Nat) (x : Str) (as : Es)
inductive Es where
  | nil | cons (e : E) (r : Es) | star (e : E) (r : Es)
inductive Op where
  | non | som (e : E)
inductive Tg where
  | n (i : Nat)
  | t (ts : Tgs)
  | s (o i : E)
inductive Tgs where
  | nil | cons (t : Tg) (r : Tgs)
inductive It where
  | e (e : E) | r1 (a : E) | r2 (a b : E) | zi (a b : E) | en (a : E)
end
/-- a pattern -/
inductive Pt where
  | val (d : PyData) | alt (ds : List PyData) | any
  /-- [p, .., *name]: data or names; the star's name -/
  | seq (ps : List (Sum PyData Nat)) (st : Option Nat)
mutual
inductive Sx where
  | asg (t : Tg) (e : E)
  | par (i j : Nat) (a b : E)
  | par3 (i j l : Nat) (a b c : E)
  | aug (i : Nat) (op : Operator) (e : E)
  | ifs (t : E) (a b : Ss)
  | fo (tg : Tg) (it : It) (b : Ss)
  | wh (n : Nat) (t : E) (b : Ss)
  | ret (e : Op)
  | exp (e : E)
  | pass | brk | cont
  | mat (e : E) (cs : Cs)
  | rai (c : Nat) (a : Op)
  | tr (b : Ss) (c : Nat) (tab : List Bool) (i : Option Nat) (h : Ss)
  | frz (i : Nat)
  | stk
  | uns (i : Nat) (ts : Tgs) (e : E)
  /-- o.nm = e; o.nm op= e -/
  | sat (x nm : Str) (o e : E)
  | saug (x nm : Str) (op : Operator) (o e : E)
inductive Ss where
  | nil | cons (s : Sx) (r : Ss)
inductive Cs where
  | nil | cons (p : Pt) (b : Ss) (r : Cs)
end

/-! ### the operations on data -/
def isSc : PyData → Bool
  | .none => true | .bool _ => true | .int _ => true | .str _ => true
  | .list _ => false | .tuple _ => false | .dict _ => false
/-- == where it is known, place by place -/
def eqs (f : PyData → PyData → Option Bool) : List PyData → List PyData → Option Bool
  | x :: xs, y :: ys => match f x y, eqs f xs ys with
    | some a, some b => some (a && b)
    | _, _ => none
  | _, _ => some true
def eqn : Nat → PyData → PyData → Option Bool
  | 0, x, y => if isSc x && isSc y then some (PyData.eqv x y) else none
  | n + 1, x, y => match x, y with
    | .tuple xs, .tuple ys => (eqs (eqn n) xs ys).map fun b => b && xs.length == ys.length
    | .list xs, .list ys => if xs.length = ys.length then eqs (eqn n) xs ys else some false
    | .dict _, _ => none
    | _, .dict _ => none
    | x, y => some (PyData.eqv x y)
def eqp (x y : PyData) : Option Bool := eqn 64 x y
def inp (x : PyData) (ys : List PyData) : Option Bool :=
  if ys.all (fun y => (eqp y x).isSome) then some (ys.any fun y => eqp y x == some true) else none
/-- the ints of a list of ints -/
def intsOf : List PyData → Option (List Int)
  | [] => some []
  | .int i :: r => (intsOf r).map (i :: ·)
  | _ :: _ => none
def boolsOf : List PyData → Option (List Bool)
  | [] => some []
  | .bool i :: r => (boolsOf r).map (i :: ·)
  | _ :: _ => none
def strsOf : List PyData → Option (List Str)
  | [] => some []
  | .str i :: r => (strsOf r).map (i :: ·)
  | _ :: _ => none
/-- an int, or a bool as an int -/
def numV : PyData → Option Int
  | .int i => some i
  | .bool b => some (if b then 1 else 0)
  | _ => none
/-- sorting that the kernel runs -/
def insB {α : Type} (le : α → α → Bool) (x : α) : List α → List α
  | [] => [x]
  | y :: r => if le x y then x :: y :: r else y :: insB le x r
def sortB {α : Type} (le : α → α → Bool) : List α → List α
  | [] => []
  | x :: r => insB le x (sortB le r)
def leD (x y : PyData) : Bool := !PySem.W.dataLt y x
def alikes (xs : List PyData) : Bool := xs.all fun x => xs.all fun y => PySem.W.alike x y
def sortable (xs : List PyData) : Bool :=
  (xs.all fun x => match x with | .tuple (_ :: _) => true | _ => false) || (xs.all fun x => match x with | .none => false | .tuple _ => false | _ => true)
def insI (x : Int) : List Int → List Int
  | [] => [x]
  | y :: r => if x < y then x :: y :: r else if x = y then y :: r else y :: insI x r
def setI : List Int → List Int
  | [] => []
  | x :: r => insI x (setI r)

def view (S : Store) : W → Option PyData
  | .p d => some d
  | .ref i => match S[i]? with | some (.lst xs) => some (.list xs) | some (.dct kvs) => some (.dict kvs) | _ => none
  | .ex _ _ => none
  | .kd _ => none
  | .kl _ => none
  | .kt ds => some (.tuple ds)
  | .fn _ => none
/-- a new list: data, or a cell of the store -/
def mkL (m : Bool) (xs : List PyData) (S : Store) : R W := if m then .ok (.ref S.length) (S ++ [.lst xs]) else .ok (.p (.list xs)) S
def okP (d : PyData) (S : Store) : R W := .ok (.p d) S
def okB (b : Bool) (S : Store) : R W := .ok (.p (.bool b)) S
def okI (i : Int) (S : Store) : R W := .ok (.p (.int i)) S

def cutL {α : Type} (xs : List α) (lo hi : Option Int) : List α := (xs.drop (HT.sIx xs.length 0 lo)).take (HT.sIx xs.length xs.length hi - HT.sIx xs.length 0 lo)

def binI (op : Operator) (i j : Int) (S : Store) : R W :=
  match op with
  | .Add => okI (i + j) S
  | .Sub => okI (i - j) S
  | .Mult => if i.natAbs.log2 + j.natAbs.log2 < 1000000 then okI (i * j) S else .stuck
  | .FloorDiv => if 0 < j ∧ j.natAbs.log2 < 9000 then okI (i / j) S else .stuck
  | .Mod => if 0 < j then okI (i % j) S else .stuck
  | .Pow => if 0 ≤ j ∧ j ≤ 1000 ∧ i.natAbs.log2 < 2000 then okI (i ^ j.toNat) S else .stuck
  | _ => .stuck
def repS (a : Str) (n : Nat) : Str := ⟨(List.replicate n a.cps).foldl (· ++ ·) #[]⟩
def binD (m : Bool) (op : Operator) (x y : PyData) (S : Store) : R W :=
  match x with
  | .int i => (match y with
    | .int j => binI op i j S
    | .bool b => (match op with | .Add => okI (i + if b then 1 else 0) S | .Sub => okI (i - if b then 1 else 0) S | _ => .stuck)
    | _ => .stuck)
  | .bool b => (match y with
    | .int j => (match op with | .Add => okI ((if b then 1 else 0) + j) S | .Sub => okI ((if b then 1 else 0) - j) S | _ => .stuck)
    | _ => .stuck)
  | .str a => (match y with
    | .str b => (match op with | .Add => if a.length + b.length ≤ sizeLine then okP (.str (a ++ b)) S else .stuck | _ => .stuck)
    | .int k => (match op with | .Mult => if 2 ≤ k ∧ k ≤ 1000 ∧ 1 ≤ a.length ∧ a.length ≤ 1000 ∧ (repS a k.toNat).length ≤ sizeLine then okP (.str (repS a k.toNat)) S else .stuck | _ => .stuck)
    | _ => .stuck)
  | .tuple xs => (match y with
    | .tuple ys => (match op with | .Add => if xs.length + ys.length ≤ sizeLine then okP (.tuple (xs ++ ys)) S else .stuck | _ => .stuck)
    | .int k => (match op with | .Mult => if 2 ≤ k ∧ k ≤ 1000 ∧ xs.length ≤ 1000 ∧ xs.isEmpty = false then okP (.tuple (List.replicate k.toNat xs).flatten) S else .stuck | _ => .stuck)
    | _ => .stuck)
  | .list xs => (match y with
    | .list ys => (match op with | .Add => if xs.length + ys.length ≤ sizeLine then mkL m (xs ++ ys) S else .stuck | _ => .stuck)
    | .int k => (match op with | .Mult => if 0 ≤ k ∧ k < 2 ^ 62 ∧ xs.length * k.toNat ≤ sizeLine then mkL m (List.replicate k.toNat xs).flatten S else .stuck | _ => .stuck)
    | _ => .stuck)
  | _ => .stuck
def binW (m : Bool) (op : Operator) (x y : W) (S : Store) : R W :=
  match view S x with
  | none => .stuck
  | some a => match view S y with
    | none => .stuck
    | some b => binD m op a b S
def optB (S : Store) : Option Bool → R W
  | some b => okB b S
  | none => .stuck
/-- order of data where it is known -/
def ltp (x y : PyData) : Option Bool :=
  match x with
  | .none => none
  | _ => if PySem.W.alike x y && decide (x.depth ≤ 64) then some (PySem.W.dataLt x y) else none
def isNon : PyData → Bool
  | .none => true
  | _ => false
def isBl (b : Bool) : PyData → Bool
  | .bool a => a == b
  | _ => false
def cmpD (op : CmpOp) (x y : PyData) : Option Bool :=
  match op with
  | .Eq => eqp x y
  | .NotEq => (eqp x y).map (!·)
  | .Lt => (match x, y with | .int i, .int j => some (decide (i < j)) | _, _ => ltp x y)
  | .LtE => (match x, y with | .int i, .int j => some (decide (i ≤ j)) | _, _ => none)
  | .Gt => (match x, y with | .int i, .int j => some (decide (j < i)) | _, _ => none)
  | .GtE => (match x, y with | .int i, .int j => some (decide (j ≤ i)) | _, _ => none)
  | .Is => (match y with | .none => some (isNon x) | .bool b => some (isBl b x) | _ => none)
  | .IsNot => (match y with | .none => some (!isNon x) | .bool b => some (!isBl b x) | _ => none)
  | .In => (match y with
    | .tuple ys => inp x ys
    | .list ys => inp x ys
    | .str z => (match x with | .str a => some (!(Builtin.Str.occurrences z a 0 z.length 1).isEmpty) | _ => none)
    | _ => none)
  | .NotIn => (match y with
    | .tuple ys => (inp x ys).map (!·)
    | .list ys => (inp x ys).map (!·)
    | .str z => (match x with | .str a => some (!!(Builtin.Str.occurrences z a 0 z.length 1).isEmpty) | _ => none)
    | _ => none)
def cmpW (op : CmpOp) (x y : W) (S : Store) : Option Bool :=
  match y with
  | .kd kvs => (match x with
    | .p (.str a) => (match op with | .In => some (kvs.lookup a).isSome | .NotIn => some !(kvs.lookup a).isSome | _ => none)
    | _ => none)
  | _ => match view S x with
    | none => none
    | some a => match view S y with
      | none => none
      | some b => cmpD op a b
def truD : PyData → Option Bool
  | .none => some false | .bool b => some b | .int i => some (i != 0) | .str x => some ((x.length : Int) != 0)
  | .list xs => some (!xs.isEmpty) | .tuple xs => some (!xs.isEmpty) | .dict _ => none
def subD (x i : PyData) : Option PyData :=
  match i with
  | .int k => (match x with
    | .tuple xs => L2.atI xs k
    | .list xs => L2.atI xs k
    | .str z => (L2.atI z.cps.toList k).map fun c => .str ⟨#[c]⟩
    | _ => none)
  | _ => none
def subW (x i : W) (S : Store) : R W :=
  match x with
  | .kd kvs => (match i with
    | .p (.str a) => (match kvs.lookup a with | some d => okP d S | none => .stuck)
    | _ => .stuck)
  | .kl is => (match i with
    | .p (.int k) => (match L2.atI is k with | some j => okI j S | none => .stuck)
    | _ => .stuck)
  | _ => match view S x with
    | none => .stuck
    | some a => match i with
      | .p b => (match subD a b with | some d => okP d S | none => .stuck)
      | _ => .stuck
def intO : Option W → Option (Option Int)
  | none => some none
  | some (.p (.int i)) => some (some i)
  | some _ => none
def slcW (m : Bool) (x : W) (lo hi : Option Int) (S : Store) : R W :=
  match view S x with
  | some (.tuple xs) => okP (.tuple (cutL xs lo hi)) S
  | some (.list xs) => mkL m (cutL xs lo hi) S
  | some (.str z) => okP (.str (L2.cutS z lo hi)) S
  | _ => .stuck
def revW (x : W) (S : Store) : R W :=
  match view S x with
  | some (.str z) => okP (.str (Txt.sliceBy z none none (-1, 0))) S
  | _ => .stuck
/-- a text or an int, as an f-string shows it -/
def txtW : W → Option Str
  | .p (.str y) => some y
  | .p (.int i) => if i.natAbs.log2 < 1920 then some (toString i) else none
  | _ => none
/-- attributes -/
def putA {α : Type} (f : Str) (d : α) : List (Str × α) → List (Str × α)
  | [] => [(f, d)]
  | p :: r => if p.1 = f then (f, d) :: r else p :: putA f d r
def attrW (x nm : Str) (o : W) (S : Store) : Option PyData :=
  match o with
  | .ref i => (match S[i]? with
    | some (.obj y fs) => if y = x then fs.lookup nm else none
    | _ => none)
  | _ => none
/-- an instance of x without the name as an attribute -/
def isObj (x m : Str) (o : W) (S : Store) : Bool :=
  match o with
  | .ref i => (match S[i]? with
    | some (.obj y fs) => decide (y = x) && (fs.lookup m).isNone
    | _ => false)
  | _ => false
def setA (x nm : Str) (o : W) (d : PyData) (S : Store) : Option Store :=
  match o with
  | .ref i => (match S[i]? with
    | some (.obj y fs) => if y = x ∧ fs.length < 1000 then some (S.set i (.obj y (putA nm d fs))) else none
    | _ => none)
  | _ => none
def lenD : PyData → Option Nat
  | .str x => some x.length | .list xs => some xs.length | .tuple xs => some xs.length
  | _ => none
def maxL : List Int → Option Int
  | [] => none
  | [x] => some x
  | x :: r => (maxL r).map fun y => if y > x then y else x
def minL : List Int → Option Int
  | [] => none
  | [x] => some x
  | x :: r => (minL r).map fun y => if y < x then y else x
def strD : PyData → Option Str
  | .int i => if i.natAbs.log2 < 1920 then some (toString i) else none
  | .bool b => some (if b then "True" else "False")
  | .str x => some x
  | _ => none
def views (S : Store) : List W → Option (List PyData)
  | [] => some []
  | w :: r => match view S w with
    | none => none
    | some d => (views S r).map (d :: ·)
def biD (m : Bool) (b : Bi) (ds : List PyData) (S : Store) : R W :=
  match b, ds with
  | .abs, [.int i] => okI (if i < 0 then -i else i) S
  | .len, [d] => (match lenD d with | some n => okI n S | none => .stuck)
  | .max, [.int i, .int j] => okI (if j > i then j else i) S
  | .max, [.list xs] => (match intsOf xs with | some is => (match maxL is with | some i => okI i S | none => .stuck) | none => .stuck)
  | .min, [.int i, .int j] => okI (if j < i then j else i) S
  | .min, [.list xs] => (match intsOf xs with | some is => (match minL is with | some i => okI i S | none => .stuck) | none => .stuck)
  | .int, [.int i] => okI i S
  | .int, [.bool b] => okI (if b then 1 else 0) S
  | .int, [.str x] => if x.length ≤ 640 then (match PySem.intText? x with | some n => okI n S | none => .stuck) else .stuck
  | .str, [d] => (match strD d with | some x => okP (.str x) S | none => .stuck)
  | .repr, [d] => if d.showable && !d.hasDict && decide (d.depth ≤ 64) && decide (d.shown.length ≤ sizeLine) then okP (.str d.shown) S else .stuck
  | .sum, [.list xs] => (match intsOf xs with | some is => okI is.sum S | none => .stuck)
  | .all, [.list xs] => (match boolsOf xs with | some is => okB (is.all id) S | none => .stuck)
  | .any, [.list xs] => (match boolsOf xs with | some is => okB (is.any id) S | none => .stuck)
  | .list, [.list xs] => mkL m xs S
  | .list, [.tuple xs] => mkL m xs S
  | .tuple, [.list xs] => okP (.tuple xs) S
  | .tuple, [.tuple xs] => okP (.tuple xs) S
  | .sorted, [.list xs] => if alikes xs && sortable xs && xs.all (fun x => decide (x.depth ≤ 64)) then mkL m (sortB leD xs) S else .stuck
  | _, _ => .stuck
def lenK : Bi → List W → Option Nat
  | .len, [.kl is] => some is.length
  | _, _ => none
def biW (m : Bool) (b : Bi) (ws : List W) (S : Store) : R W :=
  match lenK b ws with
  | some n => okI n S
  | none => match views S ws with
  | none => .stuck
  | some ds => biD m b ds S
/-- a flat value's == -/
def eqF : PyData → PyData → Bool
  | .none, .none => true
  | .bool a, .bool b => a == b
  | .bool a, .int b => (if a then 1 else 0) == b
  | .int a, .bool b => a == (if b then 1 else 0)
  | .int a, .int b => a == b
  | .str a, .str b => a == b
  | _, _ => false
def idxD (d : PyData) : Nat → List PyData → Option Nat
  | _, [] => none
  | i, x :: r => if eqF x d then some i else idxD d (i + 1) r
def meT (m : Me) (o : W) (S : Store) : Bool :=
  match m with
  | .upper => (match o with | .p (.str _) => true | _ => false)
  | .join => (match o with | .p (.str _) => true | _ => false)
  | .partition => (match o with | .p (.str _) => true | _ => false)
  | .get => false
  | .indexT => (match o with | .kt _ => true | _ => false)
  | _ => (match view S o with | some (.list _) => true | _ => false)
def meW (m : Me) (o : W) (ws : List W) (S : Store) : R W :=
  match m with
  | .append => (match o with
    | .ref i => (match S[i]? with
      | some (.lst xs) => (match ws with
        | [.p d] => if xs.length < sizeLine then .ok (.p .none) (S.set i (.lst (xs ++ [d]))) else .stuck
        | _ => .stuck)
      | _ => .stuck)
    | _ => .stuck)
  | .extend => (match o with
    | .ref i => (match S[i]? with
      | some (.lst xs) => (match ws with
        | [y] => (match view S y with
          | some (.list ys) => if xs.length + ys.length ≤ sizeLine then .ok (.p .none) (S.set i (.lst (xs ++ ys))) else .stuck
          | _ => .stuck)
        | _ => .stuck)
      | _ => .stuck)
    | _ => .stuck)
  | .index => (match view S o with
    | some (.list ds) => (match ws with
      | [.p d] => if isSc d && ds.all isSc then (match idxD d 0 ds with | some j => okI j S | none => .stuck) else .stuck
      | _ => .stuck)
    | _ => .stuck)
  | .indexT => (match o with
    | .kt ds => (match ws with
      | [.p d] => if isSc d && ds.all isSc then (match idxD d 0 ds with | some j => okI j S | none => .stuck) else .stuck
      | _ => .stuck)
    | _ => .stuck)
  | .upper => (match o with
    | .p (.str x) => (match ws with | [] => if x.length ≤ 5592405 then okP (.str (Txt.upper x)) S else .stuck | _ => .stuck)
    | _ => .stuck)
  | .join => (match o with
    | .p (.str x) => (match ws with
      | [.p (.list ds)] => (match strsOf ds with
        | some ys => if (ys.map (·.length)).sum + ys.length * x.length ≤ 1000000 then okP (.str (Txt.join x ys)) S else .stuck
        | none => .stuck)
      | _ => .stuck)
    | _ => .stuck)
  | .partition => (match o with
    | .p (.str x) => (match ws with
      | [.p (.str y)] => if y.length ≠ 0 ∧ x.length ≤ sizeLine then okP (.tuple [.str (Txt.partition x y).1, .str (Txt.partition x y).2.1, .str (Txt.partition x y).2.2]) S else .stuck
      | _ => .stuck)
    | _ => .stuck)
  | _ => .stuck
def tyIs (t : Ty) (d : PyData) : Bool :=
  match t, d with
  | .int, .int _ => true | .int, .bool _ => true | .bool, .bool _ => true | .str, .str _ => true
  | .tuple, .tuple _ => true | .list, .list _ => true | .dict, .dict _ => true
  | _, _ => false
end Px

set_option Elab.async false
set_option maxRecDepth 100000
/-! Px1: the meaning of the intermediate form. -/
namespace Px
open PySem

abbrev Cl := Nat → List W → Store → R W
def tst (t : Bool) (r : R W) : R W :=
  if t then r.bind fun w S => (match view S w with | some d => optB S (truD d) | none => .stuck) else r
/-! the names of a target -/
mutual
def Tg.own : Tg → List Nat
  | .n i => [i]
  | .t ts => ts.own
  | .s _ _ => []
def Tgs.own : Tgs → List Nat
  | .nil => []
  | .cons t r => t.own ++ r.own
end
def wipe (ρ : Env) : List Nat → Env
  | [] => ρ
  | v :: vs => (wipe ρ vs).set v none
mutual
/-- names and tuples of names -/
def asgT : Tg → PyData → Env → Option Env
  | .n i, d, ρ => if i < ρ.length then some (ρ.set i (some (.p d))) else none
  | .t ts, d, ρ => (match d with
    | .tuple ds => asgTs ts ds ρ
    | .list ds => asgTs ts ds ρ
    | _ => none)
  | .s _ _, _, _ => none
def asgTs : Tgs → List PyData → Env → Option Env
  | .nil, ds, ρ => (match ds with | [] => some ρ | _ :: _ => none)
  | .cons t r, ds, ρ => (match ds with
    | [] => none
    | d :: ds => (match asgT t d ρ with
      | none => none
      | some ρ' => asgTs r ds ρ'))
end
/-- a comprehension's turns -/
def lcF (step : PyData → Store → R (Option PyData)) : List PyData → Store → R (List PyData)
  | [], S => .ok [] S
  | x :: r, S => match step x S with
    | .ok o S1 => (match lcF step r S1 with
      | .ok ys S2 => .ok (match o with | some y => y :: ys | none => ys) S2
      | _ => .stuck)
    | _ => .stuck
def pureW : W → Option PyData
  | .p d => some d
  | _ => none
def pureWs : List W → Option (List PyData)
  | [] => some []
  | w :: r => match pureW w with
    | none => none
    | some d => (pureWs r).map (d :: ·)
def rangeL (lo : Int) : Nat → List PyData
  | 0 => []
  | n + 1 => .int lo :: rangeL (lo + 1) n
def zipD : List PyData → List PyData → List PyData
  | x :: xs, y :: ys => .tuple [x, y] :: zipD xs ys
  | _, _ => []
def enumD (i : Nat) : List PyData → List PyData
  | [] => []
  | x :: xs => .tuple [.int (i : Int), x] :: enumD (i + 1) xs
def zipW (x y : W) : Option (List PyData) :=
  match x, y with
  | .p (.tuple xs), .p (.tuple ys) => some (zipD xs ys)
  | .p (.list xs), .p (.list ys) => some (zipD xs ys)
  | _, _ => none
def pickK (ws : List W) : List (Sum Nat PyData) → Option (List W)
  | [] => some []
  | .inl i :: r => match ws[i]? with
    | none => none
    | some w => (pickK ws r).map (w :: ·)
  | .inr d :: r => (pickK ws r).map (.p d :: ·)
def loc (ρ : Env) (i : Nat) (S : Store) : R W :=
  match ρ[i]? with
  | some (some w) => .ok w S
  | _ => .stuck
def dctZ : List PyData → List PyData → Option (List (PyData × PyData))
  | [], [] => some []
  | k :: ks, v :: vs => (dctZ ks vs).map ((k, v) :: ·)
  | _, _ => none
/-- the list is never changed again -/
def freezeW (w : W) (S : Store) : R W :=
  match w with
  | .ref a => (match S[a]? with | some (.lst xs) => .ok (.p (.list xs)) (S.set a .gone) | _ => .stuck)
  | w => .ok w S
/-- += in place: ints -/
def augI (op : Operator) (x y : W) (S : Store) : R W :=
  match op with
  | .Add => (match x, y with | .p (.int i), .p (.int j) => okI (i + j) S | _, _ => .stuck)
  | .Sub => (match x, y with | .p (.int i), .p (.int j) => okI (i - j) S | _, _ => .stuck)
  | _ => .stuck
def Es.len : Es → Nat
  | .nil => 0
  | .cons _ r => r.len + 1
  | .star _ r => r.len + 1
section
variable (cl : Cl) (cs : List W)
mutual
def ev : E → Bool → Env → Store → R W
  | .k d, t, _, S => tst t (.ok (.p d) S)
  | .v i, t, ρ, S => tst t (loc ρ i S)
  | .g j, t, _, S => tst t (match cs[j]? with | some w => .ok w S | none => .stuck)
  | .bin m op a b, t, ρ, S => tst t ((ev a false ρ S).bind fun x S1 => (ev b false ρ S1).bind fun y S2 => binW m op x y S2)
  | .un op a, t, ρ, S => (match op with
    | .Not => (ev a t ρ S).bind fun w S1 => (match w with | .p (.bool b) => okB (!b) S1 | _ => .stuck)
    | .USub => tst t ((ev a false ρ S).bind fun w S1 => (match w with | .p (.int i) => okI (-i) S1 | _ => .stuck))
    | _ => .stuck)
  | .boo op es, t, ρ, S => evBo op es t ρ S
  | .cmp op a b, _, ρ, S => (ev a false ρ S).bind fun x S1 => (ev b false ρ S1).bind fun y S2 => optB S2 (cmpW op x y S2)
  | .ch a op b op' c, _, ρ, S => (ev a false ρ S).bind fun x S1 => (ev b false ρ S1).bind fun y S2 =>
      (match cmpW op x y S2 with
      | some true => (ev c false ρ S2).bind fun z S3 => optB S3 (cmpW op' y z S3)
      | some false => okB false S2
      | none => .stuck)
  | .ife c a b, t, ρ, S => (ev c true ρ S).bind fun w S1 => (match w with
      | .p (.bool true) => ev a t ρ S1
      | .p (.bool false) => ev b t ρ S1
      | _ => .stuck)
  | .tup es, t, ρ, S => tst t ((evEs es ρ S).bind fun ws S1 => (match pureWs ws with | some ds => if ds.length ≤ sizeLine then okP (.tuple ds) S1 else .stuck | none => .stuck))
  | .lst m es, t, ρ, S => tst t ((evEs es ρ S).bind fun ws S1 => (match pureWs ws with | some ds => if ds.length ≤ sizeLine then mkL m ds S1 else .stuck | none => .stuck))
  | .dct _ _ _, _, _, _ => .stuck
  | .sub a i, t, ρ, S => tst t ((ev a false ρ S).bind fun x S1 => (ev i false ρ S1).bind fun y S2 => subW x y S2)
  | .slc m a lo hi, t, ρ, S => tst t ((ev a false ρ S).bind fun x S1 => (evOp lo ρ S1).bind fun l S2 => (evOp hi ρ S2).bind fun h S3 => slcW m x l h S3)
  | .rev a, t, ρ, S => tst t ((ev a false ρ S).bind fun x S1 => revW x S1)
  | .call f as, t, ρ, S => tst t ((evEs as ρ S).bind fun ws S1 => cl f ws S1)
  | .callK f as kn kv mp, t, ρ, S => tst t ((evEs as ρ S).bind fun ws S1 => (evEs kv ρ S1).bind fun zs S2 => if ws.length = as.len ∧ zs.length = kn.length then (match pickK (ws ++ zs) mp with | some us => cl f us S2 | none => .stuck) else .stuck)
  | .bi m b as, t, ρ, S => tst t ((evEs as ρ S).bind fun ws S1 => biW m b ws S1)
  | .me m o as, t, ρ, S => tst t ((ev o false ρ S).bind fun x S1 => if meT m x S1 then (evEs as ρ S1).bind fun ws S2 => meW m x ws S2 else .stuck)
  | .isi a ts, t, ρ, S => tst t ((ev a false ρ S).bind fun x S1 => (match view S1 x with | some d => okB (ts.any fun y => tyIs y d) S1 | none => .stuck))
  | .lc m elt tg it ifs, t, ρ, S => tst t ((evIt it ρ S).bind fun xs S1 =>
      (lcF (fun x S => (match asgT tg x (wipe ρ tg.own) with
        | none => .stuck
        | some ρ' => (evIfs ifs ρ' S).bind fun b S1 => if b then (ev elt false ρ' S1).bind fun w S2 => (match pureW w with | some d => .ok (some d) S2 | none => .stuck) else .ok none S1)) xs S1).bind fun ys S2 =>
      if ys.length ≤ sizeLine then mkL m ys S2 else .stuck)
  | .frz e, t, ρ, S => if t then .stuck else (ev e false ρ S).bind fun w S1 => freezeW w S1
  | .stk, _, _, _ => .stuck
  | .isx i _ tab, t, ρ, S => tst t (match ρ[i]? with | some (some (.ex k _)) => (match tab[k]? with | some b => okB b S | none => .stuck) | _ => .stuck)
  | .exa i _ tab, t, ρ, S => tst t (match ρ[i]? with | some (some (.ex k d)) => (match tab[k]? with | some true => okP d S | _ => .stuck) | _ => .stuck)
  | .attr x nm o, t, ρ, S => tst t ((ev o false ρ S).bind fun w S1 => (match attrW x nm w S1 with | some d => okP d S1 | none => .stuck))
  | .mc f x m o as, t, ρ, S => tst t ((ev o false ρ S).bind fun w S1 => if isObj x m w S1 then (evEs as ρ S1).bind fun ws S2 => cl f (w :: ws) S2 else .stuck)
  | .mk f x as, t, ρ, S => tst t ((evEs as ρ S).bind fun ws S1 => (cl f (.ref S1.length :: ws) (S1 ++ [.obj x []])).bind fun r S2 => (match r with | .p .none => .ok (.ref S1.length) S2 | _ => .stuck))
  | .fs es, t, ρ, S => tst t (evFs es Str.empty ρ S)
  | .fv x, t, _, S => tst t (.ok (.fn x) S)
  | .cv i f x as, t, ρ, S => tst t (match ρ[i]? with | some (some (.fn y)) => if y = x then (evEs as ρ S).bind fun ws S1 => cl f ws S1 else .stuck | _ => .stuck)
  | .sset m e, t, ρ, S => tst t ((ev e false ρ S).bind fun w S1 => (match view S1 w with
      | some (.list xs) => (match intsOf xs with | some is => if is.length < 63 then mkL m ((setI is).map PyData.int) S1 else .stuck | none => .stuck)
      | _ => .stuck))
def evEs : Es → Env → Store → R (List W)
  | .nil, _, S => .ok [] S
  | .cons e r, ρ, S => (ev e false ρ S).bind fun w S1 => (evEs r ρ S1).bind fun ws S2 => .ok (w :: ws) S2
  | .star e r, ρ, S => (ev e false ρ S).bind fun w S1 => (match w with
    | .p (.tuple xs) => (evEs r ρ S1).bind fun ws S2 => .ok (xs.map W.p ++ ws) S2
    | .p (.list xs) => (evEs r ρ S1).bind fun ws S2 => .ok (xs.map W.p ++ ws) S2
    | _ => .stuck)
def evFs : Es → Str → Env → Store → R W
  | .nil, acc, _, S => okP (.str acc) S
  | .cons e r, acc, ρ, S => (ev e false ρ S).bind fun w S1 => (match txtW w with
    | some y => if (acc ++ y).length ≤ sizeLine then evFs r (acc ++ y) ρ S1 else .stuck
    | none => .stuck)
  | .star _ _, _, _, _ => .stuck
def evBo : BoolOp → Es → Bool → Env → Store → R W
  | op, .cons e r, t, ρ, S => (match r with
    | .nil => ev e t ρ S
    | _ => (ev e t ρ S).bind fun w S1 => (match w with
      | .p (.bool b) => (match op, b with
        | .And, true => evBo op r t ρ S1
        | .And, false => okB false S1
        | .Or, true => okB true S1
        | .Or, false => evBo op r t ρ S1)
      | _ => .stuck))
  | _, _, _, _, _ => .stuck
def evIfs : Es → Env → Store → R Bool
  | .nil, _, S => .ok true S
  | .cons e r, ρ, S => (ev e true ρ S).bind fun w S1 => (match w with
    | .p (.bool true) => evIfs r ρ S1
    | .p (.bool false) => .ok false S1
    | _ => .stuck)
  | .star _ _, _, _ => .stuck
def evOp : Op → Env → Store → R (Option Int)
  | .non, _, S => .ok none S
  | .som e, ρ, S => (ev e false ρ S).bind fun w S1 => (match w with | .p (.int i) => .ok (some i) S1 | _ => .stuck)
def evIt : It → Env → Store → R (List PyData)
  | .e e, ρ, S => (ev e false ρ S).bind fun w S1 => (match w with
    | .p (.tuple xs) => .ok xs S1
    | .p (.list xs) => .ok xs S1
    | .p (.str z) => .ok (z.cps.toList.map fun c => .str ⟨#[c]⟩) S1
    | _ => .stuck)
  | .r1 a, ρ, S => (ev a false ρ S).bind fun w S1 => (match w with
    | .p (.int j) => if -(2 ^ 62) ≤ j ∧ j < 2 ^ 62 then .ok (rangeL 0 j.toNat) S1 else .stuck
    | _ => .stuck)
  | .r2 a b, ρ, S => (ev a false ρ S).bind fun w S1 => (ev b false ρ S1).bind fun z S2 => (match w, z with
    | .p (.int i), .p (.int j) => if -(2 ^ 62) ≤ i ∧ i < 2 ^ 62 ∧ -(2 ^ 62) ≤ j ∧ j < 2 ^ 62 then .ok (rangeL i (j - i).toNat) S2 else .stuck
    | _, _ => .stuck)
  | .zi a b, ρ, S => (ev a false ρ S).bind fun w S1 => (ev b false ρ S1).bind fun z S2 => (match zipW w z with | some ds => .ok ds S2 | none => .stuck)
  | .en a, ρ, S => (ev a false ρ S).bind fun w S1 => (match w with | .p (.list xs) => .ok (enumD 0 xs) S1 | .p (.tuple xs) => .ok (enumD 0 xs) S1 | _ => .stuck)
end
end
/-- a statement's end -/
inductive RS where
  | nx (ρ : Env) (S : Store) | rt (w : W) (S : Store) | bk (ρ : Env) (S : Store) | ct (ρ : Env) (S : Store)
  | ex (e : EV) (ρ : Env) (S : Store) | stuck
def R.st {α : Type} (r : R α) (ρ : Env) (f : α → Store → RS) : RS :=
  match r with
  | .ok a S => f a S
  | .exc e S => .ex e ρ S
  | .stuck => .stuck
@[simp] theorem R.st_ok {α : Type} (a : α) (S : Store) (ρ : Env) (f : α → Store → RS) : (R.ok a S).st ρ f = f a S := rfl
@[simp] theorem R.st_exc {α : Type} (e : EV) (S : Store) (ρ : Env) (f : α → Store → RS) : (R.exc e S : R α).st ρ f = .ex e ρ S := rfl
@[simp] theorem R.st_stuck {α : Type} (ρ : Env) (f : α → Store → RS) : (R.stuck : R α).st ρ f = .stuck := rfl
def RS.andThen (r : RS) (f : Env → Store → RS) : RS :=
  match r with
  | .nx ρ S => f ρ S
  | r => r
def forL (step : PyData → Env → Store → RS) : List PyData → Env → Store → RS
  | [], ρ, S => .nx ρ S
  | x :: r, ρ, S => match step x ρ S with
    | .nx ρ' S' => forL step r ρ' S'
    | .ct ρ' S' => forL step r ρ' S'
    | .bk ρ' S' => .nx ρ' S'
    | o => o
def whF (test : Env → Store → R W) (body : Env → Store → RS) : Nat → Env → Store → RS
  | 0, _, _ => .stuck
  | n + 1, ρ, S => (test ρ S).st ρ fun w S1 => (match w with
    | .p (.bool true) => (match body ρ S1 with
      | .nx ρ' S' => whF test body n ρ' S'
      | .ct ρ' S' => whF test body n ρ' S'
      | .bk ρ' S' => .nx ρ' S'
      | o => o)
    | .p (.bool false) => .nx ρ S1
    | _ => .stuck)
def ptD : Pt → PyData → Option Bool
  | .val d, x => eqp x d
  | .alt ds, x => if ds.all (fun d => (eqp x d).isSome) then some (ds.any fun d => eqp x d == some true) else none
  | .any, _ => some true
  | .seq _ _, _ => none
/-- the items of a sequence pattern -/
def seqJ : List (Sum PyData Nat) → Option Nat → List PyData → Env → Option (Option Env)
  | [], st, ds, ρ => (match st, ds with
    | none, [] => some (some ρ)
    | some j, [d] => if j < ρ.length then some (some (ρ.set j (some (.p d)))) else none
    | _, _ => none)
  | .inl c :: ps, st, ds, ρ => (match ds with
    | d :: ds => (match eqp d c with | some true => seqJ ps st ds ρ | some false => some none | none => none)
    | [] => none)
  | .inr i :: ps, st, ds, ρ => (match ds with
    | d :: ds => if i < ρ.length then seqJ ps st ds (ρ.set i (some (.p d))) else none
    | [] => none)
def seqM (ps : List (Sum PyData Nat)) (st : Option Nat) (x : PyData) (ρ : Env) : Option (Option Env) :=
  match x with
  | .tuple ds => (match st with
    | none => if ds.length = ps.length then seqJ ps none ds ρ else some none
    | some j => if ps.length ≤ ds.length then seqJ ps (some j) (ds.take ps.length ++ [.list (ds.drop ps.length)]) ρ else some none)
  | _ => none
/-- a pattern: known or not; hit or not; the names -/
def ptM (p : Pt) (x : PyData) (ρ : Env) : Option (Option Env) :=
  match p with
  | .seq ps st => seqM ps st x ρ
  | p => (match ptD p x with | some true => some (some ρ) | some false => some none | none => none)
def Tgs.len : Tgs → Nat
  | .nil => 0
  | .cons _ r => r.len + 1
/-- the items, those of the starred place in a list of their own -/
def starD (i n : Nat) (ds : List PyData) : Option (List PyData) :=
  if i < n ∧ n ≤ ds.length + 1 then some (ds.take i ++ [PyData.list ((ds.drop i).take (ds.length + 1 - n))] ++ (ds.drop i).drop (ds.length + 1 - n)) else none
def putN (ρ : Env) (i : Nat) (w : W) (S : Store) : RS := if i < ρ.length then .nx (ρ.set i (some w)) S else .stuck
def setW (o i v : W) (S : Store) : Option Store :=
  match o with
  | .ref a => (match S[a]? with
    | some (.lst xs) => (match i with
      | .p (.int k) => (match v with
        | .p d => (match L2.ixN xs.length k with | some j => some (S.set a (.lst (xs.set j d))) | none => none)
        | _ => none)
      | _ => none)
    | _ => none)
  | _ => none
def isEx : Option W → Bool
  | some (.ex _ _) => true
  | _ => false
/-- behind an except suite: its name goes, the exception is at hand no more -/
def offE (i : Option Nat) (ρ : Env) : Env := match i with | some j => ρ.set j none | none => ρ
def offS (i : Option Nat) : RS → RS
  | .nx ρ S => if (offE i ρ).any isEx then .stuck else .nx (offE i ρ) S
  | .bk ρ S => if (offE i ρ).any isEx then .stuck else .bk (offE i ρ) S
  | .ct ρ S => if (offE i ρ).any isEx then .stuck else .ct (offE i ρ) S
  | .rt w S => (match w with | .ex _ _ => .stuck | w => .rt w S)
  | .ex _ _ _ => .stuck
  | .stuck => .stuck
section
variable (cl : Cl) (cs : List W)
mutual
def exS : Sx → Env → Store → RS
  | .asg tg e, ρ, S => (ev cl cs e false ρ S).st ρ fun w S1 => (match tg with
    | .n i => putN ρ i w S1
    | .t ts => (match w with
      | .p d => (match asgT (.t ts) d ρ with | some ρ' => .nx ρ' S1 | none => .stuck)
      | _ => .stuck)
    | .s o i => (ev cl cs o false ρ S1).st ρ fun x S2 => (ev cl cs i false ρ S2).st ρ fun y S3 => (match setW x y w S3 with | some S4 => .nx ρ S4 | none => .stuck))
  | .par i j a b, ρ, S => (ev cl cs a false ρ S).st ρ fun x S1 => (ev cl cs b false ρ S1).st ρ fun y S2 =>
      if i < ρ.length ∧ j < ρ.length ∧ i ≠ j then .nx ((ρ.set i (some x)).set j (some y)) S2 else .stuck
  | .par3 i j l a b c, ρ, S => (ev cl cs a false ρ S).st ρ fun x S1 => (ev cl cs b false ρ S1).st ρ fun y S2 => (ev cl cs c false ρ S2).st ρ fun z S3 =>
      if i < ρ.length ∧ j < ρ.length ∧ l < ρ.length ∧ i ≠ j ∧ i ≠ l ∧ j ≠ l then .nx (((ρ.set i (some x)).set j (some y)).set l (some z)) S3 else .stuck
  | .aug i op e, ρ, S => (loc ρ i S).st ρ fun x S1 => (ev cl cs e false ρ S1).st ρ fun y S2 => (augI op x y S2).st ρ fun z S3 => putN ρ i z S3
  | .ifs t a b, ρ, S => (ev cl cs t true ρ S).st ρ fun w S1 => (match w with
      | .p (.bool true) => exSs a ρ S1
      | .p (.bool false) => exSs b ρ S1
      | _ => .stuck)
  | .fo tg it b, ρ, S => (evIt cl cs it ρ S).st ρ fun xs S1 => forL (fun x ρ S => (match asgT tg x ρ with | some ρ' => exSs b ρ' S | none => .stuck)) xs ρ S1
  | .wh n t b, ρ, S => whF (fun ρ S => ev cl cs t true ρ S) (fun ρ S => exSs b ρ S) n ρ S
  | .ret e, ρ, S => (match e with
    | .non => .rt (.p .none) S
    | .som e => (ev cl cs e false ρ S).st ρ fun w S1 => .rt w S1)
  | .exp e, ρ, S => (ev cl cs e false ρ S).st ρ fun _ S1 => .nx ρ S1
  | .pass, ρ, S => .nx ρ S
  | .brk, ρ, S => .bk ρ S
  | .cont, ρ, S => .ct ρ S
  | .mat e ks, ρ, S => (ev cl cs e false ρ S).st ρ fun w S1 => (match w with
      | .p d => exCs ks d ρ S1
      | _ => .stuck)
  | .uns i ts e, ρ, S => (ev cl cs e false ρ S).st ρ fun w S1 => (match w with
    | .p (.tuple ds) => (match starD i ts.len ds with
      | some es => (match asgTs ts es ρ with | some ρ' => .nx ρ' S1 | none => .stuck)
      | none => .stuck)
    | _ => .stuck)
  | .rai c a, ρ, S => (match a with
      | .non => .ex ⟨c, .none⟩ ρ S
      | .som e => (ev cl cs e false ρ S).st ρ fun _ S1 => .ex ⟨c, .none⟩ ρ S1)
  | .sat x nm o e, ρ, S => (ev cl cs e false ρ S).st ρ fun v S1 => (ev cl cs o false ρ S1).st ρ fun w S2 => (match v with
      | .p d => (match setA x nm w d S2 with | some S3 => .nx ρ S3 | none => .stuck)
      | _ => .stuck)
  | .saug x nm op o e, ρ, S => (ev cl cs o false ρ S).st ρ fun w S1 => (match attrW x nm w S1 with
      | none => .stuck
      | some d => (ev cl cs e false ρ S1).st ρ fun v S2 => (augI op (.p d) v S2).st ρ fun z S3 => (match z with
        | .p y => (match setA x nm w y S3 with | some S4 => .nx ρ S4 | none => .stuck)
        | _ => .stuck))
  | .stk, _, _ => .stuck
  | .tr b _ tab i h, ρ, S => (match exSs b ρ S with
      | .ex e ρ' S' => (match tab[e.c]? with
        | some true => (match i with
          | none => offS none (exSs h ρ' S')
          | some j => if j < ρ'.length then offS (some j) (exSs h (ρ'.set j (some (.ex e.c e.d))) S') else .stuck)
        | some false => .ex e ρ' S'
        | none => .stuck)
      | r => r)
  | .frz i, ρ, S => (match ρ[i]? with
    | some (some (.ref a)) => (match S[a]? with
      | some (.lst xs) => .nx (ρ.set i (some (.p (.list xs)))) (S.set a .gone)
      | _ => .stuck)
    | _ => .stuck)
def exSs : Ss → Env → Store → RS
  | .nil, ρ, S => .nx ρ S
  | .cons s r, ρ, S => (exS s ρ S).andThen fun ρ' S' => exSs r ρ' S'
def exCs : Cs → PyData → Env → Store → RS
  | .nil, _, ρ, S => .nx ρ S
  | .cons p b r, d, ρ, S => (match ptM p d ρ with
    | some (some ρ') => exSs b ρ' S
    | some none => exCs r d ρ S
    | none => .stuck)
end
end
/-- a def -/
structure Fn where
  ps : Nat
  n : Nat
  body : Ss
def fin (n : Nat) (w : W) (S : Store) : R W :=
  if S.length = n then .ok w S else
  match w with
  | .ref i => if i < n then .ok w (S.take n) else (match S[i]? with | some o => .ok (.ref n) (S.take n ++ [o]) | none => .stuck)
  | w => .ok w (S.take n)
def finS (n : Nat) : RS → R W
  | .rt w S => fin n w S
  | .nx _ S => fin n (.p .none) S
  | .ex e _ S => .exc e (S.take n)
  | _ => .stuck
def start (F : Fn) (ws : List W) : Env := ws.map some ++ List.replicate (F.n - ws.length) none
def callF (G : List Fn) (cs : List W) : Nat → Cl
  | 0 => fun _ _ _ => .stuck
  | n + 1 => fun f ws S => match G[f]? with
    | none => .stuck
    | some F => if ws.length = F.ps then finS S.length (exSs (callF G cs n) cs F.body (start F ws) S) else .stuck
end Px

set_option Elab.async false
set_option maxRecDepth 100000
set_option linter.all false
/-! Px2: how data lies in the abstract heap. -/
namespace Px
open PySem L2

theorem dec_line {n : Nat} (h : n ≤ 1000000) : n ≤ sizeLine := Nat.le_trans h (by decide)

/-- a key as data -/
def keyD : Key → PyData
  | .inl i => .int i
  | .inr x => .str x
mutual
inductive Rp (K : PySem.W.Frag) (H : Hp) : V → PyData → Prop
  | non : Rp K H .non .none
  | bl (b : Bool) : Rp K H (.bl b) (.bool b)
  | int (i : Int) : Rp K H (.int i) (.int i)
  | str (x : Str) : x.length ≤ sizeLine → Rp K H (.str x) (.str x)
  | lst {a : Addr} {o : Obj} {xs : List V} {ds : List PyData} : H a = some (.frz o (.lst xs)) → RpAll K H xs ds → Rp K H (.ref a) (.list ds)
  | tup {a : Addr} {xs : List V} {ds : List PyData} : SqT K H a xs → RpAll K H xs ds → Rp K H (.ref a) (.tuple ds)
  | dct {a : Addr} {o : Obj} {kvs : List (Key × V)} {ds : List (PyData × PyData)} : H a = some (.frz o (.dK kvs)) → RpKv K H kvs ds → Rp K H (.ref a) (.dict ds)
inductive RpAll (K : PySem.W.Frag) (H : Hp) : List V → List PyData → Prop
  | nil : RpAll K H [] []
  | cons {v : V} {vs : List V} {d : PyData} {ds : List PyData} : Rp K H v d → RpAll K H vs ds → RpAll K H (v :: vs) (d :: ds)
inductive RpKv (K : PySem.W.Frag) (H : Hp) : List (Key × V) → List (PyData × PyData) → Prop
  | nil : RpKv K H [] []
  | cons {k : Key} {v : V} {kvs : List (Key × V)} {d : PyData} {ds : List (PyData × PyData)} : Rp K H v d → RpKv K H kvs ds → RpKv K H ((k, v) :: kvs) ((keyD k, d) :: ds)
end
/-- data as it is read: a list locked or not -/
inductive Dq (K : PySem.W.Frag) (H : Hp) : V → PyData → Prop
  | p {v : V} {d : PyData} : Rp K H v d → Dq K H v d
  | l {a : Addr} {xs : List V} {ds : List PyData} : H a = some (.lst xs) → RpAll K H xs ds → Dq K H (.ref a) (.list ds)
/-- what never changes -/
structure Kp (H H' : Hp) : Prop where
  t : ∀ b xs, H b = some (.tup xs) → H' b = some (.tup xs)
  f : ∀ b o u, H b = some (.frz o u) → H' b = some (.frz o u)
  x : ∀ b fs, H b = some (.xd fs) → H' b = some (.xd fs)
theorem Kp.refl (H : Hp) : Kp H H := ⟨fun _ _ h => h, fun _ _ _ h => h, fun _ _ h => h⟩
theorem Kp.trans {H H1 H2 : Hp} (a : Kp H H1) (b : Kp H1 H2) : Kp H H2 := ⟨fun c xs h => b.t c xs (a.t c xs h), fun c o u h => b.f c o u (a.f c o u h), fun c fs h => b.x c fs (a.x c fs h)⟩
theorem Kp.new {H : Hp} {p : Addr} {o : HO} (h : H p = none) : Kp H (upd H p o) :=
  ⟨fun b xs e => by rw [upd_ne (ne_of_none e h)]; exact e, fun b ob u e => by rw [upd_ne (ne_of_none e h)]; exact e, fun b fs e => by rw [upd_ne (ne_of_none e h)]; exact e⟩
theorem Kp.lst {H : Hp} {p : Addr} {o : HO} {xs : List V} (h : H p = some (.lst xs)) : Kp H (upd H p o) :=
  ⟨fun b ys e => by rw [upd_ne (L2.ne_of e h (by intro z; cases z))]; exact e, fun b ob u e => by rw [upd_ne (L2.ne_of e h (by intro z; cases z))]; exact e, fun b fs e => by rw [upd_ne (L2.ne_of e h (by intro z; cases z))]; exact e⟩
theorem Kp.ins {H : Hp} {p C dx : Addr} {o : HO} {fs : List (Str × V)} (h : H p = some (.ins C dx fs)) : Kp H (upd H p o) :=
  ⟨fun b ys e => by rw [upd_ne (L2.ne_of e h (by intro z; cases z))]; exact e, fun b ob e => by intro q; rw [upd_ne (L2.ne_of q h (by intro z; cases z))]; exact q, fun b fs e => by rw [upd_ne (L2.ne_of e h (by intro z; cases z))]; exact e⟩
section
variable {K : PySem.W.Frag} {H H' : Hp}
theorem Kp.sqT (k : Kp H H') {a : Addr} {xs : List V} (h : SqT K H a xs) : SqT K H' a xs := by
  rcases h with (h | ⟨o, h⟩) | h
  · exact .inl (.inl (k.t _ _ h))
  · exact .inl (.inr ⟨o, k.f _ _ _ h⟩)
  · exact .inr h
mutual
theorem Rp.mono (k : Kp H H') : ∀ {v : V} {d : PyData}, Rp K H v d → Rp K H' v d
  | _, _, .non => .non
  | _, _, .bl b => .bl b
  | _, _, .int i => .int i
  | _, _, .str x h => .str x h
  | _, _, .lst h r => .lst (k.f _ _ _ h) (RpAll.mono k r)
  | _, _, .tup h r => .tup (k.sqT h) (RpAll.mono k r)
  | _, _, .dct h r => .dct (k.f _ _ _ h) (RpKv.mono k r)
theorem RpAll.mono (k : Kp H H') : ∀ {vs : List V} {ds : List PyData}, RpAll K H vs ds → RpAll K H' vs ds
  | _, _, .nil => .nil
  | _, _, .cons h r => .cons (Rp.mono k h) (RpAll.mono k r)
theorem RpKv.mono (k : Kp H H') : ∀ {vs : List (Key × V)} {ds : List (PyData × PyData)}, RpKv K H vs ds → RpKv K H' vs ds
  | _, _, .nil => .nil
  | _, _, .cons h r => .cons (Rp.mono k h) (RpKv.mono k r)
end
theorem RpAll.length : ∀ {vs : List V} {ds : List PyData}, RpAll K H vs ds → vs.length = ds.length
  | _, _, .nil => rfl
  | _, _, .cons _ r => by rw [List.length_cons, List.length_cons, RpAll.length r]
theorem RpAll.append : ∀ {vs ws : List V} {ds es : List PyData}, RpAll K H vs ds → RpAll K H ws es → RpAll K H (vs ++ ws) (ds ++ es)
  | _, _, _, _, .nil, r => r
  | _, _, _, _, .cons h t, r => .cons h (RpAll.append t r)
theorem RpAll.get : ∀ {vs : List V} {ds : List PyData} {i : Nat} {d : PyData}, RpAll K H vs ds → ds[i]? = some d → ∃ v, vs[i]? = some v ∧ Rp K H v d
  | _, _, _, _, .nil, e => by simp at e
  | _, _, 0, _, .cons h _, e => by simp at e; subst e; exact ⟨_, rfl, h⟩
  | _, _, i + 1, d, .cons _ r, e => by
    obtain ⟨v, h1, h2⟩ := RpAll.get (i := i) (d := d) r (by simpa using e)
    exact ⟨v, by simpa using h1, h2⟩
theorem RpAll.take : ∀ {vs : List V} {ds : List PyData} (n : Nat), RpAll K H vs ds → RpAll K H (vs.take n) (ds.take n)
  | _, _, 0, _ => by simp only [List.take_zero]; exact .nil
  | _, _, _ + 1, .nil => .nil
  | _, _, n + 1, .cons h r => .cons h (RpAll.take n r)
theorem RpAll.drop : ∀ {vs : List V} {ds : List PyData} (n : Nat), RpAll K H vs ds → RpAll K H (vs.drop n) (ds.drop n)
  | _, _, 0, r => r
  | _, _, _ + 1, .nil => .nil
  | _, _, n + 1, .cons _ r => RpAll.drop n r
theorem RpAll.set : ∀ {vs : List V} {ds : List PyData} {v : V} {d : PyData} (n : Nat), Rp K H v d → RpAll K H vs ds → RpAll K H (vs.set n v) (ds.set n d)
  | _, _, _, _, _, _, .nil => .nil
  | _, _, _, _, 0, h, .cons _ r => .cons h r
  | _, _, _, _, n + 1, h, .cons g r => .cons g (RpAll.set n h r)
theorem RpAll.reverse {vs : List V} {ds : List PyData} (h : RpAll K H vs ds) : RpAll K H vs.reverse ds.reverse := by
  induction vs generalizing ds with
  | nil => cases h; exact .nil
  | cons v vs ih =>
    cases h with
    | cons a r => rw [List.reverse_cons, List.reverse_cons]; exact (ih r).append (.cons a .nil)
theorem RpAll.rep {vs : List V} {ds : List PyData} (h : RpAll K H vs ds) : ∀ k : Nat, RpAll K H (List.replicate k vs).flatten (List.replicate k ds).flatten
  | 0 => .nil
  | k + 1 => by
    rw [List.replicate_succ, List.replicate_succ, List.flatten_cons, List.flatten_cons]
    exact h.append (RpAll.rep h k)
theorem RpAll.cut {vs : List V} {ds : List PyData} (h : RpAll K H vs ds) (lo hi : Option Int) : RpAll K H (cutV vs lo hi) (cutL ds lo hi) := by
  unfold cutV cutL
  rw [h.length]
  exact (h.drop _).take _
/-- ints, bools, texts among data -/
theorem RpAll.ints : ∀ {vs : List V} {ds : List PyData} {is : List Int}, RpAll K H vs ds → intsOf ds = some is → vs = is.map V.int ∧ ds = is.map PyData.int
  | _, _, is, .nil, e => by simp [intsOf] at e; subst e; exact ⟨rfl, rfl⟩
  | _, _, is, .cons (d := d) h r, e => by
    cases d <;> simp only [intsOf, Option.map_eq_some_iff, reduceCtorEq] at e
    obtain ⟨js, e1, rfl⟩ := e
    obtain ⟨h1, h2⟩ := RpAll.ints r e1
    cases h
    exact ⟨by rw [h1]; rfl, by rw [h2]; rfl⟩
theorem RpAll.bools : ∀ {vs : List V} {ds : List PyData} {is : List Bool}, RpAll K H vs ds → boolsOf ds = some is → vs = is.map V.bl ∧ ds = is.map PyData.bool
  | _, _, is, .nil, e => by simp [boolsOf] at e; subst e; exact ⟨rfl, rfl⟩
  | _, _, is, .cons (d := d) h r, e => by
    cases d <;> simp only [boolsOf, Option.map_eq_some_iff, reduceCtorEq] at e
    obtain ⟨js, e1, rfl⟩ := e
    obtain ⟨h1, h2⟩ := RpAll.bools r e1
    cases h
    exact ⟨by rw [h1]; rfl, by rw [h2]; rfl⟩
theorem RpAll.strs : ∀ {vs : List V} {ds : List PyData} {is : List Str}, RpAll K H vs ds → strsOf ds = some is → vs = is.map V.str ∧ ds = is.map PyData.str
  | _, _, is, .nil, e => by simp [strsOf] at e; subst e; exact ⟨rfl, rfl⟩
  | _, _, is, .cons (d := d) h r, e => by
    cases d <;> simp only [strsOf, Option.map_eq_some_iff, reduceCtorEq] at e
    obtain ⟨js, e1, rfl⟩ := e
    obtain ⟨h1, h2⟩ := RpAll.strs r e1
    cases h
    exact ⟨by rw [h1]; rfl, by rw [h2]; rfl⟩
theorem RpAll.at {vs : List V} {ds : List PyData} {i : Int} {d : PyData} (h : RpAll K H vs ds) (e : L2.atI ds i = some d) : ∃ v, L2.atI vs i = some v ∧ Rp K H v d := by
  unfold L2.atI at e ⊢
  rw [h.length]
  cases q : ixN ds.length i with
  | none => rw [q] at e; cases e
  | some j => rw [q] at e; exact h.get e
end

/-- how a value stands for one of the interpreter's -/
def KdOk (K : PySem.W.Frag) (w : World) (a : Addr) (kvs : List (Str × PyData)) : Prop :=
  (∃ es n, KDict K w a es n) ∧ ∀ z : Str, ∃ r, PySem.W.nsIn K a z = some r ∧
    match kvs.lookup z with
    | some d => ∃ (u : Value) (v : V), r = some u ∧ RelV v u ∧ ∀ H, Rp K H v d
    | none => r = none
/-- the exception classes: the class's address, the field that it keeps (none: a text, not kept here) -/
abbrev GX := List (Addr × Option Str)
def XRel (gx : GX) (K : PySem.W.Frag) (e : EV) (cls : Value) (d : Option Addr) (H : Hp) : Prop :=
  ∃ C f, gx[e.c]? = some (C, f) ∧ cls = .ref C ∧ match f with
    | none => d = none
    | some f => ∃ dx v, d = some dx ∧ H dx = some (.xd [(f, v)]) ∧ Rp K H v e.d
theorem XRel.mono {gx : GX} {K : PySem.W.Frag} {H H' : Hp} {e : EV} {cls : Value} {d : Option Addr} (k : Kp H H') (h : XRel gx K e cls d H) : XRel gx K e cls d H' := by
  obtain ⟨C, f, h1, h2, h3⟩ := h
  refine ⟨C, f, h1, h2, ?_⟩
  cases f with
  | none => exact h3
  | some f => obtain ⟨dx, v, a, b, c⟩ := h3; exact ⟨dx, v, a, k.x _ _ b, c.mono k⟩
/-- the world, what exceptions are at hand, the exception classes -/
structure Ws where
  w : World
  xp : Addr → Value → Option Addr → Prop
  gx : GX
/-- no exception at hand -/
def u0 (gx : GX) (w : World) : Ws := ⟨w, fun _ _ _ => False, gx⟩
/-- in an except suite: the caught one -/
def ux (gx : GX) (X : Cx) : Ws := ⟨X.w, fun a cls d => X.calm = false ∧ ∃ (oe : Obj) (pn : List (Addr × Obj)) (Y : Cx), X = Y.suite a ((a, oe) :: pn) ∧ Zc cls d oe ∧ ∃ vs, oe.data = .fields vs, gx⟩
section
variable (K : PySem.W.Frag) (w : Ws) (ι : List Addr) (H : Hp)
def RW (v : V) : W → Prop
  | .p d => Rp K H v d
  | .ref i => ∃ a, ι[i]? = some a ∧ v = .ref a
  | .ex c d => ∃ a cls dd, v = .ref a ∧ w.xp a cls dd ∧ XRel w.gx K ⟨c, d⟩ cls dd H
  | .kd kvs => ∃ a, v = .ref a ∧ KdOk K w.w a kvs
  | .kl is => ∃ a, v = .ref a ∧ ∀ H, SqL K H a (is.map V.int)
  | .kt ds => ∃ a, v = .ref a ∧ (∃ o, K.lookup a = some o ∧ o.cls = .type "tuple" ∧ o.dict = none) ∧ ∀ H, Rp K H (.ref a) (.tuple ds)
  | .fn x => ∃ a, v = .ref a ∧ PySem.W.nsIn K mainGlobals x = some (some (.ref a))
def MoOk (a : Addr) : MO → Prop
  | .lst ds => ∃ vs, H a = some (.lst vs) ∧ RpAll K H vs ds
  | .dct _ => False
  | .obj x fs => ∃ C dx vs, PySem.W.nsIn K mainGlobals x = some (some (.ref C)) ∧ H a = some (.ins C dx vs) ∧ vs.map (·.1) = fs.map (·.1) ∧ RpAll K H (vs.map (·.2)) (fs.map (·.2))
  | .gone => ∃ u, H a = some u
structure Sim (S : Store) : Prop where
  len : ι.length = S.length
  nd : ι.Nodup
  ob : ∀ (i : Nat) (o : MO) (a : Addr), S[i]? = some o → ι[i]? = some a → MoOk K H a o
structure RhoOk (ρ : Env) (σ : St) : Prop where
  len : ρ.length = σ.length
  at_ : ∀ (i : Nat) (x : W), ρ[i]? = some (some x) → ∃ v, σ[i]? = some (some v) ∧ RW K w ι H v x
inductive RWs : List V → List W → Prop
  | nil : RWs [] []
  | cons {v : V} {vs : List V} {x : W} {xs : List W} : RW K w ι H v x → RWs vs xs → RWs (v :: vs) (x :: xs)
end
/-- later: the cells of before stand first, what never changes stands, what is no cell stands; new cells were not tracked -/
structure Lt (ι ι' : List Addr) (H H' : Hp) : Prop where
  pre : ι <+: ι'
  kp : Kp H H'
  fr : ∀ b o, H b = some o → b ∉ ι → H' b = some o
  nw : ∀ b o, H b = some o → b ∉ ι → b ∉ ι'
theorem Lt.refl (ι : List Addr) (H : Hp) : Lt ι ι H H := ⟨List.prefix_refl _, .refl _, fun _ _ h _ => h, fun _ _ _ h => h⟩
theorem Lt.trans {ι ι1 ι2 : List Addr} {H H1 H2 : Hp} (a : Lt ι ι1 H H1) (b : Lt ι1 ι2 H1 H2) : Lt ι ι2 H H2 :=
  ⟨a.pre.trans b.pre, a.kp.trans b.kp, fun c o h n => b.fr c o (a.fr c o h n) (a.nw c o h n), fun c o h n => b.nw c o (a.fr c o h n) (a.nw c o h n)⟩
/-- a new object, no cell -/
theorem Lt.new {ι : List Addr} {H : Hp} {p : Addr} {o : HO} (h : H p = none) : Lt ι ι H (upd H p o) :=
  ⟨List.prefix_refl _, .new h, fun b ob e _ => by rw [upd_ne (ne_of_none e h)]; exact e, fun _ _ _ n => n⟩
/-- a new cell -/
theorem Lt.push {ι : List Addr} {H : Hp} {p : Addr} {o : HO} (h : H p = none) : Lt ι (ι ++ [p]) H (upd H p o) :=
  ⟨List.prefix_append _ _, .new h, fun b ob e _ => by rw [upd_ne (ne_of_none e h)]; exact e, fun b ob e n hb => by
    rcases List.mem_append.mp hb with hb | hb
    · exact n hb
    · exact ne_of_none e h (List.mem_singleton.mp hb)⟩
/-- a cell written -/
theorem Lt.set {ι : List Addr} {H : Hp} {p : Addr} {o : HO} {xs : List V} (hp : p ∈ ι) (h : H p = some (.lst xs)) : Lt ι ι H (upd H p o) :=
  ⟨List.prefix_refl _, .lst h, fun b ob e n => by rw [upd_ne (fun z : b = p => n (by rw [z]; exact hp))]; exact e, fun _ _ _ n => n⟩
theorem Lt.setI {ι : List Addr} {H : Hp} {p C dx : Addr} {o : HO} {fs : List (Str × V)} (hp : p ∈ ι) (h : H p = some (.ins C dx fs)) : Lt ι ι H (upd H p o) :=
  ⟨List.prefix_refl _, .ins h, fun b ob e n => by rw [upd_ne (fun z : b = p => n (by rw [z]; exact hp))]; exact e, fun _ _ _ n => n⟩
section
variable {K : PySem.W.Frag} {w : Ws} {ι ι' : List Addr} {H H' : Hp} {S : Store}
theorem RW.mono (l : Lt ι ι' H H') {v : V} : ∀ {x : W}, RW K w ι H v x → RW K w ι' H' v x
  | .p _, h => Rp.mono l.kp h
  | .ref i, ⟨a, h1, h2⟩ => by
    obtain ⟨t, rfl⟩ := l.pre
    refine ⟨a, ?_, h2⟩
    rw [List.getElem?_append_left (List.getElem?_eq_some_iff.mp h1).1]
    exact h1
  | .ex _ _, ⟨a, cls, dd, h1, h2, h3⟩ => ⟨a, cls, dd, h1, h2, h3.mono l.kp⟩
  | .kd _, h => h
  | .kl _, h => h
  | .kt _, h => h
  | .fn _, h => h
theorem RWs.mono (l : Lt ι ι' H H') : ∀ {vs : List V} {xs : List W}, RWs K w ι H vs xs → RWs K w ι' H' vs xs
  | _, _, .nil => .nil
  | _, _, .cons h r => .cons (h.mono l) (RWs.mono l r)
theorem RWs.length : ∀ {vs : List V} {xs : List W}, RWs K w ι H vs xs → vs.length = xs.length
  | _, _, .nil => rfl
  | _, _, .cons _ r => by rw [List.length_cons, List.length_cons, RWs.length r]
theorem RWs.append : ∀ {vs ws : List V} {ds es : List W}, RWs K w ι H vs ds → RWs K w ι H ws es → RWs K w ι H (vs ++ ws) (ds ++ es)
  | _, _, _, _, .nil, r => r
  | _, _, _, _, .cons h t, r => .cons h (RWs.append t r)
theorem RWs.get : ∀ {vs : List V} {ds : List W} {i : Nat} {d : W}, RWs K w ι H vs ds → ds[i]? = some d → ∃ v, vs[i]? = some v ∧ RW K w ι H v d
  | _, _, _, _, .nil, e => by simp at e
  | _, _, 0, _, .cons h _, e => by simp at e; subst e; exact ⟨_, rfl, h⟩
  | _, _, i + 1, d, .cons _ r, e => by
    obtain ⟨v, h1, h2⟩ := RWs.get (i := i) (d := d) r (by simpa using e)
    exact ⟨v, by simpa using h1, h2⟩
theorem RhoOk.mono {ρ : Env} {σ : St} (l : Lt ι ι' H H') (r : RhoOk K w ι H ρ σ) : RhoOk K w ι' H' ρ σ :=
  ⟨r.len, fun i x e => let ⟨v, h1, h2⟩ := r.at_ i x e; ⟨v, h1, h2.mono l⟩⟩
theorem RhoOk.set {ρ : Env} {σ : St} {i : Nat} {x : W} {v : V} (r : RhoOk K w ι H ρ σ) (h : RW K w ι H v x) : RhoOk K w ι H (ρ.set i (some x)) (σ.set i (some v)) := by
  refine ⟨by rw [List.length_set, List.length_set]; exact r.len, fun j y e => ?_⟩
  by_cases hj : i = j
  · subst hj
    rw [List.getElem?_set] at e
    simp only [if_pos] at e
    split at e
    · rename_i hl
      cases e
      exact ⟨v, by rw [List.getElem?_set]; simp [r.len ▸ hl], h⟩
    · cases e
  · rw [List.getElem?_set_ne hj] at e
    rw [List.getElem?_set_ne hj]
    exact r.at_ j y e
theorem wipe_eq_none {ρ : Env} : ∀ {vs : List Nat} {i : Nat} {x : W}, (Px.wipe ρ vs)[i]? = some (some x) → ρ[i]? = some (some x) ∧ i ∉ vs
  | [], _, _, h => ⟨h, by simp⟩
  | v :: vs, i, x, h => by
    have h' : ((Px.wipe ρ vs).set v none)[i]? = some (some x) := h
    by_cases hv : v = i
    · subst hv
      rw [List.getElem?_set] at h'
      simp only [if_pos] at h'
      split at h' <;> cases h'
    · rw [List.getElem?_set_ne hv] at h'
      obtain ⟨h1, h2⟩ := wipe_eq_none h'
      exact ⟨h1, by simp [h2, Ne.symm hv]⟩
theorem wipe_len {ρ : Env} : ∀ {vs : List Nat}, (Px.wipe ρ vs).length = ρ.length
  | [] => rfl
  | v :: vs => by show ((Px.wipe ρ vs).set v none).length = _; rw [List.length_set, wipe_len]
theorem wipe_get {σ : St} : ∀ {vs : List Nat} {i : Nat}, i ∉ vs → (L2.wipe σ vs)[i]? = σ[i]? := fun h => L2.wipe_out h
theorem RhoOk.wipe {ρ : Env} {σ : St} (vs : List Nat) (r : RhoOk K w ι H ρ σ) : RhoOk K w ι H (Px.wipe ρ vs) (L2.wipe σ vs) := by
  refine ⟨by rw [wipe_len, wipe_length]; exact r.len, fun i x e => ?_⟩
  obtain ⟨h1, h2⟩ := wipe_eq_none e
  obtain ⟨v, h3, h4⟩ := r.at_ i x h1
  exact ⟨v, by rw [wipe_get h2]; exact h3, h4⟩
/-- without exceptions at hand -/
theorem RW.to {w1 w2 : Ws} (hw : w1.w = w2.w) (hx : ∀ a c d, ¬ w1.xp a c d) {v : V} : ∀ {x : W}, RW K w1 ι H v x → RW K w2 ι H v x
  | .p _, h => h
  | .ref _, h => h
  | .ex _ _, ⟨a, cls, dd, _, h, _⟩ => (hx a cls dd h).elim
  | .kd _, ⟨a, h1, h2⟩ => ⟨a, h1, hw ▸ h2⟩
  | .kl _, h => h
  | .kt _, h => h
  | .fn _, h => h
theorem RWs.to {w1 w2 : Ws} (hw : w1.w = w2.w) (hx : ∀ a c d, ¬ w1.xp a c d) : ∀ {vs : List V} {xs : List W}, RWs K w1 ι H vs xs → RWs K w2 ι H vs xs
  | _, _, .nil => .nil
  | _, _, .cons h r => .cons (h.to hw hx) (RWs.to hw hx r)
theorem RhoOk.to {w1 w2 : Ws} (hw : w1.w = w2.w) (hx : ∀ a c d, ¬ w1.xp a c d) {ρ : Env} {σ : St} (r : RhoOk K w1 ι H ρ σ) : RhoOk K w2 ι H ρ σ :=
  ⟨r.len, fun i x e => let ⟨v, h1, h2⟩ := r.at_ i x e; ⟨v, h1, h2.to hw hx⟩⟩
theorem ux_calm {gx : GX} {X : Cx} (h : X.calm = true) : ∀ a c d, ¬ (ux gx X).xp a c d := fun a c d ⟨h1, _⟩ => by rw [h] at h1; cases h1
/-- a new cell -/
theorem Sim.fresh (s : Sim K ι H S) {p : Addr} (h : H p = none) : p ∉ ι := fun hp => by
  obtain ⟨i, hi⟩ := List.mem_iff_getElem?.mp hp
  have hl : i < S.length := by rw [← s.len]; exact (List.getElem?_eq_some_iff.mp hi).1
  obtain ⟨o, ho⟩ : ∃ o, S[i]? = some o := ⟨S[i], List.getElem?_eq_getElem hl⟩
  have m := s.ob i o p ho hi
  cases o with
  | lst ds => obtain ⟨vs, e, _⟩ := m; rw [h] at e; cases e
  | dct kvs => exact m
  | obj x fs => obtain ⟨C, dx, vs, _, e, _⟩ := m; rw [h] at e; cases e
  | gone => obtain ⟨u, e⟩ := m; rw [h] at e; cases e
theorem MoOk.mono {a : Addr} {o : MO} (m : MoOk K H a o) (k : Kp H H') (e : H' a = H a) : MoOk K H' a o := by
  cases o with
  | lst ds => obtain ⟨vs, h1, h2⟩ := m; exact ⟨vs, by rw [e]; exact h1, h2.mono k⟩
  | dct kvs => exact m
  | obj x fs => obtain ⟨C, dx, vs, h0, h1, h2, h3⟩ := m; exact ⟨C, dx, vs, h0, by rw [e]; exact h1, h2, h3.mono k⟩
  | gone => obtain ⟨u, h⟩ := m; exact ⟨u, by rw [e]; exact h⟩
/-- an object elsewhere: nothing of the store changes -/
theorem Sim.upd (s : Sim K ι H S) {p : Addr} {o : HO} (hp : p ∉ ι) (k : Kp H (upd H p o)) : Sim K ι (upd H p o) S :=
  ⟨s.len, s.nd, fun i x a h1 h2 => (s.ob i x a h1 h2).mono k (upd_ne fun e => hp (e ▸ List.mem_iff_getElem?.mpr ⟨i, h2⟩))⟩
theorem Sim.new (s : Sim K ι H S) {p : Addr} {o : HO} (hp : H p = none) : Sim K ι (L2.upd H p o) S := s.upd (s.fresh hp) (.new hp)
theorem Sim.push (s : Sim K ι H S) {p : Addr} {o : HO} {x : MO} (hp : H p = none) (m : MoOk K (L2.upd H p o) p x) : Sim K (ι ++ [p]) (L2.upd H p o) (S ++ [x]) := by
  refine ⟨by simp [s.len], ?_, fun i y a h1 h2 => ?_⟩
  · rw [List.nodup_append]
    exact ⟨s.nd, by simp, fun a ha b hb => by simp at hb; subst hb; exact fun e => s.fresh hp (e ▸ ha)⟩
  · by_cases hi : i < S.length
    · rw [List.getElem?_append_left hi] at h1
      rw [List.getElem?_append_left (by rw [s.len]; exact hi)] at h2
      exact (s.new hp).ob i y a h1 h2
    · have e1 : i = S.length := by
        have := (List.getElem?_eq_some_iff.mp h1).1
        simp at this; omega
      subst e1
      rw [List.getElem?_append_right (Nat.le_refl _)] at h1
      rw [List.getElem?_append_right (by rw [s.len]; exact Nat.le_refl _), s.len] at h2
      simp at h1 h2
      subst h1; subst h2
      exact m
/-- a cell written -/
theorem Sim.set (s : Sim K ι H S) {i : Nat} {a : Addr} {o : HO} {x : MO} (hi : ι[i]? = some a) (k : Kp H (L2.upd H a o)) (m : MoOk K (L2.upd H a o) a x) : Sim K ι (L2.upd H a o) (S.set i x) := by
  refine ⟨by rw [List.length_set]; exact s.len, s.nd, fun j y b h1 h2 => ?_⟩
  by_cases hj : i = j
  · subst hj
    rw [hi] at h2; cases h2
    rw [List.getElem?_set] at h1
    simp only [if_pos] at h1
    split at h1
    · cases h1; exact m
    · cases h1
  · rw [List.getElem?_set_ne hj] at h1
    refine (s.ob j y b h1 h2).mono k (upd_ne fun e => ?_)
    subst e
    have hil := (List.getElem?_eq_some_iff.mp hi)
    have hjl := (List.getElem?_eq_some_iff.mp h2)
    exact hj ((List.getElem_inj s.nd).mp (hil.2.trans hjl.2.symm))
/-- the first cells alone -/
theorem Sim.take (s : Sim K ι H S) (n : Nat) : Sim K (ι.take n) H (S.take n) := by
  refine ⟨by rw [List.length_take, List.length_take, s.len], s.nd.sublist (List.take_sublist _ _), fun i y a h1 h2 => ?_⟩
  have hi : i < n := by
    have := (List.getElem?_eq_some_iff.mp h1).1
    rw [List.length_take] at this; omega
  rw [List.getElem?_take_of_lt hi] at h1 h2
  exact s.ob i y a h1 h2
/-- data and cells read as data -/
theorem view_dp (s : Sim K ι H S) {v : V} {x : W} {d : PyData} (r : RW K w ι H v x) (e : view S x = some d) : Dq K H v d := by
  cases x with
  | p d' => simp only [view, Option.some.injEq] at e; subst e; exact .p r
  | ref i =>
    obtain ⟨a, h1, rfl⟩ := r
    simp only [view] at e
    cases q : S[i]? with
    | none => rw [q] at e; cases e
    | some o =>
      have m := s.ob i o a q h1
      rw [q] at e
      cases o with
      | lst xs => simp only [Option.some.injEq] at e; subst e; obtain ⟨vs, h2, h3⟩ := m; exact .l h2 h3
      | dct kvs => exact m.elim
      | obj x fs => cases e
      | gone => cases e
  | ex c d' => cases e
  | kd kvs => cases e
  | kl is => cases e
  | kt ds =>
    obtain ⟨a, rfl, _, h⟩ := r
    simp only [view, Option.some.injEq] at e; subst e
    exact .p (h H)
  | fn x => cases e
end

section
variable {X : Cx} {pins : List (Addr × Obj)} {σ : St} {H : Hp} {s : Shared}
theorem sz63 : True := trivial
mutual
/-- data is read in the heap; the lists and dicts among it are tracked -/
theorem Rp.reads (I : Inv X pins σ H s) : ∀ {d : PyData} {v : V} {u : Value}, Rp X.K H v d → RelV v u → ∃ as, Reads s.heap u d as ∧ ∀ b ∈ as, H b ≠ none
  | _, _, _, .non, r => by cases r; exact ⟨[], .none, by simp⟩
  | _, _, _, .bl b, r => by cases r; exact ⟨[], .bool b, by simp⟩
  | _, _, _, .int i, r => by obtain ⟨t, rfl⟩ := r; exact ⟨[], .int i t, by simp⟩
  | _, _, _, .str x _, r => by obtain ⟨t, rfl⟩ := r; exact ⟨[], .str x t, by simp⟩
  | _, _, _, .lst h q, r => by
    cases r
    obtain ⟨_, z, its, n, rv, e⟩ := I.hok _ _ h
    obtain ⟨as, ra, hb⟩ := RpAll.reads I q rv
    exact ⟨_, .list e rfl rfl ra, by simp [h]; exact hb⟩
  | _, _, _, .tup h q, r => by
    cases r
    obtain ⟨its, rv, ⟨o, e, hc, n, hd⟩, _⟩ := I.tuple h
    obtain ⟨as, ra, hb⟩ := RpAll.reads I q rv
    exact ⟨_, .tuple e hc hd ra, hb⟩
  | _, _, _, .dct h q, r => by
    cases r
    obtain ⟨_, z, y, vs, kv, o, es, ep, e, ⟨hc, _⟩, hd, _, ps, _⟩ := I.hok _ _ h
    obtain ⟨as, bs, ra, rb, hb, hb2⟩ := RpKv.reads I q kv ps
    refine ⟨_, .dict e hc hd ra rb, ?_⟩
    intro b hbm
    rcases List.mem_append.mp hbm with hbm | hbm
    · rcases List.mem_cons.mp hbm with rfl | hbm
      · rw [h]; simp
      · exact hb b hbm
    · exact hb2 b hbm
theorem RpAll.reads (I : Inv X pins σ H s) : ∀ {ds : List PyData} {vs : List V} {us : List Value}, RpAll X.K H vs ds → Vals vs us → ∃ as, ReadsAll s.heap us ds as ∧ ∀ b ∈ as, H b ≠ none
  | _, _, _, .nil, .nil => ⟨[], .nil, by simp⟩
  | _, _, _, .cons h q, .cons r t => by
    obtain ⟨a1, r1, h1⟩ := Rp.reads I h r
    obtain ⟨a2, r2, h2⟩ := RpAll.reads I q t
    refine ⟨_, .cons r1 r2, fun b hb => ?_⟩
    rcases List.mem_append.mp hb with hb | hb
    · exact h1 b hb
    · exact h2 b hb
theorem RpKv.reads (I : Inv X pins σ H s) : ∀ {ds : List (PyData × PyData)} {kvs : List (Key × V)} {vs : List (Key × Value)} {es : List DictEntry}, RpKv X.K H kvs ds → KV kvs vs → Pairs (mixKind X.prog X.w) es vs →
    ∃ as bs, ReadsAll s.heap (es.map (·.key)) (ds.map (·.1)) as ∧ ReadsAll s.heap (es.map (·.val)) (ds.map (·.2)) bs ∧ (∀ b ∈ as, H b ≠ none) ∧ ∀ b ∈ bs, H b ≠ none
  | _, _, _, _, .nil, .nil, .nil => ⟨[], [], .nil, .nil, by simp, by simp⟩
  | _, _, _, _, .cons (k := k) h q, .cons (b := b) r t, .cons hk hv tl => by
    obtain ⟨k', u⟩ := b
    obtain ⟨rfl, ru⟩ := r
    obtain ⟨a1, r1, h1⟩ := Rp.reads (u := u) I h ru
    have r1' := r1
    rw [← (show _ = u from hv)] at r1'
    obtain ⟨a2, b2, r2, r3, h2, h3⟩ := RpKv.reads I q t tl
    have rk : ∀ {e : Value}, keyIs k e = true → Reads s.heap e (keyD k) [] := fun {e} he => by
      rcases keyIs_shape he with ⟨i, t, rfl, rfl⟩ | ⟨x, t, rfl, rfl⟩
      · exact .int _ _
      · exact .str _ _
    refine ⟨[] ++ a2, a1 ++ b2, .cons (rk hk) r2, .cons r1' r3, h2, fun b hb => ?_⟩
    rcases List.mem_append.mp hb with hb | hb
    · exact h1 b hb
    · exact h3 b hb
end
theorem Dq.reads' (I : Inv X pins σ H s) {d : PyData} {v : V} {u : Value} (h : Dq X.K H v d) (r : RelV v u) : ∃ as, Reads s.heap u d as ∧ ∀ b ∈ as, H b ≠ none := by
  cases h with
  | p h => exact Rp.reads I h r
  | l h q =>
    cases r
    obtain ⟨z, its, n, rv, e⟩ := I.hok _ _ h
    obtain ⟨as, ra, hb⟩ := RpAll.reads I q rv
    exact ⟨_, .list e rfl rfl ra, by simp [h]; exact hb⟩
theorem Dq.reads (I : Inv X pins σ H s) {d : PyData} {v : V} {u : Value} (h : Dq X.K H v d) (r : RelV v u) : ∃ as, Reads s.heap u d as := let ⟨as, x, _⟩ := h.reads' I r; ⟨as, x⟩
theorem RpAll.reads1 (I : Inv X pins σ H s) {ds : List PyData} {vs : List V} {us : List Value} (h : RpAll X.K H vs ds) (r : Vals vs us) : ∃ as, ReadsAll s.heap us ds as := let ⟨as, x, _⟩ := h.reads I r; ⟨as, x⟩
end
end Px

set_option Elab.async false
set_option maxRecDepth 100000
set_option linter.all false
/-! Px3: the weakest readings, the ghost step, where a result leads. -/
namespace Px
open PySem L2

section
variable (X : Cx)
def WpE (e : Expr) : TE := fun σ H Q => ∀ pins s, Inv X pins σ H s → wpAny (model X.prog X.w) X.A (eval e X.env) (EP X pins σ Q) X.xe s
def WpT (e : Expr) : TT := fun σ H Q => ∀ pins s, Inv X pins σ H s → wpAny (model X.prog X.w) X.A (isTrue e X.env (eval e X.env)) (TP X pins σ Q) X.xe s
def WpW (e : Expr) : TT := fun σ H Q => ∀ whole pins s, Inv X pins σ H s → wpAny (model X.prog X.w) X.A (isTrue e X.env whole) (TP X pins σ Q) X.xe s
def WpA (es : List Expr) : TA := fun σ H Q => ∀ pos pins s, Inv X pins σ H s → wpAny (model X.prog X.w) X.A (spliced (backTo pos (starEach es X.env))) (AP X pins σ Q) X.xe s
def WpS (st : Stmt) : TS := fun D σ H => ∀ pins s, Inv X pins σ H s → wpAny (model X.prog X.w) X.A (exec st X.env) (SP X pins D) X.xe s
def WpSs (st : List Stmt) : TS := fun D σ H => ∀ pins s, Inv X pins σ H s → wpAny (model X.prog X.w) X.A (execs st X.env) (SP X pins D) X.xe s
def WpOp (f : Value → Value → Sem Value) : R2 := fun x y H Q => ∀ pins s σ v u, Inv X pins σ H s → RelV x v → RelV y u → wpAny (model X.prog X.w) X.A (f v u) (EP X pins σ Q) X.xe s
def WpUn (f : Value → Sem Value) : V → Hp → VK → Prop := fun x H Q => ∀ pins s σ v, Inv X pins σ H s → RelV x v → wpAny (model X.prog X.w) X.A (f v) (EP X pins σ Q) X.xe s
def WpCall (f : Value) : List V → Hp → VK → Prop := fun xs H Q => ∀ pins s σ us, Inv X pins σ H s → Vals xs us → wpAny (model X.prog X.w) X.A (call f us) (EP X pins σ Q) X.xe s
end
section
variable {X : Cx} {e : Expr} {es : List Expr} {st : Stmt} {sts : List Stmt} {σ : St} {H : Hp} {Q Q' : VK}
theorem pe_wp : PE X e (WpE X e) := ⟨fun pins s _ _ _ I h => h pins s I⟩
theorem pt_wp : PT X e (WpT X e) := ⟨fun pins s _ _ _ I h => h pins s I⟩
theorem pw_wp : PW X e (WpW X e) := ⟨fun wh pins s _ _ _ I h => h wh pins s I⟩
theorem pa_wp : PA X es (WpA X es) := ⟨fun pos pins s _ _ _ I h => h pos pins s I⟩
theorem ps_wp : PS X st (WpS X st) := ⟨fun pins s _ _ _ I h => h pins s I⟩
theorem pss_wp : PSs X sts (WpSs X sts) := ⟨fun pins s _ _ _ I h => h pins s I⟩
theorem op_wp {f : Value → Value → Sem Value} : OpR X f (WpOp X f) := fun pins s σ _ _ _ v u _ I rx ry h => h pins s σ v u I rx ry
theorem un_wp {f : Value → Sem Value} : UnR X f (WpUn X f) := fun pins s σ _ _ v _ I rx h => h pins s σ v I rx
theorem call_wp {f : Value} : CallR X f (WpCall X f) := fun pins s σ _ _ us _ I r h => h pins s σ us I r
theorem WpE.of {t : TE} (h : PE X e t) (q : t σ H Q) : WpE X e σ H Q := fun pins s I => h.run pins s σ H Q I q
theorem WpT.of {t : TT} {Q : Bool → Hp → Prop} (h : PT X e t) (q : t σ H Q) : WpT X e σ H Q := fun pins s I => h.run pins s σ H Q I q
theorem WpW.of {t : TT} {Q : Bool → Hp → Prop} (h : PW X e t) (q : t σ H Q) : WpW X e σ H Q := fun wh pins s I => h.run wh pins s σ H Q I q
theorem WpW.t {Q : Bool → Hp → Prop} (h : WpW X e σ H Q) : WpT X e σ H Q := fun pins s I => h _ pins s I
theorem WpA.of {t : TA} {Q : List V → Hp → Prop} (h : PA X es t) (q : t σ H Q) : WpA X es σ H Q := fun pos pins s I => h.run pos pins s σ H Q I q
theorem WpS.of {t : TS} {D : Ends} (h : PS X st t) (q : t D σ H) : WpS X st D σ H := fun pins s I => h.run pins s σ H D I q
theorem WpSs.of {t : TS} {D : Ends} (h : PSs X sts t) (q : t D σ H) : WpSs X sts D σ H := fun pins s I => h.run pins s σ H D I q
theorem WpOp.of {f : Value → Value → Sem Value} {r : R2} {x y : V} (h : OpR X f r) (q : r x y H Q) : WpOp X f x y H Q := fun pins s σ v u I rx ry => h pins s σ H x y v u Q I rx ry q
theorem WpUn.of {f : Value → Sem Value} {r : V → Hp → VK → Prop} {x : V} (h : UnR X f r) (q : r x H Q) : WpUn X f x H Q := fun pins s σ v I rx => h pins s σ H x v Q I rx q
theorem WpCall.of {f : Value} {r : List V → Hp → VK → Prop} {xs : List V} (h : CallR X f r) (q : r xs H Q) : WpCall X f xs H Q := fun pins s σ us I rx => h pins s σ H xs us Q I rx q
theorem EP.mono {pins : List (Addr × Obj)} {u : Value} {s : Shared} (h : EP X pins σ Q u s) (q : ∀ v H', Q v H' → Q' v H') : EP X pins σ Q' u s := by
  obtain ⟨v, H', I, r, k⟩ := h
  exact ⟨v, H', I, r, q v H' k⟩
theorem WpE.mono (h : WpE X e σ H Q) (q : ∀ v H', Q v H' → Q' v H') : WpE X e σ H Q' := fun pins s I => thn (h pins s I) fun _ _ k => EP.mono k q
theorem WpT.mono {Q Q' : Bool → Hp → Prop} (h : WpT X e σ H Q) (q : ∀ v H', Q v H' → Q' v H') : WpT X e σ H Q' := fun pins s I => thn (h pins s I) fun _ _ ⟨H', I', k⟩ => ⟨H', I', q _ _ k⟩
theorem WpW.mono {Q Q' : Bool → Hp → Prop} (h : WpW X e σ H Q) (q : ∀ v H', Q v H' → Q' v H') : WpW X e σ H Q' := fun wh pins s I => thn (h wh pins s I) fun _ _ ⟨H', I', k⟩ => ⟨H', I', q _ _ k⟩
theorem WpA.mono {Q Q' : List V → Hp → Prop} (h : WpA X es σ H Q) (q : ∀ v H', Q v H' → Q' v H') : WpA X es σ H Q' := fun pos pins s I => thn (h pos pins s I) fun _ _ ⟨vs, H', I', r, k⟩ => ⟨vs, H', I', r, q _ _ k⟩
theorem WpOp.mono {f : Value → Value → Sem Value} {x y : V} (h : WpOp X f x y H Q) (q : ∀ v H', Q v H' → Q' v H') : WpOp X f x y H Q' := fun pins s σ v u I rx ry => thn (h pins s σ v u I rx ry) fun _ _ k => EP.mono k q
theorem WpCall.mono {f : Value} {xs : List V} (h : WpCall X f xs H Q) (q : ∀ v H', Q v H' → Q' v H') : WpCall X f xs H Q' := fun pins s σ us I rx => thn (h pins s σ us I rx) fun _ _ k => EP.mono k q
/-- the ghost step: a list of ours is locked for good -/
def Gz (Q : VK) : VK := fun v H => Q v H ∨ ∃ a xs, H a = some (.lst xs) ∧ ∀ o, Q v (upd H a (.frz o (.lst xs)))
theorem EP.ghost {pins : List (Addr × Obj)} {u : Value} {s : Shared} (h : EP X pins σ (Gz Q) u s) : EP X pins σ Q u s := by
  obtain ⟨v, H', I, r, k | ⟨a, xs, e, k⟩⟩ := h
  · exact ⟨v, H', I, r, k⟩
  · obtain ⟨o, I'⟩ := I.lock e trivial
    exact ⟨v, _, I', r, k o⟩
theorem WpE.ghost (h : WpE X e σ H (Gz Q)) : WpE X e σ H Q := fun pins s I => thn (h pins s I) fun _ _ k => EP.ghost k
theorem WpOp.ghost {f : Value → Value → Sem Value} {x y : V} (h : WpOp X f x y H (Gz Q)) : WpOp X f x y H Q := fun pins s σ v u I rx ry => thn (h pins s σ v u I rx ry) fun _ _ k => EP.ghost k
theorem WpCall.ghost {f : Value} {xs : List V} (h : WpCall X f xs H (Gz Q)) : WpCall X f xs H Q := fun pins s σ us I rx => thn (h pins s σ us I rx) fun _ _ k => EP.ghost k
end

/-! ### where a result leads -/
section
variable {α β γ δ : Type} (gx : GX) (K : PySem.W.Frag) (ι : List Addr) (H : Hp) (σ : St) (W : WX) (Rl : List Addr → Hp → β → α → Prop) (Q : β → Hp → Prop)
def Dst : R α → Prop
  | .ok a S => ∀ ι' H' b, Lt ι ι' H H' → Sim K ι' H' S → Rl ι' H' b a → Q b H'
  | .exc e S => ∀ ι' H' cls d, Lt ι ι' H H' → Sim K ι' H' S → XRel gx K e cls d H' → W cls d σ H'
  | .stuck => False
/-- behind a first step -/
def Mid (Rl' : List Addr → Hp → δ → γ → Prop) (Q' : δ → Hp → Prop) (f : α → Store → R γ) : β → Hp → Prop := fun b H1 =>
  ∃ ι1 S1 a, Lt ι ι1 H H1 ∧ Sim K ι1 H1 S1 ∧ Rl ι1 H1 b a ∧ Dst gx K ι1 H1 σ W Rl' Q' (f a S1)
end
section
variable {α β γ δ : Type} {gx : GX} {K : PySem.W.Frag} {ι ι1 : List Addr} {H H1 : Hp} {σ : St} {W : WX} {Rl : List Addr → Hp → β → α → Prop} {Q Q2 : β → Hp → Prop}
  {Rl' : List Addr → Hp → δ → γ → Prop} {Q' : δ → Hp → Prop} {r : R α} {f : α → Store → R γ}
theorem Dst.later (l : Lt ι ι1 H H1) (h : Dst gx K ι H σ W Rl Q r) : Dst gx K ι1 H1 σ W Rl Q r := by
  cases r with
  | ok a S => exact fun ι' H' b l' s q => h ι' H' b (l.trans l') s q
  | exc e S => exact fun ι' H' cls d l' s q => h ι' H' cls d (l.trans l') s q
  | stuck => exact h
theorem Dst.mono (h : Dst gx K ι H σ W Rl Q r) (q : ∀ b H, Q b H → Q2 b H) : Dst gx K ι H σ W Rl Q2 r := by
  cases r with
  | ok a S => exact fun ι' H' b l' s k => q _ _ (h ι' H' b l' s k)
  | exc e S => exact h
  | stuck => exact h
theorem Dst.bind (h : Dst gx K ι H σ W Rl' Q' (r.bind f)) : Dst gx K ι H σ W Rl (Mid gx K ι H σ W Rl Rl' Q' f) r := by
  cases r with
  | ok a S => exact fun ι' H' b l s k => ⟨ι', S, a, l, s, k, Dst.later l h⟩
  | exc e S => exact h
  | stuck => exact h
end
/-- a test's result -/
def asB : R W → R Bool
  | .ok (.p (.bool b)) S => .ok b S
  | .ok _ _ => .stuck
  | .exc e S => .exc e S
  | .stuck => .stuck
theorem asB_bind {α : Type} (r : R W) (f : W → Store → R α) (g : Bool → Store → R α) (h1 : ∀ b S, f (.p (.bool b)) S = g b S) (h2 : ∀ w S, (∀ b, w ≠ .p (.bool b)) → f w S = .stuck) : r.bind f = (asB r).bind g := by
  cases r with
  | exc e S => rfl
  | stuck => rfl
  | ok w S =>
    by_cases h : ∃ b, w = .p (.bool b)
    · obtain ⟨b, rfl⟩ := h
      exact h1 b S
    · have h' : ∀ b, w ≠ .p (.bool b) := fun b e => h ⟨b, e⟩
      show f w S = _
      rw [h2 w S h']
      have : asB (.ok w S) = .stuck := by
        unfold asB
        split
        · rename_i e; cases e; exact absurd rfl (h' _)
        · rfl
        · rename_i e; cases e
        · rfl
      rw [this]; rfl
abbrev RlB : List Addr → Hp → Bool → Bool → Prop := fun _ _ b b' => b = b'
abbrev RlV (K : PySem.W.Frag) (w : Ws) : List Addr → Hp → V → W → Prop := fun ι H v x => RW K w ι H v x
abbrev RlA (K : PySem.W.Frag) (w : Ws) : List Addr → Hp → List V → List W → Prop := fun ι H vs xs => RWs K w ι H vs xs
end Px

set_option Elab.async false
set_option maxRecDepth 100000
set_option linter.all false
/-! Px4a: == of data. -/
namespace Px
open PySem PySem.SeqAt L2

theorem eqs_self {f : PyData → PyData → Option Bool} (hf : ∀ d b, f d d = some b → b = true) : ∀ {xs : List PyData} {b : Bool}, eqs f xs xs = some b → b = true
  | [], b, h => by simp [eqs] at h; exact h.symm ▸ rfl
  | x :: xs, b, h => by
    simp only [eqs] at h
    cases h1 : f x x with
    | none => rw [h1] at h; simp at h
    | some a =>
      cases h2 : eqs f xs xs with
      | none => rw [h1, h2] at h; simp at h
      | some c =>
        rw [h1, h2] at h
        simp only [Option.some.injEq] at h
        rw [← h, hf _ _ h1, eqs_self hf h2]; rfl
theorem eqv_sc {d : PyData} (h : isSc d = true) : PyData.eqv d d = true := by
  cases d <;> simp [isSc] at h <;> simp [PyData.eqv]
theorem eqn_self : ∀ (n : Nat) (d : PyData) (b : Bool), eqn n d d = some b → b = true
  | 0, d, b, h => by
    simp only [eqn] at h
    split at h
    · rename_i c
      simp only [Option.some.injEq] at h
      rw [← h]
      exact eqv_sc (by simpa using c)
    · cases h
  | n + 1, d, b, h => by
    cases d <;> simp only [eqn] at h
    case tuple xs =>
      cases q : eqs (eqn n) xs xs with
      | none => rw [q] at h; cases h
      | some c =>
        rw [q] at h
        simp at h
        rw [← h]; exact eqs_self (eqn_self n) q
    case list xs =>
      rw [if_pos trivial] at h
      exact eqs_self (eqn_self n) h
    case dict => cases h
    all_goals (simp only [Option.some.injEq] at h; rw [← h]; exact eqv_sc rfl)
section
variable {A : Around} {s : Shared}
theorem reads_sc {h : Heap} {u : Value} {d : PyData} {as : List Addr} (r : Reads h u d as) : ∀ (_ : isSc d = true),
    (u = .none ∧ d = .none) ∨ (∃ b, u = .bool b ∧ d = .bool b) ∨ (∃ i t, u = .int i t ∧ d = .int i) ∨ ∃ x t, u = .str x t ∧ d = .str x := by
  intro hd
  cases r <;> simp [isSc] at hd <;> simp
theorem eqSc_at {u v : Value} {d e : PyData} {as bs : List Addr} (ru : Reads s.heap u d as) (rv : Reads s.heap v e bs) (hd : isSc d = true) (he : isSc e = true) : EqAt A s u v (PyData.eqv d e) := by
  rcases reads_sc ru hd with ⟨rfl, rfl⟩ | ⟨b, rfl, rfl⟩ | ⟨i, t, rfl, rfl⟩ | ⟨x, t, rfl, rfl⟩ <;>
  rcases reads_sc rv he with ⟨rfl, rfl⟩ | ⟨b', rfl, rfl⟩ | ⟨i', t', rfl, rfl⟩ | ⟨x', t', rfl, rfl⟩ <;> simp only [PyData.eqv]
  · exact EqAt.same _
  · exact EqAt.none_bool _
  · exact EqAt.none_int _ _
  · exact EqAt.none_str _ _
  · exact EqAt.bool_none _
  · exact EqAt.bool_bool _ _
  · exact EqAt.bool_int _ _ _
  · exact EqAt.bool_str _ _ _
  · exact EqAt.int_none _ _
  · exact EqAt.int_bool _ _ _
  · exact EqAt.int_int _ _ _ _
  · exact EqAt.int_str _ _ _ _
  · exact EqAt.str_none _ _
  · exact EqAt.str_bool _ _ _
  · exact EqAt.str_int _ _ _ _
  · exact EqAt.str_str _ _ _ _
theorem rcSc_at {u v : Value} {d e : PyData} {as bs : List Addr} (ru : Reads s.heap u d as) (rv : Reads s.heap v e bs) (hd : isSc d = true) (he : isSc e = true) : RcAt A s u v (PyData.eqv d e) := by
  rcases reads_sc ru hd with ⟨rfl, rfl⟩ | ⟨b, rfl, rfl⟩ | ⟨i, t, rfl, rfl⟩ | ⟨x, t, rfl, rfl⟩ <;>
  rcases reads_sc rv he with ⟨rfl, rfl⟩ | ⟨b', rfl, rfl⟩ | ⟨i', t', rfl, rfl⟩ | ⟨x', t', rfl, rfl⟩ <;> simp only [PyData.eqv]
  · exact RcAt.none_none
  · exact RcAt.none_bool _
  · exact RcAt.none_int _ _
  · exact RcAt.none_str _ _
  · exact RcAt.bool_none _
  · exact RcAt.bool_bool _ _
  · exact RcAt.bool_int _ _ _
  · exact RcAt.bool_str _ _ _
  · exact RcAt.int_none _ _
  · exact RcAt.int_bool _ _ _
  · exact RcAt.int_int _ _ _ _
  · exact RcAt.int_str _ _ _ _
  · exact RcAt.str_none _ _
  · exact RcAt.str_bool _ _ _
  · exact RcAt.str_int _ _ _ _
  · exact RcAt.str_str _ _ _ _
theorem rnSc_at {u v : Value} {d e : PyData} {as bs : List Addr} (ru : Reads s.heap u d as) (rv : Reads s.heap v e bs) (hd : isSc d = true) (he : isSc e = true) : RcNeAt A s u v (!PyData.eqv d e) := by
  rcases reads_sc ru hd with ⟨rfl, rfl⟩ | ⟨b, rfl, rfl⟩ | ⟨i, t, rfl, rfl⟩ | ⟨x, t, rfl, rfl⟩ <;>
  rcases reads_sc rv he with ⟨rfl, rfl⟩ | ⟨b', rfl, rfl⟩ | ⟨i', t', rfl, rfl⟩ | ⟨x', t', rfl, rfl⟩ <;> simp only [PyData.eqv]
  · exact RcNeAt.none_none
  · exact RcNeAt.none_bool _
  · exact RcNeAt.none_int _ _
  · exact RcNeAt.none_str _ _
  · exact RcNeAt.bool_none _
  · exact RcNeAt.bool_bool _ _
  · exact RcNeAt.bool_int _ _ _
  · exact RcNeAt.bool_str _ _ _
  · exact RcNeAt.int_none _ _
  · exact RcNeAt.int_bool _ _ _
  · exact RcNeAt.int_int _ _ _ _
  · exact RcNeAt.int_str _ _ _ _
  · exact RcNeAt.str_none _ _
  · exact RcNeAt.str_bool _ _ _
  · exact RcNeAt.str_int _ _ _ _
  · exact RcNeAt.str_str _ _ _ _

theorem rd_list {h : Heap} {u : Value} {ds : List PyData} {as : List Addr} (r : Reads h u (.list ds) as) : ∃ l items as', u = .ref l ∧ h.IsList l items ∧ ReadsAll h items.toList ds as' := by
  cases r with | list h1 h2 h3 h4 => exact ⟨_, _, _, rfl, ⟨_, h1, h2, _, h3⟩, h4⟩
theorem rd_tuple {h : Heap} {u : Value} {ds : List PyData} {as : List Addr} (r : Reads h u (.tuple ds) as) : ∃ l items as', u = .ref l ∧ h.IsTuple l items ∧ ReadsAll h items.toList ds as' := by
  cases r with | tuple h1 h2 h3 h4 => exact ⟨_, _, _, rfl, ⟨_, h1, h2, _, h3⟩, h4⟩
theorem rall_get {h : Heap} : ∀ {us : List Value} {ds : List PyData} {as : List Addr} {j : Nat} {u : Value} {d : PyData}, ReadsAll h us ds as → us[j]? = some u → ds[j]? = some d → ∃ bs, Reads h u d bs
  | _, _, _, _, _, _, .nil, e, _ => by simp at e
  | _, _, _, 0, _, _, .cons r _, e1, e2 => by simp at e1 e2; subst e1; subst e2; exact ⟨_, r⟩
  | _, _, _, j + 1, _, _, .cons _ t, e1, e2 => rall_get t (by simpa using e1) (by simpa using e2)
theorem rall_len {h : Heap} : ∀ {us : List Value} {ds : List PyData} {as : List Addr}, ReadsAll h us ds as → us.length = ds.length
  | _, _, _, .nil => rfl
  | _, _, _, .cons _ t => by rw [List.length_cons, List.length_cons, rall_len t]
/-- the place-wise answer -/
def eAt (f : PyData → PyData → Option Bool) (xs ys : List PyData) (j : Nat) : Bool :=
  match xs[j]?, ys[j]? with
  | some x, some y => f x y == some true
  | _, _ => true
theorem eqs_at {f : PyData → PyData → Option Bool} : ∀ {xs ys : List PyData} {b : Bool}, eqs f xs ys = some b →
    (∀ (j : Nat) x y, xs[j]? = some x → ys[j]? = some y → f x y = some (eAt f xs ys j)) ∧ (List.range (min xs.length ys.length)).all (eAt f xs ys) = b
  | [], ys, b, h => by simp [eqs] at h; subst h; simp
  | x :: xs, [], b, h => by simp [eqs] at h; subst h; simp
  | x :: xs, y :: ys, b, h => by
    simp only [eqs] at h
    cases h1 : f x y with
    | none => rw [h1] at h; simp at h
    | some a =>
      cases h2 : eqs f xs ys with
      | none => rw [h1, h2] at h; simp at h
      | some c =>
        rw [h1, h2] at h
        simp only [Option.some.injEq] at h
        obtain ⟨i1, i2⟩ := eqs_at h2
        have e0 : eAt f (x :: xs) (y :: ys) 0 = a := by
          simp [eAt, h1]
        have eS : ∀ j, eAt f (x :: xs) (y :: ys) (j + 1) = eAt f xs ys j := fun j => by simp [eAt]
        refine ⟨fun j x' y' hx hy => ?_, ?_⟩
        · cases j with
          | zero => simp at hx hy; subst hx; subst hy; rw [h1, e0]
          | succ j => rw [eS]; exact i1 j x' y' (by simpa using hx) (by simpa using hy)
        · have hm : min (x :: xs).length (y :: ys).length = min xs.length ys.length + 1 := by simp
          rw [hm, List.range_succ_eq_map, List.all_cons, e0, List.all_map]
          have : (List.range (min xs.length ys.length)).all (eAt f (x :: xs) (y :: ys) ∘ Nat.succ) = (List.range (min xs.length ys.length)).all (eAt f xs ys) := by
            congr 1
          rw [this, i2, h]
theorem items_at {n : Nat} (ih : ∀ d e b, eqn n d e = some b → ∀ (A : Around) (u v : Value) (as bs : List Addr), Reads s.heap u d as → Reads s.heap v e bs → A.units + n < cLine → EqAt A s u v b)
    {items items2 : Array Value} {xs ys : List PyData} {as bs : List Addr} {b : Bool} (r1 : ReadsAll s.heap items.toList xs as) (r2 : ReadsAll s.heap items2.toList ys bs) (h : eqs (eqn n) xs ys = some b) (hu : A.units + (n + 1) < cLine) :
    ∀ j (h1 : j < items.size) (h2 : j < items2.size), EqAt A.in1 s items[j] items2[j] (eAt (eqn n) xs ys j) := by
  intro j h1 h2
  have l1 := rall_len r1
  have l2 := rall_len r2
  rw [Array.length_toList] at l1 l2
  obtain ⟨x, hx⟩ : ∃ x, xs[j]? = some x := ⟨xs[j]'(by omega), List.getElem?_eq_getElem (by omega)⟩
  obtain ⟨y, hy⟩ : ∃ y, ys[j]? = some y := ⟨ys[j]'(by omega), List.getElem?_eq_getElem (by omega)⟩
  have g1 : items.toList[j]? = some items[j] := by simp [h1]
  have g2 : items2.toList[j]? = some items2[j] := by simp [h2]
  obtain ⟨_, q1⟩ := rall_get r1 g1 hx
  obtain ⟨_, q2⟩ := rall_get r2 g2 hy
  exact ih x y _ ((eqs_at h).1 j x y hx hy) A.in1 _ _ _ _ q1 q2 (by rw [Around.in1_units]; omega)

theorem rc_step {n : Nat} (ih : ∀ d e b, eqn n d e = some b → ∀ (A : Around) (u v : Value) (as bs : List Addr), Reads s.heap u d as → Reads s.heap v e bs → A.units + n < cLine → EqAt A s u v b)
    {d e : PyData} {b : Bool} (h : eqn (n + 1) d e = some b) {u v : Value} {as bs : List Addr} (ru : Reads s.heap u d as) (rv : Reads s.heap v e bs) (hu : A.units + (n + 1) < cLine) : RcAt A s u v b := by
  have hu' : A.units < cLine := by omega
  by_cases hsc : isSc d = true ∧ isSc e = true
  · have e1 : eqn (n + 1) d e = some (PyData.eqv d e) := by
      obtain ⟨h1, h2⟩ := hsc
      cases d <;> simp [isSc] at h1 <;> cases e <;> simp [isSc] at h2 <;> simp [eqn]
    rw [e1] at h
    cases h
    exact rcSc_at ru rv hsc.1 hsc.2
  cases d with
  | dict _ => simp [eqn] at h
  | none =>
    cases e with
    | dict _ => simp [eqn] at h
    | none => exact absurd ⟨rfl, rfl⟩ hsc
    | bool _ => exact absurd ⟨rfl, rfl⟩ hsc
    | int _ => exact absurd ⟨rfl, rfl⟩ hsc
    | str _ => exact absurd ⟨rfl, rfl⟩ hsc
    | list ys =>
      simp [eqn, PyData.eqv] at h; subst h
      obtain ⟨l, its, as2, rfl, hl, _⟩ := rd_list rv
      cases ru
      exact RcAt.none_list hl hu'
    | tuple ys =>
      simp [eqn, PyData.eqv] at h; subst h
      obtain ⟨l, its, as2, rfl, hl, _⟩ := rd_tuple rv
      cases ru
      exact RcAt.none_tuple hl hu'
  | bool x =>
    cases e with
    | dict _ => simp [eqn] at h
    | none => exact absurd ⟨rfl, rfl⟩ hsc
    | bool _ => exact absurd ⟨rfl, rfl⟩ hsc
    | int _ => exact absurd ⟨rfl, rfl⟩ hsc
    | str _ => exact absurd ⟨rfl, rfl⟩ hsc
    | list ys =>
      simp [eqn, PyData.eqv] at h; subst h
      obtain ⟨l, its, as2, rfl, hl, _⟩ := rd_list rv
      cases ru
      exact RcAt.bool_list _ hl hu'
    | tuple ys =>
      simp [eqn, PyData.eqv] at h; subst h
      obtain ⟨l, its, as2, rfl, hl, _⟩ := rd_tuple rv
      cases ru
      exact RcAt.bool_tuple _ hl hu'
  | int x =>
    cases e with
    | dict _ => simp [eqn] at h
    | none => exact absurd ⟨rfl, rfl⟩ hsc
    | bool _ => exact absurd ⟨rfl, rfl⟩ hsc
    | int _ => exact absurd ⟨rfl, rfl⟩ hsc
    | str _ => exact absurd ⟨rfl, rfl⟩ hsc
    | list ys =>
      simp [eqn, PyData.eqv] at h; subst h
      obtain ⟨l, its, as2, rfl, hl, _⟩ := rd_list rv
      cases ru
      exact RcAt.int_list _ _ hl hu'
    | tuple ys =>
      simp [eqn, PyData.eqv] at h; subst h
      obtain ⟨l, its, as2, rfl, hl, _⟩ := rd_tuple rv
      cases ru
      exact RcAt.int_tuple _ _ hl hu'
  | str x =>
    cases e with
    | dict _ => simp [eqn] at h
    | none => exact absurd ⟨rfl, rfl⟩ hsc
    | bool _ => exact absurd ⟨rfl, rfl⟩ hsc
    | int _ => exact absurd ⟨rfl, rfl⟩ hsc
    | str _ => exact absurd ⟨rfl, rfl⟩ hsc
    | list ys =>
      simp [eqn, PyData.eqv] at h; subst h
      obtain ⟨l, its, as2, rfl, hl, _⟩ := rd_list rv
      cases ru
      exact RcAt.str_list _ _ hl hu'
    | tuple ys =>
      simp [eqn, PyData.eqv] at h; subst h
      obtain ⟨l, its, as2, rfl, hl, _⟩ := rd_tuple rv
      cases ru
      exact RcAt.str_tuple _ _ hl hu'
  | list xs =>
    obtain ⟨l, its, as1, rfl, hl, q1⟩ := rd_list ru
    cases e with
    | dict _ => simp [eqn] at h
    | none =>
      simp [eqn, PyData.eqv] at h; subst h
      cases rv
      exact RcAt.list_none hl hu'
    | bool _ =>
      simp [eqn, PyData.eqv] at h; subst h
      cases rv
      exact RcAt.list_bool _ hl hu'
    | int _ =>
      simp [eqn, PyData.eqv] at h; subst h
      cases rv
      exact RcAt.list_int _ _ hl hu'
    | str _ =>
      simp [eqn, PyData.eqv] at h; subst h
      cases rv
      exact RcAt.list_str _ _ hl hu'
    | tuple ys =>
      simp [eqn, PyData.eqv] at h; subst h
      obtain ⟨l2, its2, as2, rfl, hl2, q2⟩ := rd_tuple rv
      exact RcAt.list_tuple hl hl2 hu'
    | list ys =>
      obtain ⟨l2, its2, as2, rfl, hl2, q2⟩ := rd_list rv
      have l1 := rall_len q1
      have l2' := rall_len q2
      rw [Array.length_toList] at l1 l2'
      simp only [eqn] at h
      split at h
      · rename_i hc
        have := RcAt.lists hl hl2 (by omega) hu' (items_at ih q1 q2 h hu)
        have e2 := (eqs_at h).2
        rw [show min xs.length ys.length = its.size by omega] at e2
        rw [e2] at this
        exact this
      · rename_i hc
        cases h
        exact RcAt.lists_lengths hl hl2 (by simp; omega) hu'
  | tuple xs =>
    obtain ⟨l, its, as1, rfl, hl, q1⟩ := rd_tuple ru
    cases e with
    | dict _ => simp [eqn] at h
    | none =>
      simp [eqn, PyData.eqv] at h; subst h
      cases rv
      exact RcAt.tuple_none hl hu'
    | bool _ =>
      simp [eqn, PyData.eqv] at h; subst h
      cases rv
      exact RcAt.tuple_bool _ hl hu'
    | int _ =>
      simp [eqn, PyData.eqv] at h; subst h
      cases rv
      exact RcAt.tuple_int _ _ hl hu'
    | str _ =>
      simp [eqn, PyData.eqv] at h; subst h
      cases rv
      exact RcAt.tuple_str _ _ hl hu'
    | list ys =>
      simp [eqn, PyData.eqv] at h; subst h
      obtain ⟨l2, its2, as2, rfl, hl2, q2⟩ := rd_list rv
      exact RcAt.tuple_list hl hl2 hu'
    | tuple ys =>
      obtain ⟨l2, its2, as2, rfl, hl2, q2⟩ := rd_tuple rv
      have l1 := rall_len q1
      have l2' := rall_len q2
      rw [Array.length_toList] at l1 l2'
      simp only [eqn, Option.map_eq_some_iff] at h
      obtain ⟨c, hc, rfl⟩ := h
      have := RcAt.tuples hl hl2 hu' (items_at ih q1 q2 hc hu)
      have e2 := (eqs_at hc).2
      rw [show min xs.length ys.length = min its.size its2.size by omega] at e2
      rw [e2, l1, l2'] at this
      exact this

theorem rn_step {n : Nat} (ih : ∀ d e b, eqn n d e = some b → ∀ (A : Around) (u v : Value) (as bs : List Addr), Reads s.heap u d as → Reads s.heap v e bs → A.units + n < cLine → EqAt A s u v b)
    {d e : PyData} {b : Bool} (h : eqn (n + 1) d e = some b) {u v : Value} {as bs : List Addr} (ru : Reads s.heap u d as) (rv : Reads s.heap v e bs) (hu : A.units + (n + 1) < cLine) : RcNeAt A s u v (!b) := by
  have hu' : A.units < cLine := by omega
  by_cases hsc : isSc d = true ∧ isSc e = true
  · have e1 : eqn (n + 1) d e = some (PyData.eqv d e) := by
      obtain ⟨h1, h2⟩ := hsc
      cases d <;> simp [isSc] at h1 <;> cases e <;> simp [isSc] at h2 <;> simp [eqn]
    rw [e1] at h
    cases h
    exact rnSc_at ru rv hsc.1 hsc.2
  cases d with
  | dict _ => simp [eqn] at h
  | none =>
    cases e with
    | dict _ => simp [eqn] at h
    | none => exact absurd ⟨rfl, rfl⟩ hsc
    | bool _ => exact absurd ⟨rfl, rfl⟩ hsc
    | int _ => exact absurd ⟨rfl, rfl⟩ hsc
    | str _ => exact absurd ⟨rfl, rfl⟩ hsc
    | list ys =>
      simp [eqn, PyData.eqv] at h; subst h
      obtain ⟨l, its, as2, rfl, hl, _⟩ := rd_list rv
      cases ru
      exact RcNeAt.none_list hl hu'
    | tuple ys =>
      simp [eqn, PyData.eqv] at h; subst h
      obtain ⟨l, its, as2, rfl, hl, _⟩ := rd_tuple rv
      cases ru
      exact RcNeAt.none_tuple hl hu'
  | bool x =>
    cases e with
    | dict _ => simp [eqn] at h
    | none => exact absurd ⟨rfl, rfl⟩ hsc
    | bool _ => exact absurd ⟨rfl, rfl⟩ hsc
    | int _ => exact absurd ⟨rfl, rfl⟩ hsc
    | str _ => exact absurd ⟨rfl, rfl⟩ hsc
    | list ys =>
      simp [eqn, PyData.eqv] at h; subst h
      obtain ⟨l, its, as2, rfl, hl, _⟩ := rd_list rv
      cases ru
      exact RcNeAt.bool_list _ hl hu'
    | tuple ys =>
      simp [eqn, PyData.eqv] at h; subst h
      obtain ⟨l, its, as2, rfl, hl, _⟩ := rd_tuple rv
      cases ru
      exact RcNeAt.bool_tuple _ hl hu'
  | int x =>
    cases e with
    | dict _ => simp [eqn] at h
    | none => exact absurd ⟨rfl, rfl⟩ hsc
    | bool _ => exact absurd ⟨rfl, rfl⟩ hsc
    | int _ => exact absurd ⟨rfl, rfl⟩ hsc
    | str _ => exact absurd ⟨rfl, rfl⟩ hsc
    | list ys =>
      simp [eqn, PyData.eqv] at h; subst h
      obtain ⟨l, its, as2, rfl, hl, _⟩ := rd_list rv
      cases ru
      exact RcNeAt.int_list _ _ hl hu'
    | tuple ys =>
      simp [eqn, PyData.eqv] at h; subst h
      obtain ⟨l, its, as2, rfl, hl, _⟩ := rd_tuple rv
      cases ru
      exact RcNeAt.int_tuple _ _ hl hu'
  | str x =>
    cases e with
    | dict _ => simp [eqn] at h
    | none => exact absurd ⟨rfl, rfl⟩ hsc
    | bool _ => exact absurd ⟨rfl, rfl⟩ hsc
    | int _ => exact absurd ⟨rfl, rfl⟩ hsc
    | str _ => exact absurd ⟨rfl, rfl⟩ hsc
    | list ys =>
      simp [eqn, PyData.eqv] at h; subst h
      obtain ⟨l, its, as2, rfl, hl, _⟩ := rd_list rv
      cases ru
      exact RcNeAt.str_list _ _ hl hu'
    | tuple ys =>
      simp [eqn, PyData.eqv] at h; subst h
      obtain ⟨l, its, as2, rfl, hl, _⟩ := rd_tuple rv
      cases ru
      exact RcNeAt.str_tuple _ _ hl hu'
  | list xs =>
    obtain ⟨l, its, as1, rfl, hl, q1⟩ := rd_list ru
    cases e with
    | dict _ => simp [eqn] at h
    | none =>
      simp [eqn, PyData.eqv] at h; subst h
      cases rv
      exact RcNeAt.list_none hl hu'
    | bool _ =>
      simp [eqn, PyData.eqv] at h; subst h
      cases rv
      exact RcNeAt.list_bool _ hl hu'
    | int _ =>
      simp [eqn, PyData.eqv] at h; subst h
      cases rv
      exact RcNeAt.list_int _ _ hl hu'
    | str _ =>
      simp [eqn, PyData.eqv] at h; subst h
      cases rv
      exact RcNeAt.list_str _ _ hl hu'
    | tuple ys =>
      simp [eqn, PyData.eqv] at h; subst h
      obtain ⟨l2, its2, as2, rfl, hl2, q2⟩ := rd_tuple rv
      exact RcNeAt.list_tuple hl hl2 hu'
    | list ys =>
      obtain ⟨l2, its2, as2, rfl, hl2, q2⟩ := rd_list rv
      have l1 := rall_len q1
      have l2' := rall_len q2
      rw [Array.length_toList] at l1 l2'
      simp only [eqn] at h
      split at h
      · rename_i hc
        have := RcNeAt.lists hl hl2 (by omega) hu' (items_at ih q1 q2 h hu)
        have e2 := (eqs_at h).2
        rw [show min xs.length ys.length = its.size by omega] at e2
        rw [e2] at this
        exact this
      · rename_i hc
        cases h
        exact RcNeAt.lists_lengths hl hl2 (by simp; omega) hu'
  | tuple xs =>
    obtain ⟨l, its, as1, rfl, hl, q1⟩ := rd_tuple ru
    cases e with
    | dict _ => simp [eqn] at h
    | none =>
      simp [eqn, PyData.eqv] at h; subst h
      cases rv
      exact RcNeAt.tuple_none hl hu'
    | bool _ =>
      simp [eqn, PyData.eqv] at h; subst h
      cases rv
      exact RcNeAt.tuple_bool _ hl hu'
    | int _ =>
      simp [eqn, PyData.eqv] at h; subst h
      cases rv
      exact RcNeAt.tuple_int _ _ hl hu'
    | str _ =>
      simp [eqn, PyData.eqv] at h; subst h
      cases rv
      exact RcNeAt.tuple_str _ _ hl hu'
    | list ys =>
      simp [eqn, PyData.eqv] at h; subst h
      obtain ⟨l2, its2, as2, rfl, hl2, q2⟩ := rd_list rv
      exact RcNeAt.tuple_list hl hl2 hu'
    | tuple ys =>
      obtain ⟨l2, its2, as2, rfl, hl2, q2⟩ := rd_tuple rv
      have l1 := rall_len q1
      have l2' := rall_len q2
      rw [Array.length_toList] at l1 l2'
      simp only [eqn, Option.map_eq_some_iff] at h
      obtain ⟨c, hc, rfl⟩ := h
      have := RcNeAt.tuples hl hl2 hu' (items_at ih q1 q2 hc hu)
      have e2 := (eqs_at hc).2
      rw [show min xs.length ys.length = min its.size its2.size by omega] at e2
      rw [e2, l1, l2'] at this
      exact this

theorem eq_step {n : Nat} (ih : ∀ d e b, eqn n d e = some b → ∀ (A : Around) (u v : Value) (as bs : List Addr), Reads s.heap u d as → Reads s.heap v e bs → A.units + n < cLine → EqAt A s u v b)
    {d e : PyData} {b : Bool} (h : eqn (n + 1) d e = some b) {u v : Value} {as bs : List Addr} (ru : Reads s.heap u d as) (rv : Reads s.heap v e bs) (hu : A.units + (n + 1) < cLine) : EqAt A s u v b := by
  have hu' : A.units < cLine := by omega
  by_cases hsc : isSc d = true ∧ isSc e = true
  · have e1 : eqn (n + 1) d e = some (PyData.eqv d e) := by
      obtain ⟨h1, h2⟩ := hsc
      cases d <;> simp [isSc] at h1 <;> cases e <;> simp [isSc] at h2 <;> simp [eqn]
    rw [e1] at h
    cases h
    exact eqSc_at ru rv hsc.1 hsc.2
  cases d with
  | dict _ => simp [eqn] at h
  | none =>
    cases e with
    | dict _ => simp [eqn] at h
    | none => exact absurd ⟨rfl, rfl⟩ hsc
    | bool _ => exact absurd ⟨rfl, rfl⟩ hsc
    | int _ => exact absurd ⟨rfl, rfl⟩ hsc
    | str _ => exact absurd ⟨rfl, rfl⟩ hsc
    | list ys =>
      simp [eqn, PyData.eqv] at h; subst h
      obtain ⟨l, its, as2, rfl, hl, _⟩ := rd_list rv
      cases ru
      exact EqAt.none_list hl hu'
    | tuple ys =>
      simp [eqn, PyData.eqv] at h; subst h
      obtain ⟨l, its, as2, rfl, hl, _⟩ := rd_tuple rv
      cases ru
      exact EqAt.none_tuple hl hu'
  | bool x =>
    cases e with
    | dict _ => simp [eqn] at h
    | none => exact absurd ⟨rfl, rfl⟩ hsc
    | bool _ => exact absurd ⟨rfl, rfl⟩ hsc
    | int _ => exact absurd ⟨rfl, rfl⟩ hsc
    | str _ => exact absurd ⟨rfl, rfl⟩ hsc
    | list ys =>
      simp [eqn, PyData.eqv] at h; subst h
      obtain ⟨l, its, as2, rfl, hl, _⟩ := rd_list rv
      cases ru
      exact EqAt.bool_list _ hl hu'
    | tuple ys =>
      simp [eqn, PyData.eqv] at h; subst h
      obtain ⟨l, its, as2, rfl, hl, _⟩ := rd_tuple rv
      cases ru
      exact EqAt.bool_tuple _ hl hu'
  | int x =>
    cases e with
    | dict _ => simp [eqn] at h
    | none => exact absurd ⟨rfl, rfl⟩ hsc
    | bool _ => exact absurd ⟨rfl, rfl⟩ hsc
    | int _ => exact absurd ⟨rfl, rfl⟩ hsc
    | str _ => exact absurd ⟨rfl, rfl⟩ hsc
    | list ys =>
      simp [eqn, PyData.eqv] at h; subst h
      obtain ⟨l, its, as2, rfl, hl, _⟩ := rd_list rv
      cases ru
      exact EqAt.int_list _ _ hl hu'
    | tuple ys =>
      simp [eqn, PyData.eqv] at h; subst h
      obtain ⟨l, its, as2, rfl, hl, _⟩ := rd_tuple rv
      cases ru
      exact EqAt.int_tuple _ _ hl hu'
  | str x =>
    cases e with
    | dict _ => simp [eqn] at h
    | none => exact absurd ⟨rfl, rfl⟩ hsc
    | bool _ => exact absurd ⟨rfl, rfl⟩ hsc
    | int _ => exact absurd ⟨rfl, rfl⟩ hsc
    | str _ => exact absurd ⟨rfl, rfl⟩ hsc
    | list ys =>
      simp [eqn, PyData.eqv] at h; subst h
      obtain ⟨l, its, as2, rfl, hl, _⟩ := rd_list rv
      cases ru
      exact EqAt.str_list _ _ hl hu'
    | tuple ys =>
      simp [eqn, PyData.eqv] at h; subst h
      obtain ⟨l, its, as2, rfl, hl, _⟩ := rd_tuple rv
      cases ru
      exact EqAt.str_tuple _ _ hl hu'
  | list xs =>
    obtain ⟨l, its, as1, rfl, hl, q1⟩ := rd_list (id ru)
    cases e with
    | dict _ => simp [eqn] at h
    | none =>
      simp [eqn, PyData.eqv] at h; subst h
      cases rv
      exact EqAt.list_none hl hu'
    | bool _ =>
      simp [eqn, PyData.eqv] at h; subst h
      cases rv
      exact EqAt.list_bool _ hl hu'
    | int _ =>
      simp [eqn, PyData.eqv] at h; subst h
      cases rv
      exact EqAt.list_int _ _ hl hu'
    | str _ =>
      simp [eqn, PyData.eqv] at h; subst h
      cases rv
      exact EqAt.list_str _ _ hl hu'
    | tuple ys =>
      simp [eqn, PyData.eqv] at h; subst h
      obtain ⟨l2, its2, as2, rfl, hl2, q2⟩ := rd_tuple rv
      exact EqAt.list_tuple hl hl2 hu'
    | list ys =>
      have rc := rc_step ih h ru rv hu
      obtain ⟨l2, its2, as2, rfl, hl2, q2⟩ := rd_list rv
      by_cases hne : l = l2
      · subst hne
        obtain ⟨q, _⟩ := Reads.unique ru _ _ rv
        rw [q] at h
        rw [eqn_self _ _ _ h]
        exact EqAt.same _
      · exact EqAt.of_refs hne rc
  | tuple xs =>
    obtain ⟨l, its, as1, rfl, hl, q1⟩ := rd_tuple ru
    cases e with
    | dict _ => simp [eqn] at h
    | none =>
      simp [eqn, PyData.eqv] at h; subst h
      cases rv
      exact EqAt.tuple_none hl hu'
    | bool _ =>
      simp [eqn, PyData.eqv] at h; subst h
      cases rv
      exact EqAt.tuple_bool _ hl hu'
    | int _ =>
      simp [eqn, PyData.eqv] at h; subst h
      cases rv
      exact EqAt.tuple_int _ _ hl hu'
    | str _ =>
      simp [eqn, PyData.eqv] at h; subst h
      cases rv
      exact EqAt.tuple_str _ _ hl hu'
    | list ys =>
      simp [eqn, PyData.eqv] at h; subst h
      obtain ⟨l2, its2, as2, rfl, hl2, q2⟩ := rd_list rv
      exact EqAt.tuple_list hl hl2 hu'
    | tuple ys =>
      have rc := rc_step ih h ru rv hu
      obtain ⟨l2, its2, as2, rfl, hl2, q2⟩ := rd_tuple rv
      by_cases hne : l = l2
      · subst hne
        obtain ⟨q, _⟩ := Reads.unique ru _ _ rv
        rw [q] at h
        rw [eqn_self _ _ _ h]
        exact EqAt.same _
      · exact EqAt.of_refs hne rc

theorem eqn_at : ∀ (n : Nat) d e b, eqn n d e = some b → ∀ (A : Around) (u v : Value) (as bs : List Addr), Reads s.heap u d as → Reads s.heap v e bs → A.units + n < cLine → EqAt A s u v b
  | 0, d, e, b, h, A, u, v, as, bs, ru, rv, hu => by
    simp only [eqn] at h
    split at h
    · rename_i c
      cases h
      rw [Bool.and_eq_true] at c
      exact eqSc_at ru rv c.1 c.2
    · cases h
  | n + 1, d, e, b, h, A, u, v, as, bs, ru, rv, hu => eq_step (fun d e b h A u v as bs => eqn_at n d e b h A u v as bs) h ru rv hu
theorem eqp_at {d e : PyData} {b : Bool} (h : eqp d e = some b) {u v : Value} {as bs : List Addr} (ru : Reads s.heap u d as) (rv : Reads s.heap v e bs) (hu : A.units + 64 < cLine) : EqAt A s u v b :=
  eqn_at 64 d e b h A u v as bs ru rv hu
theorem eqp_rc {d e : PyData} {b : Bool} (h : eqp d e = some b) {u v : Value} {as bs : List Addr} (ru : Reads s.heap u d as) (rv : Reads s.heap v e bs) (hu : A.units + 64 < cLine) : RcAt A s u v b :=
  rc_step (n := 63) (fun d e b h A u v as bs => eqn_at 63 d e b h A u v as bs) h ru rv hu
theorem eqp_rn {d e : PyData} {b : Bool} (h : eqp d e = some b) {u v : Value} {as bs : List Addr} (ru : Reads s.heap u d as) (rv : Reads s.heap v e bs) (hu : A.units + 64 < cLine) : RcNeAt A s u v (!b) :=
  rn_step (n := 63) (fun d e b h A u v as bs => eqn_at 63 d e b h A u v as bs) h ru rv hu
end
end Px

set_option Elab.async false
set_option maxRecDepth 100000
set_option linter.all false
/-! Px4: the operators. -/
namespace Px
open PySem L2

section
variable {K : PySem.W.Frag} {w : Ws} {ι : List Addr} {H : Hp} {S : Store} {v : V} {x : W}
theorem view_list (s : Sim K ι H S) {ds : List PyData} (r : RW K w ι H v x) (e : view S x = some (.list ds)) : ∃ a vs, v = .ref a ∧ Rd H a (.lst vs) ∧ RpAll K H vs ds := by
  cases x with
  | p d' =>
    simp only [view, Option.some.injEq] at e; subst e
    cases r with | lst h q => exact ⟨_, _, rfl, .inr ⟨_, h⟩, q⟩
  | ref i =>
    obtain ⟨a, h1, rfl⟩ := r
    simp only [view] at e
    cases q : S[i]? with
    | none => rw [q] at e; cases e
    | some o =>
      have m := s.ob i o a q h1
      rw [q] at e
      cases o with
      | lst xs => simp only [Option.some.injEq, PyData.list.injEq] at e; subst e; obtain ⟨vs, h2, h3⟩ := m; exact ⟨_, _, rfl, .inl h2, h3⟩
      | dct kvs => exact m.elim
      | obj x fs => cases e
      | gone => cases e
  | ex c d' => cases e
  | kd kvs => cases e
  | kl is => cases e
  | kt ds => cases e
  | fn x => cases e
theorem view_p (s : Sim K ι H S) {d : PyData} (r : RW K w ι H v x) (e : view S x = some d) (h : ∀ ds, d ≠ .list ds) : Rp K H v d := by
  cases x with
  | p d' => simp only [view, Option.some.injEq] at e; subst e; exact r
  | ref i =>
    obtain ⟨a, h1, rfl⟩ := r
    simp only [view] at e
    cases q : S[i]? with
    | none => rw [q] at e; cases e
    | some o =>
      have m := s.ob i o a q h1
      rw [q] at e
      cases o with
      | lst xs => simp only [Option.some.injEq] at e; exact absurd e.symm (h _)
      | dct kvs => exact m.elim
      | obj x fs => cases e
      | gone => cases e
  | ex c d' => cases e
  | kd kvs => cases e
  | kl is => cases e
  | kt ds =>
    obtain ⟨a, rfl, _, h'⟩ := r
    simp only [view, Option.some.injEq] at e; subst e
    exact h' H
  | fn x => cases e
theorem view_tup (s : Sim K ι H S) {ds : List PyData} (r : RW K w ι H v x) (e : view S x = some (.tuple ds)) : ∃ a vs, v = .ref a ∧ SqT K H a vs ∧ RpAll K H vs ds := by
  have h := view_p s r e (by intro _ z; cases z)
  cases h with | tup a b => exact ⟨_, _, rfl, a, b⟩
theorem view_int (s : Sim K ι H S) {i : Int} (r : RW K w ι H v x) (e : view S x = some (.int i)) : v = .int i := by
  have h := view_p s r e (by intro _ z; cases z)
  cases h; rfl
theorem view_bool (s : Sim K ι H S) {i : Bool} (r : RW K w ι H v x) (e : view S x = some (.bool i)) : v = .bl i := by
  have h := view_p s r e (by intro _ z; cases z)
  cases h; rfl
theorem view_str (s : Sim K ι H S) {i : Str} (r : RW K w ι H v x) (e : view S x = some (.str i)) : v = .str i ∧ i.length ≤ sizeLine := by
  have h := view_p s r e (by intro _ z; cases z)
  cases h; exact ⟨rfl, by assumption⟩
theorem view_none (s : Sim K ι H S) (r : RW K w ι H v x) (e : view S x = some .none) : v = .non := by
  have h := view_p s r e (by intro _ z; cases z)
  cases h; rfl
theorem view_dict (s : Sim K ι H S) {kvs} (r : RW K w ι H v x) (e : view S x = some (.dict kvs)) : ∃ a o vs, v = .ref a ∧ H a = some (.frz o (.dK vs)) ∧ RpKv K H vs kvs := by
  have h := view_p s r e (by intro _ z; cases z)
  cases h with | dct a b => exact ⟨_, _, _, rfl, a, b⟩
end
section
variable {gx : GX} {X : Cx} {ι : List Addr} {H : Hp} {S : Store} {σ : St} {Wx : WX} {Q : VK}
theorem dst_p {d : PyData} {v : V} (h : Dst gx X.K ι H σ Wx (RlV X.K (ux gx X)) Q (okP d S)) (s : Sim X.K ι H S) (r : Rp X.K H v d) : Q v H := h ι H v (.refl _ _) s r
theorem dst_i {i : Int} (h : Dst gx X.K ι H σ Wx (RlV X.K (ux gx X)) Q (okI i S)) (s : Sim X.K ι H S) : Q (.int i) H := h ι H _ (.refl _ _) s (Rp.int i)
theorem dst_b {b : Bool} (h : Dst gx X.K ι H σ Wx (RlV X.K (ux gx X)) Q (okB b S)) (s : Sim X.K ι H S) : Q (.bl b) H := h ι H _ (.refl _ _) s (Rp.bl b)
/-- a new tuple -/
theorem dst_tup {ds : List PyData} {vs : List V} (h : Dst gx X.K ι H σ Wx (RlV X.K (ux gx X)) Q (okP (.tuple ds) S)) (s : Sim X.K ι H S) (r : RpAll X.K H vs ds) {p : Addr} (hp : H p = none) : Q (.ref p) (upd H p (.tup vs)) :=
  h ι _ _ (.new hp) (s.new hp) (Rp.tup (.inl (.inl upd_same)) (r.mono (.new hp)))
/-- a new list -/
theorem dst_lst {m : Bool} {ds : List PyData} {vs : List V} (h : Dst gx X.K ι H σ Wx (RlV X.K (ux gx X)) Q (mkL m ds S)) (s : Sim X.K ι H S) (r : RpAll X.K H vs ds) {p : Addr} (hp : H p = none) : Gz Q (.ref p) (upd H p (.lst vs)) := by
  cases m with
  | true =>
    refine .inl (h (ι ++ [p]) _ _ (.push hp) (s.push hp ⟨vs, upd_same, r.mono (.new hp)⟩) ⟨p, ?_, rfl⟩)
    rw [← s.len]; simp
  | false =>
    refine .inr ⟨p, vs, upd_same, fun o => ?_⟩
    rw [upd_upd]
    exact h ι _ _ (.new hp) (s.new hp) (Rp.lst upd_same (r.mono (.new hp)))
theorem Inv.lstR {pins : List (Addr × Obj)} {s : Shared} {l : Addr} {xs : List V} (I : Inv X pins σ H s) (hH : Rd H l (.lst xs)) : xs.length ≤ sizeLine ∧ ∃ (its : List Value) (n : Nat), Vals xs its ∧ xs.length = its.length ∧ s.heap.get? l = some { cls := .type "list", data := .seq its.toArray n } := by
  obtain ⟨z, its, n, r, e⟩ := hH.ok I.hok
  exact ⟨z, its, n, r, r.length, e⟩
/-! ### ints -/
theorem binI_ok {op : Operator} {i j : Int} (h : Dst gx X.K ι H σ Wx (RlV X.K (ux gx X)) Q (binI op i j S)) (s : Sim X.K ι H S) : WpOp X (binaryOp op) (.int i) (.int j) H Q := by
  cases op <;> simp only [binI] at h
  case Add => exact .of op_add ⟨i, j, rfl, rfl, dst_i h s⟩
  case Sub => exact .of op_sub ⟨i, j, rfl, rfl, dst_i h s⟩
  case Mult =>
    split at h
    · rename_i c; exact .of op_mulW ⟨i, j, rfl, rfl, c, dst_i h s⟩
    · exact h.elim
  case FloorDiv =>
    split at h
    · rename_i c; exact .of op_fdivW ⟨i, j, rfl, rfl, c, dst_i h s⟩
    · exact h.elim
  case Mod =>
    split at h
    · rename_i c; exact .of op_mod ⟨i, j, rfl, rfl, c, dst_i h s⟩
    · exact h.elim
  case Pow =>
    split at h
    · rename_i c
      intro pins sh σ' v u I rx ry
      obtain ⟨t, rfl⟩ := rx
      obtain ⟨t', rfl⟩ := ry
      have q := dst_i h s
      have fin : ∀ k : Int, k = i ^ j.toNat → EP X pins σ' Q (.int k sh.toks) { sh with toks := sh.toks + 1 } := fun k e => by
        subst e
        exact ⟨.int _, H, I.tok _, ⟨_, rfl⟩, q⟩
      refine PySem.AutoIntOpsIf.pow ?_
      rw [if_pos c.1]
      split
      · rename_i h0
        refine fin 1 ?_
        have : j = 0 := by simpa using h0
        subst this; exact (Int.pow_zero i).symm
      · split
        · rename_i h0 h1
          have hj : j.toNat ≠ 0 := by
            have : j ≠ 0 := by simpa using h0
            omega
          refine fin i ?_
          have h1' : i = 0 ∨ i = 1 := by simpa using h1
          rcases h1' with rfl | rfl
          · rw [Int.zero_pow hj]
          · rw [Int.one_pow]
        · split
          · rename_i h0 h1 h2
            have h2' : i = -1 := by simpa using h2
            subst h2'
            refine fin _ ?_
            obtain ⟨n, hn⟩ : ∃ n : Nat, j = n := ⟨j.toNat, by omega⟩
            subst hn
            rw [Int.toNat_natCast]
            have e : ∀ n : Nat, (if ((n : Int) % 2 == 0) = true then (1 : Int) else -1) = (-1) ^ n := by
              intro n
              induction n with
              | zero => rfl
              | succ n ih =>
                rw [Int.pow_succ, ← ih]
                by_cases h : (n : Int) % 2 = 0
                · have h2 : ¬ ((n + 1 : Nat) : Int) % 2 = 0 := by omega
                  rw [if_neg (by simpa using h2), if_pos (by simpa using h)]; rfl
                · have h2 : ((n + 1 : Nat) : Int) % 2 = 0 := by omega
                  rw [if_pos (by simpa using h2), if_neg (by simpa using h)]; rfl
            exact e n
          · rename_i h0 h1 h2
            rw [if_neg]
            · exact fin _ rfl
            · unfold Builtin.Int.intTooBig
              rw [decide_eq_true_eq]
              have b1 : Builtin.Int.intBits i ≤ 2000 := by
                unfold Builtin.Int.intBits
                split <;> omega
              have b2 : ((Builtin.Int.intBits i : Nat) : Int) * j ≤ 2000 * 1000 := Int.mul_le_mul (by omega) c.2.1 c.1 (by omega)
              have b3 : ((2000 : Int) * 1000) < ((bitsLine : Nat) : Int) := by decide
              omega
    · exact h.elim
  all_goals exact h.elim

/-- a list's product, the list locked or not -/
theorem op_repR : OpR X (binaryOp .Mult) (fun x y H Q => ∃ l k xs, x = .ref l ∧ y = .int k ∧ Rd H l (.lst xs) ∧ -(2 ^ 63) ≤ k ∧ k < 2 ^ 63 ∧ xs.length * k.toNat ≤ sizeLine ∧
  ∀ p, H p = none → Q (.ref p) (upd H p (.lst (List.replicate k.toNat xs).flatten))) := by
  intro pins s σ H x y v u Q I rx ry h
  obtain ⟨l, k, xs, rfl, rfl, hH, h1, h2, hz, q⟩ := h
  cases rx
  obtain ⟨t, rfl⟩ := ry
  obtain ⟨z, its, n, r, hl, e⟩ := Inv.lstR I hH
  have hlen : its.toArray.size * k.toNat ≤ sizeLine := by rw [List.size_toArray, ← hl]; exact hz
  have hcap : ¬ its.toArray.size * k.toNat > (2 ^ 63 - 1) / 8 := by
    have : (sizeLine : Nat) ≤ (2 ^ 63 - 1) / 8 := by decide
    omega
  have hfit : ¬ (!Builtin.List.listFitsIndex k) = true := by
    rw [fitsIndex_both h1 h2]
    exact Bool.false_ne_true
  have hlong : ¬ Builtin.List.listTooLong (its.toArray.size * k.toNat) = true := by
    rw [notLongL hlen]
    exact Bool.false_ne_true
  have hnew : List.foldl (fun x1 x2 => x1 ++ x2) #[] (List.replicate (if its.toArray.isEmpty = true then 0 else k.toNat) its.toArray) = (List.replicate k.toNat its).flatten.toArray := by
    have f0 : ∀ m : Nat, List.foldl (fun x1 x2 => x1 ++ x2) #[] (List.replicate m its.toArray) = (List.replicate m its).flatten.toArray := fun m => by
      have := foldl_rep its m []
      rw [List.nil_append] at this
      exact this
    rw [f0]
    cases its with
    | nil => simp
    | cons a r' => rw [if_neg (by simp)]
  refine wpAny_binaryOp_repeat_ref (T := "list") (U := "int") (by decide) ⟨_, e, rfl⟩ (fun s' => typeIs_int s' k t) noFill_list_mul F.fills_int_mul F.slot_int_rmul repeat_list F.slot_int_index.lookup
    (call_meets F.slot_int_rmul (typeIs_int s k t) F.entry_int_rmul (F.args_int_rmul_2 _ _) (int___rmul___int_list k t l its.toArray n)
      ⟨e, rfl, ⟨_, e, rfl⟩, call_meets F.slot_list_mul ⟨_, e, rfl⟩ F.entry_list_mul (F.args_list_mul_2 _ _) (AutoListH.list___mul___list_int_3 l its.toArray n k t hfit hcap hlong) ⟨e, ?_⟩⟩)
  rw [hnew]
  refine ⟨.ref _, _, I.lnew (t' := s.toks) (r.rep k.toNat) ?_, rfl, q _ I.fresh⟩
  have hf : ((List.replicate k.toNat xs).flatten).length = xs.length * k.toNat := by
    simp [List.length_flatten, Nat.mul_comm]
  omega
theorem op_catR : OpR X (binaryOp .Add) (fun x y H Q => ∃ l b xs zs, x = .ref l ∧ y = .ref b ∧ Rd H l (.lst xs) ∧ Rd H b (.lst zs) ∧ xs.length + zs.length ≤ sizeLine ∧ ∀ p, H p = none → Q (.ref p) (upd H p (.lst (xs ++ zs)))) := by
  intro pins s σ H x y v u Q I rx ry h
  obtain ⟨l, b, xs, zs, rfl, rfl, hH, hB, hz, q⟩ := h
  cases rx
  cases ry
  obtain ⟨z, its, n, r, hl, e⟩ := Inv.lstR I hH
  obtain ⟨z2, its2, n2, r2, hl2, e2⟩ := Inv.lstR I hB
  refine PySem.P.add_list e e2 ?_ (by rw [List.size_toArray, List.size_toArray]; omega)
  have ea : its.toArray ++ its2.toArray = (its ++ its2).toArray := by simp
  rw [ea]
  exact ⟨.ref _, _, I.lnew (t' := s.toks) (r.append r2) (by rw [List.length_append]; omega), rfl, q _ I.fresh⟩
theorem op_intBool_add : OpR X (binaryOp .Add) (fun x y H Q => ∃ i k, x = .int i ∧ y = .bl k ∧ Q (.int (i + if k then 1 else 0)) H) := by
  intro pins s σ H x y v u Q I rx ry h
  obtain ⟨i, k, rfl, rfl, q⟩ := h
  obtain ⟨t, rfl⟩ := rx
  cases ry
  exact add_int_bool ⟨.int _, H, I.tok _, ⟨_, rfl⟩, q⟩
theorem op_intBool_sub : OpR X (binaryOp .Sub) (fun x y H Q => ∃ i k, x = .int i ∧ y = .bl k ∧ Q (.int (i - if k then 1 else 0)) H) := by
  intro pins s σ H x y v u Q I rx ry h
  obtain ⟨i, k, rfl, rfl, q⟩ := h
  obtain ⟨t, rfl⟩ := rx
  cases ry
  exact IntBool.sub_int_bool ⟨.int _, H, I.tok _, ⟨_, rfl⟩, q⟩
theorem op_boolInt_add : OpR X (binaryOp .Add) (fun x y H Q => ∃ k j, x = .bl k ∧ y = .int j ∧ Q (.int ((if k then 1 else 0) + j)) H) := by
  intro pins s σ H x y v u Q I rx ry h
  obtain ⟨i, k, rfl, rfl, q⟩ := h
  obtain ⟨t, rfl⟩ := ry
  cases rx
  exact IntBool.add_bool_int ⟨.int _, H, I.tok _, ⟨_, rfl⟩, q⟩
theorem op_boolInt_sub : OpR X (binaryOp .Sub) (fun x y H Q => ∃ k j, x = .bl k ∧ y = .int j ∧ Q (.int ((if k then 1 else 0) - j)) H) := by
  intro pins s σ H x y v u Q I rx ry h
  obtain ⟨i, k, rfl, rfl, q⟩ := h
  obtain ⟨t, rfl⟩ := ry
  cases rx
  exact IntBool.sub_bool_int ⟨.int _, H, I.tok _, ⟨_, rfl⟩, q⟩
theorem str_len_append (a b : Str) : (a ++ b).length = a.length + b.length := by
  show (Str.append a b).length = _
  simp [Str.append, Str.length]
theorem op_mul_str : OpR X (binaryOp .Mult) (fun x y H Q => ∃ a k, x = .str a ∧ y = .int k ∧ 2 ≤ k ∧ k ≤ 1000 ∧ 1 ≤ a.length ∧ a.length ≤ 1000 ∧ (repS a k.toNat).length ≤ sizeLine ∧ Q (.str (repS a k.toNat)) H) := by
  intro pins s σ H x y v u Q I rx ry h
  obtain ⟨a, k, rfl, rfl, h1, h2, h3, h4, h5, q⟩ := h
  obtain ⟨t, rfl⟩ := rx
  obtain ⟨t', rfl⟩ := ry
  have n1 : ¬ k < 1 := by omega
  have n2 : (k == 1 || a.length == 0) = false := by
    rw [Bool.or_eq_false_iff]
    exact ⟨beq_eq_false_iff_ne.mpr (by omega), beq_eq_false_iff_ne.mpr (by omega)⟩
  refine P.mul_str (by rw [Bool.or_eq_false_iff]; exact ⟨decide_eq_false (by omega), decide_eq_false (by omega)⟩) (fun _ _ => ?_) (fun _ _ => ?_) ?_
  · have : (1000 : Int) ≤ (2 ^ 63 - 1) / k := by
      rw [Int.le_ediv_iff_mul_le (by omega)]
      omega
    omega
  · have e1 : a.length * k.toNat ≤ 1000 * 1000 := Nat.mul_le_mul h4 (by omega)
    have e2 : (1000 * 1000 : Nat) ≤ sizeLine := by decide
    exact decide_eq_false (show ¬ a.length * k.toNat > sizeLine by omega)
  · rw [if_neg n1, if_neg (by rw [n2]; decide)]
    exact ⟨h5, .str _, H, I.tok _, ⟨_, rfl⟩, q⟩
theorem binW_ok {m : Bool} {op : Operator} {x y : W} {vx vy : V} (h : Dst gx X.K ι H σ Wx (RlV X.K (ux gx X)) Q (binW m op x y S)) (s : Sim X.K ι H S) (rx : RW X.K (ux gx X) ι H vx x) (ry : RW X.K (ux gx X) ι H vy y) : WpOp X (binaryOp op) vx vy H Q := by
  unfold binW at h
  cases ex : view S x with
  | none => rw [ex] at h; exact h.elim
  | some a =>
    rw [ex] at h
    cases ey : view S y with
    | none => rw [ey] at h; exact h.elim
    | some b =>
      rw [ey] at h
      simp only at h
      cases a with
      | none => exact h.elim
      | dict _ => exact h.elim
      | int i =>
        have e1 := view_int s rx ex; subst e1
        cases b with
        | int j => have e2 := view_int s ry ey; subst e2; exact binI_ok h s
        | bool k =>
          have e2 := view_bool s ry ey; subst e2
          cases op <;> simp only [binD] at h
          case Add => exact .of op_intBool_add ⟨_, _, rfl, rfl, dst_i h s⟩
          case Sub => exact .of op_intBool_sub ⟨_, _, rfl, rfl, dst_i h s⟩
          all_goals exact h.elim
        | _ => exact h.elim
      | bool k =>
        have e1 := view_bool s rx ex; subst e1
        cases b with
        | int j =>
          have e2 := view_int s ry ey; subst e2
          cases op <;> simp only [binD] at h
          case Add => exact .of op_boolInt_add ⟨_, _, rfl, rfl, dst_i h s⟩
          case Sub => exact .of op_boolInt_sub ⟨_, _, rfl, rfl, dst_i h s⟩
          all_goals exact h.elim
        | _ => exact h.elim
      | str z =>
        obtain ⟨e1, l1⟩ := view_str s rx ex; subst e1
        cases b with
        | str z2 =>
          obtain ⟨e2, l2⟩ := view_str s ry ey; subst e2
          cases op <;> simp only [binD] at h
          case Add =>
            split at h
            · rename_i c
              exact .of op_add_str ⟨_, _, rfl, rfl, c, dst_p h s (.str _ (by rw [str_len_append]; exact c))⟩
            · exact h.elim
          all_goals exact h.elim
        | int k =>
          have e2 := view_int s ry ey; subst e2
          cases op <;> simp only [binD] at h
          case Mult =>
            split at h
            · rename_i c
              exact .of op_mul_str ⟨_, _, rfl, rfl, c.1, c.2.1, c.2.2.1, c.2.2.2.1, c.2.2.2.2, dst_p h s (.str _ c.2.2.2.2)⟩
            · exact h.elim
          all_goals exact h.elim
        | _ => exact h.elim
      | tuple xs =>
        obtain ⟨p1, vs, rfl, t1, r1⟩ := view_tup s rx ex
        cases b with
        | tuple ys =>
          obtain ⟨p2, ws, rfl, t2, r2⟩ := view_tup s ry ey
          cases op <;> simp only [binD] at h
          case Add =>
            split at h
            · rename_i c
              refine .of op_catA ⟨_, _, _, _, rfl, rfl, t1, t2, by rw [r1.length, r2.length]; exact c, fun e => ?_, fun _ e => ?_, fun _ _ p hp => dst_tup h s (r1.append r2) hp⟩
              · subst e; cases r1
                exact dst_p h s (.tup t2 r2)
              · subst e; cases r2
                exact dst_p h s (.tup t1 (by rw [List.append_nil]; exact r1))
            · exact h.elim
          all_goals exact h.elim
        | int k =>
          have e2 := view_int s ry ey; subst e2
          cases op <;> simp only [binD] at h
          case Mult =>
            split at h
            · rename_i c
              obtain ⟨c1, c2, c3, c4⟩ := c
              exact .of op_repT ⟨_, _, _, rfl, rfl, t1, (by intro e; subst e; cases r1; simp at c4), c1, c2, by rw [r1.length]; exact c3, fun p hp => dst_tup h s (r1.rep _) hp⟩
            · exact h.elim
          all_goals exact h.elim
        | _ => exact h.elim
      | list xs =>
        obtain ⟨p1, vs, rfl, t1, r1⟩ := view_list s rx ex
        cases b with
        | list ys =>
          obtain ⟨p2, ws, rfl, t2, r2⟩ := view_list s ry ey
          cases op <;> simp only [binD] at h
          case Add =>
            split at h
            · rename_i c
              exact .ghost (.of op_catR ⟨_, _, _, _, rfl, rfl, t1, t2, by rw [r1.length, r2.length]; exact c, fun p hp => dst_lst h s (r1.append r2) hp⟩)
            · exact h.elim
          all_goals exact h.elim
        | int k =>
          have e2 := view_int s ry ey; subst e2
          cases op <;> simp only [binD] at h
          case Mult =>
            split at h
            · rename_i c
              exact .ghost (.of op_repR ⟨_, _, _, rfl, rfl, t1, by omega, by omega, by rw [r1.length]; exact c.2.2, fun p hp => dst_lst h s (r1.rep _) hp⟩)
            · exact h.elim
          all_goals exact h.elim
        | _ => exact h.elim
/-! ### comparisons -/
theorem cmp_bool {op : CmpOp} {vx vy : V} {b : Bool} (h : ∀ pins s σ' v u (E : Value → Shared → Prop), Inv X pins σ' H s → RelV vx v → RelV vy u → ∀ Q' : Value → Shared → Prop, Q' (.bool b) s → wpAny (model X.prog X.w) X.A (compareOp op v u) Q' E s) (q : Q (.bl b) H) : WpOp X (compareOp op) vx vy H Q :=
  fun pins s σ' v u I rx ry => h pins s σ' v u X.xe I rx ry _ ⟨.bl b, H, I, rfl, q⟩
noncomputable def inE (h : Heap) (x : PyData) (u : Value) : Bool := @decide (∃ d as, Reads h u d as ∧ eqp d x = some true) (Classical.propDecidable _)
theorem inE_at {h : Heap} {x d : PyData} {u : Value} {as : List Addr} (r : Reads h u d as) : inE h x u = (eqp d x == some true) := by
  unfold inE
  by_cases c : eqp d x = some true
  · rw [c, @decide_eq_true _ (Classical.propDecidable _) (⟨d, as, r, c⟩ : ∃ d as, Reads h u d as ∧ eqp d x = some true)]; rfl
  · have : ¬ ∃ d as, Reads h u d as ∧ eqp d x = some true := fun ⟨d', as', r', e⟩ => c (by rw [(Reads.unique r _ _ r').1]; exact e)
    rw [@decide_eq_false _ (Classical.propDecidable _) this]
    exact (beq_eq_false_iff_ne.mpr c).symm
theorem inE_any {h : Heap} {x : PyData} : ∀ {us : List Value} {ds : List PyData} {as : List Addr}, ReadsAll h us ds as → us.any (inE h x) = ds.any fun y => eqp y x == some true
  | _, _, _, .nil => rfl
  | _, _, _, .cons r t => by rw [List.any_cons, List.any_cons, inE_at r, inE_any t]
theorem inE_eqAt {A : Around} {s : Shared} {x : PyData} {v : Value} {bs : List Addr} (rv : Reads s.heap v x bs) (hu : A.units + 64 < cLine) : ∀ {us : List Value} {ds : List PyData} {as : List Addr}, ReadsAll s.heap us ds as →
    ds.all (fun y => (eqp y x).isSome) = true → ∀ u ∈ us, SeqAt.EqAt A s u v (inE s.heap x u)
  | _, _, _, .nil, _, _, h => by cases h
  | _, _, _, .cons (d := d) r t, ha, u, h => by
    rw [List.all_cons, Bool.and_eq_true] at ha
    rcases List.mem_cons.mp h with rfl | h
    · rw [inE_at r]
      obtain ⟨b, hb⟩ := Option.isSome_iff_exists.mp ha.1
      rw [hb]
      cases b with
      | true => exact eqp_at hb r rv hu
      | false => exact eqp_at hb r rv hu
    · exact inE_eqAt rv hu t ha.2 u h
theorem inp_spec {x : PyData} {ys : List PyData} {b : Bool} (h : inp x ys = some b) : ys.all (fun y => (eqp y x).isSome) = true ∧ (ys.any fun y => eqp y x == some true) = b := by
  unfold inp at h
  split at h
  · rename_i c; simp only [Option.some.injEq] at h; exact ⟨c, h⟩
  · cases h
theorem in_any {vx vy : V} {x : PyData} {ys : List PyData} {b : Bool} (hu : X.A.units + 80 < cLine) (e : inp x ys = some b) (rx : Dq X.K H vx x) (ry : (∃ a vs, vy = .ref a ∧ Rd H a (.lst vs) ∧ RpAll X.K H vs ys) ∨ (∃ a vs, vy = .ref a ∧ SqT X.K H a vs ∧ RpAll X.K H vs ys)) :
    (Q (.bl b) H → WpOp X (compareOp .In) vx vy H Q) ∧ (Q (.bl (!b)) H → WpOp X (compareOp .NotIn) vx vy H Q) := by
  obtain ⟨e1, e2⟩ := inp_spec e
  have hu1 : X.A.in1.units + 64 < cLine := by rw [Around.in1_units]; omega
  rcases ry with ⟨a, vs, rfl, t, r⟩ | ⟨a, vs, rfl, t, r⟩
  · refine ⟨fun q => cmp_bool (fun pins s σ' v u E I qx qy Q' hq => ?_) q, fun q => cmp_bool (fun pins s σ' v u E I qx qy Q' hq => ?_) q⟩
    all_goals
      cases qy
      obtain ⟨_, its, n, rv, _, eh⟩ := Inv.lstR I t
      obtain ⟨_, rd⟩ := RpAll.reads1 I r rv
      obtain ⟨_, rxx⟩ := Dq.reads I rx qx
    · refine SeqAt.in_listAt (inE s.heap x) ⟨_, eh, rfl, _, rfl⟩ (fun y hy => inE_eqAt rxx hu1 rd e1 y (by simpa using hy)) ?_
      rw [show its.toArray.any (inE s.heap x) = its.any (inE s.heap x) by simp, inE_any rd, e2]
      exact hq
    · refine SeqAt.notIn_listAt (inE s.heap x) ⟨_, eh, rfl, _, rfl⟩ (fun y hy => inE_eqAt rxx hu1 rd e1 y (by simpa using hy)) ?_
      rw [show its.toArray.any (inE s.heap x) = its.any (inE s.heap x) by simp, inE_any rd, e2]
      exact hq
  · refine ⟨fun q => cmp_bool (fun pins s σ' v u E I qx qy Q' hq => ?_) q, fun q => cmp_bool (fun pins s σ' v u E I qx qy Q' hq => ?_) q⟩
    all_goals
      cases qy
      obtain ⟨its, rv, pl, _⟩ := I.tuple t
      obtain ⟨_, rd⟩ := RpAll.reads1 I r rv
      obtain ⟨_, rxx⟩ := Dq.reads I rx qx
    · refine SeqAt.in_tupleAt (inE s.heap x) pl (fun y hy => inE_eqAt rxx hu1 rd e1 y (by simpa using hy)) ?_
      rw [show its.toArray.any (inE s.heap x) = its.any (inE s.heap x) by simp, inE_any rd, e2]
      exact hq
    · refine SeqAt.notIn_tupleAt (inE s.heap x) pl (fun y hy => inE_eqAt rxx hu1 rd e1 y (by simpa using hy)) ?_
      rw [show its.toArray.any (inE s.heap x) = its.any (inE s.heap x) by simp, inE_any rd, e2]
      exact hq
end
end Px

set_option Elab.async false
set_option maxRecDepth 100000
set_option linter.all false
/-! Px5: comparisons, truth, subscripts, slices. -/
namespace Px
open PySem L2

section
variable {gx : GX} {X : Cx} {ι : List Addr} {H : Hp} {S : Store} {σ : St} {Wx : WX} {Q : VK}
theorem dp_of {x : W} {v : V} {d : PyData} (s : Sim X.K ι H S) (r : RW X.K (ux gx X) ι H v x) (e : view S x = some d) : Dq X.K H v d := view_dp s r e
theorem eq_wp {vx vy : V} {x y : PyData} {b : Bool} (hu : X.A.units + 80 < cLine) (e : eqp x y = some b) (rx : Dq X.K H vx x) (ry : Dq X.K H vy y) (q : Q (.bl b) H) : WpOp X (compareOp .Eq) vx vy H Q :=
  cmp_bool (fun pins s σ' v u E I qx qy Q' hq => by
    obtain ⟨_, r1⟩ := Dq.reads I rx qx
    obtain ⟨_, r2⟩ := Dq.reads I ry qy
    exact eqp_rc e r1 r2 (by omega) _ _ E Q' hq) q
theorem ne_wp {vx vy : V} {x y : PyData} {b : Bool} (hu : X.A.units + 80 < cLine) (e : eqp x y = some b) (rx : Dq X.K H vx x) (ry : Dq X.K H vy y) (q : Q (.bl (!b)) H) : WpOp X (compareOp .NotEq) vx vy H Q :=
  cmp_bool (fun pins s σ' v u E I qx qy Q' hq => by
    obtain ⟨_, r1⟩ := Dq.reads I rx qx
    obtain ⟨_, r2⟩ := Dq.reads I ry qy
    exact eqp_rn e r1 r2 (by omega) _ _ E Q' hq) q
theorem lt_wp {vx vy : V} {x y : PyData} {b : Bool} (hu : X.A.units + 80 < cLine) (e : ltp x y = some b) (rx : Dq X.K H vx x) (ry : Dq X.K H vy y) (q : Q (.bl b) H) : WpOp X (compareOp .Lt) vx vy H Q :=
  cmp_bool (fun pins s σ' v u E I qx qy Q' hq => by
    obtain ⟨_, r1⟩ := Dq.reads I rx qx
    obtain ⟨_, r2⟩ := Dq.reads I ry qy
    have hn : x ≠ .none := by intro z; subst z; simp [ltp] at e
    have e' : PySem.W.alike x y = true ∧ x.depth ≤ 64 ∧ b = PySem.W.dataLt x y := by
      unfold ltp at e
      split at e
      · cases e
      · split at e
        · rename_i c; rw [Bool.and_eq_true] at c; cases e; exact ⟨c.1, by simpa using c.2, rfl⟩
        · cases e
    obtain ⟨e1, e2, rfl⟩ := e'
    exact PySem.W.rcLt_alike x y X.A s v u _ _ r1 r2 e1 hn (by omega) _ _ E Q' hq) q
theorem relV_none {v : V} {u : Value} (r : RelV v u) : (u == Value.none) = decide (v = .non) := r.none_iff
theorem relV_bool {v : V} {u : Value} {b : Bool} (r : RelV v u) : (u == Value.bool b) = decide (v = .bl b) := by
  cases v
  case non => cases r; rfl
  case bl c => cases r; cases b <;> cases c <;> rfl
  case int i => obtain ⟨t, rfl⟩ := r; rfl
  case str i => obtain ⟨t, rfl⟩ := r; rfl
  case byt i => obtain ⟨t, rfl⟩ := r; rfl
  case flt i => obtain ⟨t, rfl⟩ := r; rfl
  case ref a => cases r; rfl
  case ty n => cases r; rfl
theorem plain_none (u : Value) (h : ∀ id, u ≠ .builtin id) : plainIs u .none = true := by
  cases u <;> first | rfl | exact absurd rfl (h _)
theorem plain_bool (u : Value) (b : Bool) (h : ∀ id, u ≠ .builtin id) : plainIs u (.bool b) = true := by
  cases u <;> first | rfl | exact absurd rfl (h _)
theorem relV_nob {v : V} {u : Value} (r : RelV v u) : ∀ id, u ≠ .builtin id := by
  intro id e; subst e
  cases v <;> simp [RelV] at r
theorem is_none_wp {vx : V} : (Q (.bl (decide (vx = .non))) H → WpOp X (compareOp .Is) vx .non H Q) ∧ (Q (.bl (!decide (vx = .non))) H → WpOp X (compareOp .IsNot) vx .non H Q) :=
  ⟨fun q => .of op_isN ⟨rfl, q⟩, fun q => .of op_notN ⟨rfl, q⟩⟩
theorem is_bool_wp {vx : V} {b : Bool} : (Q (.bl (decide (vx = .bl b))) H → WpOp X (compareOp .Is) vx (.bl b) H Q) ∧ (Q (.bl (!decide (vx = .bl b))) H → WpOp X (compareOp .IsNot) vx (.bl b) H Q) := by
  refine ⟨fun q => cmp_bool (fun pins s σ' v u E I qx qy Q' hq => ?_) q, fun q => cmp_bool (fun pins s σ' v u E I qx qy Q' hq => ?_) q⟩
  · cases qy
    exact wpAny_is_plain (plain_bool _ _ (relV_nob qx)) (by rw [relV_bool qx]; exact hq)
  · cases qy
    exact wpAny_isNot_plain (plain_bool _ _ (relV_nob qx)) (by rw [relV_bool qx]; exact hq)
/-- a value that stands for data: None, True, False told by it -/
theorem dp_non {v : V} {d : PyData} (h : Dq X.K H v d) : decide (v = .non) = isNon d := by
  cases h with
  | p h => cases h <;> simp [isNon]
  | l h q => simp [isNon]
theorem dp_bl {v : V} {d : PyData} {b : Bool} (h : Dq X.K H v d) : decide (v = .bl b) = isBl b d := by
  cases h with
  | p h =>
    cases h <;> simp [isBl]
    rename_i c
    cases b <;> cases c <;> rfl
  | l h q => simp [isBl]
theorem cmpD_ok {op : CmpOp} {x y : W} {vx vy : V} {a b : PyData} (hu : X.A.units + 80 < cLine) (h : Dst gx X.K ι H σ Wx (RlV X.K (ux gx X)) Q (optB S (cmpD op a b))) (s : Sim X.K ι H S) (rx : RW X.K (ux gx X) ι H vx x) (ry : RW X.K (ux gx X) ι H vy y)
    (ex : view S x = some a) (ey : view S y = some b) : WpOp X (compareOp op) vx vy H Q := by
  have dx := view_dp s rx ex
  have dy := view_dp s ry ey
  cases hc : cmpD op a b with
  | none => rw [hc] at h; exact h.elim
  | some c =>
  rw [hc] at h
  have q : Q (.bl c) H := dst_b h s
  cases op <;> simp only [cmpD] at hc
  case Eq => exact eq_wp hu hc dx dy q
  case NotEq =>
    rw [Option.map_eq_some_iff] at hc
    obtain ⟨e, h1, rfl⟩ := hc
    exact ne_wp hu h1 dx dy q
  case Lt =>
    split at hc
    · have e1 := view_int s rx ex; have e2 := view_int s ry ey; subst e1; subst e2
      cases hc
      exact .of op_lt ⟨_, _, rfl, rfl, q⟩
    · exact lt_wp hu hc dx dy q
  case LtE =>
    split at hc
    · have e1 := view_int s rx ex; have e2 := view_int s ry ey; subst e1; subst e2
      cases hc
      exact .of op_le ⟨_, _, rfl, rfl, q⟩
    · cases hc
  case Gt =>
    split at hc
    · have e1 := view_int s rx ex; have e2 := view_int s ry ey; subst e1; subst e2
      cases hc
      exact .of op_gt ⟨_, _, rfl, rfl, q⟩
    · cases hc
  case GtE =>
    split at hc
    · have e1 := view_int s rx ex; have e2 := view_int s ry ey; subst e1; subst e2
      cases hc
      exact .of op_ge ⟨_, _, rfl, rfl, q⟩
    · cases hc
  case Is =>
    split at hc
    · have e2 := view_none s ry ey; subst e2
      refine is_none_wp.1 ?_
      rw [dp_non dx]
      cases hc; exact q
    · have e2 := view_bool s ry ey; subst e2
      refine is_bool_wp.1 ?_
      rw [dp_bl dx]
      cases hc; exact q
    · cases hc
  case IsNot =>
    split at hc
    · have e2 := view_none s ry ey; subst e2
      refine is_none_wp.2 ?_
      rw [dp_non dx]
      cases hc; exact q
    · rename_i bb
      have e2 := view_bool s ry ey; subst e2
      refine is_bool_wp.2 ?_
      rw [dp_bl dx]
      cases hc; exact q
    · cases hc
  case In =>
    split at hc
    · obtain ⟨p, vs, rfl, t, r⟩ := view_tup s ry ey
      exact (in_any hu hc dx (.inr ⟨_, _, rfl, t, r⟩)).1 q
    · obtain ⟨p, vs, rfl, t, r⟩ := view_list s ry ey
      exact (in_any hu hc dx (.inl ⟨_, _, rfl, t, r⟩)).1 q
    · split at hc
      · obtain ⟨rfl, _⟩ := view_str s rx ex
        obtain ⟨rfl, _⟩ := view_str s ry ey
        cases hc
        exact .of op_in_str ⟨_, _, rfl, rfl, q⟩
      · cases hc
    · cases hc
  case NotIn =>
    split at hc
    · obtain ⟨p, vs, rfl, t, r⟩ := view_tup s ry ey
      rw [Option.map_eq_some_iff] at hc
      obtain ⟨e, h1, rfl⟩ := hc
      exact (in_any hu h1 dx (.inr ⟨_, _, rfl, t, r⟩)).2 q
    · obtain ⟨p, vs, rfl, t, r⟩ := view_list s ry ey
      rw [Option.map_eq_some_iff] at hc
      obtain ⟨e, h1, rfl⟩ := hc
      exact (in_any hu h1 dx (.inl ⟨_, _, rfl, t, r⟩)).2 q
    · split at hc
      · obtain ⟨rfl, _⟩ := view_str s rx ex
        obtain ⟨rfl, _⟩ := view_str s ry ey
        cases hc
        exact .of op_notin_str ⟨_, _, rfl, rfl, q⟩
      · cases hc
    · cases hc
theorem cmpW_ok {op : CmpOp} {x y : W} {vx vy : V} (hu : X.A.units + 80 < cLine) (h : Dst gx X.K ι H σ Wx (RlV X.K (ux gx X)) Q (optB S (cmpW op x y S))) (s : Sim X.K ι H S) (rx : RW X.K (ux gx X) ι H vx x) (ry : RW X.K (ux gx X) ι H vy y) : WpOp X (compareOp op) vx vy H Q := by
  cases hc : cmpW op x y S with
  | none => rw [hc] at h; exact h.elim
  | some c =>
  unfold cmpW at hc
  split at hc
  · rename_i kvs
    obtain ⟨a, rfl, ⟨es, n, kd⟩, hk⟩ := ry
    split at hc
    · rename_i z
      rw [show cmpW op _ _ S = some c by unfold cmpW; exact hc] at h
      have q : Q (.bl c) H := dst_b h s
      cases rx
      obtain ⟨r, h1, h2⟩ := hk z
      have e : r.isSome = (kvs.lookup z).isSome := by
        cases q : kvs.lookup z with
        | none => rw [q] at h2; simp only at h2; rw [h2]; rfl
        | some d => rw [q] at h2; obtain ⟨u, v, h3, _⟩ := h2; rw [h3]; rfl
      split at hc
      · cases hc
        exact .of (op_in_kd kd) ⟨z, r, rfl, rfl, h1, by rw [e]; exact q⟩
      · cases hc
        exact .of (op_notIn_kd kd) ⟨z, r, rfl, rfl, h1, by rw [e]; exact q⟩
      · cases hc
    · cases hc
  · rename_i hne
    cases ex : view S x with
    | none => rw [ex] at hc; cases hc
    | some a =>
      rw [ex] at hc
      cases ey : view S y with
      | none => rw [ey] at hc; cases hc
      | some b =>
        rw [ey] at hc
        have e : cmpW op x y S = cmpD op a b := by
          unfold cmpW
          split
          · rename_i kvs; exact absurd rfl (hne kvs)
          · rw [ex, ey]
        rw [e] at h
        exact cmpD_ok hu h s rx ry ex ey
/-! ### truth -/
theorem tru_wp {x : W} {v : V} {d : PyData} (s : Sim X.K ι H S) (r : RW X.K (ux gx X) ι H v x) (e : view S x = some d) {k : Bool} (hk : truD d = some k) : TruV X.K v H k := by
  cases d <;> simp only [truD, Option.some.injEq, reduceCtorEq] at hk <;> subst hk
  case none => have := view_none s r e; subst this; rfl
  case bool b => have := view_bool s r e; subst this; rfl
  case int i => have := view_int s r e; subst this; rfl
  case str z => obtain ⟨rfl, h⟩ := view_str s r e; exact ⟨h, rfl⟩
  case list xs =>
    obtain ⟨a, vs, rfl, t, q⟩ := view_list s r e
    refine .inl ⟨vs, .inl t, ?_⟩
    have := q.length
    cases xs <;> cases vs <;> simp at this <;> rfl
  case tuple xs =>
    obtain ⟨a, vs, rfl, t, q⟩ := view_tup s r e
    refine .inr (.inl ⟨vs, t, ?_⟩)
    have := q.length
    cases xs <;> cases vs <;> simp at this <;> rfl
/-! ### subscripts -/
theorem subW_ok {x i : W} {vx vi : V} (hu : X.A.units + 80 < cLine) (h : Dst gx X.K ι H σ Wx (RlV X.K (ux gx X)) Q (subW x i S)) (s : Sim X.K ι H S) (rx : RW X.K (ux gx X) ι H vx x) (ri : RW X.K (ux gx X) ι H vi i) :
    rIx X.K vx vi H Q ∨ rIxD X.K X.w vx vi H Q := by
  unfold subW at h
  split at h
  · rename_i kvs
    obtain ⟨a, rfl, ⟨es, n, kd⟩, hk⟩ := rx
    split at h
    · rename_i z
      cases ri
      split at h
      · rename_i d hd
        obtain ⟨r, h1, h2⟩ := hk z
        rw [hd] at h2
        obtain ⟨u, v, h3, h4, h5⟩ := h2
        subst h3
        exact .inr ⟨a, z, v, rfl, rfl, ⟨es, n, u, kd.at_, kd.lit, h1, h4⟩, dst_p h s (h5 H)⟩
      · exact h.elim
    · exact h.elim
  · rename_i is
    obtain ⟨a, rfl, hs⟩ := rx
    split at h
    · rename_i k
      cases ri
      split at h
      · rename_i j hj
        refine .inl (.inl ⟨a, _, k, .int j, rfl, rfl, hs H, ?_, dst_i h s⟩)
        unfold L2.atI at hj ⊢
        rw [List.length_map]
        cases q : L2.ixN is.length k with
        | none => rw [q] at hj; cases hj
        | some n => rw [q] at hj; change is[n]? = some j at hj; show (is.map V.int)[n]? = _; rw [List.getElem?_map, hj]; rfl
      · exact h.elim
    · exact h.elim
  · cases ex : view S x with
    | none => rw [ex] at h; exact h.elim
    | some a =>
      rw [ex] at h
      cases i with
      | p b =>
        simp only at h
        cases hb : subD a b with
        | none => rw [hb] at h; exact h.elim
        | some d =>
          rw [hb] at h
          unfold subD at hb
          split at hb
          · rename_i k
            cases ri
            split at hb
            · obtain ⟨p, vs, rfl, t, r⟩ := view_tup s rx ex
              obtain ⟨v, h1, h2⟩ := r.at hb
              exact .inl (.inr (.inl ⟨p, vs, k, v, rfl, rfl, t, h1, dst_p h s h2⟩))
            · obtain ⟨p, vs, rfl, t, r⟩ := view_list s rx ex
              obtain ⟨v, h1, h2⟩ := r.at hb
              exact .inl (.inl ⟨p, vs, k, v, rfl, rfl, .inl t, h1, dst_p h s h2⟩)
            · obtain ⟨rfl, hl⟩ := view_str s rx ex
              rw [Option.map_eq_some_iff] at hb
              obtain ⟨c, h1, rfl⟩ := hb
              exact .inl (.inr (.inr ⟨_, k, c, rfl, rfl, hl, h1, dst_p h s (.str _ (by show 1 ≤ sizeLine; decide))⟩))
            · cases hb
          · cases hb
      | ref _ => exact h.elim
      | ex _ _ => exact h.elim
      | kd _ => exact h.elim
      | kl _ => exact h.elim
      | kt _ => exact h.elim
      | fn _ => exact h.elim
end
end Px

set_option Elab.async false
set_option maxRecDepth 100000
set_option linter.all false
/-! Px6a: the sort that the kernel runs is the library's. -/
namespace Px
open PySem PySem.W

section
variable {α : Type} {le : α → α → Bool}
theorem insB_mem {x z : α} : ∀ {l : List α}, z ∈ insB le x l ↔ z = x ∨ z ∈ l
  | [] => by simp [insB]
  | y :: r => by
    unfold insB
    split
    · simp
    · simp only [List.mem_cons, insB_mem (l := r)]
      constructor
      · rintro (h | h | h)
        · exact .inr (.inl h)
        · exact .inl h
        · exact .inr (.inr h)
      · rintro (h | h | h)
        · exact .inr (.inl h)
        · exact .inl h
        · exact .inr (.inr h)
theorem insB_pairwise (h : TotalLe le) {x : α} : ∀ {l : List α}, l.Pairwise (fun a b => le a b = true) → (insB le x l).Pairwise (fun a b => le a b = true)
  | [], _ => by simp [insB]
  | y :: r, hp => by
    unfold insB
    have hp' := List.pairwise_cons.mp hp
    split
    · rename_i c
      refine List.pairwise_cons.mpr ⟨fun z hz => ?_, hp⟩
      rcases List.mem_cons.mp hz with rfl | hz
      · exact c
      · exact h.trans _ _ _ c (hp'.1 z hz)
    · rename_i c
      refine List.pairwise_cons.mpr ⟨fun z hz => ?_, insB_pairwise h hp'.2⟩
      rcases insB_mem.mp hz with rfl | hz
      · have := h.total z y
        cases q : le z y with
        | true => exact absurd q c
        | false => rw [q] at this; simpa using this
      · exact hp'.1 z hz
theorem insB_filter (h : TotalLe le) (c x : α) : ∀ {l : List α}, (insB le x l).filter (sameRank le c) = (x :: l).filter (sameRank le c)
  | [] => rfl
  | y :: r => by
    unfold insB
    split
    · rfl
    · rename_i q
      rw [List.filter_cons, insB_filter h c x (l := r)]
      by_cases h1 : sameRank le c x = true
      · have h2 : sameRank le c y = false := by
          cases z : sameRank le c y with
          | false => rfl
          | true =>
            unfold sameRank at h1 z
            rw [Bool.and_eq_true] at h1 z
            exact absurd (h.trans _ _ _ h1.2 z.1) q
        rw [h2]
        simp [List.filter_cons, h2]
      · simp only [List.filter_cons, if_neg h1]
theorem sortB_eq (h : TotalLe le) (l : List α) : sortB le l = l.mergeSort le := by
  refine sort_unique h ?_ ?_
  · induction l with
    | nil => exact List.Pairwise.nil
    | cons x r ih => exact insB_pairwise h ih
  · intro c
    induction l with
    | nil => rfl
    | cons x r ih =>
      show (insB le x (sortB le r)).filter _ = _
      rw [insB_filter h, List.filter_cons, List.filter_cons, ih]
end
theorem leD_le : leD = dataLe false id := by
  rw [dataLe_eq]
  rfl
theorem sortD_eq (l : List PyData) : sortB leD l = l.mergeSort (dataLe false id) := by
  rw [leD_le]
  exact sortB_eq (sortLe_total _ _ _) l
theorem maxL_spec : ∀ {is : List Int} {m : Int}, maxL is = some m → m ∈ is ∧ ∀ y ∈ is, y ≤ m
  | [x], m, h => by simp [maxL] at h; subst h; simp
  | x :: y :: r, m, h => by
    simp only [maxL, Option.map_eq_some_iff] at h
    obtain ⟨k, hk, rfl⟩ := h
    obtain ⟨h1, h2⟩ := maxL_spec (is := y :: r) (m := k) (by simpa [maxL] using hk)
    split
    · exact ⟨List.mem_cons_of_mem _ h1, fun z hz => by
        rcases List.mem_cons.mp hz with rfl | hz
        · omega
        · exact h2 z hz⟩
    · exact ⟨List.mem_cons_self .., fun z hz => by
        rcases List.mem_cons.mp hz with rfl | hz
        · omega
        · have := h2 z hz; omega⟩
theorem minL_spec : ∀ {is : List Int} {m : Int}, minL is = some m → m ∈ is ∧ ∀ y ∈ is, m ≤ y
  | [x], m, h => by simp [minL] at h; subst h; simp
  | x :: y :: r, m, h => by
    simp only [minL, Option.map_eq_some_iff] at h
    obtain ⟨k, hk, rfl⟩ := h
    obtain ⟨h1, h2⟩ := minL_spec (is := y :: r) (m := k) (by simpa [minL] using hk)
    split
    · exact ⟨List.mem_cons_of_mem _ h1, fun z hz => by
        rcases List.mem_cons.mp hz with rfl | hz
        · omega
        · exact h2 z hz⟩
    · exact ⟨List.mem_cons_self .., fun z hz => by
        rcases List.mem_cons.mp hz with rfl | hz
        · omega
        · have := h2 z hz; omega⟩
end Px

set_option Elab.async false
set_option maxRecDepth 100000
set_option linter.all false
/-! Px6: the built-in functions, the methods of lists and texts. -/
namespace Px
open PySem L2

def biV : Bi → Value
  | .abs => .builtin "abs" | .len => .builtin "len" | .max => .builtin "max" | .min => .builtin "min" | .int => .type "int" | .str => .type "str"
  | .repr => .builtin "repr" | .sum => .builtin "sum" | .all => .builtin "all" | .any => .builtin "any" | .list => .type "list" | .tuple => .type "tuple" | .sorted => .builtin "sorted"
/-- what the code runs in -/
structure CxO (X : Cx) : Prop where
  calm : X.calm = true
  hu : X.A.units + 100 < cLine
/-- what repr asks besides -/
structure CxR (X : Cx) : Prop where
  hg : X.A.guards = some []
section
variable {gx : GX} {X : Cx} {ι : List Addr} {H : Hp} {S : Store} {σ : St} {Wx : WX} {Q : VK}
theorem call_strbool : CallR X (.type "str") (fun xs H Q => ∃ b, xs = [.bl b] ∧ Q (.str (if b then "True" else "False")) H) := by
  intro pins s σ H xs us Q I r h
  obtain ⟨b, rfl, q⟩ := h
  obtain ⟨u, rfl, e⟩ := vals1 r
  cases e
  exact PySem.P.str_of_bool ⟨.str _, H, I.tok _, ⟨_, rfl⟩, q⟩
theorem call_reprD (c0 : CxO X) (c : CxR X) {v : V} {d : PyData} (dv : Dq X.K H v d) (h1 : d.showable = true) (h0 : d.hasDict = false) (h2 : d.depth ≤ 64) (h3 : d.shown.length ≤ sizeLine) (q : Q (.str d.shown) H) : WpCall X (.builtin "repr") [v] H Q := by
  intro pins s σ' us I r
  obtain ⟨u, rfl, ru⟩ := vals1 r
  obtain ⟨as, rd, hb⟩ := dv.reads' I ru
  have fin : ∀ tk tk', EP X pins σ' Q (.str d.shown tk) { s with toks := tk' } := fun tk tk' => ⟨.str _, H, I.tok _, ⟨_, rfl⟩, q⟩
  cases rd with
  | none => exact PySem.P.repr_of_none (fin _ _)
  | bool b => exact PySem.P.repr_of_bool (fin _ _)
  | int i t => exact PySem.P.repr_of_int (by simpa [PyData.showable] using h1) (fin _ _)
  | str x t => exact PySem.P.repr_of_str (fin _ _) h3
  | list a1 a2 a3 a4 => exact repr_of_reads' (.list a1 a2 a3 a4) h1 (fun hm => by rw [h0] at hm; cases hm) c.hg (by have := c0.hu; omega) (fun _ _ e => e) (fun h' u tk hk => ⟨.str _, H, I.kept hk, ⟨_, rfl⟩, q⟩) h3
  | tuple a1 a2 a3 a4 => exact repr_of_reads' (.tuple a1 a2 a3 a4) h1 (fun hm => by rw [h0] at hm; cases hm) c.hg (by have := c0.hu; omega) (fun _ _ e => e) (fun h' u tk hk => ⟨.str _, H, I.kept hk, ⟨_, rfl⟩, q⟩) h3
  | dict a1 a2 a3 a4 a5 => exact repr_of_reads' (.dict a1 a2 a3 a4 a5) h1 (fun hm => by rw [h0] at hm; cases hm) c.hg (by have := c0.hu; omega) (fun _ _ e => e) (fun h' u tk hk => ⟨.str _, H, I.kept hk, ⟨_, rfl⟩, q⟩) h3
theorem alikes_spec {xs : List PyData} (h : alikes xs = true) : PySem.W.AllAlike xs := by
  unfold alikes at h
  rw [List.all_eq_true] at h
  intro d hd d' hd'
  have := h d hd
  rw [List.all_eq_true] at this
  exact this d' hd'
theorem sortable_spec {xs : List PyData} (h : sortable xs = true) : PySem.W.Sortable xs := by
  unfold sortable at h
  rw [Bool.or_eq_true, List.all_eq_true, List.all_eq_true] at h
  rcases h with h | h
  · refine .inl fun d hd => ?_
    have := h d hd
    split at this
    · exact ⟨_, _, rfl⟩
    · cases this
  · refine .inr fun d hd => ?_
    have := h d hd
    constructor
    · intro e; subst e; simp at this
    · intro xs e; subst e; simp at this
theorem call_sortedD (c : CxO X) {a : Addr} {vs : List V} {ds : List PyData} (hl : Rd H a (.lst vs)) (r : RpAll X.K H vs ds) (h1 : alikes ds = true) (h2 : sortable ds = true) (h3 : ∀ d ∈ ds, d.depth ≤ 64)
    (q : ∀ p ws, H p = none → RpAll X.K H ws (sortB leD ds) → Gz Q (.ref p) (upd H p (.lst ws))) : WpCall X (.builtin "sorted") [.ref a] H Q := by
  refine WpCall.ghost ?_
  intro pins s σ' us I rv
  obtain ⟨u, rfl, e⟩ := vals1 rv
  cases e
  obtain ⟨hz, its, n, ri, _, eh⟩ := Inv.lstR I hl
  have hlen : ds.length = its.length := by rw [← r.length, ri.length]
  obtain ⟨_, rall⟩ := RpAll.reads1 I r ri
  have e1 : ∀ {us : List Value} {ds : List PyData} {ws : List V}, RpAll X.K H ws ds → Vals ws us → PySem.W.EachIs (fun u d => ∃ v, RelV v u ∧ Rp X.K H v d) us ds := by
    intro us ds ws r1 r2
    induction r2 generalizing ds with
    | nil => cases r1; exact .nil
    | cons x t ih => cases r1 with | cons y z => exact .cons ⟨_, x, y⟩ (ih z)
  have e2 : ∀ {us : List Value} {ds : List PyData} {as : List Addr}, ReadsAll s.heap us ds as → PySem.W.EachIs (fun u d => ∃ as, Reads s.heap u (id d) as) us ds := by
    intro us ds as h
    induction us generalizing ds as with
    | nil => cases h; exact .nil
    | cons x t ih => cases h with | cons y z => exact .cons ⟨_, y⟩ (ih z)
  have e3 : ∀ {us : List Value} {ds : List PyData}, PySem.W.EachIs (fun u d => ∃ v, RelV v u ∧ Rp X.K H v d) us ds → ∃ ws, Vals ws us ∧ RpAll X.K H ws ds := by
    intro us ds h
    induction h with
    | nil => exact ⟨[], .nil, .nil⟩
    | cons x t ih =>
      obtain ⟨v, h1, h2⟩ := x
      obtain ⟨ws, h3, h4⟩ := ih
      exact ⟨v :: ws, .cons h1 h3, .cons h2 h4⟩
  refine PySem.W.sorted_data (enc := id) (bs := ds) ⟨_, eh, rfl, _, rfl⟩ (e1 r ri) (e2 rall) (by rw [List.map_id]; exact alikes_spec h1) (by rw [List.map_id]; exact sortable_spec h2) (by omega) (fun b hb => by have := h3 b hb; have := c.hu; show _ + _ + b.depth < _; omega) (fun out ho hr => ?_)
  rw [← sortD_eq] at hr
  obtain ⟨ws, w1, w2⟩ := e3 hr
  have hk : ∀ b o, s.heap.get? b = some o → (PyProof.Rows.sortedAll s.heap its out.toArray).get? b = some o := fun b o e => PyProof.Rows.sortedAll_old e
  obtain ⟨n', hn⟩ := PyProof.Rows.sortedAll_at s.heap its out.toArray
  have hf : H (s.heap.objs.size + 1) = none := I.hok.fresh (by omega)
  refine ⟨.ref _, _, I.laid (o := .lst ws) (t' := s.toks) hk (by omega) ?_, rfl, q _ ws hf w2⟩
  exact ⟨by rw [w1.length, ho, hlen, ← ri.length]; exact hz, out, n', w1, hn⟩
/-- arguments that read as data -/
theorem views_all {ws : List W} {vs : List V} {ds : List PyData} (s : Sim X.K ι H S) (r : RWs X.K (ux gx X) ι H vs ws) (e : views S ws = some ds) : ∃ xs : List (V × W × PyData), vs = xs.map (·.1) ∧ ds = xs.map (·.2.2) ∧ ∀ x ∈ xs, RW X.K (ux gx X) ι H x.1 x.2.1 ∧ view S x.2.1 = some x.2.2 := by
  induction r generalizing ds with
  | nil => simp [views] at e; subst e; exact ⟨[], rfl, rfl, by simp⟩
  | cons h t ih =>
    rename_i v vs x xs
    simp only [views] at e
    cases q : view S x with
    | none => rw [q] at e; cases e
    | some d =>
      rw [q] at e
      simp only [Option.map_eq_some_iff] at e
      obtain ⟨ds', h1, rfl⟩ := e
      obtain ⟨zs, h2, h3, h4⟩ := ih h1
      refine ⟨(v, x, d) :: zs, by rw [h2]; rfl, by rw [h3]; rfl, fun y hy => ?_⟩
      rcases List.mem_cons.mp hy with rfl | hy
      · exact ⟨h, q⟩
      · exact h4 y hy
theorem biW_ok (c : CxO X) {m : Bool} {b : Bi} (cr : b = .repr → CxR X) {ws : List W} {vs : List V} (h : Dst gx X.K ι H σ Wx (RlV X.K (ux gx X)) Q (biW m b ws S)) (s : Sim X.K ι H S) (r : RWs X.K (ux gx X) ι H vs ws) : WpCall X (biV b) vs H Q := by
  unfold biW at h
  split at h
  · rename_i n hn
    unfold lenK at hn
    split at hn
    · rename_i is
      cases hn
      cases r with
      | cons r0 rn =>
        cases rn
        obtain ⟨a, rfl, hs⟩ := r0
        exact .of call_len ⟨_, _, rfl, .inl ⟨_, hs H, by rw [List.length_map]⟩, dst_i h s⟩
    · cases hn
  rename_i hlk
  clear hlk
  cases e : views S ws with
  | none => rw [e] at h; exact h.elim
  | some ds =>
  rw [e] at h
  simp only at h
  obtain ⟨xs, rfl, rfl, hx⟩ := views_all s r e
  clear e r
  have two : ∀ {P : Prop}, (∀ x y r, xs = x :: y :: r → P) → (∀ x, xs = [x] → P) → (xs = [] → P) → P := fun h2 h1 h0 => by
    match xs, h2, h1, h0 with
    | [], _, _, h0 => exact h0 rfl
    | [x], _, h1, _ => exact h1 x rfl
    | x :: y :: r, h2, _, _ => exact h2 x y r rfl
  unfold biD at h
  split at h
  all_goals try exact h.elim
  all_goals first
    | (rename_i hq; rcases xs with _ | ⟨⟨v, w, d⟩, _ | ⟨_, _⟩⟩ <;> simp at hq <;> subst hq
       have hv := hx _ (List.mem_cons_self ..)
       obtain ⟨rw1, vw1⟩ := hv
       simp only at rw1 vw1)
    | (rename_i hq; rcases xs with _ | ⟨⟨v, w, d⟩, _ | ⟨⟨v2, w2, d2⟩, _ | ⟨_, _⟩⟩⟩ <;> simp at hq <;> obtain ⟨hq1, hq2⟩ := hq <;> subst hq1 <;> subst hq2
       have hv := hx _ (List.mem_cons_self ..)
       have hv2 := hx _ (List.mem_cons_of_mem _ (List.mem_cons_self ..))
       obtain ⟨rw1, vw1⟩ := hv
       obtain ⟨rw2, vw2⟩ := hv2
       simp only at rw1 vw1 rw2 vw2)
  · have := view_int s rw1 vw1; subst this
    exact .of call_abs ⟨_, rfl, dst_i h s⟩
  · split at h
    · rename_i n hn
      refine .of call_len ⟨_, n, rfl, ?_, dst_i h s⟩
      unfold lenD at hn
      split at hn <;> first | cases hn | skip
      · obtain ⟨rfl, hl⟩ := view_str s rw1 vw1; exact ⟨hl, rfl⟩
      · obtain ⟨a, vs, rfl, t, q⟩ := view_list s rw1 vw1; exact .inl ⟨vs, .inl t, q.length.symm⟩
      · obtain ⟨a, vs, rfl, t, q⟩ := view_tup s rw1 vw1; exact .inr ⟨vs, t, q.length.symm⟩
    · exact h.elim
  · have := view_int s rw1 vw1; subst this
    have := view_int s rw2 vw2; subst this
    exact .of (call_max2 c.calm) ⟨_, _, rfl, dst_i h s⟩
  · split at h
    · rename_i is hi
      split at h
      · rename_i i hm
        obtain ⟨a, vs, rfl, t, q⟩ := view_list s rw1 vw1
        obtain ⟨rfl, _⟩ := q.ints hi
        obtain ⟨m1, m2⟩ := maxL_spec hm
        refine .of (cr_max c.calm) ⟨a, is, rfl, .inl t, List.length_pos_of_mem m1, fun k k1 k2 => ?_⟩
        have : k = i := by have := m2 k k1; have := k2 i m1; omega
        subst this
        exact dst_i h s
      · exact h.elim
    · exact h.elim
  · have := view_int s rw1 vw1; subst this
    have := view_int s rw2 vw2; subst this
    exact .of (call_min2 c.calm) ⟨_, _, rfl, dst_i h s⟩
  · split at h
    · rename_i is hi
      split at h
      · rename_i i hm
        obtain ⟨a, vs, rfl, t, q⟩ := view_list s rw1 vw1
        obtain ⟨rfl, _⟩ := q.ints hi
        obtain ⟨m1, m2⟩ := minL_spec hm
        refine .of (cr_min c.calm) ⟨a, is, rfl, .inl t, List.length_pos_of_mem m1, fun k k1 k2 => ?_⟩
        have : k = i := by have := m2 k k1; have := k2 i m1; omega
        subst this
        exact dst_i h s
      · exact h.elim
    · exact h.elim
  · have := view_int s rw1 vw1; subst this
    exact .of call_int1 (.inl ⟨_, rfl, dst_i h s⟩)
  · have := view_bool s rw1 vw1; subst this
    exact .of call_int1 (.inr ⟨_, rfl, dst_i h s⟩)
  · split at h
    · rename_i hz
      split at h
      · rename_i n hn
        obtain ⟨rfl, hl⟩ := view_str s rw1 vw1
        exact .of call_int_str ⟨_, n, rfl, hn, hz, dst_i h s⟩
      · exact h.elim
    · exact h.elim
  · split at h
    · rename_i x hx2
      unfold strD at hx2
      split at hx2
      · split at hx2
        · rename_i hl
          cases hx2
          have := view_int s rw1 vw1; subst this
          exact .of call_str_int ⟨_, rfl, hl, dst_p h s (.str _ (PySem.int_text_fits hl))⟩
        · cases hx2
      · cases hx2
        have := view_bool s rw1 vw1; subst this
        exact .of call_strbool ⟨_, rfl, dst_p h s (.str _ (by split <;> decide))⟩
      · cases hx2
        obtain ⟨rfl, hl⟩ := view_str s rw1 vw1
        exact .of SkE.call_str_str ⟨_, rfl, dst_p h s (.str _ hl)⟩
      · cases hx2
    · exact h.elim
  · split at h
    · rename_i hc
      simp only [Bool.and_eq_true, Bool.not_eq_true', decide_eq_true_eq] at hc
      exact call_reprD c (cr rfl) (view_dp s rw1 vw1) hc.1.1.1 hc.1.1.2 hc.1.2 hc.2 (dst_p h s (.str _ hc.2))
    · exact h.elim
  · split at h
    · rename_i is hi
      obtain ⟨a, vs, rfl, t, q⟩ := view_list s rw1 vw1
      obtain ⟨rfl, _⟩ := q.ints hi
      exact .of (cr_sum c.calm) ⟨a, is, rfl, .inl t, dst_i h s⟩
    · exact h.elim
  · split at h
    · rename_i is hi
      obtain ⟨a, vs, rfl, t, q⟩ := view_list s rw1 vw1
      obtain ⟨rfl, _⟩ := q.bools hi
      exact .of (cr_all c.calm) ⟨a, is, rfl, .inl t, dst_b h s⟩
    · exact h.elim
  · split at h
    · rename_i is hi
      obtain ⟨a, vs, rfl, t, q⟩ := view_list s rw1 vw1
      obtain ⟨rfl, _⟩ := q.bools hi
      exact .of (cr_any c.calm) ⟨a, is, rfl, .inl t, dst_b h s⟩
    · exact h.elim
  · obtain ⟨a, vs, rfl, t, q⟩ := view_list s rw1 vw1
    exact .ghost (.of call_list_of ⟨a, vs, rfl, .inl (.inl t), fun l hl => dst_lst h s q hl⟩)
  · obtain ⟨a, vs, rfl, t, q⟩ := view_tup s rw1 vw1
    exact .ghost (.of call_list_of ⟨a, vs, rfl, .inr t, fun l hl => dst_lst h s q hl⟩)
  · obtain ⟨a, vs, rfl, t, q⟩ := view_list s rw1 vw1
    exact .of call_tuple_of ⟨a, vs, rfl, .inl ⟨.inl t, fun l hl => dst_tup h s q hl⟩⟩
  · obtain ⟨a, vs, rfl, t, q⟩ := view_tup s rw1 vw1
    exact .of call_tuple_of ⟨a, vs, rfl, .inr ⟨t, dst_p h s (.tup t q)⟩⟩
  · split at h
    · rename_i hc
      rw [Bool.and_eq_true, Bool.and_eq_true, List.all_eq_true] at hc
      obtain ⟨a, vs, rfl, t, q⟩ := view_list s rw1 vw1
      exact call_sortedD c t q hc.1.1 hc.1.2 (fun d hd => by simpa using hc.2 d hd) fun p ws hp hr => dst_lst h s hr hp
    · exact h.elim
/-! ### methods -/
def meI : Me → String
  | .append => "list.append" | .extend => "list.extend" | .index => "list.index" | .indexT => "tuple.index" | .count => "list.count" | .upper => "str.upper" | .get => "dict.get" | .join => "str.join" | .partition => "str.partition"
end
end Px

set_option Elab.async false
set_option maxRecDepth 100000
set_option linter.all false
/-! Px7a: the intermediate form held against the text. -/
namespace Px
open PySem L2

/-- the names of a block: the slots, their kinds -/
structure Sc where
  N : List Str
  nm : List (Str × NameKind)
  /-- in an except suite -/
  hot : Bool
/-- the module: its defs' names, its constants, the exception classes' names -/
structure Gd where
  fn : List Str
  cn : List Str
  xn : List Str
  /-- repr is used -/
  rp : Bool
  /-- keyword calls: the def, the keywords, where each parameter's value comes from -/
  kw : List (Nat × Nat × List Str × List (Sum Nat PyData))
  /-- defs that are called by keywords alone -/
  ko : List Nat
  /-- the exception classes: the field that each keeps; which of them are caught by each -/
  xf : List (Option Str)
  xt : List (List Bool)
  /-- the classes: their attributes; the methods: the def, the class, the name; the defs that are held as values -/
  oc : List (Str × List Str)
  mt : List (Nat × Str × Str)
  mi : List (Nat × Str)
  fv : List Str
def Sc.vis (sc : Sc) (x : Str) : Bool := match sc.nm.lookup x with | some .local => true | some .cell => true | some .free => true | _ => false
def Sc.glo (sc : Sc) (x : Str) : Bool := match sc.nm.lookup x with | some .globalImplicit => true | _ => false
/-- stored here -/
def Sc.own (sc : Sc) (x : Str) : Bool := match sc.nm.lookup x with | some .local => true | some .cell => true | _ => false
def okName (x : Str) : Bool := !(x == ("__debug__" : Str)) && !(x == ("__classdict__" : Str))
def constD : Const → PyData → Bool
  | .none, .none => true
  | .bool a, .bool b => a == b
  | .int i, .int j => i == j
  | .str x, .str y => x == y && decide (x.length ≤ 1000000)
  | _, _ => false
def biN : Bi → Str
  | .abs => "abs" | .len => "len" | .max => "max" | .min => "min" | .int => "int" | .str => "str" | .repr => "repr" | .sum => "sum"
  | .all => "all" | .any => "any" | .list => "list" | .tuple => "tuple" | .sorted => "sorted"
def meN : Me → Str
  | .append => "append" | .extend => "extend" | .index => "index" | .indexT => "index" | .count => "count" | .upper => "upper" | .get => "get" | .join => "join" | .partition => "partition"
def tyN : Ty → Str
  | .int => "int" | .bool => "bool" | .str => "str" | .tuple => "tuple" | .list => "list" | .dict => "dict"
def tyV' : Ty → Value
  | .int => .type "int" | .bool => .type "bool" | .str => .type "str" | .tuple => .type "tuple" | .list => .type "list" | .dict => .type "dict"
/-- two written defaults -/
def dfB : PyData → PyData → Bool
  | .tuple [], .tuple [] => true
  | .none, .none => true
  | .int i, .int j => i == j
  | .bool i, .bool j => i == j
  | _, _ => false
theorem dfB_eq {a b : PyData} (h : dfB a b = true) : a = b := by
  unfold dfB at h
  split at h
  · rfl
  · rfl
  · rw [eq_of_beq h]
  · rw [eq_of_beq h]
  · cases h
def mpB : List (Sum Nat PyData) → List (Sum Nat PyData) → Bool
  | [], [] => true
  | .inl i :: r, .inl j :: q => i == j && mpB r q
  | .inr a :: r, .inr b :: q => dfB a b && mpB r q
  | _, _ => false
theorem mpB_eq : ∀ {a b : List (Sum Nat PyData)}, mpB a b = true → a = b
  | [], [], _ => rfl
  | .inl i :: r, .inl j :: q, h => by
    simp only [mpB, Bool.and_eq_true] at h
    rw [eq_of_beq h.1, mpB_eq h.2]
  | .inr a :: r, .inr b :: q, h => by
    simp only [mpB, Bool.and_eq_true] at h
    rw [dfB_eq h.1, mpB_eq h.2]
  | [], .inl _ :: _, h => by simp [mpB] at h
  | [], .inr _ :: _, h => by simp [mpB] at h
  | .inl _ :: _, [], h => by simp [mpB] at h
  | .inr _ :: _, [], h => by simp [mpB] at h
  | .inl _ :: _, .inr _ :: _, h => by simp [mpB] at h
  | .inr _ :: _, .inl _ :: _, h => by simp [mpB] at h
/-- a type's name, or a tuple of them -/
def chkTy (sc : Sc) (ts : List Ty) (e : Expr) : Bool :=
  match ts, e with
  | [t], .Name x _ => sc.glo x && x == tyN t
  | _, _ => false
def isCall0 : Expr → Bool
  | .Call (.Name _ _) [] [] _ => true
  | _ => false
/-- the methods that are served -/
def okMe : Me → Bool
  | .append => true | .extend => true | .upper => true | .index => true | .indexT => true | .join => true | .partition => true | _ => false
/-- the target's form, where the walk wants one -/
def tgOk : It → Expr → Bool
  | .zi _ _, .Tuple _ _ _ => true
  | .en _, .Tuple _ _ _ => true
  | .zi _ _, _ => false
  | .en _, _ => false
  | _, _ => true
def isKS : E → Bool
  | .k (.str _) => true
  | _ => false
def natOfOp : BoolOp → Nat | .And => 0 | .Or => 1
section
variable (g : Gd)
mutual
/-- names and tuples of names, as the text has them; what they bind -/
def chkTg (sc : Sc) : Tg → Expr → Bool
  | .n i, e => (match e with | .Name x _ => sc.N[i]? == some x && sc.own x | _ => false)
  | .t ts, e => (match e with | .Tuple es _ _ => chkTgs sc ts es && !sc.hot | _ => false)
  | .s _ _, _ => false
def chkTgs (sc : Sc) : Tgs → List Expr → Bool
  | .nil, es => (match es with | [] => true | _ => false)
  | .cons t r, es => (match es with | e :: es => chkTg sc t e && chkTgs sc r es | _ => false)
end
/-- a comprehension's own names: their places, what the block captures -/
def chkBlk (sc : Sc) (scope : Scope) (own : List Nat) : Bool :=
  (match scope.kind with | .function => true | _ => false) && (scope.names.all fun y => decide (scope.names.lookup y.1 = some y.2)) &&
    (own.all fun i => (sc.N[i]?).isSome) &&
    (scope.names.all fun y => match y.2 with
      | .free => (match sc.nm.lookup y.1 with | some .cell => true | some .free => true | _ => false)
      | .local => decide (y.1 ∈ own.filterMap fun i => sc.N[i]?) || decide (y.1 ∉ sc.N)
      | .cell => decide (y.1 ∈ own.filterMap fun i => sc.N[i]?) || decide (y.1 ∉ sc.N)
      | _ => true)
mutual
def chkE (sc : Sc) : E → Expr → Bool
  | .k d, e => (match e with | .Constant c _ _ => constD c d | _ => false)
  | .v i, e => (match e with | .Name x _ => sc.N[i]? == some x && sc.vis x && okName x | _ => false)
  | .g j, e => (match e with | .Name x _ => sc.glo x && g.cn[j]? == some x && okName x | _ => false)
  | .bin _ op a b, e => (match e with | .BinOp l op' r _ => op == op' && chkE sc a l && chkE sc b r | _ => false)
  | .un op a, e => (match e with | .UnaryOp op' x _ => op == op' && chkE sc a x | _ => false)
  | .boo op es, e => (match e with | .BoolOp op' vs _ => op == op' && chkBs sc es vs | _ => false)
  | .cmp op a b, e => (match e with | .Compare l [op'] [r] _ => op == op' && chkE sc a l && chkE sc b r && !(behindInMarks op r) | _ => false)
  | .ch a op b op' c, e => (match e with | .Compare l [o1, o2] [m, r] _ => op == o1 && op' == o2 && chkE sc a l && chkE sc b m && chkE sc c r && !(lastMarks [o1, o2] [m, r]) | _ => false)
  | .ife c a b, e => (match e with | .IfExp t x y _ => chkE sc c t && chkE sc a x && chkE sc b y | _ => false)
  | .tup es, e => (match e with | .Tuple vs _ _ => chkEX sc es vs | _ => false)
  | .lst _ es, e => (match e with | .List vs _ => chkEX sc es vs | _ => false)
  | .dct _ _ _, _ => false
  | .sub a i, e => (match e with | .Subscript v s _ => chkE sc a v && chkE sc i s | _ => false)
  | .slc _ a lo hi, e => (match e with | .Subscript v (.Slice l u none _) _ => chkE sc a v && chkO sc lo l && chkO sc hi u | _ => false)
  | .rev a, e => (match e with | .Subscript v (.Slice none none (some (.UnaryOp .USub (.Constant (.int 1) _ _) _)) _) _ => chkE sc a v | _ => false)
  | .call f as, e => (match e with | .Call (.Name x _) args [] _ => sc.glo x && okName x && g.fn[f]? == some x && chkEs sc as args && !(g.ko.contains f) && !sc.hot | _ => false)
  | .callK f as kn kv mp, e => (match e with | .Call (.Name x _) args kws _ => sc.glo x && okName x && g.fn[f]? == some x && chkEs sc as args && !args.isEmpty && chkKs sc kv kn kws && (g.kw.any fun y => y.1 == f && y.2.1 == as.len && y.2.2.1 == kn && mpB y.2.2.2 mp) && !sc.hot | _ => false)
  | .bi _ b as, e => (match e with | .Call (.Name x _) args [] _ => sc.glo x && okName x && x == biN b && chkEs sc as args && !args.isEmpty && (g.rp || (match b with | .repr => false | _ => true)) && !sc.hot | _ => false)
  | .me m o as, e => (match e with
      | .Call (.Attribute ov nm apos) args [] cpos => okMe m && chkE sc o ov && nm == meN m && chkEs sc as args && apos.endLine == cpos.line && !isCall0 ov && decide (args.length < 20)
      | _ => false)
  | .isi a ts, e => (match e with | .Call (.Name x _) [y, t] [] _ => sc.glo x && x == ("isinstance" : Str) && chkE sc a y && chkTy sc ts t | _ => false)
  | .lc _ elt tg it ifs, e => (match e with
      | .ListComp el [⟨t, i, fs, 0⟩] scope _ => chkIt sc it i && tgOk it t && chkBlk sc scope tg.own && chkTg ⟨sc.N, scope.names, false⟩ tg t && chkE ⟨sc.N, scope.names, false⟩ elt el && chkTs ⟨sc.N, scope.names, false⟩ ifs fs && !sc.hot
      | _ => false)
  | .frz a, e => chkE sc a e
  | .sset _ a, e => (match e with | .Call (.Name x _) [.Call (.Name y _) [z] [] _] [] _ => sc.glo x && x == ("sorted" : Str) && sc.glo y && y == ("set" : Str) && chkE sc a z && !sc.hot | _ => false)
  | .isx i c tab, e => (match e with | .Call (.Name x _) [.Name y _, .Name z _] [] _ => sc.glo x && x == ("isinstance" : Str) && sc.N[i]? == some y && sc.vis y && okName y && sc.glo z && okName z && g.xn[c]? == some z && g.xt[c]? == some tab && sc.hot && g.xf.all (fun f => f == none) | _ => false)
  | .exa i nm tab, e => (match e with | .Attribute (.Name y _) x _ => sc.N[i]? == some y && sc.vis y && okName y && x == nm && tab == g.xf.map (fun f => f == some nm) && sc.hot | _ => false)
  | .attr x nm o, e => (match e with | .Attribute v y _ => y == nm && chkE sc o v && !isCall0 v && (match g.oc.lookup x with | some l => l.contains nm | none => false) | _ => false)
  | .mc f x m o as, e => (match e with
      | .Call (.Attribute ov nm apos) args [] cpos => nm == m && chkE sc o ov && chkEs sc as args && apos.endLine == cpos.line && !isCall0 ov && decide (args.length < 20) && g.mt.contains (f, x, m) && (g.oc.lookup x).isSome && !sc.hot
      | _ => false)
  | .mk f x as, e => (match e with | .Call (.Name y _) args [] _ => y == x && sc.glo x && okName x && chkEs sc as args && !args.isEmpty && g.mi.contains (f, x) && (g.oc.lookup x).isSome && !sc.hot | _ => false)
  | .fs es, e => (match e with | .JoinedStr (a :: b :: r) _ => chkFs sc es (a :: b :: r) | _ => false)
  | .fv x, e => (match e with | .Name y _ => y == x && sc.glo x && okName x && g.fv.contains x | _ => false)
  | .cv i f x as, e => (match e with | .Call (.Name y _) args [] _ => sc.N[i]? == some y && sc.vis y && okName y && g.fn[f]? == some x && g.fv.contains x && !(g.ko.contains f) && chkEs sc as args && !args.isEmpty && !sc.hot | _ => false)
  | .stk, e => (match e with | .Starred _ _ => false | .Slice _ _ _ _ => false | _ => true)
def chkEs (sc : Sc) : Es → List Expr → Bool
  | .nil, es => (match es with | [] => true | _ => false)
  | .cons a r, es => (match es with | e :: es => chkE sc a e && chkEs sc r es | _ => false)
  | .star _ _, _ => false
/-- an f-string's parts -/
def chkFs (sc : Sc) : Es → List Expr → Bool
  | .nil, es => (match es with | [] => true | _ => false)
  | .cons a r, es => (match es with
    | .FormattedValue v c none _ :: es => c == -1 && chkE sc a v && chkFs sc r es
    | .Constant (.str c) p q :: es => chkE sc a (.Constant (.str c) p q) && isKS a && chkFs sc r es
    | _ => false)
  | .star _ _, _ => false
/-- the items of a display, stars among them -/
def chkEX (sc : Sc) : Es → List Expr → Bool
  | .nil, es => (match es with | [] => true | _ => false)
  | .cons a r, es => (match es with | e :: es => chkE sc a e && chkEX sc r es | _ => false)
  | .star a r, es => (match es with | .Starred e _ :: es => chkE sc a e && chkEX sc r es | _ => false)
/-- keywords -/
def chkKs (sc : Sc) : Es → List Str → List Keyword → Bool
  | .nil, ks, es => (match ks, es with | [], [] => true | _, _ => false)
  | .cons a r, ks, es => (match ks, es with | k :: ks, ⟨some x, e, _⟩ :: es => x == k && chkE sc a e && chkKs sc r ks es | _, _ => false)
  | .star _ _, _, _ => false
/-- and, or: two at least -/
def chkBs (sc : Sc) : Es → List Expr → Bool
  | .nil, _ => false
  | .cons a r, es => (match es with
    | e :: es => chkE sc a e && (match r with
      | .nil => (match es with | [] => true | _ => false)
      | _ => chkBs sc r es)
    | _ => false)
  | .star _ _, _ => false
/-- a clause's tests: none or one -/
def chkTs (sc : Sc) : Es → List Expr → Bool
  | .nil, es => (match es with | [] => true | _ => false)
  | .cons a r, es => (match es with
    | [e] => chkE sc a e && (match r with | .nil => true | _ => false)
    | _ => false)
  | .star _ _, _ => false
def chkO (sc : Sc) : Op → Option Expr → Bool
  | .non, o => (match o with | none => true | _ => false)
  | .som e, o => (match o with | some x => chkE sc e x | _ => false)
def chkIt (sc : Sc) : It → Expr → Bool
  | .e e, x => chkE sc e x && (match x with | .Set _ _ _ => false | _ => true)
  | .r1 a, x => (match x with | .Call (.Name r _) [y] [] _ => sc.glo r && r == ("range" : Str) && chkE sc a y | _ => false)
  | .r2 a b, x => (match x with | .Call (.Name r _) [y, z] [] _ => sc.glo r && r == ("range" : Str) && chkE sc a y && chkE sc b z | _ => false)
  | .zi a b, x => (match x with | .Call (.Name r _) [y, z] [] _ => sc.glo r && r == ("zip" : Str) && chkE sc a y && chkE sc b z | _ => false)
  | .en a, x => (match x with | .Call (.Name r _) [y] [] _ => sc.glo r && r == ("enumerate" : Str) && chkE sc a y | _ => false)
end
end
end Px

set_option Elab.async false
set_option maxRecDepth 100000
set_option linter.all false
set_option maxHeartbeats 1000000
/-! Px7g: a def's promise where repr may be asked: no object's text is under way around the call. -/
namespace Px
open PySem L2 PySem.Spec
open PyProof.Rows (envOfC IntsAre AllBare)
structure FnG (rp : Bool) (P : Program) (w : World) (K : PySem.W.Frag) (mg : Str → Option Value) (base : Heap) (C : CXT) (k : Nat) (f : Addr) (fd : FuncData) (ps : List Str) (sp : Sp) : Prop where
  len : ∀ vs H Q E, sp vs H Q E → vs.length = ps.length
  run : ∀ (A : Around) (outer : List PySem.Env) (s : Shared) (H : Hp) (args : Args) (us : List Value) (vs : List V) (Q : VK) (E : XK), Room k A → (rp = true → A.guards = some []) → Env0 P w K mg base A outer s H → BindsTo s fd args (ps.zip us) → Vals vs us →
    sp vs H Q E → codeAny (model P w) A (.call (.ref f) args) (CR C outer P w H s Q E) s
section
variable {X : Cx} {C : CXT} {k : Nat} {f : Addr} {fd : FuncData} {ps : List Str} {sp : Sp} {E : St → XK} {rp : Bool}
/-- the call's end, at the caller's slots -/
theorem endG {pins : List (Addr × Obj)} {σ : St} {H : Hp} {s : Shared} {Q : VK} (hx : PassesAt C X σ (E σ)) (I : Inv X pins σ H s) {r : Result} {s' : Shared} (h : CR C X.stack X.prog X.w H s Q (E σ) r s') :
    (match r with | .error e => X.xe e s' | .ok (.ret u) => EP X pins σ Q u s' | .ok _ => False) := by
  cases r with
  | error e => exact hx pins H s e s' I h
  | ok fl => cases fl with
    | ret u => exact I.after h
    | _ => exact h.elim
theorem goG {pins : List (Addr × Obj)} {σ : St} {H : Hp} {s : Shared} {Q : VK} {us : List Value} {vs : List V} (F : FnG rp X.prog X.w X.K X.mg X.base C k f fd ps sp) (hr : Room k X.A) (hgd : rp = true → X.A.guards = some []) (hb : Binds X.K fd ps [])
    (hx : PassesAt C X σ (E σ)) (I : Inv X pins σ H s) (r : Vals vs us) (h : sp vs H Q (E σ)) : wpAny (model X.prog X.w) X.A (call (.ref f) us) (EP X pins σ Q) X.xe s := by
  have b := hb s us I.kIn (by rw [List.append_nil, ← r.length]; exact F.len _ _ _ _ h); rw [List.append_nil] at b
  refine wpAny_call (codeAny_mono (F.run X.A X.stack s H ⟨us, []⟩ us vs Q (E σ) hr hgd I.env0 b r h) fun r s' hq => ?_)
  have z := endG hx I hq
  cases r with
  | error e => exact z
  | ok fl => cases fl <;> first | exact z | exact z.elim
theorem pe_callG {t : TA} {x : Str} {p pos : Pos} {e : Expr} {es : List Expr} (F : FnG rp X.prog X.w X.K X.mg X.base C k f fd ps sp) (hr : Room k X.A) (hgd : rp = true → X.A.guards = some []) (hg : Gl X x) (hm : X.mg x = some (.ref f)) (hk : PySem.W.keepIn X.K (.ref f) = true)
    (hb : Binds X.K fd ps []) (hx : ∀ σ, PassesAt C X σ (E σ)) (ha : PA X (e :: es) t) (hdb : (x == ("__debug__" : Str)) = false) (he : starEach (e :: es) X.env = (false, eval e X.env) :: starEach es X.env) (hpl : (backTo pos (starEach es X.env)).any (·.1) = false) :
    PE X (.Call (.Name x p) (e :: es) [] pos) (fun σ H Q => t σ H fun vs H1 => sp vs H1 Q (E σ)) :=
  ⟨fun pins s σ H Q I h => wpAny_Call_Name_kw (ld_glob I hg hm (PySem.W.callWith_K (h₀ := X.base) I.ok.mod.kin hk (thn (ha.run pos pins s σ H _ I h) fun us s1 ⟨vs, H1, I1, r, q⟩ => ⟨I1.kIn, goG F hr hgd hb (hx σ) I1 r q⟩) he hpl) hdb)⟩
/-- f() -/
theorem pe_call0G {x : Str} {p pos : Pos} (F : FnG rp X.prog X.w X.K X.mg X.base C k f fd ps sp) (hr : Room k X.A) (hgd : rp = true → X.A.guards = some []) (hg : Gl X x) (hm : X.mg x = some (.ref f)) (hk : PySem.W.keepIn X.K (.ref f) = true)
    (hb : Binds X.K fd ps []) (hx : ∀ σ, PassesAt C X σ (E σ)) (hdb : (x == ("__debug__" : Str)) = false) : PE X (.Call (.Name x p) [] [] pos) (fun σ H Q => sp [] H Q (E σ)) :=
  ⟨fun pins s σ H Q I h => wpAny_Call_Name_kw (ld_glob I hg hm (PySem.W.callWith_K0 I.kIn hk (goG (us := []) F hr hgd hb (hx σ) I .nil h)) hdb)⟩
/-- f(e, .., k = v, ..) -/
theorem pe_callKG {m : Nat} {ks : List Str} {x : Str} {p pos : Pos} {gg : List Value → List Value → List Value} {gV : List V → List V → List V} {e : Expr} {es : List Expr} {kws : List Keyword} {t tk : TA}
    (F : FnG rp X.prog X.w X.K X.mg X.base C k f fd ps sp) (hr : Room k X.A) (hgd : rp = true → X.A.guards = some []) (hg : Gl X x) (hm : X.mg x = some (.ref f)) (hk : PySem.W.keepIn X.K (.ref f) = true) (hb : KBn X.K fd ps m ks gg gV) (hx : ∀ σ, PassesAt C X σ (E σ))
    (ha : PA X (e :: es) t) (hkw : PK X kws tk) (hall : (backToKw pos (keywordEach kws X.env)).all (·.1.isSome) = true) (hks : (backToKw pos (keywordEach kws X.env)).filterMap (·.1) = ks) (hdb : (x == ("__debug__" : Str)) = false)
    (he : starEach (e :: es) X.env = (false, eval e X.env) :: starEach es X.env) (hpl : ((backTo pos (starEach (e :: es) X.env)).any (·.1) || (backToKw pos (keywordEach kws X.env)).any (·.1.isNone)) = false) :
    PE X (.Call (.Name x p) (e :: es) kws pos) (fun σ H Q => t σ H fun vs H1 => tk σ H1 fun zs H2 => vs.length = m ∧ zs.length = ks.length ∧ sp (gV vs zs) H2 Q (E σ)) := by
  refine ⟨fun pins s σ H Q I h => wpAny_Call_Name_kw (ld_glob I hg hm (PySem.W.callWith_KW (h₀ := X.base) I.ok.mod.kin hk hall (thn (ha.run pos pins s σ H _ I h) fun us s1 ⟨vs, H1, I1, r, q⟩ => ?_) hpl he) hdb)⟩
  refine thn (hkw.run pos pins s1 σ H1 _ I1 q) fun ws s2 ⟨zs, H2, I2, rz, n1, n2, q2⟩ => ⟨I2.kIn, ?_⟩; rw [hks]
  refine wpAny_call (codeAny_mono (F.run X.A X.stack s2 H2 _ (gg us ws) (gV vs zs) Q (E σ) hr hgd I2.env0 (hb.to s2 us ws I2.kIn (r.length.symm.trans n1) (rz.length.symm.trans n2)) (hb.rel r rz) q2) fun r s' hq => ?_)
  have z := endG (hx σ) I2 hq
  cases r with
  | error e => exact z
  | ok fl => cases fl <;> first | exact z | exact z.elim
/-- a method's call, as it is read -/
theorem meth_form {env : PySem.Env} {o : Expr} {m : Str} {apos pos : Pos} {args : List Expr} (hb : attributeBase o m env (eval o env) = eval o env) (hf : methodCallForm args.length (backTo pos (starEach args env)) (backToKw pos (keywordEach [] env)) = true) (hl : (apos.endLine == pos.line) = true) :
    eval (.Call (.Attribute o m apos) args [] pos) env = (do
      let ov ← eval o env
      standAt apos.atName
      let (f, first) ← holding [ov] (getMethod ov m (plainOf o env))
      callWith pos f first (backTo pos (starEach args env)) (backToKw pos (keywordEach [] env))) := by
  have hf' : methodCallForm (args.length + ([] : List Keyword).length) (backTo pos (starEach args env)) (backToKw pos (keywordEach [] env)) = true := hf
  rw [arm_eval_Call, hb]
  refine bind_congr fun ov => ?_
  refine bind_congr fun _ => ?_
  exact mcall_line hf' hl
section
variable {o : Expr} {to : TE} {m : Str} {apos pos : Pos} {e : Expr} {es : List Expr} {t : TA} {Ca : Addr}
/-- o.m(..), o an instance of the class at Ca -/
theorem pe_methG (F : FnG rp X.prog X.w X.K X.mg X.base C k f fd ps sp) (hr : Room k X.A) (hgd : rp = true → X.A.guards = some []) (c : Cls X.K Ca) (hm : Meth X.K Ca m f) (hb : Binds X.K fd ps []) (hx : ∀ σ, PassesAt C X σ (E σ)) (ho : PE X o to) (ha : PA X (e :: es) t)
    (hbase : attributeBase o m X.env (eval o X.env) = eval o X.env) (hf : methodCallForm (e :: es).length (backTo pos (starEach (e :: es) X.env)) (backToKw pos (keywordEach [] X.env)) = true) (hl : (apos.endLine == pos.line) = true)
    (he : starEach (e :: es) X.env = (false, eval e X.env) :: starEach es X.env) (hpl : (backTo pos (starEach es X.env)).any (·.1) = false) :
    PE X (.Call (.Attribute o m apos) (e :: es) [] pos) (fun σ H Q => to σ H fun x H1 => ∃ a dx fs, x = .ref a ∧ H1 a = some (.ins Ca dx fs) ∧ fs.lookup m = none ∧ t σ H1 fun vs H2 => sp (.ref a :: vs) H2 Q (E σ)) := by
  refine ⟨fun pins s σ H Q I h => ?_⟩
  refine PySem.W.methodCall_KW (thn (ho.run pins s σ H _ I h) fun u s1 ⟨x, H1, I1, rx, a, dx, fs, ex, ea, l, q⟩ => ?_) (meth_form hbase hf hl)
  subst ex
  obtain rfl : u = Value.ref a := rx
  refine getmeth_ok I1 ea c hm l ?_
  refine PySem.W.callWith_K (first := [.ref a]) (h₀ := X.base) I.ok.mod.kin hm.kp (thn (ha.run pos pins s1 σ H1 _ I1 q) fun us s2 ⟨vs, H2, I2, r, q2⟩ => ⟨I2.kIn, ?_⟩) he hpl
  exact goG (us := .ref a :: us) (vs := .ref a :: vs) F hr hgd hb (hx σ) I2 (.cons rfl r) q2
/-- o.m() -/
theorem pe_meth0G (F : FnG rp X.prog X.w X.K X.mg X.base C k f fd ps sp) (hr : Room k X.A) (hgd : rp = true → X.A.guards = some []) (c : Cls X.K Ca) (hm : Meth X.K Ca m f) (hb : Binds X.K fd ps []) (hx : ∀ σ, PassesAt C X σ (E σ)) (ho : PE X o to)
    (hbase : attributeBase o m X.env (eval o X.env) = eval o X.env) (hl : (apos.endLine == pos.line) = true) :
    PE X (.Call (.Attribute o m apos) [] [] pos) (fun σ H Q => to σ H fun x H1 => ∃ a dx fs, x = .ref a ∧ H1 a = some (.ins Ca dx fs) ∧ fs.lookup m = none ∧ sp [.ref a] H1 Q (E σ)) := by
  refine ⟨fun pins s σ H Q I h => ?_⟩
  refine PySem.W.methodCall_KW (thn (ho.run pins s σ H _ I h) fun u s1 ⟨x, H1, I1, rx, a, dx, fs, ex, ea, l, q⟩ => ?_) (meth_form hbase rfl hl)
  subst ex
  obtain rfl : u = Value.ref a := rx
  refine getmeth_ok I1 ea c hm l ?_
  exact PySem.W.callWith_K0 (first := [.ref a]) I1.kIn hm.kp (goG (us := [.ref a]) (vs := [.ref a]) F hr hgd hb (hx σ) I1 (.cons rfl .nil) q)
/-- x(..), x a class: a new instance, then its __init__ -/
theorem pe_makeG {x : Str} {p : Pos} (M : Mk X.K Ca f) (F : FnG rp X.prog X.w X.K X.mg X.base C k f fd ps sp) (hr : Room (k + 1) X.A) (hgd : rp = true → X.A.guards = some []) (hg : Gl X x) (hm : X.mg x = some (.ref Ca)) (hb : Binds X.K fd ps []) (hx : ∀ σ, PassesAt C X σ (E σ))
    (ha : PA X (e :: es) t) (hdb : (x == ("__debug__" : Str)) = false) (he : starEach (e :: es) X.env = (false, eval e X.env) :: starEach es X.env) (hpl : (backTo pos (starEach es X.env)).any (·.1) = false) :
    PE X (.Call (.Name x p) (e :: es) [] pos) (fun σ H Q => t σ H fun vs H1 => ∀ y dx, H1 y = none → H1 dx = none → dx ≠ y →
      sp (.ref y :: vs) (upd (upd H1 dx (.own y)) y (.ins Ca dx [])) (fun v H2 => v = .non ∧ Q (.ref y) H2) (E σ)) := by
  refine ⟨fun pins s σ H Q I h => ?_⟩
  refine wpAny_Call_Name_kw (ld_glob I hg hm ?_ hdb)
  refine PySem.W.callWith_K (h₀ := X.base) I.ok.mod.kin M.kp (thn (ha.run pos pins s σ H _ I h) fun us s1 ⟨vs, H1, I1, r, q⟩ => ⟨I1.kIn, ?_⟩) he hpl
  have hq := q (s1.heap.objs.size + 1) s1.heap.objs.size (I1.hok.fresh (Nat.le_succ _)) (I1.hok.fresh (Nat.le_refl _)) (Nat.ne_of_lt (Nat.lt_succ_self _))
  have I2 := Inv.made (C := Ca) I1
  have r2 : Vals (V.ref (s1.heap.objs.size + 1) :: vs) (Value.ref (s1.heap.objs.size + 1) :: us) := .cons rfl r
  have hl : (Value.ref (s1.heap.objs.size + 1) :: us).length = ps.length := by rw [← r2.length]; exact F.len _ _ _ _ hq
  have b := hb _ (Value.ref (s1.heap.objs.size + 1) :: us) I2.kIn (by rw [List.append_nil]; exact hl)
  rw [List.append_nil] at b
  refine wpAny_call (make_map (f := f) I1.kIn M.makes M.init (beq_iff_eq.mp M.fn) (codeAny_mono (F.run _ X.stack _ _ ⟨Value.ref (s1.heap.objs.size + 1) :: us, []⟩ _ _ _ (E σ) (hr.make Ca us []) (fun z => ?_) (I2.env0.make Ca us []) b r2 hq) fun r s' hq' => ?_))
  · have := hgd z
    first
      | exact this
      | (simpa [Around.under] using this)
  · have z := endG (hx σ) I2 hq'
    cases r with
    | error e => exact z
    | ok fl =>
      cases fl with
      | ret u =>
        obtain ⟨v, H', I3, rv, ev, q3⟩ := z
        subst ev
        exact ⟨rv, ⟨V.ref (s1.heap.objs.size + 1), H', I3, rfl, q3⟩⟩
      | next => exact z.elim
      | brk => exact z.elim
      | cont => exact z.elim
end
end
section
variable {P : Program} {w : World} {K : PySem.W.Frag} {mg : Str → Option Value} {base : Heap} {rp : Bool}
/-- a def keeps its promise, by its body -/
theorem fnG_ok {x qual : Str} {st : Stmt} {f : Addr} {fd : FuncData} {N ps : List Str} {k : Nat} {sp : Sp} (F : Fun K x qual st f fd) (S : FnScope N ps (defScope st)) (len : ∀ vs H Q E, sp vs H Q E → vs.length = ps.length)
    (hbody : ∀ (cdv : Value) (A : Around) (outer : List PySem.Env) (s : Shared) (H : Hp) (vs : List V) (Q : VK) (E : XK), Room k (A.deeper (envOfC qual (defScope st) s.heap.objs.size f cdv)) → (rp = true → A.guards = some []) → Mod K mg base → sp vs H Q E →
      ∃ t, PSs (cxOf (L2.CX P w) P w K mg base N qual (defScope st) f cdv A outer s H E) (defBody st) t ∧ t { nx := fun _ H' => Q .non H', rt := Q } (L2.start N vs) H) : FnG rp P w K mg base (L2.CX P w) (k + 1) f fd ps sp := by
  obtain ⟨oc, od, kV, doc, pm, an, cdv, ct, osl, rfl, lk, hcd⟩ := F.ex
  refine ⟨len, fun A outer s H args us vs Q E hr hgd e0 hb r hsp => ?_⟩
  have hl := len _ _ _ _ hsp; have KX : K.In s.heap := e0.mod.kin.keeps fun b o e => (e0.bs b o e).1; have lim : s.heap.NoLimit := e0.mod.nolimit.keeps fun b o e => (e0.bs b o e).1
  refine codeAny_call_function hr.depth (KX _ _ lk) rfl S.co S.gen rfl (PySem.W.codeRec_of KX hcd) (hb _ _ _ _ (wpAny_newFunctionEnv_cells S.kind (fun ⟨n, v⟩ hy => ?_) fun env he s1 x => ?_))
  · exact (S.par n (List.of_mem_zip hy).1).imp id fun q => ⟨q, PySem.W.cellsFrom_some _ _ _ (.inl q)⟩
  subst he
  obtain ⟨t, ht, hq⟩ := hbody cdv A outer s H vs Q E (hr.deeper _) hgd e0.mod hsp
  have I : Inv (cxOf (L2.CX P w) P w K mg base N qual (defScope st) f cdv A outer s H E) [] (L2.start N vs) H s1 := inv_start S hr.hd e0 hl r x
  refine ⟨lim.keeps x.toInCall.keep, codeAny_func (wpAny_mono (ht.run [] s1 (L2.start N vs) H _ I hq) (fun fl s' hs => ?_) fun e s' hs => hs)⟩
  cases fl with
  | ret u => obtain ⟨v, σ', H', J, rv, q⟩ := hs; exact ⟨v, H', J.os, J.bare, J.base, J.hok, rv, q⟩
  | next => obtain ⟨σ', H', J, q⟩ := hs; exact ⟨V.non, H', J.os, J.bare, J.base, J.hok, rfl, q⟩
  | _ => exact (hs.elim fun _ h => h.elim fun _ h => h.elim fun _ h => h).elim
end
/-- the law's call -/
theorem lawG {rp : Bool} {P : Program} {w : World} {K : PySem.W.Frag} {mg mb : Str → Option Value} {C : CXT} {k : Nat} {fa a : Addr} {fd : FuncData} {x : Str} {sp : Sp} {s₁ : Shared} {vs : List Value} {ns : List Int}
    (KX : K.In s₁.heap) (hns : s₁.heap.Ns mainGlobals mg) (hb : s₁.heap.Ns builtinsNs mb) (hbb : ∀ x : Str, x ≠ "__name__" → mb x = bootBuiltins x) (hlim : s₁.heap.NoLimit) (hg : s₁.gens = #[]) (ha : s₁.heap.get? a = some { cls := .type "list", data := .seq vs.toArray }) (hi : IntsAre vs ns)
    (hl : ns.length ≤ sizeLine) (hr : Room k callerA) (F : ∀ base : Heap, K.In base → base.Ns mainGlobals mg → FnG rp P w K mg base C k fa fd [x] sp) (hbind : ∀ (s : Shared) (u : Value), BindsTo s fd ⟨[u], []⟩ [(x, u)])
    (hsp : ∀ H : Hp, Only H → SqL K H a (ns.map V.int) → sp [.ref a] H (fun v _ => v = .bl true) fun _ _ _ => False) (hCX : ∀ H e s', C [] H s₁ (fun _ _ _ => False) e s' → False) :
    codeAny (model P w) callerA (.call (.ref fa) ⟨[.ref a], []⟩) (fun r s' => r = .ok (.ret (.bool true)) ∧ OldK s₁.heap s'.heap ∧ s'.os = s₁.os ∧ AllBare s'.gens) s₁ := by
  have rv := vals_ints hi; have lenV := hi.length
  have nob : ∀ {b : Addr}, b ∉ frs ([] : List PySem.Env) := fun z => absurd (show _ ∈ ([] : List Addr) from z) (by simp)
  have core : ∀ H : Hp, Only H → SqL K H a (ns.map V.int) → HOk P w H s₁.heap → (∀ b, H b ≠ none → b = a) → (H a ≠ none → K.lookup a = none) →
      codeAny (model P w) callerA (.call (.ref fa) ⟨[.ref a], []⟩) (fun r s' => r = .ok (.ret (.bool true)) ∧ OldK s₁.heap s'.heap ∧ s'.os = s₁.os ∧ AllBare s'.gens) s₁ := by
    intro H hO hS hok hA hK
    have none_of : ∀ {b : Addr}, (b = a → H b ≠ none → False) → H b = none := fun {b} h => Classical.byContradiction fun q => h (hA b q) q
    have nsK : ∀ {b : Addr} {m : Str → Option Value}, s₁.heap.Ns b m → (hidT s₁.heap H).Ns b m := fun {b m} ⟨o, es, ep, e, d, r⟩ => ⟨o, es, ep, hidT_get e (none_of fun z _ => by
      rw [z, ha] at e; cases e; cases (show Data.seq vs.toArray _ = Data.dict es ep from d)), d, r⟩
    have hKb : K.In (hidT s₁.heap H) := fun b o e => hidT_get (KX b o e) (none_of fun z q => by rw [z] at e q; rw [hK q] at e; cases e)
    have e0 : Env0 P w K mg (hidT s₁.heap H) callerA [] s₁ H :=
      ⟨rfl, ⟨hKb, nsK hns, ⟨mb, nsK hb, hbb⟩, let ⟨mc, h1, h2⟩ := hlim; ⟨mc, nsK h1, h2⟩⟩, fun b o e => of_hidT e, Nat.le_of_eq (hidT_size _ _), trivial, fun b hb => (nob hb).elim, hok, .of_eq hg⟩
    refine codeAny_mono ((F _ hKb (nsK hns)).run callerA [] s₁ H ⟨[.ref a], []⟩ [.ref a] [.ref a] _ _ hr (fun _ => rfl) e0 (hbind s₁ (.ref a)) (.cons rfl .nil) (hsp H hO hS)) fun r s' h => ?_
    cases r with
    | error e => exact (hCX H e s' h).elim
    | ok fl =>
      cases fl with
      | ret u =>
        obtain ⟨v, H', os, bare, un, hok', r', q⟩ := h
        obtain rfl : v = .bl true := q
        obtain rfl : u = Value.bool true := r'
        refine ⟨rfl, OldK.of_keep fun b o e => ?_, os, bare⟩
        cases q : H b with
        | none => exact un.keep b o e q nob (by simp)
        | some u =>
          rcases hO b with z | ⟨ob, xs, z⟩
          · rw [q] at z; cases z
          · obtain ⟨e1, _⟩ := hok b _ z
            obtain ⟨e2, _⟩ := hok' b _ (un.frzs b ob _ z)
            rw [e] at e1; cases e1; exact e2
      | _ => exact h.elim
  cases hk : K.lookup a with
  | some o =>
    have e := KX a o hk
    rw [ha] at e; cases e
    exact core (fun _ => none) (fun _ => .inl rfl) (.inr ⟨_, vs.toArray, _, hk, rfl, rfl, rfl, by rw [List.size_toArray, lenV]; exact hl, by simpa using rv⟩) (fun b u z => by cases (show (none : Option HO) = some u from z)) (fun b z => absurd rfl z) fun z => absurd rfl z
  | none =>
    refine core (fun b => if b = a then some (.frz { cls := .type "list", data := .seq vs.toArray } (.lst (ns.map V.int))) else none) (fun b => ?_) (.inl (.inr ⟨{ cls := .type "list", data := .seq vs.toArray }, if_pos rfl⟩)) (fun b u z => ?_) (fun b z => ?_) fun _ => hk
    · by_cases hb : b = a
      · exact .inr ⟨_, _, if_pos hb⟩
      · exact .inl (if_neg hb)
    · by_cases hb : b = a
      · subst hb
        cases (if_pos rfl : (if b = b then some (HO.frz { cls := .type "list", data := .seq vs.toArray } (.lst (ns.map V.int))) else none) = _).symm.trans z
        exact ⟨ha, by rw [List.length_map]; exact hl, vs, _, rv, ha⟩
      · cases (if_neg hb : (if b = a then some (HO.frz { cls := .type "list", data := .seq vs.toArray } (.lst (ns.map V.int))) else none) = _).symm.trans z
    · exact Classical.byContradiction fun hb => z (if_neg hb)
/-- the law's walk -/
theorem walk_ofG {rp : Bool} {l : PySem.W.OpenLaw} {n k : Nat} {q : Program} {loose : List Str} {XP : (Str → Option Value) → Heap → Prop} {YP : World → Heap → Prop} {d : DefRec} {K : Params → PySem.W.Frag} {C : World → CXT} {sp : World → Sp} {x : Str}
    (hn : l.most = some n) (hn2 : n ≤ sizeLine) (hdf : d.params.defaults = []) (hr : Room k callerA) (hY : ∀ (w : World) (h : Heap), YP w h → (K w.params).In h)
    (F : ∀ (w : World) (mg : Str → Option Value) (fa : Addr) (h : Heap), (K w.params).In h → h.Ns mainGlobals mg → mg d.name = some (.ref fa) →
      ∃ fd : FuncData, (∀ (s : Shared) (u : Value), BindsTo s fd ⟨[u], []⟩ [(x, u)]) ∧ ∀ base : Heap, (K w.params).In base → base.Ns mainGlobals mg → FnG rp l.prog w (K w.params) mg base (C w) k fa fd [x] (sp w))
    (hsp : ∀ (w : World) (H : Hp) (a : Addr) (ns : List Int), ns.length ≤ n → Only H → SqL (K w.params) H a (ns.map V.int) → sp w [.ref a] H (fun v _ => v = .bl true) fun _ _ _ => False)
    (hCX : ∀ (w : World) (H : Hp) (s : Shared) (e : Value) (s' : Shared), C w [] H s (fun _ _ _ => False) e s' → False) : PySem.W.WalkO q loose XP YP l.row.toRowW d [] (fun f vs => PySem.call f vs) := by
  refine Att.attach_call hn hdf fun w s₀ s₁ mg mb fa o pm cd doc a vs ns G Y ho hd hcd hmg hobj hints hlen hg => ?_
  obtain ⟨fd, hb, hF⟩ := F w mg fa _ (hY w _ Y) G.T.g hmg
  exact lawG (hY w _ Y) G.T.g G.T.b G.T.builtins G.T.nolimit hg hobj hints (Nat.le_trans hlen hn2) hr hF hb (fun H hO hS => hsp w H a ns hlen hO hS) fun H e s' => hCX w H s₁ e s'
end Px

set_option Elab.async false
set_option maxRecDepth 100000
set_option linter.all false
/-! Px7: an expression does what the intermediate form means. -/
namespace Px
open PySem L2

/-- a def's promise: it hands back what the interpreter's call hands back -/
def spF (gx : GX) (K : PySem.W.Frag) (w : World) (cl : Cl) (f : Nat) : Sp := fun vs H Q E => ∃ ι S ws, Sim K ι H S ∧ RWs K (u0 gx w) ι H vs ws ∧ Dst gx K ι H [] (fun c d _ H => E c d H) (RlV K (u0 gx w)) Q (cl f ws S)
/-- what an exception class must have -/
structure XcOk (K : PySem.W.Frag) (C : Addr) (f : Option Str) : Prop where
  ex : PySem.W.subIn K (.ref C) (.type "BaseException") = some true
  ty : PySem.W.typeIn K (.ref C) = some (.type "type")
  tx : f = none → L2.ExcC K C ∧ ∃ (bmB : List Value) (B newId initId : String), ExcBaseFacts B newId initId bmB ∧ PySem.W.excIn K C bmB newId = true
  fd : ∀ x, f = some x → XfC K C ∧ PySem.W.findIn K (.ref C) x = some none
/-- a class -/
structure ObOk (K : PySem.W.Frag) (x : Str) (fs : List Str) (C : Addr) : Prop where
  at_ : PySem.W.nsIn K mainGlobals x = some (some (.ref C))
  cls : Cls K C
  noa : ∀ f ∈ fs, NoAttr K C f
structure GOk (C : CXT) (P : Program) (w : World) (K : PySem.W.Frag) (mg : Str → Option Value) (base : Heap) (gx : GX) (g : Gd) (cl : Cl) (cs : List W) (n : Nat) : Prop where
  fns : ∀ (f : Nat) (x : Str), g.fn[f]? = some x → g.ko.contains f = false → ∃ (fa : Addr) (fd : FuncData) (ps : List Str), mg x = some (.ref fa) ∧ PySem.W.keepIn K (.ref fa) = true ∧ Binds K fd ps [] ∧ FnG g.rp P w K mg base C (3 * n) fa fd ps (spF gx K w cl f)
  cst : ∀ (j : Nat) (x : Str) (w' : W), g.cn[j]? = some x → cs[j]? = some w' → ∃ u v, mg x = some u ∧ RelV v u ∧ ∀ xp gx ι H, RW K ⟨w, xp, gx⟩ ι H v w'
  bi : ∀ b, mg (biN b) = none
  kws : ∀ (f : Nat) (x : Str) (m : Nat) (kn : List Str) (mp : List (Sum Nat PyData)), g.fn[f]? = some x → (f, m, kn, mp) ∈ g.kw → ∃ (fa : Addr) (fd : FuncData) (ps : List Str) (gg : List Value → List Value → List Value) (gV : List V → List V → List V),
    mg x = some (.ref fa) ∧ PySem.W.keepIn K (.ref fa) = true ∧ KBn K fd ps m kn gg gV ∧ FnG g.rp P w K mg base C (3 * n) fa fd ps (spF gx K w cl f) ∧
      ∀ ι H vs ws zs xs us, vs.length = m → zs.length = kn.length → RWs K (u0 gx w) ι H vs ws → RWs K (u0 gx w) ι H zs xs → pickK (ws ++ xs) mp = some us → RWs K (u0 gx w) ι H (gV vs zs) us
  isi : mg "isinstance" = none
  rng : mg "range" = none
  set : mg "set" = none
  zip : mg "zip" = none
  enu : mg "enumerate" = none
  ty : ∀ t, mg (tyN t) = none
  xc : ∀ (c : Nat) (x : Str), g.xn[c]? = some x → ∃ Ca f, gx[c]? = some (Ca, f) ∧ g.xf[c]? = some f ∧ mg x = some (.ref Ca) ∧ PySem.W.keepIn K (.ref Ca) = true ∧ XcOk K Ca f
  xs : ∀ (c k : Nat) (tab : List Bool) (b : Bool) (Cc Ck : Addr) (fc fk : Option Str), g.xt[c]? = some tab → tab[k]? = some b → gx[c]? = some (Cc, fc) → gx[k]? = some (Ck, fk) → PySem.W.exmOne K (.ref Ck) (.ref Cc) = some b ∧ PySem.W.kitOne K (.ref Ck) (.ref Cc) = some b
  xl : gx.length = g.xn.length ∧ g.xf.length = g.xn.length
  oc : ∀ (x : Str) (fs : List Str), g.oc.lookup x = some fs → ∃ Ca, ObOk K x fs Ca ∧ mg x = some (.ref Ca)
  mt : ∀ (f : Nat) (x m : Str), (f, x, m) ∈ g.mt → ∃ (Ca fa : Addr) (fd : FuncData) (ps : List Str), PySem.W.nsIn K mainGlobals x = some (some (.ref Ca)) ∧ Meth K Ca m fa ∧ Binds K fd ps [] ∧ FnG g.rp P w K mg base C (3 * n) fa fd ps (spF gx K w cl f)
  mi : ∀ (f : Nat) (x : Str), (f, x) ∈ g.mi → ∃ (Ca fa : Addr) (fd : FuncData) (ps : List Str), PySem.W.nsIn K mainGlobals x = some (some (.ref Ca)) ∧ Mk K Ca fa ∧ Binds K fd ps [] ∧ FnG g.rp P w K mg base C (3 * n) fa fd ps (spF gx K w cl f)
  fv : ∀ (x : Str), g.fv.contains x = true → ∃ fa, mg x = some (.ref fa) ∧ PySem.W.nsIn K mainGlobals x = some (some (.ref fa))
structure Rn (X : Cx) (sc : Sc) (n : Nat) : Prop where
  hu : X.A.units + 100 < cLine
  cm : sc.hot = false → X.calm = true
  nd : X.N.Nodup
  N : X.N = sc.N
  vis : ∀ x, sc.vis x = true → Vis X.env.scope x
  gl : ∀ x, sc.glo x = true → Gl X x
  own : ∀ x, sc.own x = true → Loc X.env.scope x ∧ (X.fn x = true ∨ X.env.scope.names.lookup x = some .local)
  cf : ∀ x, (sc.nm.lookup x = some .cell ∨ sc.nm.lookup x = some .free) → (X.env.scope.names.lookup x = some .cell ∨ X.env.scope.names.lookup x = some .free)
  room : sc.hot = false → Room (3 * n + 2) X.A
  fk : X.env.scope.kind = .function
  loc : ∀ x, sc.nm.lookup x = some .local → X.env.scope.names.lookup x = some .local
  cel : ∀ x, sc.nm.lookup x = some .cell → X.env.scope.names.lookup x = some .cell
section
variable {gx : GX} {X : Cx} {ι : List Addr} {H : Hp} {S : Store} {σ : St} {Wx : WX}
theorem asB_r {α : Type} (r : R α) (f : α → Store → R W) : asB (r.bind f) = r.bind fun a S => asB (f a S) := by cases r <;> rfl
/-- two expressions in a row -/
theorem two_steps {β γ : Type} {a b : Expr} {ra : R W} {fb : Store → R W} {f : W → W → Store → R γ} {Rl' : List Addr → Hp → β → γ → Prop} {Q' : β → Hp → Prop} {Fin : V → V → Hp → Prop}
    (ha : ∀ Q, Dst gx X.K ι H σ Wx (RlV X.K (ux gx X)) Q ra → WpE X a σ H Q)
    (hb : ∀ ι1 H1 S1, Lt ι ι1 H H1 → Sim X.K ι1 H1 S1 → ∀ Q, Dst gx X.K ι1 H1 σ Wx (RlV X.K (ux gx X)) Q (fb S1) → WpE X b σ H1 Q)
    (hf : ∀ ι2 H2 S2 x y wx wy, Lt ι ι2 H H2 → Sim X.K ι2 H2 S2 → RW X.K (ux gx X) ι2 H2 x wx → RW X.K (ux gx X) ι2 H2 y wy → Dst gx X.K ι2 H2 σ Wx Rl' Q' (f wx wy S2) → Fin x y H2)
    (h : Dst gx X.K ι H σ Wx Rl' Q' (ra.bind fun x S1 => (fb S1).bind fun y S2 => f x y S2)) :
    WpE X a σ H (fun x H1 => WpE X b σ H1 (fun y H2 => Fin x y H2)) := by
  refine (ha _ h.bind).mono ?_
  rintro x H1 ⟨ι1, S1, wx, l1, s1, rx, h1⟩
  refine (hb ι1 H1 S1 l1 s1 _ h1.bind).mono ?_
  rintro y H2 ⟨ι2, S2, wy, l2, s2, ry, h2⟩
  exact hf ι2 H2 S2 x y wx wy (l1.trans l2) s2 (rx.mono l2) ry h2
theorem one_step {β γ : Type} {a : Expr} {ra : R W} {f : W → Store → R γ} {Rl' : List Addr → Hp → β → γ → Prop} {Q' : β → Hp → Prop} {Fin : V → Hp → Prop}
    (ha : ∀ Q, Dst gx X.K ι H σ Wx (RlV X.K (ux gx X)) Q ra → WpE X a σ H Q)
    (hf : ∀ ι2 H2 S2 x wx, Lt ι ι2 H H2 → Sim X.K ι2 H2 S2 → RW X.K (ux gx X) ι2 H2 x wx → Dst gx X.K ι2 H2 σ Wx Rl' Q' (f wx S2) → Fin x H2)
    (h : Dst gx X.K ι H σ Wx Rl' Q' (ra.bind f)) : WpE X a σ H (fun x H1 => Fin x H1) := by
  refine (ha _ h.bind).mono ?_
  rintro x H1 ⟨ι1, S1, wx, l1, s1, rx, h1⟩
  exact hf ι1 H1 S1 x wx l1 s1 rx h1
theorem one_stepA {β γ : Type} {es : List Expr} {ra : R (List W)} {f : List W → Store → R γ} {Rl' : List Addr → Hp → β → γ → Prop} {Q' : β → Hp → Prop} {Fin : List V → Hp → Prop}
    (ha : ∀ Q, Dst gx X.K ι H σ Wx (RlA X.K (ux gx X)) Q ra → WpA X es σ H Q)
    (hf : ∀ ι2 H2 S2 x wx, Lt ι ι2 H H2 → Sim X.K ι2 H2 S2 → RWs X.K (ux gx X) ι2 H2 x wx → Dst gx X.K ι2 H2 σ Wx Rl' Q' (f wx S2) → Fin x H2)
    (h : Dst gx X.K ι H σ Wx Rl' Q' (ra.bind f)) : WpA X es σ H (fun x H1 => Fin x H1) := by
  refine (ha _ h.bind).mono ?_
  rintro x H1 ⟨ι1, S1, wx, l1, s1, rx, h1⟩
  exact hf ι1 H1 S1 x wx l1 s1 rx h1
theorem one_stepT {β γ : Type} {a : Expr} {ra : R Bool} {f : Bool → Store → R γ} {Rl' : List Addr → Hp → β → γ → Prop} {Q' : β → Hp → Prop} {Fin : Bool → Hp → Prop}
    (ha : ∀ Q, Dst gx X.K ι H σ Wx RlB Q ra → WpT X a σ H Q)
    (hf : ∀ ι2 H2 S2 b, Lt ι ι2 H H2 → Sim X.K ι2 H2 S2 → Dst gx X.K ι2 H2 σ Wx Rl' Q' (f b S2) → Fin b H2)
    (h : Dst gx X.K ι H σ Wx Rl' Q' (ra.bind f)) : WpT X a σ H (fun x H1 => Fin x H1) := by
  refine (ha _ h.bind).mono ?_
  rintro x H1 ⟨ι1, S1, wx, l1, s1, rfl, h1⟩
  exact hf ι1 H1 S1 _ l1 s1 h1
/-- a value's truth as a test -/
theorem tst_T {e : Expr} {r : R W} (he : ∀ whole, isTrue e X.env whole = (do let v ← whole; standAt e.pos; holding [v] (truthy v)))
    (hv : ∀ Q, Dst gx X.K ι H σ Wx (RlV X.K (ux gx X)) Q r → WpE X e σ H Q) {Q : Bool → Hp → Prop} (h : Dst gx X.K ι H σ Wx RlB Q (asB (tst true r))) : WpT X e σ H Q := by
  refine WpT.of (pt_truth pe_wp he) ?_
  have h' : Dst gx X.K ι H σ Wx RlB Q (r.bind fun w S => (asB (match view S w with | some d => optB S (truD d) | none => .stuck))) := by
    rw [← asB_r]; exact h
  refine one_step hv (fun ι2 H2 S2 x wx l2 s2 rx h2 => ?_) h'
  cases e1 : view S2 wx with
  | none => rw [e1] at h2; exact h2.elim
  | some d =>
    rw [e1] at h2
    simp only at h2
    cases e2 : truD d with
    | none => rw [e2] at h2; exact h2.elim
    | some k =>
      rw [e2] at h2
      exact ⟨k, tru_wp s2 rx e1 e2, h2 ι2 H2 k (.refl _ _) s2 rfl⟩
theorem tst_F {r : R W} : tst false r = r := rfl
/-- from the value's case both cases, for an expression whose test is its value's truth -/
theorem both {e : Expr} {r : R W} (he : ∀ whole, isTrue e X.env whole = (do let v ← whole; standAt e.pos; holding [v] (truthy v)))
    (hv : ∀ Q, Dst gx X.K ι H σ Wx (RlV X.K (ux gx X)) Q r → WpE X e σ H Q) :
    (∀ Q, Dst gx X.K ι H σ Wx (RlV X.K (ux gx X)) Q (tst false r) → WpE X e σ H Q) ∧ (∀ Q, Dst gx X.K ι H σ Wx RlB Q (asB (tst true r)) → WpT X e σ H Q) :=
  ⟨hv, fun Q h => tst_T he hv h⟩
/-- a comparison's result -/
theorem asB_optB (o : Option Bool) (S : Store) : asB (optB S o) = (match o with | some b => .ok b S | none => .stuck) := by cases o <;> rfl
theorem dst_optB {o : Option Bool} {Q : Bool → Hp → Prop} (h : Dst gx X.K ι H σ Wx RlB Q (asB (optB S o))) : Dst gx X.K ι H σ Wx (RlV X.K (ux gx X)) (fun v H' => ∃ k, v = .bl k ∧ Q k H') (optB S o) := by
  cases o with
  | none => exact h
  | some b =>
    intro ι' H' v l s r
    cases r
    exact ⟨b, rfl, h ι' H' b l s rfl⟩
end

section
variable {gx : GX} {X : Cx} {ι : List Addr} {H : Hp} {S : Store} {σ : St} {Wx : WX}
theorem Dst.callee {Q : VK} {r : R W} {K : PySem.W.Frag} {w : Ws} (h : Dst gx K ι H σ Wx (RlV K w) Q r) : Dst gx K ι H [] (fun c d _ H => Wx c d σ H) (RlV K w) Q r := by
  cases r with
  | ok a S => exact h
  | exc e S => exact h
  | stuck => exact h
theorem Rn.o {n : Nat} {sc : Sc} (R : Rn X sc n) (h : sc.hot = false) : CxO X := ⟨R.cm h, R.hu⟩
/-- a call's result in the caller's hands -/
theorem Dst.back {gx : GX} {Q : VK} {r : R W} (hc : X.calm = true) {Wx' : WX} {σ' : St} (h : Dst gx X.K ι H σ' Wx' (RlV X.K (ux gx X)) Q r) : Dst gx X.K ι H σ' Wx' (RlV X.K (u0 gx X.w)) Q r := by
  cases r with
  | ok a S => exact fun ι' H' b l s q => h ι' H' b l s (RW.to (w1 := u0 gx X.w) (w2 := ux gx X) rfl (fun _ _ _ z => z) q)
  | exc e S => exact h
  | stuck => exact h
theorem starEach_plain {e : Expr} {es : List Expr} {env : PySem.Env} (h : ∀ v p, e ≠ .Starred v p) : starEach (e :: es) env = (false, eval e env) :: starEach es env := by
  cases e <;> first | rfl | exact absurd rfl (h _ _)
theorem chkE_plain' {g : Gd} {sc : Sc} : ∀ (ie : E) {v : Expr} {p : Pos}, chkE g sc ie (.Starred v p) = true → False
  | .frz a, v, p, h => chkE_plain' a (by simpa only [chkE] using h)
  | .k _, _, _, h => by simp [chkE] at h
  | .v _, _, _, h => by simp [chkE] at h
  | .g _, _, _, h => by simp [chkE] at h
  | .bin _ _ _ _, _, _, h => by simp [chkE] at h
  | .un _ _, _, _, h => by simp [chkE] at h
  | .boo _ _, _, _, h => by simp [chkE] at h
  | .cmp _ _ _, _, _, h => by simp [chkE] at h
  | .ch _ _ _ _ _, _, _, h => by simp [chkE] at h
  | .ife _ _ _, _, _, h => by simp [chkE] at h
  | .tup _, _, _, h => by simp [chkE] at h
  | .lst _ _, _, _, h => by simp [chkE] at h
  | .dct _ _ _, _, _, h => by simp [chkE] at h
  | .sub _ _, _, _, h => by simp [chkE] at h
  | .slc _ _ _ _, _, _, h => by simp [chkE] at h
  | .rev _, _, _, h => by simp [chkE] at h
  | .call _ _, _, _, h => by simp [chkE] at h
  | .callK _ _ _ _ _, _, _, h => by simp [chkE] at h
  | .bi _ _ _, _, _, h => by simp [chkE] at h
  | .me _ _ _, _, _, h => by simp [chkE] at h
  | .isi _ _, _, _, h => by simp [chkE] at h
  | .lc _ _ _ _ _, _, _, h => by simp [chkE] at h
  | .stk, _, _, h => by simp [chkE] at h
  | .sset _ _, _, _, h => by simp [chkE] at h
theorem chkE_noslice' {g : Gd} {sc : Sc} : ∀ (ie : E) {a b c : Option Expr} {p : Pos}, chkE g sc ie (.Slice a b c p) = true → False
  | .frz a, _, _, _, p, h => chkE_noslice' a (by simpa only [chkE] using h)
  | .k _, _, _, _, _, h => by simp [chkE] at h
  | .v _, _, _, _, _, h => by simp [chkE] at h
  | .g _, _, _, _, _, h => by simp [chkE] at h
  | .bin _ _ _ _, _, _, _, _, h => by simp [chkE] at h
  | .un _ _, _, _, _, _, h => by simp [chkE] at h
  | .boo _ _, _, _, _, _, h => by simp [chkE] at h
  | .cmp _ _ _, _, _, _, _, h => by simp [chkE] at h
  | .ch _ _ _ _ _, _, _, _, _, h => by simp [chkE] at h
  | .ife _ _ _, _, _, _, _, h => by simp [chkE] at h
  | .tup _, _, _, _, _, h => by simp [chkE] at h
  | .lst _ _, _, _, _, _, h => by simp [chkE] at h
  | .dct _ _ _, _, _, _, _, h => by simp [chkE] at h
  | .sub _ _, _, _, _, _, h => by simp [chkE] at h
  | .slc _ _ _ _, _, _, _, _, h => by simp [chkE] at h
  | .rev _, _, _, _, _, h => by simp [chkE] at h
  | .call _ _, _, _, _, _, h => by simp [chkE] at h
  | .callK _ _ _ _ _, _, _, _, _, h => by simp [chkE] at h
  | .bi _ _ _, _, _, _, _, h => by simp [chkE] at h
  | .me _ _ _, _, _, _, _, h => by simp [chkE] at h
  | .isi _ _, _, _, _, _, h => by simp [chkE] at h
  | .lc _ _ _ _ _, _, _, _, _, h => by simp [chkE] at h
  | .stk, _, _, _, _, h => by simp [chkE] at h
  | .sset _ _, _, _, _, _, h => by simp [chkE] at h
theorem chkE_plain {g : Gd} {sc : Sc} {ie : E} {v : Expr} {p : Pos} (h : chkE g sc ie (.Starred v p) = true) : False := chkE_plain' ie h
theorem chkE_noslice {g : Gd} {sc : Sc} {ie : E} {a b c : Option Expr} {p : Pos} (h : chkE g sc ie (.Slice a b c p) = true) : False := chkE_noslice' ie h
theorem plainIx {e : Expr} (h : ∀ a b c p, e ≠ .Slice a b c p) : PlainIx e := by
  intro o i
  cases e <;> first | rfl | exact absurd rfl (h _ _ _ _)
theorem plain_args {g : Gd} {sc : Sc} {env : PySem.Env} {pos : Pos} : ∀ {as : Es} {es : List Expr}, chkEs g sc as es = true → (starEach es env).any (·.1) = false
  | .nil, es, h => by simp only [chkEs] at h; split at h <;> first | rfl | cases h
  | .cons a r, es, h => by
    simp only [chkEs] at h
    split at h
    · rename_i e es
      rw [Bool.and_eq_true] at h
      rw [starEach_plain (fun v p z => by subst z; exact chkE_plain h.1), List.any_cons, plain_args (pos := pos) h.2]; rfl
    · cases h
  | .star _ _, es, h => by simp [chkEs] at h
theorem back_any {pos : Pos} (l : List (Bool × Sem Value)) : (backTo pos l).any (·.1) = l.any (·.1) := by
  unfold backTo
  rw [List.any_map]; rfl
theorem back_all {pos : Pos} (l : List (Bool × Sem Value)) : (backTo pos l).all (fun x => !x.1) = !(l.any (·.1)) := by
  unfold backTo
  rw [List.all_map]
  induction l with
  | nil => rfl
  | cons a r ih => rw [List.all_cons, List.any_cons, Bool.not_or, ← ih]; rfl
theorem base_of {o : Expr} {name : Str} {env : PySem.Env} (h : isCall0 o = false) : attributeBase o name env (eval o env) = eval o env := by
  unfold attributeBase
  split
  · simp [isCall0] at h
  · rfl
theorem biV_boot (b : Bi) : bootBuiltins (biN b) = some (biV b) := by cases b <;> decide +kernel
theorem biN_ok (b : Bi) : biN b ≠ "__name__" := by cases b <;> decide +kernel
theorem pe_biV {b : Bi} {r : List V → Hp → VK → Prop} {p pos : Pos} {e : Expr} {es : List Expr} {t : TA} (hc : CallR X (biV b) r) (hg : Gl X (biN b)) (hm : X.mg (biN b) = none) (ha : PA X (e :: es) t)
    (hdb : (biN b == ("__debug__" : Str)) = false) (he : starEach (e :: es) X.env = (false, eval e X.env) :: starEach es X.env) (hpl : (backTo pos (starEach es X.env)).any (·.1) = false) : PE X (.Call (.Name (biN b) p) (e :: es) [] pos) (tCB r t) := by
  have hv := biV_boot b
  cases b <;> first
    | exact pe_callB hc hg hm hv ha (biN_ok _) hdb he hpl
    | exact pe_callTy hc hg hm hv ha (biN_ok _) hdb he hpl
end
end Px

set_option Elab.async false
set_option maxRecDepth 100000
set_option linter.all false
set_option maxHeartbeats 1000000
/-! Px8: every expression. -/
namespace Px
open PySem L2

def dty : PyData → String
  | .none => "NoneType" | .bool _ => "bool" | .int _ => "int" | .str _ => "str" | .list _ => "list" | .tuple _ => "tuple" | .dict _ => "dict"
def tyS : Ty → String
  | .int => "int" | .bool => "bool" | .str => "str" | .tuple => "tuple" | .list => "list" | .dict => "dict"
theorem kit_dt (d : PyData) (t : Ty) : kitB (dty d) (tyS t) = some (tyIs t d) := by
  cases d <;> cases t <;> simp only [dty, tyS, tyIs] <;> decide +kernel
section
variable {gx : GX} {X : Cx} {ι : List Addr} {H : Hp} {S : Store} {σ : St} {Wx : WX}
theorem tyX_of {v : V} {d : PyData} (h : Dq X.K H v d) : TyX X.K H v (.type (dty d)) := by
  cases h with
  | l h q => exact .base (.lst h)
  | p h =>
    cases h with
    | non => exact .base .non
    | bl b => exact .base (.bl b)
    | int i => exact .base (.int i)
    | str x _ => exact .base (.str x)
    | lst h q => exact .base (.frz h)
    | tup h q =>
      rcases h with (h | ⟨o, h⟩) | ⟨o, its, n, hk, hc, _⟩
      · exact .base (.tup h)
      · exact .fTuple h
      · exact .kTuple hk hc
    | dct h q => exact .fDict h
/-- isinstance(x, T) -/
theorem isi_ok {v : V} {d : PyData} {t : Ty} {Q : VK} (h : Dq X.K H v d) (q : Q (.bl (tyIs t d)) H) : WpCall X (.builtin "isinstance") [v, .ty (tyS t)] H Q :=
  .of call_isi ⟨v, _, _, _, _, rfl, .ty _, tyX_of h, kit_ty (kit_dt d t), q⟩
/-- what a loop or a comprehension walks: a list, a tuple, a text -/
def iAny (K : PySem.W.Frag) (tl : TE) : TI := fun σ H R => tl σ H fun x H1 => (∃ a xs, x = .ref a ∧ SqL K H1 a xs ∧ R (Itl K a) H1) ∨ (∃ a xs, x = .ref a ∧ SqT K H1 a xs ∧ R (Itt K a) H1) ∨ ∃ z, x = .str z ∧ R (Its z) H1
theorem pi_any {tg l : Expr} {tl : TE} (hl : PE X l tl) : PI X tg l (iAny X.K tl) := by
  refine ⟨fun pins s σ H R I h => ?_⟩
  refine thn (hl.run pins s σ H _ I h) fun v s1 ⟨x, H1, I1, r1, q1⟩ => ?_
  rcases q1 with ⟨a, xs, rfl, hq, q⟩ | ⟨a, xs, rfl, hq, q⟩ | ⟨z, rfl, q⟩
  · cases r1
    obtain ⟨its, rv, p, hz⟩ := I1.list hq
    refine wpAny_pyIter_list p.isList ?_
    refine ⟨s1.heap.objs.size, [s1.heap.objs.size], _, _, H1, rfl, I1.kept (t' := s1.toks) fun b o e => Heap.get?_push_of_some _ e, turn_list a _, ⟨_, Heap.get?_push_size _ rfl, rfl, rfl⟩, fun b hb => ?_, q⟩
    have e : b = s1.heap.objs.size := by simpa using hb
    subst e
    exact I1.fpOk (Nat.le_refl _) (I1.hok.fresh (Nat.le_refl _))
  · cases r1
    obtain ⟨its, rv, p, hz⟩ := I1.tuple hq
    refine wpAny_pyIter_tuple p ?_
    refine ⟨s1.heap.objs.size, [s1.heap.objs.size], _, _, H1, rfl, I1.kept (t' := s1.toks) fun b o e => Heap.get?_push_of_some _ e, turn_tuple a _, ⟨_, Heap.get?_push_size _ rfl, rfl, rfl⟩, fun b hb => ?_, q⟩
    have e : b = s1.heap.objs.size := by simpa using hb
    subst e
    exact I1.fpOk (Nat.le_refl _) (I1.hok.fresh (Nat.le_refl _))
  · obtain ⟨t, rfl⟩ := r1
    cases ha : z.cps.all (· < 128)
    · exact wpAny_pyIter_wide ha (pi_one (tk := s1.toks) I1 _ (turn_str _ z t "str_iterator" (.inr rfl)) ⟨_, Heap.get?_push_size _ rfl, rfl, rfl⟩ q)
    · exact wpAny_pyIter_ascii ha (pi_one (tk := s1.toks) I1 _ (turn_str _ z t "str_ascii_iterator" (.inl rfl)) ⟨_, Heap.get?_push_size _ rfl, rfl, rfl⟩ q)
/-- it yields these, place by place, whatever happens to the rest -/
def Yields (K : PySem.W.Frag) (J : L2.It) (H0 : Hp) (ds : List PyData) : Prop :=
  (∀ i H, Kp H0 H → i < ds.length → J.go i H) ∧ (∀ H, Kp H0 H → J.stop ds.length H) ∧
  ∀ i H x H' d, Kp H0 H → ds[i]? = some d → J.yld i H x H' → (H' = H ∨ ∃ p o, H p = none ∧ H' = upd H p o) ∧ Rp K H' x d
theorem yields_list {K : PySem.W.Frag} {a : Addr} {o : Obj} {vs : List V} {ds : List PyData} (h : H a = some (.frz o (.lst vs))) (r : RpAll K H vs ds) : Yields K (Itl K a) H ds := by
  have sq : ∀ H', Kp H H' → SqL K H' a vs := fun H' k => .inl (.inr ⟨o, k.f _ _ _ h⟩)
  refine ⟨fun i H' k hi => ?_, fun H' k => ⟨vs, sq H' k, by rw [r.length]; exact Nat.le_refl _⟩, fun i H' x H2 d k hd hy => ?_⟩
  · refine ⟨vs, vs[i]'(by rw [r.length]; exact hi), sq H' k, List.getElem?_eq_getElem _⟩
  · obtain ⟨v, h1, h2⟩ := r.get hd
    refine ⟨.inl hy.1, ?_⟩
    have := hy.2 vs (sq H' k)
    rw [h1] at this; cases this
    rw [hy.1]
    exact h2.mono k
theorem yields_tup {K : PySem.W.Frag} {a : Addr} {vs : List V} {ds : List PyData} (h : SqT K H a vs) (r : RpAll K H vs ds) : Yields K (Itt K a) H ds := by
  have sq : ∀ H', Kp H H' → SqT K H' a vs := fun H' k => k.sqT h
  refine ⟨fun i H' k hi => ?_, fun H' k => ⟨vs, sq H' k, by rw [r.length]; exact Nat.le_refl _⟩, fun i H' x H2 d k hd hy => ?_⟩
  · refine ⟨vs, vs[i]'(by rw [r.length]; exact hi), sq H' k, List.getElem?_eq_getElem _⟩
  · obtain ⟨v, h1, h2⟩ := r.get hd
    refine ⟨.inl hy.1, ?_⟩
    have := hy.2 vs (sq H' k)
    rw [h1] at this; cases this
    rw [hy.1]
    exact h2.mono k
theorem rangeL_len (lo : Int) : ∀ n, (rangeL lo n).length = n := by
  intro n
  induction n generalizing lo with
  | zero => rfl
  | succ n ih => simp [rangeL, ih]
theorem rangeL_get (lo : Int) : ∀ {n i : Nat} {d : PyData}, (rangeL lo n)[i]? = some d → d = .int (lo + i) := by
  intro n
  induction n generalizing lo with
  | zero => intro i d h; simp [rangeL] at h
  | succ n ih =>
    intro i d h
    cases i with
    | zero => simp [rangeL] at h; rw [← h]; simp
    | succ i =>
      have := ih (lo + 1) (i := i) (d := d) (by simpa [rangeL] using h)
      rw [this]; congr 1; push_cast; omega
theorem yields_range {K : PySem.W.Frag} {lo : Int} {n : Nat} : Yields K (Itr lo n) H (rangeL lo n) := by
  refine ⟨fun i H' _ hi => by rw [rangeL_len] at hi; exact hi, fun H' _ => by rw [rangeL_len]; exact Nat.le_refl _, fun i H' x H2 d k hd hy => ?_⟩
  have := rangeL_get lo hd
  subst this
  obtain ⟨h1, rfl⟩ := hy
  exact ⟨.inl h1, .int _⟩
theorem yields_str {K : PySem.W.Frag} {z : Str} : Yields K (Its z) H (z.cps.toList.map fun c => PyData.str ⟨#[c]⟩) := by
  refine ⟨fun i H' _ hi => by show i < z.cps.size; simpa using hi, fun H' _ => by show z.cps.size ≤ _; simp, fun i H' x H2 d k hd hy => ?_⟩
  obtain ⟨h1, c, h2, rfl⟩ := hy
  rw [List.getElem?_map] at hd
  have : z.cps.toList[i]? = some c := by simpa using h2
  rw [this] at hd
  cases hd
  exact ⟨.inl h1, .str _ (by show 1 ≤ sizeLine; decide)⟩
theorem zipD_len : ∀ {xs ys : List PyData}, (zipD xs ys).length = min xs.length ys.length
  | [], ys => by simp [zipD]
  | _ :: _, [] => by simp [zipD]
  | x :: xs, y :: ys => by simp only [zipD, List.length_cons, zipD_len (xs := xs) (ys := ys)]; omega
theorem zipD_get : ∀ {xs ys : List PyData} {i : Nat} {d : PyData}, (zipD xs ys)[i]? = some d → ∃ x y, xs[i]? = some x ∧ ys[i]? = some y ∧ d = .tuple [x, y]
  | [], ys, i, d, h => by simp [zipD] at h
  | _ :: _, [], i, d, h => by simp [zipD] at h
  | x :: xs, y :: ys, 0, d, h => by simp [zipD] at h; exact ⟨x, y, rfl, rfl, h.symm⟩
  | x :: xs, y :: ys, i + 1, d, h => by
    obtain ⟨a, b, h1, h2, h3⟩ := zipD_get (xs := xs) (ys := ys) (i := i) (by simpa [zipD] using h)
    exact ⟨a, b, by simpa using h1, by simpa using h2, h3⟩
theorem enumD_len : ∀ {xs : List PyData} {i : Nat}, (enumD i xs).length = xs.length
  | [], i => rfl
  | x :: xs, i => by simp only [enumD, List.length_cons, enumD_len]
theorem enumD_get : ∀ {xs : List PyData} {k i : Nat} {d : PyData}, (enumD k xs)[i]? = some d → ∃ x, xs[i]? = some x ∧ d = .tuple [.int ((k + i : Nat) : Int), x]
  | [], k, i, d, h => by simp [enumD] at h
  | x :: xs, k, 0, d, h => by simp [enumD] at h; exact ⟨x, rfl, h.symm⟩
  | x :: xs, k, i + 1, d, h => by
    obtain ⟨a, h1, h2⟩ := enumD_get (xs := xs) (k := k + 1) (i := i) (by simpa [enumD] using h)
    refine ⟨a, by simpa using h1, ?_⟩
    rw [h2]; congr 4; omega
theorem new_tup {K : PySem.W.Frag} {H : Hp} {T : Addr} {xs : List V} {ds : List PyData} (hT : H T = none) (r : RpAll K H xs ds) : Rp K (upd H T (.tup xs)) (.ref T) (.tuple ds) := .tup (.inl (.inl upd_same)) (r.mono (.new hT))
theorem yields_zipT {K : PySem.W.Frag} {a b : Addr} {us vs : List V} {xs ys : List PyData} (h : SqT K H a us) (r : RpAll K H us xs) (h' : SqT K H b vs) (r' : RpAll K H vs ys) : Yields K (RZ.ItzT K a b) H (zipD xs ys) := by
  refine ⟨fun i H' k hi => ?_, fun H' k => ⟨us, vs, k.sqT h, k.sqT h', by rw [r.length, r'.length, zipD_len]; omega⟩, fun i H' x H2 d k hd hy => ?_⟩
  · rw [zipD_len] at hi
    refine ⟨us, vs, us[i]'(by rw [r.length]; omega), vs[i]'(by rw [r'.length]; omega), k.sqT h, k.sqT h', List.getElem?_eq_getElem _, List.getElem?_eq_getElem _⟩
  · obtain ⟨dx, dy, h1, h2, rfl⟩ := zipD_get hd
    obtain ⟨T, x', y', rfl, hT, rfl, e1, e2⟩ := hy
    obtain ⟨vx, g1, g2⟩ := r.get h1
    obtain ⟨vy, g3, g4⟩ := r'.get h2
    have := e1 us (k.sqT h); rw [g1] at this; cases this
    have := e2 vs (k.sqT h'); rw [g3] at this; cases this
    exact ⟨.inr ⟨T, _, hT, rfl⟩, new_tup hT (.cons (g2.mono k) (.cons (g4.mono k) .nil))⟩
theorem yields_zipL {K : PySem.W.Frag} {a b : Addr} {o o' : Obj} {us vs : List V} {xs ys : List PyData} (h : H a = some (.frz o (.lst us))) (r : RpAll K H us xs) (h' : H b = some (.frz o' (.lst vs))) (r' : RpAll K H vs ys) : Yields K (Itz K a b) H (zipD xs ys) := by
  have sq : ∀ H', Kp H H' → SqL K H' a us := fun H' k => .inl (.inr ⟨o, k.f _ _ _ h⟩)
  have sq' : ∀ H', Kp H H' → SqL K H' b vs := fun H' k => .inl (.inr ⟨o', k.f _ _ _ h'⟩)
  refine ⟨fun i H' k hi => ?_, fun H' k => ⟨us, vs, sq H' k, sq' H' k, by rw [r.length, r'.length, zipD_len]; omega⟩, fun i H' x H2 d k hd hy => ?_⟩
  · rw [zipD_len] at hi
    refine ⟨us, vs, us[i]'(by rw [r.length]; omega), vs[i]'(by rw [r'.length]; omega), sq H' k, sq' H' k, List.getElem?_eq_getElem _, List.getElem?_eq_getElem _⟩
  · obtain ⟨dx, dy, h1, h2, rfl⟩ := zipD_get hd
    obtain ⟨T, x', y', rfl, hT, rfl, e1, e2⟩ := hy
    obtain ⟨vx, g1, g2⟩ := r.get h1
    obtain ⟨vy, g3, g4⟩ := r'.get h2
    have := e1 us (sq H' k); rw [g1] at this; cases this
    have := e2 vs (sq' H' k); rw [g3] at this; cases this
    exact ⟨.inr ⟨T, _, hT, rfl⟩, new_tup hT (.cons (g2.mono k) (.cons (g4.mono k) .nil))⟩
theorem yields_enum {K : PySem.W.Frag} {a : Addr} {o : Obj} {us : List V} {xs : List PyData} (h : H a = some (.frz o (.lst us))) (r : RpAll K H us xs) : Yields K (Ite K a) H (enumD 0 xs) := by
  have sq : ∀ H', Kp H H' → SqL K H' a us := fun H' k => .inl (.inr ⟨o, k.f _ _ _ h⟩)
  refine ⟨fun i H' k hi => ?_, fun H' k => ⟨us, sq H' k, by rw [r.length, enumD_len]; exact Nat.le_refl _⟩, fun i H' x H2 d k hd hy => ?_⟩
  · rw [enumD_len] at hi
    exact ⟨us, us[i]'(by rw [r.length]; omega), sq H' k, List.getElem?_eq_getElem _⟩
  · obtain ⟨dx, h1, rfl⟩ := enumD_get hd
    obtain ⟨T, x', rfl, hT, rfl, e1⟩ := hy
    obtain ⟨vx, g1, g2⟩ := r.get h1
    have := e1 us (sq H' k); rw [g1] at this; cases this
    refine ⟨.inr ⟨T, _, hT, rfl⟩, new_tup hT (.cons ?_ (.cons (g2.mono k) .nil))⟩
    rw [Nat.zero_add]; exact .int _
end
/-! ### targets -/
mutual
def gT (K : PySem.W.Frag) : Tg → TG
  | .n i => gName i
  | .t ts => fun v σ H Q => gTup K ts.len (gTs K ts) v σ H Q ∨ gLst K ts.len (gTs K ts) v σ H Q
  | .s _ _ => fun _ _ _ _ => False
def gTs (K : PySem.W.Frag) : Tgs → TGs
  | .nil => gNil
  | .cons t r => gCons (gT K t) (gTs K r)
end
section
variable {X : Cx} {sc : Sc} {n : Nat}
theorem assignEach_plain {e : Expr} {es : List Expr} {env : PySem.Env} (h : ∀ v p, e ≠ .Starred v p) : assignEach (e :: es) env = (false, assign e env) :: assignEach es env := by
  cases e <;> first | rfl | exact absurd rfl (h _ _)
theorem chkTg_plain : ∀ {tg : Tg} {v : Expr} {p : Pos}, chkTg sc tg (.Starred v p) = true → False := by
  intro tg v p h
  cases tg <;> simp [chkTg] at h
theorem assignEach_ok : ∀ {ts : Tgs} {es : List Expr}, chkTgs sc ts es = true → (assignEach es X.env).length = ts.len ∧ (assignEach es X.env).findIdx? (·.1) = none
  | .nil, es, h => by simp only [chkTgs] at h; split at h <;> first | exact ⟨rfl, rfl⟩ | cases h
  | .cons t r, es, h => by
    simp only [chkTgs] at h
    split at h
    · rename_i e es
      rw [Bool.and_eq_true] at h
      obtain ⟨h1, h2⟩ := assignEach_ok (ts := r) h.2
      rw [assignEach_plain (fun v p z => by subst z; exact chkTg_plain h.1)]
      refine ⟨by rw [List.length_cons, h1]; rfl, ?_⟩
      rw [List.findIdx?_cons, h2]; rfl
    · cases h
theorem PG.or {e : Expr} {t t' : TG} (h : PG X e t) (h' : PG X e t') : PG X e (fun v σ H Q => t v σ H Q ∨ t' v σ H Q) :=
  ⟨fun pins s σ H v u Q I r q => q.elim (h.run pins s σ H v u Q I r) (h'.run pins s σ H v u Q I r)⟩
mutual
theorem pg_T (R : Rn X sc n) : ∀ (tg : Tg) {e : Expr}, chkTg sc tg e = true → PG X e (gT X.K tg)
  | .n i, e, h => by
    simp only [chkTg] at h
    split at h
    · rename_i x pos
      rw [Bool.and_eq_true] at h
      obtain ⟨h1, h2⟩ := R.own x h.2
      exact pg_name R.nd (by rw [R.N]; exact of_decide_eq_true (by simpa using h.1)) h1 h2
    · cases h
  | .t ts, e, h => by
    simp only [chkTg] at h
    split at h
    · rename_i es k pos
      rw [Bool.and_eq_true, Bool.not_eq_true'] at h
      obtain ⟨h, hh⟩ := h
      obtain ⟨h1, h2⟩ := assignEach_ok (X := X) h
      exact PG.or (pg_tup (R.cm hh) (pgs_T R ts h) h1 h2) (pg_lst (R.cm hh) (pgs_T R ts h) h1 h2)
    · cases h
  | .s _ _, e, h => by simp [chkTg] at h
theorem pgs_T (R : Rn X sc n) : ∀ (ts : Tgs) {es : List Expr}, chkTgs sc ts es = true → PGs X es (gTs X.K ts)
  | .nil, es, h => by
    simp only [chkTgs] at h
    split at h
    · exact pgs_nil
    · cases h
  | .cons t r, es, h => by
    simp only [chkTgs] at h
    split at h
    · rename_i e es
      rw [Bool.and_eq_true] at h
      refine pgs_cons (pg_T R t h.1) (pgs_T R r h.2) ?_
      rw [assignEach_plain (fun v p z => by subst z; exact chkTg_plain h.1)]; rfl
    · cases h
end
end
section
variable {K : PySem.W.Frag} {w : Ws} {ι : List Addr} {H : Hp}
theorem wipe_append (σ : St) : ∀ (a b : List Nat), L2.wipe σ (a ++ b) = L2.wipe (L2.wipe σ b) a
  | [], b => rfl
  | v :: a, b => by show (L2.wipe σ (a ++ b)).set v none = _; rw [wipe_append σ a b]; rfl
theorem wipe_set (σ : St) (v : Option V) {i : Nat} : ∀ {vs : List Nat}, i ∈ vs → L2.wipe (σ.set i v) vs = L2.wipe σ vs
  | j :: vs, h => by
    show (L2.wipe (σ.set i v) vs).set j none = (L2.wipe σ vs).set j none
    by_cases hi : i ∈ vs
    · rw [wipe_set σ v hi]
    · have e : i = j := by rcases List.mem_cons.mp h with h | h; exact h; exact absurd h hi
      subst e
      clear h
      have : ∀ {vs : List Nat}, i ∉ vs → L2.wipe (σ.set i v) vs = (L2.wipe σ vs).set i v := by
        intro vs
        induction vs with
        | nil => intro _; rfl
        | cons k vs ih =>
          intro hk
          rw [List.mem_cons, not_or] at hk
          show (L2.wipe (σ.set i v) vs).set k none = ((L2.wipe σ vs).set k none).set i v
          rw [ih hk.2, List.set_comm _ _ hk.1]
      rw [this hi, List.set_set]
theorem asgTs_len : ∀ {ts : Tgs} {ds : List PyData} {ρ ρ' : Env}, asgTs ts ds ρ = some ρ' → ds.length = ts.len
  | .nil, ds, ρ, ρ', h => by
    simp only [asgTs] at h
    split at h
    · rfl
    · cases h
  | .cons t r, ds, ρ, ρ', h => by
    simp only [asgTs] at h
    split at h
    · cases h
    · split at h
      · cases h
      · rw [List.length_cons, asgTs_len h]; rfl
mutual
theorem gT_ok : ∀ (tg : Tg) {d : PyData} {ρ ρ' : Env} {σ : St} {v : V} {N : St → Hp → Prop}, asgT tg d ρ = some ρ' → Rp K H v d → RhoOk K w ι H ρ σ →
    (∀ σ', RhoOk K w ι H ρ' σ' → (∀ vs, (∀ i ∈ tg.own, i ∈ vs) → L2.wipe σ' vs = L2.wipe σ vs) → N σ' H) → gT K tg v σ H N
  | .n i, d, ρ, ρ', σ, v, N, h, hr, hρ, hN => by
    simp only [asgT] at h
    split at h
    · cases h
      exact hN _ (hρ.set (x := .p d) hr) (fun vs hv => wipe_set σ _ (hv i (by simp [Tg.own])))
    · cases h
  | .t ts, d, ρ, ρ', σ, v, N, h, hr, hρ, hN => by
    simp only [asgT] at h
    split at h
    · rename_i ds
      cases hr with
      | tup q r =>
        obtain ⟨e, h2⟩ := gTs_ok ts h r hρ hN
        exact .inl ⟨_, _, rfl, q, e, h2⟩
    · rename_i ds
      cases hr with
      | lst q r =>
        obtain ⟨e, h2⟩ := gTs_ok ts h r hρ hN
        exact .inr ⟨_, _, rfl, .inl (.inr ⟨_, q⟩), e, h2⟩
    · cases h
  | .s _ _, _, _, _, _, _, _, h, _, _, _ => by simp [asgT] at h
theorem gTs_ok : ∀ (ts : Tgs) {ds : List PyData} {ρ ρ' : Env} {σ : St} {vs : List V} {N : St → Hp → Prop}, asgTs ts ds ρ = some ρ' → RpAll K H vs ds → RhoOk K w ι H ρ σ →
    (∀ σ', RhoOk K w ι H ρ' σ' → (∀ vs, (∀ i ∈ ts.own, i ∈ vs) → L2.wipe σ' vs = L2.wipe σ vs) → N σ' H) → vs.length = ts.len ∧ gTs K ts vs σ H N
  | .nil, ds, ρ, ρ', σ, vs, N, h, hr, hρ, hN => by
    simp only [asgTs] at h
    split at h
    · cases h
      cases hr
      exact ⟨rfl, rfl, hN _ hρ (fun _ _ => rfl)⟩
    · cases h
  | .cons t r, ds, ρ, ρ', σ, vs, N, h, hr, hρ, hN => by
    simp only [asgTs] at h
    split at h
    · cases h
    · rename_i d ds
      split at h
      · cases h
      · rename_i ρ1 h1
        cases hr with
        | cons a b =>
          rename_i v vs
          refine ⟨by rw [List.length_cons, b.length, asgTs_len h]; rfl, _, _, rfl, gT_ok t h1 a hρ fun σ1 hρ1 w1 => ?_⟩
          exact (gTs_ok r h b hρ1 fun σ2 hρ2 w2 => hN σ2 hρ2 fun vs hv => (w2 vs fun i hi => hv i (by simp [Tgs.own, hi])).trans (w1 vs fun i hi => hv i (by simp [Tgs.own, hi]))).2
end
end
end Px

set_option Elab.async false
set_option maxRecDepth 100000
set_option linter.all false
set_option maxHeartbeats 1000000
/-! Px8e: enumerate over a list or a tuple. -/
namespace Px
open PySem L2 PySem.Spec
/-- enumerate(v): its two new cells -/
theorem meets_en1 {v : Value} {o : Obj} {H : Heap → Prop} (B : Begins v o H) :
    Meets (Builtin.«enumerate.__new__» ⟨[.type "enumerate", v], []⟩) (fun _ R s => H s.heap ∧
      R (.ok (.ret (.ref (s.heap.push o).objs.size))) { s with heap := (s.heap.push o).push { cls := .type "enumerate", data := .fields #[.none, .bool false, .ref s.heap.objs.size, rawInt 0, .none, .none] } }) := by
  refine .of_wp fun prog w A R s h => ?_
  obtain ⟨hp, g, d, tk, os⟩ := s
  obtain ⟨h1, h⟩ := h
  have hsub := sub_enumerate
  have it : ∀ {A' : Around} {E : Value → Shared → Prop} {Q : Value → Shared → Prop}, Q (.ref hp.objs.size) ⟨hp.push o, g, d, tk, os⟩ → wpAny (model prog w) A' (pyIter v) Q E ⟨hp, g, d, tk, os⟩ := fun q => B.iter prog w _ _ ⟨hp, g, d, tk, os⟩ _ h1 q
  wp_walk using it
  refine wpAny_stack_any fun st => wpAny_pure ?_
  split
  · rename_i c _ _ _ _ _
    cases (c == Value.type "enumerate") <;> (wp_walk using it; exact ⟨_, rfl, h⟩)
  · wp_walk using it
    exact ⟨_, rfl, h⟩
theorem call_en1 {prog : Program} {w : World} {A : Around} {E : Value → Shared → Prop} {s : Shared} {v : Value} {o : Obj} {H : Heap → Prop} {Q : Value → Shared → Prop} (B : Begins v o H) (h1 : H s.heap)
    (h : ∀ h', IsEnum h' (s.heap.objs.size + 1) s.heap.objs.size 0 .none → h'.get? s.heap.objs.size = some o → h'.objs.size = s.heap.objs.size + 2 → (∀ b o, s.heap.get? b = some o → h'.get? b = some o) →
      Q (.ref (s.heap.objs.size + 1)) { s with heap := h' }) : wpAny (model prog w) A (call (.type "enumerate") [v]) Q E s := by
  refine callType_new F.called_enumerate (by decide) (F.typeCall_enumerate_1 _) (F.newCall_enumerate_1 _) (fun obj => F.args_object_init_2 obj _) F.entry_enumerate_new (meets_en1 B) ⟨h1, ?_⟩
  have hz : (s.heap.push o).objs.size = s.heap.objs.size + 1 := Heap.size_push ..
  have he := Heap.get?_push_size (s.heap.push o) (o := { cls := .type "enumerate", data := .fields #[.none, .bool false, .ref s.heap.objs.size, rawInt 0, .none, .none] }) rfl
  rw [hz] at he
  show _ ∧ _
  rw [hz]
  exact ⟨⟨_, he, rfl⟩, h _ he (Heap.get?_push_of_some _ (Heap.get?_push_size _ B.free)) (by rw [Heap.size_push, hz]) fun b o x => Heap.get?_push_of_some _ (Heap.get?_push_of_some _ x)⟩
/-- the tuple at a, each item in a new pair -/
def Itet (K : PySem.W.Frag) (a : Addr) : L2.It :=
  ⟨fun i H => ∃ (xs : List V) (x : V), SqT K H a xs ∧ xs[i]? = some x, fun i H v H' => ∃ T x, v = .ref T ∧ H T = none ∧ H' = upd H T (.tup [.int (i : Nat), x]) ∧ ∀ xs, SqT K H a xs → xs[i]? = some x, fun i H => ∃ xs : List V, SqT K H a xs ∧ xs.length = i⟩
theorem turn_enT {P : Program} {w : World} {K : PySem.W.Frag} {elts : List Expr} {kk : Nat} {tpos : Pos} (a e it : Addr) :
    Turn P w K (.Tuple elts kk tpos) (Itet K a) [e, it] e (fun i h => (∃ old, IsEnum h e it ((i : Nat) : Int) old) ∧ h.IsTupleIter it a i ∧ e ≠ it ∧ a ≠ it ∧ a ≠ e) where
  mem := by simp
  obj := fun i h st b hb => by
    obtain ⟨⟨old, he⟩, ⟨o, ho, hc, hd⟩, _⟩ := st
    have e' : b = e ∨ b = it := by simpa using hb
    rcases e' with z | z
    · rw [z]; exact ⟨_, he, fun v q => nomatch q⟩
    · rw [z]; exact ⟨o, ho, fun v q => by rw [hd] at q; cases q⟩
  keep := fun i h h' st k => let ⟨⟨old, he⟩, hi, hne⟩ := st; ⟨⟨old, k e (by simp) _ he⟩, hi.at fun o q => k it (by simp) o q, hne⟩
  item := by
    intro X hP hw hK hc i pins s σ H E I hf st hg
    subst hP hw hK
    obtain ⟨⟨old, he⟩, hit, hne, hai, hae⟩ := st
    obtain ⟨xs, x, hq, hx⟩ := hg
    obtain ⟨its, rv, p, hz⟩ := I.tuple hq
    obtain ⟨u, hu, ru⟩ := rv.get hx
    have hel : e < s.heap.objs.size := Heap.lt_size he
    have hlt : i < its.length := (List.getElem?_eq_some_iff.mp hu).1
    have D := Draws.tuple (prog := X.prog) (w := X.w) (A := X.A.in1) (show X.A.in1.handled = none from I.ok.hd hc) it a hai its.toArray
    refine PySem.wpAny_pyNext_enum_itemC D he ⟨hit, p⟩ (by simpa using hlt) hne (by simp [hne, Ne.symm hae]) fun y h' tk hy ho hit' hT hsz hk => ?_
    have hy : y = u := by simp at hy; rw [hu] at hy; cases hy; rfl
    subst hy
    refine ⟨_, rfl, wpAny_letOwnedTupleGo_enum (s := { s with heap := h', toks := tk + 1 }) ho fun h'' he' sb => ?_⟩
    have hT2 : h''.get? s.heap.objs.size = some { cls := .type "tuple", data := .seq #[.int i tk, y] } := (sb.2 _ (Nat.ne_of_gt hel)).trans hT
    have new : ObjOk X.prog X.w (upd H s.heap.objs.size (.tup [.int (i : Nat), x])) h'' s.heap.objs.size (.tup [.int (i : Nat), x]) := ⟨by show 2 ≤ sizeLine; decide, [.int i tk, y], .cons ⟨_, rfl⟩ (.cons ru .nil), ⟨_, hT2, rfl, _, rfl⟩⟩
    have I1 : Inv X pins σ (upd H s.heap.objs.size (.tup [.int (i : Nat), x])) { s with heap := h'', toks := tk + 1 } :=
      I.turnedNew (t' := tk + 1) (ch := [e, it]) (fun b ob hb q => (sb.2 b (fun z => hb (by simp [z]))).trans (hk b ob (fun z => hb (by simp [z])) (fun z => hb (by simp [z])) q)) hf (Nat.le_refl _) new
    refine ⟨.ref s.heap.objs.size, _, I1, rfl, ⟨_, x, rfl, I.hok.fresh (Nat.le_refl _), rfl, fun ys hy => by rw [I.tuple_inj hy hq]; exact hx⟩, ⟨⟨y, ?_⟩, hit'.1.at fun o q => (sb.2 it (Ne.symm hne)).trans q, hne, hai, hae⟩, fun b hb => ?_⟩
    · rw [show ((i + 1 : Nat) : Int) = (i : Int) + 1 by omega]; exact he'
    · have hb' : b < s.heap.objs.size := by
        rcases (by simpa using hb : b = e ∨ b = it) with z | z
        · rw [z]; exact hel
        · rw [z]; obtain ⟨_, q, _⟩ := hit; exact Heap.lt_size q
      rw [upd_ne (Nat.ne_of_lt hb')]
      exact (hf b hb).1
  done := by
    intro X hP hw hK hc i pins s σ H E I hf st hg
    subst hP hw hK
    obtain ⟨⟨old, he⟩, hit, hne, hai, hae⟩ := st
    obtain ⟨xs, hq, hx⟩ := hg
    obtain ⟨its, rv, p, hz⟩ := I.tuple hq
    obtain ⟨f0, f1, f2, f3, f4, f5⟩ := hf it (by simp)
    have hl := rv.length
    have D := Draws.tuple (prog := X.prog) (w := X.w) (A := X.A.in1) (show X.A.in1.handled = none from I.ok.hd hc) it a hai its.toArray
    have hi : its.toArray.size = i := by simp; omega
    subst hi
    exact PySem.wpAny_pyNext_enum_endD D he ⟨hit, p⟩ fun h' eb => ⟨rfl, I.turned (t' := s.toks) (fun b o hb q => eb b o hb q) f0 f1 f3 f4 f5⟩
  self := fun A i s Q E st h => let ⟨⟨_, he⟩, _⟩ := st; wpAny_pyIter_enum he h
def iEn2 (K : PySem.W.Frag) (ta : TA) : TI := fun σ H R => ta σ H fun vs H1 => ∃ a xs, vs = [.ref a] ∧ (SqL K H1 a xs ∧ R (Ite K a) H1 ∨ SqT K H1 a xs ∧ R (Itet K a) H1)
theorem pi_en2 {X : Cx} {e : Expr} {ta : TA} {p pos tpos : Pos} {elts : List Expr} {kk : Nat} (hg : Gl X "enumerate") (hm : X.mg "enumerate" = none) (ha : PA X [e] ta) (hs : starEach [e] X.env = [(false, eval e X.env)]) :
    PI X (.Tuple elts kk tpos) (.Call (.Name "enumerate" p) [e] [] pos) (iEn2 X.K ta) := by
  refine ⟨fun pins s σ H R I h => PyProof.Rows.Call_ (ld_blt I hg hm PyProof.Rows.boot_enumerate (PyProof.Rows.callWith_type1 (thn (ha.run pos pins s σ H _ I h) fun us s1 ⟨vs, H1, I1, r1, q1⟩ => ?_) hs rfl))⟩
  obtain ⟨a, xs, rfl, q⟩ := q1
  cases r1 with
  | cons r rr =>
    cases rr
    cases r
    have fp : ∀ b ∈ [s1.heap.objs.size + 1, s1.heap.objs.size], FpOk X pins H1 b := fun b hb => by
      have hle : s1.heap.objs.size ≤ b := by
        rcases (by simpa using hb : b = s1.heap.objs.size + 1 ∨ b = s1.heap.objs.size) with z | z
        · rw [z]; exact Nat.le_add_right _ _
        · rw [z]; exact Nat.le_refl _
      exact I1.fpOk hle (I1.hok.fresh hle)
    rcases q with ⟨hq, q⟩ | ⟨hq, q⟩
    · obtain ⟨its, rv, p', hz⟩ := I1.list hq
      exact call_enumerate_list p'.isList fun h' he hit hsz hk => wpAny_pyIter_enum he ⟨_, _, _, _, H1, rfl, I1.kept (t' := s1.toks) hk, turn_enum a (s1.heap.objs.size + 1) s1.heap.objs.size, ⟨⟨.none, he⟩, hit, Nat.succ_ne_self _⟩, fp, q⟩
    · obtain ⟨its, rv, p', hz⟩ := I1.tuple hq
      have hal : a < s1.heap.objs.size := by obtain ⟨_, q, _⟩ := p'; exact Heap.lt_size q
      exact call_en1 (begins_tuple a its.toArray) p' fun h' he hit hsz hk => wpAny_pyIter_enum he ⟨_, _, _, _, H1, rfl, I1.kept (t' := s1.toks) hk, turn_enT a (s1.heap.objs.size + 1) s1.heap.objs.size, ⟨⟨.none, he⟩, ⟨_, hit, rfl, rfl⟩, Nat.succ_ne_self _, Nat.ne_of_lt hal, Nat.ne_of_lt (Nat.lt_succ_of_lt hal)⟩, fp, q⟩
theorem yields_enT {K : PySem.W.Frag} {H : Hp} {a : Addr} {us : List V} {xs : List PyData} (h : SqT K H a us) (r : RpAll K H us xs) : Yields K (Itet K a) H (enumD 0 xs) := by
  refine ⟨fun i H' k hi => ?_, fun H' k => ⟨us, k.sqT h, by rw [r.length, enumD_len]⟩, fun i H' x H2 d k hd hy => ?_⟩
  · rw [enumD_len] at hi
    exact ⟨us, us[i]'(by rw [r.length]; omega), k.sqT h, List.getElem?_eq_getElem _⟩
  · obtain ⟨dx, h1, rfl⟩ := enumD_get hd
    obtain ⟨T, x', rfl, hT, rfl, e1⟩ := hy
    obtain ⟨vx, g1, g2⟩ := r.get h1
    have := e1 us (k.sqT h); rw [g1] at this; cases this
    refine ⟨.inr ⟨T, _, hT, rfl⟩, new_tup hT (.cons ?_ (.cons (g2.mono k) .nil))⟩
    rw [Nat.zero_add]; exact .int _
end Px

set_option Elab.async false
set_option maxRecDepth 100000
set_option linter.all false
set_option maxHeartbeats 1000000
/-! Px9: methods, slices, weakest readings of parts, tests, walks. -/
namespace Px
open PySem L2 PySem.Spec

section
variable {gx : GX} {X : Cx} {ι : List Addr} {H : Hp} {S : Store} {σ : St} {Wx : WX}
def rExtendR : V → List V → Hp → VK → Prop := fun x vs H Q => ∃ l b xs zs, x = .ref l ∧ vs = [.ref b] ∧ H l = some (.lst xs) ∧ Rd H b (.lst zs) ∧ xs.length + zs.length ≤ sizeLine ∧ Q .non (upd H l (.lst (xs ++ zs)))
theorem mt_extendR : MtM X "list.extend" rExtendR := by
  intro pins s σ H x vs v us Q I rx rv h
  obtain ⟨l, b, xs, zs, rfl, rfl, hH, hB, hz, q⟩ := h
  cases rx
  obtain ⟨u, rfl, ru⟩ := rv.one
  cases ru
  obtain ⟨z, its, n, r, hl, e⟩ := I.lstM hH
  obtain ⟨z2, its2, n2, r2, hl2, e2⟩ := Inv.lstR I hB
  have hsz : its.toArray.size + its2.toArray.size ≤ sizeLine := by rw [List.size_toArray, List.size_toArray]; omega
  have hlong : ¬ (!its.toArray.isEmpty && Builtin.List.listTooLong (its.toArray.size + its2.toArray.size)) = true := by
    rw [notLongL hsz, Bool.and_false]
    exact Bool.false_ne_true
  refine call_meets F.slot_list_extend ⟨_, e, rfl⟩ F.entry_list_extend (F.args_list_extend_2 _ _)
    (AutoSeq1.list_extend_list_list_0 l its.toArray n b its2.toArray n2 hlong (by rw [List.size_toArray]; omega) (by omega)) ⟨e, e2, ?_⟩
  refine ⟨.non, _, I.lset (its' := its ++ its2) hH e (by simp) (r.append r2) ?_, rfl, q⟩
  rw [List.length_append]
  omega
/-- t.index(x), flat items -/
def rIndexT (K : PySem.W.Frag) : V → List V → Hp → VK → Prop := fun x xs H Q => ∃ (a : Addr) (ys : List V) (y : V) (j : Nat) (z : V), x = V.ref a ∧ xs = [y] ∧ SqT K H a ys ∧ flatV y = true ∧ ys.all flatV = true ∧ ys[j]? = some z ∧ eqV z y = true ∧
  (∀ (m : Nat) (z' : V), m < j → ys[m]? = some z' → eqV z' y = false) ∧ Q (.int (j : Nat)) H
theorem mt_indexT : MtR X "tuple.index" (rIndexT X.K) := by
  intro pins s σ H x xs v us Q I rx rs h
  obtain ⟨p, ys, y, j, z, rfl, rfl, hq, fy, fys, hz, hzj, hno, q⟩ := h
  cases rx
  cases rs with
  | cons ry rt =>
    rename_i uy ut
    cases rt
    obtain ⟨its, r, pl, hz'⟩ := I.tuple hq
    obtain ⟨⟨cls, dd, dt, sl⟩, ho, hc, n, hd⟩ := pl
    simp only at hc hd
    subst hc
    subst hd
    have hl := r.length
    obtain ⟨u, hu, ru⟩ := r.get hz
    obtain ⟨hjl, hje⟩ := List.getElem?_eq_some_iff.mp hu
    have hj : j < its.toArray.size := by simpa using hjl
    refine call_meets PySem.F.slot_tuple_index ⟨_, ho, rfl⟩ PySem.F.entry_tuple_index (PySem.F.args_tuple_index_2 _ _) (TI.tuple_indexAt p its.toArray n dd sl uy (eqU y) j hj ?_ fun m hm hmj => ?_)
      ⟨ho, fun w hw => mem_eqAt ry fy r fys w (by simpa using hw), ⟨.int (j : Nat), H, I.tok _, ⟨_, rfl⟩, q⟩⟩
    · have e1 : its.toArray[j] = u := by simpa using hje
      rw [e1, eqU_of ru (flat_at fys hz)]; exact hzj
    · have hml : m < its.length := by simpa using hm
      have hmy : m < ys.length := by omega
      have hy' : ys[m]? = some ys[m] := List.getElem?_eq_getElem hmy
      obtain ⟨u2, hu2, ru2⟩ := r.get hy'
      obtain ⟨_, hme⟩ := List.getElem?_eq_some_iff.mp hu2
      have e1 : its.toArray[m] = u2 := by simpa using hme
      rw [e1, eqU_of ru2 (flat_at fys hy')]; exact hno m _ hmj hy'
/-- flat data, flat values -/
def fV : PyData → V
  | .none => .non | .bool b => .bl b | .int i => .int i | .str x => .str x | _ => .non
theorem flat_rp {K : PySem.W.Frag} {H : Hp} {v : V} {d : PyData} (h : isSc d = true) (r : Rp K H v d) : v = fV d ∧ flatV v = true := by
  cases r <;> first | exact ⟨rfl, rfl⟩ | cases h
theorem flat_all {K : PySem.W.Frag} {H : Hp} : ∀ {vs : List V} {ds : List PyData}, ds.all isSc = true → RpAll K H vs ds → vs = ds.map fV ∧ vs.all flatV = true
  | _, _, _, .nil => ⟨rfl, rfl⟩
  | _, _, h, .cons r q => by
    rw [List.all_cons, Bool.and_eq_true] at h
    obtain ⟨h1, h2⟩ := flat_rp h.1 r
    obtain ⟨h3, h4⟩ := flat_all h.2 q
    exact ⟨by rw [List.map_cons, h1, ← h3], by rw [List.all_cons, h2, h4]; rfl⟩
theorem eqF_eqV {a b : PyData} (ha : isSc a = true) (hb : isSc b = true) : eqV (fV a) (fV b) = eqF a b := by
  cases a <;> cases b <;> first | rfl | exact Bool.noConfusion (show false = true from ha) | exact Bool.noConfusion (show false = true from hb)
theorem idxD_spec {d : PyData} : ∀ {ds : List PyData} {i j : Nat}, idxD d i ds = some j → i ≤ j ∧ ∃ z, ds[j - i]? = some z ∧ eqF z d = true ∧ ∀ m z', m < j - i → ds[m]? = some z' → eqF z' d = false
  | [], i, j, h => by cases h
  | x :: r, i, j, h => by
    unfold idxD at h
    split at h
    · rename_i hx
      cases h
      refine ⟨Nat.le_refl _, x, by simp, hx, fun m z' hm _ => by omega⟩
    · rename_i hx
      obtain ⟨h1, z, h2, h3, h4⟩ := idxD_spec h
      refine ⟨by omega, z, ?_, h3, fun m z' hm hz => ?_⟩
      · rw [show j - i = (j - (i + 1)) + 1 by omega]; simpa using h2
      · cases m with
        | zero => simp at hz; subst hz; simpa using hx
        | succ m => exact h4 m z' (by omega) (by simpa using hz)
theorem idx_ok {K : PySem.W.Frag} {H : Hp} {v : V} {vs : List V} {d : PyData} {ds : List PyData} {j : Nat} (h1 : isSc d = true) (h2 : ds.all isSc = true) (hj : idxD d 0 ds = some j) (r : Rp K H v d) (ra : RpAll K H vs ds) :
    flatV v = true ∧ vs.all flatV = true ∧ ∃ z, vs[j]? = some z ∧ eqV z v = true ∧ ∀ (m : Nat) (z' : V), m < j → vs[m]? = some z' → eqV z' v = false := by
  obtain ⟨rfl, f1⟩ := flat_rp h1 r
  obtain ⟨rfl, f2⟩ := flat_all h2 ra
  obtain ⟨_, z, k1, k2, k3⟩ := idxD_spec hj
  rw [Nat.sub_zero] at k1
  have sc : ∀ {m z}, ds[m]? = some z → isSc z = true := fun h => List.all_eq_true.mp h2 _ (List.mem_of_getElem? h)
  refine ⟨f1, f2, fV z, by rw [List.getElem?_map, k1]; rfl, by rw [eqF_eqV (sc k1) h1]; exact k2, fun m z' hm hz => ?_⟩
  rw [List.getElem?_map, Option.map_eq_some_iff] at hz
  obtain ⟨y, hy, rfl⟩ := hz
  rw [eqF_eqV (sc hy) h1]
  exact k3 m y (by omega) hy
/-- a method's rule, its type -/
def rMe (K : PySem.W.Frag) : Me → V → List V → Hp → VK → Prop
  | .append => rAppend
  | .extend => rExtendR
  | .index => rIndex K
  | .indexT => rIndexT K
  | .upper => fun x xs H Q => ∃ a, x = .str a ∧ xs = [] ∧ a.length ≤ 5592405 ∧ Q (.str (Txt.upper a)) H
  | .join => fun x xs H Q => ∃ a p, ∃ ys : List Str, x = .str a ∧ xs = [.ref p] ∧ (SqL K H p (ys.map V.str) ∨ SqT K H p (ys.map V.str)) ∧ (ys.map (·.length)).sum + ys.length * a.length ≤ 16777216 ∧ Q (.str (Txt.join a ys)) H
  | .partition => fun x xs H Q => ∃ a b, x = .str a ∧ xs = [.str b] ∧ (b.length == 0) = false ∧ a.length ≤ sizeLine ∧
    ∀ p, H p = none → Q (.ref p) (upd H p (.tup [.str (Txt.partition a b).1, .str (Txt.partition a b).2.1, .str (Txt.partition a b).2.2]))
  | _ => fun _ _ _ _ => False
def meTy : Me → String
  | .upper => "str"
  | .join => "str"
  | .partition => "str"
  | .get => "dict"
  | .indexT => "tuple"
  | _ => "list"
theorem partition_le {x y : Str} (hx : x.length ≤ sizeLine) (hy : y.length ≤ sizeLine) : (Txt.partition x y).1.length ≤ sizeLine ∧ (Txt.partition x y).2.1.length ≤ sizeLine ∧ (Txt.partition x y).2.2.length ≤ sizeLine := by
  unfold Txt.partition
  split
  · exact ⟨Nat.le_trans (PySem.le_strSub ..) hx, hy, Nat.le_trans (PySem.le_strSub ..) hx⟩
  · exact ⟨hx, Nat.zero_le _, Nat.zero_le _⟩
theorem join_le {x : Str} {ys : List Str} (h : (ys.map (·.length)).sum + ys.length * x.length ≤ 1000000) : (Txt.join x ys).length ≤ sizeLine := by
  have e : (Txt.join x ys).length = (ys.map (·.length)).sum + (ys.length - 1) * x.length := PySem.size_glued x ys
  have : (ys.length - 1) * x.length ≤ ys.length * x.length := Nat.mul_le_mul_right _ (Nat.sub_le _ _)
  refine dec_line ?_
  rw [e]; omega
theorem meW_ok {m : Me} {x : W} {ws : List W} {vx : V} {vs : List V} {Q : VK} (h : Dst gx X.K ι H σ Wx (RlV X.K (ux gx X)) Q (meW m x ws S)) (s : Sim X.K ι H S) (rx : RW X.K (ux gx X) ι H vx x) (r : RWs X.K (ux gx X) ι H vs ws) : rMe X.K m vx vs H Q := by
  cases m with
  | append =>
    simp only [meW] at h
    split at h
    · rename_i i
      split at h
      · rename_i xs hs
        split at h
        · rename_i d
          split at h
          · rename_i hz
            obtain ⟨a, ha, rfl⟩ := rx
            obtain ⟨vs', hv, rv⟩ := s.ob _ _ _ hs ha
            cases r with
            | cons r0 rn =>
              cases rn
              rename_i v
              have hd : Rp X.K H v d := r0
              refine ⟨a, vs', v, rfl, rfl, hv, by rw [rv.length]; exact hz, ?_⟩
              have k := Kp.lst (o := .lst (vs' ++ [v])) hv
              exact h ι _ _ (.set (List.mem_of_getElem? ha) hv) (s.set ha k ⟨_, upd_same, (rv.mono k).append (.cons (hd.mono k) .nil)⟩) .non
          · exact h.elim
        · exact h.elim
      · exact h.elim
    · exact h.elim
  | extend =>
    simp only [meW] at h
    split at h
    · rename_i i
      split at h
      · rename_i xs hs
        split at h
        · rename_i y
          split at h
          · rename_i ys hy
            split at h
            · rename_i hz
              obtain ⟨a, ha, rfl⟩ := rx
              obtain ⟨vs', hv, rv⟩ := s.ob _ _ _ hs ha
              cases r with
              | cons r0 rn =>
                cases rn
                rename_i v
                have dq := view_dp s r0 hy
                obtain ⟨b, zs, rfl, hb, rz⟩ : ∃ b zs, v = .ref b ∧ Rd H b (.lst zs) ∧ RpAll X.K H zs ys := by
                  cases dq with
                  | p h => cases h with | lst h q => exact ⟨_, _, rfl, .inr ⟨_, h⟩, q⟩
                  | l h q => exact ⟨_, _, rfl, .inl h, q⟩
                refine ⟨a, b, vs', zs, rfl, rfl, hv, hb, by rw [rv.length, rz.length]; exact hz, ?_⟩
                have k := Kp.lst (o := .lst (vs' ++ zs)) hv
                exact h ι _ _ (.set (List.mem_of_getElem? ha) hv) (s.set ha k ⟨_, upd_same, (rv.mono k).append (rz.mono k)⟩) .non
            · exact h.elim
          · exact h.elim
        · exact h.elim
      · exact h.elim
    · exact h.elim
  | upper =>
    simp only [meW] at h
    split at h
    · rename_i z
      split at h
      · split at h
        · rename_i hz
          cases rx
          cases r
          refine ⟨z, rfl, rfl, hz, dst_p h s (.str _ ?_)⟩
          have h1 := PyProof.Rows.len_upper z
          have h2 : (16777216 : Nat) ≤ sizeLine := by decide
          have h3 : z.length ≤ 5592405 := hz
          omega
        · exact h.elim
      · exact h.elim
    · exact h.elim
  | index =>
    simp only [meW] at h
    split at h
    · rename_i ds hv
      split at h
      · rename_i d
        split at h
        · rename_i hc
          rw [Bool.and_eq_true] at hc
          split at h
          · rename_i j hj
            obtain ⟨a, us, rfl, hb, ra⟩ := view_list s rx hv
            cases r with
            | cons r0 rn =>
              cases rn
              obtain ⟨f1, f2, z, k1, k2, k3⟩ := idx_ok hc.1 hc.2 hj r0 ra
              exact ⟨a, us, _, j, z, rfl, rfl, .inl hb, f1, f2, k1, k2, k3, dst_i h s⟩
          · exact h.elim
        · exact h.elim
      · exact h.elim
    · exact h.elim
  | indexT =>
    simp only [meW] at h
    split at h
    · rename_i ds
      split at h
      · rename_i d
        split at h
        · rename_i hc
          rw [Bool.and_eq_true] at hc
          split at h
          · rename_i j hj
            obtain ⟨a, rfl, _, hr⟩ := rx
            cases hr H with
            | tup hq ra =>
              cases r with
              | cons r0 rn =>
                cases rn
                obtain ⟨f1, f2, z, k1, k2, k3⟩ := idx_ok hc.1 hc.2 hj r0 ra
                exact ⟨a, _, _, j, z, rfl, rfl, hq, f1, f2, k1, k2, k3, dst_i h s⟩
          · exact h.elim
        · exact h.elim
      · exact h.elim
    · exact h.elim
  | count => exact h.elim
  | get => exact h.elim
  | join =>
    simp only [meW] at h
    split at h
    · rename_i z
      split at h
      · rename_i ds
        split at h
        · rename_i ys hys
          split at h
          · rename_i hz
            cases rx
            cases r with
            | cons r0 rn =>
              cases rn
              cases r0 with
              | lst hf ra =>
                obtain ⟨rfl, _⟩ := ra.strs hys
                exact ⟨z, _, ys, rfl, rfl, .inl (.inl (.inr ⟨_, hf⟩)), by omega, dst_p h s (.str _ (join_le hz))⟩
          · exact h.elim
        · exact h.elim
      · exact h.elim
    · exact h.elim
  | partition =>
    simp only [meW] at h
    split at h
    · rename_i z
      split at h
      · rename_i y
        split at h
        · rename_i hz
          cases rx
          cases r with
          | cons r0 rn =>
            cases rn
            cases r0 with
            | str _ hy =>
              obtain ⟨p1, p2, p3⟩ := partition_le (y := y) hz.2 hy
              refine ⟨z, y, rfl, rfl, beq_eq_false_iff_ne.mpr hz.1, hz.2, fun p hp => dst_tup h s (.cons (.str _ p1) (.cons (.str _ p2) (.cons (.str _ p3) .nil))) hp⟩
        · exact h.elim
      · exact h.elim
    · exact h.elim
theorem meT_ok {m : Me} {x : W} {vx : V} (h : meT m x S = true) (s : Sim X.K ι H S) (rx : RW X.K (ux gx X) ι H vx x) : tyV X.K (meTy m) vx H := by
  have lst : ∀ {x : W}, (match view S x with | some (.list _) => true | _ => false) = true → RW X.K (ux gx X) ι H vx x → tyV X.K "list" vx H := by
    intro x h rx
    split at h
    · rename_i xs hy
      have dq := view_dp s rx hy
      cases dq with
      | p h => cases h with | lst h q => exact .inl ⟨rfl, _, .inl (.inr ⟨_, h⟩)⟩
      | l h q => exact .inl ⟨rfl, _, .inl (.inl h)⟩
    · cases h
  cases m
  case upper =>
    simp only [meT] at h
    split at h
    · cases rx; rfl
    · cases h
  case join =>
    simp only [meT] at h
    split at h
    · cases rx; rfl
    · cases h
  case partition =>
    simp only [meT] at h
    split at h
    · cases rx; rfl
    · cases h
  case get => cases h
  case indexT =>
    simp only [meT] at h
    split at h
    · obtain ⟨a, rfl, ⟨o, h1, h2, h3⟩, _⟩ := rx
      exact .inr (.inl ⟨rfl, o, h1, h2, h3⟩)
    · cases h
  all_goals exact lst h rx
theorem me_slot {m : Me} (hok : okMe m = true) : ∃ id, PlainAttrs (meTy m) ∧ Slot (meTy m) (meN m) id ∧ typeOf (.builtin id) = pure (.type "method_descriptor") ∧ MtR X id (rMe X.K m) := by
  cases m with
  | append => exact ⟨_, F.plainAttrs_list, F.slot_list_append, F.type_list_append, mt_append⟩
  | extend => exact ⟨_, F.plainAttrs_list, F.slot_list_extend, F.type_list_extend, mt_extendR⟩
  | upper => exact ⟨_, F.plainAttrs_str, F.slot_str_upper, F.type_str_upper, mt_upper⟩
  | index => exact ⟨_, F.plainAttrs_list, F.slot_list_index, F.type_list_index, mt_index⟩
  | indexT => exact ⟨_, F.plainAttrs_tuple, F.slot_tuple_index, F.type_tuple_index, mt_indexT⟩
  | count => cases hok
  | get => cases hok
  | join => exact ⟨_, F.plainAttrs_str, F.slot_str_join, F.type_str_join, mt_join⟩
  | partition => exact ⟨_, F.plainAttrs_str, F.slot_str_partition, F.type_str_partition, mt_partition⟩
theorem pe_me0 {m : Me} {o : Expr} {to : TE} {apos cpos : Pos} (hok : okMe m = true) (ho : PE X o to) (hbase : attributeBase o (meN m) X.env (eval o X.env) = eval o X.env) (hline : (apos.endLine == cpos.line) = true) :
    PE X (.Call (.Attribute o (meN m) apos) [] [] cpos) (tBM0 X.K (meTy m) (rMe X.K m) to) := by
  obtain ⟨id, pa, slot, hty, hm⟩ := me_slot (X := X) hok
  exact pe_bm0 pa slot hty hm ho hbase hline
theorem pe_me {m : Me} {o e : Expr} {r : List Expr} {to : TE} {t : TA} {apos cpos : Pos} (hok : okMe m = true) (ho : PE X o to) (ha : PA X (e :: r) t) (hbase : attributeBase o (meN m) X.env (eval o X.env) = eval o X.env) (hline : (apos.endLine == cpos.line) = true)
    (hp : (starEach r X.env).any (·.1) = false) (hn : (e :: r).length < 20) (hs : starEach (e :: r) X.env = (false, eval e X.env) :: starEach r X.env) :
    PE X (.Call (.Attribute o (meN m) apos) (e :: r) [] cpos) (tBM X.K (meTy m) (rMe X.K m) to t) := by
  obtain ⟨id, pa, slot, hty, hm⟩ := me_slot (X := X) hok
  refine pe_bm pa slot hty hm ho ha hbase ?_ hline hs ?_
  · rw [back_all, hs, List.any_cons, hp]
    simp only [List.length_cons] at hn
    simp [List.length_cons, backToKw, keywordEach]
    omega
  · rw [back_any]; exact hp
/-! ### slices -/
def rSlX' (K : PySem.W.Frag) : V → Option Int → Option Int → Hp → VK → Prop := fun x lo hi H Q => (rSlA K x lo hi H Q ∨ rSlL K x lo hi H Q) ∨ rSlS x lo hi H Q
theorem sl_all3 : SlR X (rSlX' X.K) := SlR.or (SlR.or sl_tupA sl_list) sl_str
theorem cutL_whole {α : Type} {xs : List α} {lo hi : Option Int} (h1 : HT.sIx xs.length 0 lo = 0) (h2 : HT.sIx xs.length xs.length hi = xs.length) : cutL xs lo hi = xs := by
  unfold cutL
  rw [h1, h2]; simp
theorem slcW_ok {m : Bool} {x : W} {lo hi : Option Int} {vx : V} {Q : VK} (h : Dst gx X.K ι H σ Wx (RlV X.K (ux gx X)) Q (slcW m x lo hi S)) (s : Sim X.K ι H S) (rx : RW X.K (ux gx X) ι H vx x) : rSlX' X.K vx lo hi H (Gz Q) := by
  unfold slcW at h
  split at h
  · rename_i xs hv
    obtain ⟨a, vs, rfl, q, r⟩ := view_tup s rx hv
    refine .inl (.inl ⟨a, vs, rfl, q, fun hw => .inl ?_, fun _ p hp => .inl ?_⟩)
    · have e : cutL xs lo hi = xs := by rw [r.length] at hw; exact cutL_whole hw.1 hw.2
      rw [e] at h
      exact dst_p h s (.tup q r)
    · exact dst_tup h s (r.cut lo hi) hp
  · rename_i xs hv
    obtain ⟨a, vs, rfl, q, r⟩ := view_list s rx hv
    refine .inl (.inr ⟨a, vs, rfl, ?_, fun p hp => dst_lst h s (r.cut lo hi) hp⟩)
    rcases q with q | ⟨o, q⟩
    · exact .inl (.inl q)
    · exact .inl (.inr ⟨o, q⟩)
  · rename_i z hv
    obtain ⟨rfl, hz⟩ := view_str s rx hv
    exact .inr ⟨z, rfl, hz, .inl (dst_p h s (.str _ (Nat.le_trans (cutS_length z lo hi) hz)))⟩
  · exact h.elim
end
/-! ### weakest readings of a slice's part, of a clause's tests, of what is walked -/
section
variable (X : Cx)
def WpO (e : Option Expr) : TO := fun σ H Q => ∀ pins s, Inv X pins σ H s → wpAny (model X.prog X.w) X.A (evalPart e X.env) (fun u s' => ∃ o H', Inv X pins σ H' s' ∧ IsPart u o ∧ Q o H') X.xe s
def WpK (kws : List Keyword) : TA := fun σ H Q => ∀ pos pins s, Inv X pins σ H s → wpAny (model X.prog X.w) X.A (evalAll ((backToKw pos (keywordEach kws X.env)).map (·.2))) (AP X pins σ Q) X.xe s
def WpTs (ifs : List Expr) : TT := fun σ H Q => ∀ pins s, Inv X pins σ H s →
  wpAny (model X.prog X.w) X.A (forIn ifs true fun c r => if r = true then do let ok ← isTrue c X.env (eval c X.env); pure (ForInStep.yield ok) else pure (ForInStep.yield r)) (TP X pins σ Q) X.xe s
def WpI (tg iter : Expr) : TI := fun σ H R => ∀ pins s, Inv X pins σ H s → wpAny (model X.prog X.w) X.A (eval iter X.env) (fun v s1 => wpAny (model X.prog X.w) X.A (pyIter v) (PIE X pins σ tg R) X.xe s1) X.xe s
end
section
variable {X : Cx} {σ : St} {H : Hp}
theorem po_wp {e : Option Expr} : PO X e (WpO X e) := ⟨fun pins s _ _ _ I h => h pins s I⟩
theorem pk_wp {e : List Keyword} : PK X e (WpK X e) := ⟨fun pos pins s _ _ _ I h => h pos pins s I⟩
theorem WpK.of {e : List Keyword} {t : TA} {Q : List V → Hp → Prop} (h : PK X e t) (q : t σ H Q) : WpK X e σ H Q := fun pos pins s I => h.run pos pins s σ H Q I q
theorem WpK.mono {e : List Keyword} {Q Q' : List V → Hp → Prop} (h : WpK X e σ H Q) (q : ∀ v H', Q v H' → Q' v H') : WpK X e σ H Q' := fun pos pins s I => thn (h pos pins s I) fun _ _ ⟨vs, H', I', r, k⟩ => ⟨vs, H', I', r, q _ _ k⟩
theorem pts_wp {e : List Expr} : PTs X e (WpTs X e) := ⟨fun pins s _ _ _ I h => h pins s I⟩
theorem pi_wp {tg e : Expr} : PI X tg e (WpI X tg e) := ⟨fun pins s _ _ _ I h => h pins s I⟩
theorem WpO.of {e : Option Expr} {t : TO} {Q : Option Int → Hp → Prop} (h : PO X e t) (q : t σ H Q) : WpO X e σ H Q := fun pins s I => h.run pins s σ H Q I q
theorem WpO.mono {e : Option Expr} {Q Q' : Option Int → Hp → Prop} (h : WpO X e σ H Q) (q : ∀ v H', Q v H' → Q' v H') : WpO X e σ H Q' := fun pins s I => thn (h pins s I) fun _ _ ⟨o, H', I', p, k⟩ => ⟨o, H', I', p, q _ _ k⟩
theorem WpTs.of {e : List Expr} {t : TT} {Q : Bool → Hp → Prop} (h : PTs X e t) (q : t σ H Q) : WpTs X e σ H Q := fun pins s I => h.run pins s σ H Q I q
theorem WpTs.mono {e : List Expr} {Q Q' : Bool → Hp → Prop} (h : WpTs X e σ H Q) (q : ∀ v H', Q v H' → Q' v H') : WpTs X e σ H Q' := fun pins s I => thn (h pins s I) fun _ _ ⟨H', I', k⟩ => ⟨H', I', q _ _ k⟩
theorem WpI.of {tg e : Expr} {t : TI} {R : L2.It → Hp → Prop} (h : PI X tg e t) (q : t σ H R) : WpI X tg e σ H R := fun pins s I => h.run pins s σ H R I q
theorem WpI.mono {tg e : Expr} {R R' : L2.It → Hp → Prop} (h : WpI X tg e σ H R) (q : ∀ v H', R v H' → R' v H') : WpI X tg e σ H R' := fun pins s I =>
  thn (h pins s I) fun _ _ k => thn k fun _ _ ⟨it, fp, tn, J, H', e, I', T, st, f, r⟩ => ⟨it, fp, tn, J, H', e, I', T, st, f, q _ _ r⟩
end
end Px

set_option Elab.async false
set_option maxRecDepth 100000
set_option linter.all false
/-! Px9s: sorted(set(a list of ints)). The proof of set_of_ints is the library's for a tuple, turned to a list. -/
namespace L2
open PySem PySem.Spec PyProof.Rows
section
variable {P : Program} {w : World} {A : Around} {E : Value → Shared → Prop} {s : Shared}
set_option maxRecDepth 100000 in
set_option maxHeartbeats 3200000 in
theorem set_of_ints {l : Addr} {items : Array Value} (ns : List Int) {Q : Value → Shared → Prop} (hh : A.handled = none) (hl : s.heap.IsList l items) (hit : IntsAre items.toList ns) (hb : ns.length + 1 < scanBound)
    (h : ∀ (h' : Heap) (tk c : Nat), SetR w h' s.heap.objs.size (fun j => decide (j ∈ ns)) c → c ≤ ns.length → (∀ b o, s.heap.get? b = some o → h'.get? b = some o) → Q (.ref s.heap.objs.size) { s with heap := h', toks := tk }) :
    wpAny (model P w) A (call (.type "set") [.ref l]) Q E s := by
  have hisz : items.size = ns.length := by
    have q := IntsAre.length hit
    rw [Array.length_toList] at q
    exact q
  obtain ⟨c, tl, hmro⟩ := F.called_set.mro
  have hmade := F.called_set.made
  have hsub := F.called_set.sub
  refine wpAny_call (codeAny_of_tree ?_)
  show wpAny _ _ (callAny (.type "set") _) _ _ _
  refine wpAny_pure ⟨Code.quiet_builtin _ (by decide +kernel), codeAny_builtin F.entry_type_call ?_⟩
  rw [Around.under_plain (weight_type_call_type "set" [.ref l] []) rfl]
  have h1 := F.called_set.notType
  have h2 := F.called_set.canCreate
  have hct := F.typeCall_set_1 (.ref l)
  repeat (any_goals (first | assumption | wp_step))

  refine codeAny_mono (code_set_led1 (.ref l) (E := E) (Q₁ := fun obj s₁ => obj = .ref s.heap.objs.size ∧ s₁ = { s with heap := s.heap.push { cls := .type "set", dict := none, data := .set #[] 0 (.fresh 0 0 (!w.params.followText "set-order")) } }) ⟨rfl, rfl⟩) fun r s₁ hr => ?_
  cases r with
  | error e => exact hr
  | ok fl =>
    cases fl with
    | ret obj =>
      obtain ⟨rfl, rfl⟩ := hr
      have hS : (s.heap.push { cls := .type "set", dict := none, data := .set #[] 0 (.fresh 0 0 (!w.params.followText "set-order")) }).get? s.heap.objs.size = some { cls := .type "set", dict := none, data := .set #[] 0 (.fresh 0 0 (!w.params.followText "set-order")) } := Heap.get?_push_size _ rfl
      have hT : Shared.TypeIs { s with heap := s.heap.push { cls := .type "set", dict := none, data := .set #[] 0 (.fresh 0 0 (!w.params.followText "set-order")) } } (.ref s.heap.objs.size) "set" := ⟨_, hS, rfl⟩
      have hli := F.called_set.init.lookup
      have hbi := F.called_set.init.bind (.ref s.heap.objs.size)
      repeat (any_goals (first | assumption | wp_step))

      refine codeAny_mono (codeAny_call_builtin (R := wants (fun r s₂ => r = .none ∧ ∃ h' tk c, s₂ = { s with heap := h', toks := tk } ∧ SetR w h' s.heap.objs.size (fun j => decide (j ∈ ns)) c ∧ c ≤ ns.length ∧
          (∀ b o, s.heap.get? b = some o → h'.get? b = some o)) E) F.called_set.init.plain F.entry_set_init (check_set_init_1 hT ?_)) fun r₂ s₂ hr₂ => ?_
      · obtain ⟨ol, hol, hcl, nl, hdl⟩ := hl
        obtain ⟨ocls, odict, odata, oslots⟩ := ol
        simp only at hcl hdl
        subst hcl; subst hdl
        have hol' : (s.heap.push { cls := .type "set", dict := none, data := .set #[] 0 (.fresh 0 0 (!w.params.followText "set-order")) }).get? l = some { cls := .type "list", dict := odict, data := .seq items nl, slots := oslots } := Heap.get?_push_of_some _ hol
        have hsls := F.sub_list_set
        have hslf := F.sub_list_frozenset
        have hne : (Value.type "list" == Value.type "dict") = false := by decide
        have hl1 : (s.heap.push { cls := .type "set", dict := none, data := .set #[] 0 (.fresh 0 0 (!w.params.followText "set-order")) }).IsList l items := ⟨_, hol', rfl, nl, rfl⟩
        unfold Builtin.«set.__init__» noKeywords Builtin.Frozenset.updateFrom
        generalize hPI : pyIter = PI
        wp_walk
        subst hPI

        refine wpAny_pyIter_list hl1 ?_
        refine wpAny_bind (wpAny_runValue ?_)
        have hlS : l < s.heap.objs.size := Heap.lt_size hol
        have hh3 : A.in1.in1.in1.handled = none := by simp [hh]
        have hz1 : (s.heap.push { cls := .type "set", dict := none, data := .set #[] 0 (.fresh 0 0 (!w.params.followText "set-order")) }).objs.size = s.heap.objs.size + 1 := Heap.size_push ..
        have hneI : l ≠ (s.heap.push { cls := .type "set", dict := none, data := .set #[] 0 (.fresh 0 0 (!w.params.followText "set-order")) }).objs.size := by
          rw [Heap.size_push]; exact Nat.ne_of_lt (Nat.lt_succ_of_lt hlS)
        have hSf : s.heap.objs.size ∉ [(s.heap.push { cls := .type "set", dict := none, data := .set #[] 0 (.fresh 0 0 (!w.params.followText "set-order")) }).objs.size, l] := by
          rw [Heap.size_push]; simp only [List.mem_cons, List.mem_singleton, List.not_mem_nil, or_false, not_or]
          exact ⟨Nat.ne_of_lt (Nat.lt_succ_self _), Nat.ne_of_gt hlS⟩
        have hval : ∀ (i : Nat) (v : Value), items[i]? = some v → ∃ k t, ns[i]? = some k ∧ v = .int k t := fun i v hv => by
          have hi : i < ns.length := by rw [← hisz]; exact (Array.getElem?_eq_some_iff.mp hv).1
          obtain ⟨t, e⟩ := PyProof.Rows.IntsAre.int_at hit i v (by rw [Array.getElem?_toList]; exact hv)
          refine ⟨ns[i], t, List.getElem?_eq_getElem hi, ?_⟩
          rw [e, List.getD_eq_getElem?_getD, List.getElem?_eq_getElem hi] <;> rfl
        refine set_update_ints ((Walks.list hh3 _ l hneI items).toS) s.heap.objs.size
          hSf ns hisz hb hval (items.size - 0) 0 _ (by omega) (Nat.zero_le _)
          ⟨⟨_, Heap.get?_push_size _ rfl, rfl, rfl⟩, (hl1.push _)⟩ ?hS0 ?hR
        case hS0 =>
          have hget : ((s.heap.push { cls := .type "set", dict := none, data := .set #[] 0 (.fresh 0 0 (!w.params.followText "set-order")) }).push { cls := .type "list_iterator", data := .fields #[.ref l, .int 0 0] }).get? s.heap.objs.size
              = some { cls := .type "set", dict := none, data := .set #[] 0 (.fresh 0 0 (!w.params.followText "set-order")) } := Heap.get?_push_of_some _ hS
          exact ⟨0, Nat.le_refl 0, setR_new_at hget⟩
        case hR =>
          intro s' c' hm hc' hS'
          obtain ⟨h', g2, d', tk', os'⟩ := s'
          have eg : g2 = s.gens := hm.gens
          have ed : d' = s.drawn := hm.drawn
          have eo : os' = s.os := hm.os
          subst eg; subst ed; subst eo
          show wpAny _ _ _ _ _ _
          refine wpAny_pure ?_
          show wpAny _ _ (ret Value.none) _ _ _
          rw [hisz] at hc'
          refine wpAny_pure ⟨rfl, h', tk', c', rfl, hS', hc', fun b o e => ?_⟩
          have hb0 : b < s.heap.objs.size := Heap.lt_size e
          have hb1 : b ≠ s.heap.objs.size := Nat.ne_of_lt hb0
          have hb2 : b ≠ (s.heap.push { cls := .type "set", dict := none, data := .set #[] 0 (.fresh 0 0 (!w.params.followText "set-order")) }).objs.size := by
            rw [Heap.size_push]; exact Nat.ne_of_lt (Nat.lt_succ_of_lt hb0)
          exact hm.heap b o (by simp only [List.mem_cons, List.mem_singleton, List.not_mem_nil, or_false, not_or]; exact ⟨hb1, hb2⟩) (Heap.get?_push_of_some _ (Heap.get?_push_of_some _ e))

      · cases r₂ with
        | error e => exact hr₂
        | ok fl₂ =>
          cases fl₂ with
          | ret r =>
            obtain ⟨rfl, h', tk, c', rfl, hS', hc', hk'⟩ := hr₂
            repeat (any_goals (first | assumption | wp_step))
            exact h _ _ _ hS' hc' hk'
          | _ => exact hr₂.elim
    | _ => exact hr.elim

end
section
variable {X : Cx}
def rSetOfL (K : PySem.W.Frag) (w : World) : List V → Hp → VK → Prop := fun xs H Q => ∃ (l : Addr) (ns : List Int), xs = [V.ref l] ∧ SqL K H l (ns.map V.int) ∧ ns.length + 1 < scanBound ∧
  ∀ p n, H p = none → n ≤ ns.length → Q (.ref p) (upd H p (SetO w p (fun j => decide (j ∈ ns)) n))
theorem cr_setOfL (hc : X.calm = true) : CallR X (.type "set") (rSetOfL X.K X.w) := by
  intro pins s σ H vs us Q I r h
  obtain ⟨l, ns, rfl, hl, hb, q⟩ := h
  rw [Vals.ref1 r]
  obtain ⟨its, rv, pl, hz⟩ := I.list hl
  refine set_of_ints ns (I.ok.hd hc) pl.isList (by simpa using intsAre_of rv) hb fun h' tk c hS hcn hk => ?_
  have hn := I.hok.fresh (Nat.le_refl s.heap.objs.size)
  have J : Inv X pins σ (upd H s.heap.objs.size (SetO X.w s.heap.objs.size (fun j => decide (j ∈ ns)) c)) { s with heap := h', toks := tk } :=
    I.laid hk (Nat.le_refl _) (setO_new hS)
  exact ⟨.ref s.heap.objs.size, _, J, rfl, q _ c hn hcn⟩
end
end L2
namespace Px
open PySem L2 PySem.Spec
theorem insI_mem {x y : Int} : ∀ {r : List Int}, y ∈ insI x r ↔ y = x ∨ y ∈ r
  | [] => by simp [insI]
  | z :: r => by
    unfold insI
    split
    · simp
    · split
      · rename_i h; subst h; simp
      · rw [List.mem_cons, insI_mem, List.mem_cons]
        constructor <;> rintro (h | h | h) <;> simp [h]
theorem setI_mem {y : Int} : ∀ {r : List Int}, y ∈ setI r ↔ y ∈ r
  | [] => by simp [setI]
  | x :: r => by rw [setI, insI_mem, setI_mem, List.mem_cons]
theorem insI_sorted {x : Int} : ∀ {r : List Int}, r.Pairwise (· < ·) → (insI x r).Pairwise (· < ·)
  | [], _ => by simp [insI]
  | z :: r, h => by
    unfold insI
    split
    · rename_i hx
      refine List.pairwise_cons.mpr ⟨fun y hy => ?_, h⟩
      rcases List.mem_cons.mp hy with e | hy
      · rw [e]; exact hx
      · exact Int.lt_trans hx ((List.pairwise_cons.mp h).1 y hy)
    · split
      · exact h
      · rename_i h1 h2
        obtain ⟨h3, h4⟩ := List.pairwise_cons.mp h
        refine List.pairwise_cons.mpr ⟨fun y hy => ?_, insI_sorted h4⟩
        rcases insI_mem.mp hy with e | hy
        · rw [e]; omega
        · exact h3 y hy
theorem setI_sorted : ∀ {r : List Int}, (setI r).Pairwise (· < ·)
  | [] => List.Pairwise.nil
  | x :: r => insI_sorted setI_sorted
theorem sorted_eq : ∀ {a b : List Int}, a.Pairwise (· < ·) → b.Pairwise (· < ·) → (∀ k, k ∈ a ↔ k ∈ b) → a = b
  | [], [], _, _, _ => rfl
  | [], y :: b, _, _, h => by have := (h y).mpr List.mem_cons_self; cases this
  | x :: a, [], _, _, h => by have := (h x).mp List.mem_cons_self; cases this
  | x :: a, y :: b, h1, h2, h => by
    obtain ⟨g1, g2⟩ := List.pairwise_cons.mp h1
    obtain ⟨g3, g4⟩ := List.pairwise_cons.mp h2
    have e : x = y := by
      rcases List.mem_cons.mp ((h x).mp List.mem_cons_self) with e | e
      · exact e
      · rcases List.mem_cons.mp ((h y).mpr List.mem_cons_self) with e' | e'
        · exact e'.symm
        · have := g1 y e'; have := g3 x e; omega
    subst e
    congr 1
    refine sorted_eq g2 g4 fun k => ⟨fun hk => ?_, fun hk => ?_⟩
    · rcases List.mem_cons.mp ((h k).mp (List.mem_cons_of_mem _ hk)) with e | e
      · have := g1 k hk; omega
      · exact e
    · rcases List.mem_cons.mp ((h k).mpr (List.mem_cons_of_mem _ hk)) with e | e
      · have := g3 k hk; omega
      · exact e
end Px

set_option Elab.async false
set_option maxRecDepth 100000
set_option linter.all false
set_option maxHeartbeats 1000000
/-! Px10: every expression does what it means. -/
namespace Px
open PySem L2 PySem.Spec

/-- the situation: the context's facts, the module's, where exceptions go -/
structure Sit (C : CXT) (gx : GX) (g : Gd) (cl : Cl) (cs : List W) (n : Nat) (X : Cx) (sc : Sc) (Wx : WX) : Prop where
  R : Rn X sc n
  G : GOk C X.prog X.w X.K X.mg X.base gx g cl cs n
  tk : ∀ σ, PassesAt C X σ (WE Wx σ)
  rp : g.rp = true → CxR X
section
variable (C : CXT) (gx : GX) (g : Gd) (cl : Cl) (cs : List W) (n : Nat)
section
variable (X : Cx) (ι : List Addr) (H : Hp) (σ : St) (Wx : WX)
def ED (e : Expr) (r : R W) : Prop := ∀ Q, Dst gx X.K ι H σ Wx (RlV X.K (ux gx X)) Q r → WpE X e σ H Q
def TD (e : Expr) (r : R W) : Prop := ∀ Q, Dst gx X.K ι H σ Wx RlB Q (asB r) → WpT X e σ H Q
def WD (e : Expr) (r : R W) : Prop := ∀ Q, Dst gx X.K ι H σ Wx RlB Q (asB r) → WpW X e σ H Q
def AD (es : List Expr) (r : R (List W)) : Prop := ∀ Q, Dst gx X.K ι H σ Wx (RlA X.K (ux gx X)) Q r → WpA X es σ H Q
def KD (es : List Keyword) (r : R (List W)) : Prop := ∀ Q, Dst gx X.K ι H σ Wx (RlA X.K (ux gx X)) Q r → WpK X es σ H Q
def SD (es : List Expr) (r : R Bool) : Prop := ∀ Q, Dst gx X.K ι H σ Wx RlB Q r → WpTs X es σ H Q
def OD (e : Option Expr) (r : R (Option Int)) : Prop := ∀ Q, Dst gx X.K ι H σ Wx (fun _ _ a b => a = b) Q r → WpO X e σ H Q
def ID (it : It) (e : Expr) (r : R (List PyData)) : Prop := ∀ (tg : Expr) (_ : tgOk it tg = true) (Q : L2.It → Hp → Prop), Dst gx X.K ι H σ Wx (fun _ H J ds => Yields X.K J H ds) Q r → WpI X tg e σ H Q
end
def EOk (ie : E) : Prop := ∀ {X : Cx} {sc : Sc} {Wx : WX} {e : Expr} {ι : List Addr} {H : Hp} {S : Store} {σ : St} {ρ : Env}, Sit C gx g cl cs n X sc Wx → chkE g sc ie e = true → Sim X.K ι H S → RhoOk X.K (ux gx X) ι H ρ σ →
  ED gx X ι H σ Wx e (ev cl cs ie false ρ S) ∧ TD gx X ι H σ Wx e (ev cl cs ie true ρ S)
def EsOk (ies : Es) : Prop := ∀ {X : Cx} {sc : Sc} {Wx : WX} {es : List Expr} {ι : List Addr} {H : Hp} {S : Store} {σ : St} {ρ : Env}, Sit C gx g cl cs n X sc Wx → chkEs g sc ies es = true → Sim X.K ι H S → RhoOk X.K (ux gx X) ι H ρ σ →
  AD gx X ι H σ Wx es (evEs cl cs ies ρ S)
def EXOk (ies : Es) : Prop := ∀ {X : Cx} {sc : Sc} {Wx : WX} {es : List Expr} {ι : List Addr} {H : Hp} {S : Store} {σ : St} {ρ : Env}, Sit C gx g cl cs n X sc Wx → chkEX g sc ies es = true → Sim X.K ι H S → RhoOk X.K (ux gx X) ι H ρ σ →
  AD gx X ι H σ Wx es (evEs cl cs ies ρ S)
def KsOk (ies : Es) : Prop := ∀ {X : Cx} {sc : Sc} {Wx : WX} {ks : List Str} {es : List Keyword} {ι : List Addr} {H : Hp} {S : Store} {σ : St} {ρ : Env}, Sit C gx g cl cs n X sc Wx → chkKs g sc ies ks es = true → Sim X.K ι H S → RhoOk X.K (ux gx X) ι H ρ σ →
  KD gx X ι H σ Wx es (evEs cl cs ies ρ S)
def BoOk (ies : Es) : Prop := ∀ {X : Cx} {sc : Sc} {Wx : WX} {op : BoolOp} {es : List Expr} {pos : Pos} {ι : List Addr} {H : Hp} {S : Store} {σ : St} {ρ : Env}, Sit C gx g cl cs n X sc Wx → chkBs g sc ies es = true → Sim X.K ι H S → RhoOk X.K (ux gx X) ι H ρ σ →
  ED gx X ι H σ Wx (.BoolOp op es pos) (evBo cl cs op ies false ρ S) ∧ WD gx X ι H σ Wx (.BoolOp op es pos) (evBo cl cs op ies true ρ S)
def IfsOk (ies : Es) : Prop := ∀ {X : Cx} {sc : Sc} {Wx : WX} {es : List Expr} {ι : List Addr} {H : Hp} {S : Store} {σ : St} {ρ : Env}, Sit C gx g cl cs n X sc Wx → chkTs g sc ies es = true → Sim X.K ι H S → RhoOk X.K (ux gx X) ι H ρ σ →
  SD gx X ι H σ Wx es (evIfs cl cs ies ρ S)
def OpOk (io : Op) : Prop := ∀ {X : Cx} {sc : Sc} {Wx : WX} {e : Option Expr} {ι : List Addr} {H : Hp} {S : Store} {σ : St} {ρ : Env}, Sit C gx g cl cs n X sc Wx → chkO g sc io e = true → Sim X.K ι H S → RhoOk X.K (ux gx X) ι H ρ σ →
  OD gx X ι H σ Wx e (evOp cl cs io ρ S)
def ItOk (it : It) : Prop := ∀ {X : Cx} {sc : Sc} {Wx : WX} {e : Expr} {ι : List Addr} {H : Hp} {S : Store} {σ : St} {ρ : Env}, Sit C gx g cl cs n X sc Wx → chkIt g sc it e = true → Sim X.K ι H S → RhoOk X.K (ux gx X) ι H ρ σ →
  ID gx X ι H σ Wx it e (evIt cl cs it ρ S)
end
section
variable {C : CXT} {gx : GX} {g : Gd} {cl : Cl} {cs : List W} {n : Nat}
theorem ok_k (d : PyData) : EOk C gx g cl cs n (.k d) := by
  intro X sc Wx e ι H S σ ρ T h s rr
  simp only [chkE] at h
  split at h
  · rename_i c j pos
    refine both (by intro _; rfl) fun Q q => ?_
    cases c <;> cases d <;> simp only [constD, Bool.false_eq_true] at h
    · exact .of pe_non (dst_p q s .non)
    · have h := eq_of_beq h; subst h; exact .of pe_bl (dst_p q s (.bl _))
    · have h := eq_of_beq h; subst h; exact .of pe_int (dst_p q s (.int _))
    · rw [Bool.and_eq_true, decide_eq_true_eq] at h
      have h1 := eq_of_beq h.1; subst h1
      exact .of pe_str (dst_p q s (.str _ (dec_line h.2)))
  · cases h
theorem okName_spec {x : Str} (h : okName x = true) : (x == ("__debug__" : Str)) = false ∧ (x == ("__classdict__" : Str)) = false := by
  simp only [okName, Bool.and_eq_true, Bool.not_eq_true'] at h
  exact h
theorem Rn.ix {X : Cx} {sc : Sc} (R : Rn X sc n) {i : Nat} {x : Str} (h : (sc.N[i]? == some x) = true) : X.N[i]? = some x := by
  rw [R.N]; exact of_decide_eq_true (by simpa using h)
theorem ok_v (i : Nat) : EOk C gx g cl cs n (.v i) := by
  intro X sc Wx e ι H S σ ρ T h s rr
  simp only [chkE] at h
  split at h
  · rename_i x pos
    simp only [Bool.and_eq_true] at h
    obtain ⟨d1, d2⟩ := okName_spec h.2
    refine both (by intro _; rfl) fun Q q => ?_
    refine .of (pe_var (T.R.ix h.1.1) (T.R.vis _ h.1.2) d1 d2) ?_
    unfold loc at q
    split at q
    · rename_i w hw
      obtain ⟨v, h1, h2⟩ := rr.at_ _ _ hw
      exact ⟨v, h1, q ι H v (.refl _ _) s h2⟩
    · exact q.elim
  · cases h
theorem ok_g (j : Nat) : EOk C gx g cl cs n (.g j) := by
  intro X sc Wx e ι H S σ ρ T h s rr
  simp only [chkE] at h
  split at h
  · rename_i x pos
    simp only [Bool.and_eq_true] at h
    obtain ⟨d1, d2⟩ := okName_spec h.2
    refine both (by intro _; rfl) fun Q q => ?_
    split at q
    · rename_i w hw
      obtain ⟨u, v, hm, r, k⟩ := T.G.cst j x w (of_decide_eq_true (by simpa using h.1.2)) hw
      exact .of (pe_glob (T.R.gl _ h.1.1) hm r d1) (q ι H v (.refl _ _) s (k (ux gx X).xp gx ι H))
    · exact q.elim
  · cases h
theorem ok_bin {m : Bool} {op : Operator} {a b : E} (ha : EOk C gx g cl cs n a) (hb : EOk C gx g cl cs n b) : EOk C gx g cl cs n (.bin m op a b) := by
  intro X sc Wx e ι H S σ ρ T h s rr
  simp only [chkE] at h
  split at h
  · rename_i l op' r pos
    simp only [Bool.and_eq_true] at h
    have ho := eq_of_beq h.1.1
    subst ho
    refine both (by intro _; rfl) fun Q q => ?_
    refine .of (pe_op op_wp pe_wp pe_wp) ?_
    exact two_steps (ha T h.1.2 s rr).1 (fun ι1 H1 S1 l1 s1 => (hb T h.2 s1 (rr.mono l1)).1) (fun ι2 H2 S2 x y wx wy l2 s2 rx ry q => binW_ok q s2 rx ry) q
  · cases h
theorem asB_okB (b : Bool) (S : Store) : asB (okB b S) = .ok b S := rfl
theorem dst_asB {ι : List Addr} {H : Hp} {σ : St} {Wx : WX} {Q : VK} {r : R W} {f : W → Store → R W} {X : Cx} {e : Expr}
    (he : ED gx X ι H σ Wx e r) (hf : ∀ w S, (∀ b, w ≠ .p (.bool b)) → f w S = .stuck) {Fin : V → Hp → Prop}
    (fin : ∀ ι2 H2 S2 b, Lt ι ι2 H H2 → Sim X.K ι2 H2 S2 → Dst gx X.K ι2 H2 σ Wx (RlV X.K (ux gx X)) Q (f (.p (.bool b)) S2) → Fin (.bl b) H2)
    (h : Dst gx X.K ι H σ Wx (RlV X.K (ux gx X)) Q (r.bind f)) : WpE X e σ H Fin := by
  refine one_step he (fun ι2 H2 S2 x wx l2 s2 rx h2 => ?_) h
  by_cases hw : ∃ b, wx = .p (.bool b)
  · obtain ⟨b, rfl⟩ := hw
    cases rx
    exact fin ι2 H2 S2 b l2 s2 h2
  · rw [hf _ _ (fun b z => hw ⟨b, z⟩)] at h2
    exact h2.elim
theorem ok_un {op : UnaryOp} {a : E} (ha : EOk C gx g cl cs n a) : EOk C gx g cl cs n (.un op a) := by
  intro X sc Wx e ι H S σ ρ T h s rr
  simp only [chkE] at h
  split at h
  · rename_i op' x pos
    simp only [Bool.and_eq_true] at h
    obtain ⟨h0, h⟩ := h
    have ho := eq_of_beq h0
    subst ho
    clear h0
    cases op with
    | Not =>
      refine ⟨fun Q q => ?_, fun Q q => ?_⟩
      · refine .of (pe_not pe_wp) ?_
        refine dst_asB (ha T h s rr).1 (fun w S hw => ?_) (fun ι2 H2 S2 b l2 s2 q => ⟨b, rfl, dst_b q s2⟩) q
        split
        · rename_i b; exact absurd rfl (hw b)
        · rfl
      · refine .of (pt_not pt_wp) ?_
        simp only [ev, asB_r] at q
        rw [asB_bind (g := fun b S => .ok (!b) S) _ _ (fun b S => rfl) (fun w S hw => ?_)] at q
        · exact one_stepT (f := fun b S => .ok (!b) S) (Fin := fun b H' => Q (!b) H') (ha T h s rr).2 (fun ι2 H2 S2 b l2 s2 q => q ι2 H2 _ (.refl _ _) s2 rfl) q
        · split
          · rename_i b; exact absurd rfl (hw b)
          · rfl
    | USub =>
      refine both (by intro _; rfl) fun Q q => ?_
      refine .of (pe_un un_neg pe_wp) ?_
      refine one_step (ha T h s rr).1 (fun ι2 H2 S2 x wx l2 s2 rx q => ?_) q
      split at q
      · rename_i i; cases rx; exact ⟨i, rfl, dst_i q s2⟩
      · exact q.elim
    | UAdd => exact ⟨fun Q q => q.elim, fun Q q => q.elim⟩
    | Invert => exact ⟨fun Q q => q.elim, fun Q q => q.elim⟩
  · cases h
theorem dst_bool {X : Cx} {ι : List Addr} {H : Hp} {σ : St} {Wx : WX} {r : R W} {Q : Bool → Hp → Prop} (h : Dst gx X.K ι H σ Wx RlB Q (asB r)) : Dst gx X.K ι H σ Wx (RlV X.K (ux gx X)) (fun v H' => ∃ k, v = .bl k ∧ Q k H') r := by
  cases r with
  | exc e S => exact h
  | stuck => exact h
  | ok w S =>
    by_cases hw : ∃ b, w = .p (.bool b)
    · obtain ⟨b, rfl⟩ := hw
      intro ι' H' v l s r
      cases r
      exact ⟨b, rfl, h ι' H' b l s rfl⟩
    · have : asB (.ok w S) = .stuck := by
        unfold asB
        split
        · rename_i e; cases e; exact absurd ⟨_, rfl⟩ hw
        · rfl
        · rename_i e; cases e
        · rfl
      rw [this] at h
      exact h.elim
theorem ok_cmp {op : CmpOp} {a b : E} (ha : EOk C gx g cl cs n a) (hb : EOk C gx g cl cs n b) : EOk C gx g cl cs n (.cmp op a b) := by
  intro X sc Wx e ι H S σ ρ T h s rr
  simp only [chkE] at h
  split at h
  · rename_i l op' r pos
    simp only [Bool.and_eq_true, Bool.not_eq_true'] at h
    obtain ⟨⟨⟨h0, h1⟩, h2⟩, h3⟩ := h
    have ho := eq_of_beq h0
    subst ho
    have hu : X.A.units + 80 < cLine := by have := T.R.hu; omega
    have key : ∀ Q : VK, Dst gx X.K ι H σ Wx (RlV X.K (ux gx X)) Q (ev cl cs (.cmp op a b) false ρ S) → tOp (WpOp X (compareOp op)) (WpE X l) (WpE X r) σ H Q := fun Q q =>
      two_steps (ha T h1 s rr).1 (fun ι1 H1 S1 l1 s1 => (hb T h2 s1 (rr.mono l1)).1) (fun ι2 H2 S2 x y wx wy l2 s2 rx ry q => cmpW_ok hu q s2 rx ry) q
    exact ⟨fun Q q => .of (pe_cmpR op_wp pe_wp pe_wp h3) (key Q q), fun Q q => .of (pt_cmpR op_wp pe_wp pe_wp h3) (key _ (dst_bool q))⟩
  · cases h
theorem ok_ch {op op' : CmpOp} {a b c : E} (ha : EOk C gx g cl cs n a) (hb : EOk C gx g cl cs n b) (hc : EOk C gx g cl cs n c) : EOk C gx g cl cs n (.ch a op b op' c) := by
  intro X sc Wx e ι H S σ ρ T h s rr
  simp only [chkE] at h
  split at h
  · rename_i l o1 o2 m r pos
    simp only [Bool.and_eq_true, Bool.not_eq_true'] at h
    obtain ⟨⟨⟨⟨⟨h0, h0'⟩, h1⟩, h2⟩, h3⟩, h4⟩ := h
    have ho := eq_of_beq h0
    have ho' := eq_of_beq h0'
    subst ho; subst ho'
    have hu : X.A.units + 80 < cLine := by have := T.R.hu; omega
    have key : ∀ Q : VK, Dst gx X.K ι H σ Wx (RlV X.K (ux gx X)) Q (ev cl cs (.ch a op b op' c) false ρ S) → tChain (WpOp X (compareOp op)) (WpOp X (compareOp op')) (WpE X l) (WpE X m) (WpE X r) σ H Q := by
      intro Q q
      refine two_steps (ha T h1 s rr).1 (fun ι1 H1 S1 l1 s1 => (hb T h2 s1 (rr.mono l1)).1) (fun ι2 H2 S2 x y wx wy l2 s2 rx ry q => ?_) q
      have q' : Dst gx X.K ι2 H2 σ Wx (RlV X.K (ux gx X)) (fun z H3 => ∃ k, z = .bl k ∧ if k = true then WpE X r σ H3 fun u H4 => WpOp X (compareOp op') y u H4 Q else Q (.bl false) H3) (optB S2 (cmpW op wx wy S2)) := by
        cases hk : cmpW op wx wy S2 with
        | none => rw [hk] at q; exact q.elim
        | some k =>
          rw [hk] at q
          intro ι3 H3 z l3 s3 rz
          cases rz
          refine ⟨k, rfl, ?_⟩
          cases k with
          | false => exact q ι3 H3 _ l3 s3 (.bl false)
          | true =>
            simp only [if_true]
            exact one_step (hc T h3 s3 (rr.mono (l2.trans l3))).1 (fun ι4 H4 S4 u wu l4 s4 ru q => cmpW_ok hu q s4 (ry.mono (l3.trans l4)) ru) (q.later l3)
      exact cmpW_ok hu q' s2 rx ry
    refine ⟨fun Q q => .of (pe_chain op_wp op_wp pe_wp pe_wp pe_wp h4) (key Q q), fun Q q => .of (pt_chain op_wp op_wp pe_wp pe_wp pe_wp h4) (key _ (dst_bool q))⟩
  · cases h
theorem pure_all {K : PySem.W.Frag} {w : Ws} {ι : List Addr} {H : Hp} : ∀ {ws : List W} {ds : List PyData} {vs : List V}, pureWs ws = some ds → RWs K w ι H vs ws → RpAll K H vs ds
  | [], ds, vs, h, r => by cases r; simp only [pureWs, Option.some.injEq] at h; subst h; exact .nil
  | x :: ws, ds, vs, h, r => by
    cases r with
    | cons r0 rn =>
      simp only [pureWs] at h
      split at h
      · cases h
      · rename_i d hd
        rw [Option.map_eq_some_iff] at h
        obtain ⟨ds', h1, rfl⟩ := h
        cases x with
        | p d' => simp only [pureW, Option.some.injEq] at hd; subst hd; exact .cons r0 (pure_all h1 rn)
        | ref i => cases hd
        | ex c d => cases hd
        | kd k => cases hd
        | kl k => cases hd
        | kt k => cases hd
        | fn k => cases hd
theorem ok_tup {es : Es} (hes : EXOk C gx g cl cs n es) : EOk C gx g cl cs n (.tup es) := by
  intro X sc Wx e ι H S σ ρ T h s rr
  simp only [chkE] at h
  split at h
  · rename_i vs x1 pos
    refine both (by intro _; rfl) fun Q q => ?_
    refine .of (pe_tup pa_wp) ?_
    refine one_stepA (hes T h s rr) (fun ι2 H2 S2 xs ws l2 s2 rx q => ?_) q
    split at q
    · rename_i ds hd
      have ra := pure_all hd rx
      split at q
      · rename_i hz
        exact ⟨by rw [ra.length]; exact hz, fun p hp => dst_tup q s2 ra hp⟩
      · exact q.elim
    · exact q.elim
  · cases h
theorem ok_lst {m : Bool} {es : Es} (hes : EXOk C gx g cl cs n es) : EOk C gx g cl cs n (.lst m es) := by
  intro X sc Wx e ι H S σ ρ T h s rr
  simp only [chkE] at h
  split at h
  · rename_i vs pos
    refine both (by intro _; rfl) fun Q q => .ghost ?_
    refine .of (pe_lst pa_wp) ?_
    refine one_stepA (hes T h s rr) (fun ι2 H2 S2 xs ws l2 s2 rx q => ?_) q
    split at q
    · rename_i ds hd
      have ra := pure_all hd rx
      split at q
      · rename_i hz
        exact ⟨by rw [ra.length]; exact hz, fun p hp => dst_lst q s2 ra hp⟩
      · exact q.elim
    · exact q.elim
  · cases h
theorem ok_sub {a i : E} (ha : EOk C gx g cl cs n a) (hi : EOk C gx g cl cs n i) : EOk C gx g cl cs n (.sub a i) := by
  intro X sc Wx e ι H S σ ρ T h s rr
  simp only [chkE] at h
  split at h
  · rename_i v x pos
    simp only [Bool.and_eq_true] at h
    have hu : X.A.units + 80 < cLine := by have := T.R.hu; omega
    refine both (by intro _; rfl) fun Q q => ?_
    refine .of (pe_ix (ix_seq.or ix_kdict) pe_wp pe_wp (plainIx (fun a b c p z => by subst z; exact chkE_noslice h.2))) ?_
    exact two_steps (ha T h.1 s rr).1 (fun ι1 H1 S1 l1 s1 => (hi T h.2 s1 (rr.mono l1)).1) (fun ι2 H2 S2 x y wx wy l2 s2 rx ry q => subW_ok hu q s2 rx ry) q
  · cases h
theorem ok_slc {m : Bool} {a : E} {lo hi : Op} (ha : EOk C gx g cl cs n a) (hl : OpOk C gx g cl cs n lo) (hh : OpOk C gx g cl cs n hi) : EOk C gx g cl cs n (.slc m a lo hi) := by
  intro X sc Wx e ι H S σ ρ T h s rr
  simp only [chkE] at h
  split at h
  · rename_i v l u p2 pos
    simp only [Bool.and_eq_true] at h
    refine both (by intro _; rfl) fun Q q => .ghost ?_
    refine .of (pe_slice sl_all3 pe_wp po_wp po_wp) ?_
    refine one_step (ha T h.1.1 s rr).1 (fun ι1 H1 S1 x wx l1 s1 rx q => ?_) q
    refine (hl T h.1.2 s1 (rr.mono l1) _ q.bind).mono ?_
    rintro lo' H2 ⟨ι2, S2, _, l2, s2, rfl, q⟩
    refine (hh T h.2 s2 (rr.mono (l1.trans l2)) _ q.bind).mono ?_
    rintro hi' H3 ⟨ι3, S3, _, l3, s3, rfl, q⟩
    exact slcW_ok q s3 (rx.mono (l2.trans l3))
  · cases h
theorem pt_ifExp {X : Cx} {c a b : Expr} {pos : Pos} {tA ta tb : TT} (hc : PT X c tA) (ha : PT X a ta) (hb : PT X b tb) : PT X (.IfExp c a b pos) (fun σ H Q => tA σ H fun k H1 => if k = true then ta σ H1 Q else tb σ H1 Q) := by
  refine ⟨fun pins s σ H Q I h => ?_⟩
  show wpAny _ X.A (do if ← isTrue c X.env (eval c X.env) then isTrue a X.env (eval a X.env) else isTrue b X.env (eval b X.env)) _ _ s
  refine wpAny_bind (thn (hc.run pins s σ H _ I h) fun d s1 ⟨H1, I1, q1⟩ => ?_)
  cases d with
  | true => exact ha.run pins s1 σ H1 Q I1 q1
  | false => exact hb.run pins s1 σ H1 Q I1 q1
theorem ok_ife {c a b : E} (hc : EOk C gx g cl cs n c) (ha : EOk C gx g cl cs n a) (hb : EOk C gx g cl cs n b) : EOk C gx g cl cs n (.ife c a b) := by
  intro X sc Wx e ι H S σ ρ T h s rr
  simp only [chkE] at h
  split at h
  · rename_i t x y pos
    simp only [Bool.and_eq_true] at h
    refine ⟨fun Q q => ?_, fun Q q => ?_⟩
    · refine .of (pe_ifExp pt_wp pe_wp pe_wp) ?_
      simp only [ev] at q
      rw [asB_bind (g := fun b' S1 => if b' then ev cl cs a false ρ S1 else ev cl cs b false ρ S1) _ _ (fun b S => by cases b <;> rfl) (fun w S hw => ?_)] at q
      · refine one_stepT (hc T h.1.1 s rr).2 (fun ι2 H2 S2 k l2 s2 q => ?_) q
        cases k with
        | true => exact (ha T h.1.2 s2 (rr.mono l2)).1 _ q
        | false => exact (hb T h.2 s2 (rr.mono l2)).1 _ q
      · split
        · exact absurd rfl (hw true)
        · exact absurd rfl (hw false)
        · rfl
    · refine .of (pt_ifExp pt_wp pt_wp pt_wp) ?_
      simp only [ev] at q
      rw [asB_bind (g := fun b' S1 => if b' then ev cl cs a true ρ S1 else ev cl cs b true ρ S1) _ _ (fun b S => by cases b <;> rfl) (fun w S hw => ?_), asB_r] at q
      · refine one_stepT (hc T h.1.1 s rr).2 (fun ι2 H2 S2 k l2 s2 q => ?_) q
        cases k with
        | true => exact (ha T h.1.2 s2 (rr.mono l2)).2 _ q
        | false => exact (hb T h.2 s2 (rr.mono l2)).2 _ q
      · split
        · exact absurd rfl (hw true)
        · exact absurd rfl (hw false)
        · rfl
  · cases h
end
end Px

set_option Elab.async false
set_option maxRecDepth 100000
set_option linter.all false
set_option maxHeartbeats 1000000
/-! Px11: and/or, calls, comprehensions; every expression. -/
namespace Px
open PySem L2 PySem.Spec
section
variable {C : CXT} {gx : GX} {g : Gd} {cl : Cl} {cs : List W} {n : Nat}
theorem bo_cons {e : E} {r : Es} (he : EOk C gx g cl cs n e) (hr : BoOk C gx g cl cs n r) : BoOk C gx g cl cs n (.cons e r) := by
  intro X sc Wx op es pos ι H S σ ρ T h s rr
  simp only [chkBs] at h
  split at h
  case h_2 => cases h
  rename_i x es'
  rw [Bool.and_eq_true] at h
  obtain ⟨h1, h2⟩ := h
  split at h2
  · -- the last
    split at h2
    · refine ⟨fun Q q => .of (pe_one pe_wp) ((he T h1 s rr).1 Q (by simpa only [evBo] using q)), fun Q q => ?_⟩
      have q' : Dst gx X.K ι H σ Wx RlB Q (asB (ev cl cs e true ρ S)) := by simpa only [evBo] using q
      cases op with
      | And => exact .of (pw_and1 pt_wp) ((he T h1 s rr).2 Q q')
      | Or => exact .of (pw_or1 pt_wp) ((he T h1 s rr).2 Q q')
    · cases h2
  · rename_i hne
    have hev : ∀ t, evBo cl cs op (.cons e r) t ρ S = (ev cl cs e t ρ S).bind fun w S1 => (match w with
      | .p (.bool b) => (match op, b with
        | .And, true => evBo cl cs op r t ρ S1
        | .And, false => okB false S1
        | .Or, true => okB true S1
        | .Or, false => evBo cl cs op r t ρ S1)
      | _ => .stuck) := by
      intro t
      cases r with
      | nil => exact absurd rfl (hne)
      | cons a b => rfl
      | star a b => rfl
    cases es' with
    | nil =>
      cases r <;> simp [chkBs] at h2 <;> exact absurd rfl hne
    | cons y ys =>
      refine ⟨fun Q q => ?_, fun Q q => ?_⟩
      · rw [hev] at q
        cases op with
        | And =>
          refine .of (pe_and pe_wp pe_wp) ?_
          refine dst_asB (he T h1 s rr).1 (fun w S hw => ?_) (fun ι2 H2 S2 b l2 s2 q => ⟨b, rfl, ?_⟩) q
          · split
            · rename_i b; exact absurd rfl (hw b)
            · rfl
          · cases b with
            | true => exact (hr T h2 s2 (rr.mono l2)).1 Q q
            | false => exact dst_b q s2
        | Or =>
          refine .of (pe_or pe_wp pe_wp) ?_
          refine dst_asB (he T h1 s rr).1 (fun w S hw => ?_) (fun ι2 H2 S2 b l2 s2 q => ⟨b, rfl, ?_⟩) q
          · split
            · rename_i b; exact absurd rfl (hw b)
            · rfl
          · cases b with
            | true => exact dst_b q s2
            | false => exact (hr T h2 s2 (rr.mono l2)).1 Q q
      · rw [hev] at q
        cases op with
        | And =>
          refine .of (pw_and pt_wp pw_wp) ?_
          rw [asB_bind (g := fun b S1 => if b then evBo cl cs .And r true ρ S1 else okB false S1) _ _ (fun b S => by cases b <;> rfl) (fun w S hw => ?_), asB_r] at q
          · refine one_stepT (he T h1 s rr).2 (fun ι2 H2 S2 k l2 s2 q => ?_) q
            cases k with
            | true => exact (hr T h2 s2 (rr.mono l2)).2 Q q
            | false => exact q ι2 H2 _ (.refl _ _) s2 rfl
          · split
            · rename_i b; exact absurd rfl (hw b)
            · rfl
        | Or =>
          refine .of (pw_or pt_wp pw_wp) ?_
          rw [asB_bind (g := fun b S1 => if b then okB true S1 else evBo cl cs .Or r true ρ S1) _ _ (fun b S => by cases b <;> rfl) (fun w S hw => ?_), asB_r] at q
          · refine one_stepT (he T h1 s rr).2 (fun ι2 H2 S2 k l2 s2 q => ?_) q
            cases k with
            | true => exact q ι2 H2 _ (.refl _ _) s2 rfl
            | false => exact (hr T h2 s2 (rr.mono l2)).2 Q q
          · split
            · rename_i b; exact absurd rfl (hw b)
            · rfl
theorem bo_nil : BoOk C gx g cl cs n .nil := by intro X sc Wx op es pos ι H S σ ρ T h; simp [chkBs] at h
theorem bo_star {e : E} {r : Es} : BoOk C gx g cl cs n (.star e r) := by intro X sc Wx op es pos ι H S σ ρ T h; simp [chkBs] at h
theorem ok_boo {op : BoolOp} {es : Es} (hb : BoOk C gx g cl cs n es) : EOk C gx g cl cs n (.boo op es) := by
  intro X sc Wx e ι H S σ ρ T h s rr
  simp only [chkE] at h
  split at h
  · rename_i op' vs pos
    simp only [Bool.and_eq_true] at h
    obtain ⟨h0, h⟩ := h
    have ho := eq_of_beq h0
    subst ho
    refine ⟨fun Q q => (hb T h s rr).1 Q (by simpa only [ev] using q), fun Q q => ?_⟩
    exact ((hb T h s rr).2 Q (by simpa only [ev] using q)).t
  · cases h
theorem es_nil : EsOk C gx g cl cs n .nil := by
  intro X sc Wx es ι H S σ ρ T h s rr Q q
  simp only [chkEs] at h
  split at h
  · exact .of pa_nil (q ι H [] (.refl _ _) s .nil)
  · cases h
theorem es_cons {e : E} {r : Es} (he : EOk C gx g cl cs n e) (hr : EsOk C gx g cl cs n r) : EsOk C gx g cl cs n (.cons e r) := by
  intro X sc Wx es ι H S σ ρ T h s rr Q q
  simp only [chkEs] at h
  split at h
  · rename_i x es'
    rw [Bool.and_eq_true] at h
    refine .of (pa_cons pe_wp pa_wp (starEach_plain (fun v p z => by subst z; exact chkE_plain h.1))) ?_
    simp only [evEs] at q
    refine one_step (he T h.1 s rr).1 (fun ι1 H1 S1 v w l1 s1 rx q => ?_) q
    refine one_stepA (hr T h.2 s1 (rr.mono l1)) (fun ι2 H2 S2 vs ws l2 s2 rs q => ?_) q
    exact q ι2 H2 _ (.refl _ _) s2 (.cons (rx.mono l2) rs)
  · cases h
theorem es_star {e : E} {r : Es} : EsOk C gx g cl cs n (.star e r) := by intro X sc Wx es ι H S σ ρ T h; simp [chkEs] at h
theorem rpall_rws {K : PySem.W.Frag} {w : Ws} {ι : List Addr} {H : Hp} : ∀ {vs : List V} {ds : List PyData}, RpAll K H vs ds → RWs K w ι H vs (ds.map W.p)
  | _, _, .nil => .nil
  | _, _, .cons h r => .cons (x := .p _) h (rpall_rws r)
theorem ex_nil : EXOk C gx g cl cs n .nil := by
  intro X sc Wx es ι H S σ ρ T h s rr Q q
  simp only [chkEX] at h
  split at h
  · exact .of pa_nil (q ι H [] (.refl _ _) s .nil)
  · cases h
theorem ex_cons {e : E} {r : Es} (he : EOk C gx g cl cs n e) (hr : EXOk C gx g cl cs n r) : EXOk C gx g cl cs n (.cons e r) := by
  intro X sc Wx es ι H S σ ρ T h s rr Q q
  simp only [chkEX] at h
  split at h
  · rename_i x es'
    rw [Bool.and_eq_true] at h
    refine .of (pa_cons pe_wp pa_wp (starEach_plain (fun v p z => by subst z; exact chkE_plain h.1))) ?_
    simp only [evEs] at q
    refine one_step (he T h.1 s rr).1 (fun ι1 H1 S1 v w l1 s1 rx q => ?_) q
    refine one_stepA (hr T h.2 s1 (rr.mono l1)) (fun ι2 H2 S2 vs ws l2 s2 rs q => ?_) q
    exact q ι2 H2 _ (.refl _ _) s2 (.cons (rx.mono l2) rs)
  · cases h
theorem ex_star {e : E} {r : Es} (he : EOk C gx g cl cs n e) (hr : EXOk C gx g cl cs n r) : EXOk C gx g cl cs n (.star e r) := by
  intro X sc Wx es ι H S σ ρ T h s rr Q q
  simp only [chkEX] at h
  split at h
  · rename_i x p es'
    rw [Bool.and_eq_true] at h
    refine .of (StX.pa_star pe_wp pa_wp) ?_
    simp only [evEs] at q
    refine one_step (he T h.1 s rr).1 (fun ι1 H1 S1 v w l1 s1 rx q => ?_) q
    have go : ∀ {a : Addr} {vs : List V} {xs : List PyData}, v = .ref a → (SqT X.K H1 a vs ∨ SqL X.K H1 a vs) → RpAll X.K H1 vs xs → Dst gx X.K ι1 H1 σ Wx (RlA X.K (ux gx X)) Q ((evEs cl cs r ρ S1).bind fun ws S2 => .ok (xs.map W.p ++ ws) S2) →
        ∃ p xs, v = V.ref p ∧ (SqT X.K H1 p xs ∨ SqL X.K H1 p xs) ∧ WpA X es' σ H1 (fun ys H2 => Q (xs ++ ys) H2) := fun {a vs xs} hv hq ra q =>
      ⟨_, _, hv, hq, one_stepA (f := fun ws S2 => .ok (xs.map W.p ++ ws) S2) (hr T h.2 s1 (rr.mono l1)) (fun ι2 H2 S2 ys ws l2 s2 rs q => q ι2 H2 _ (.refl _ _) s2 ((rpall_rws (ra.mono l2.kp)).append rs)) q⟩
    split at q
    · rename_i xs
      cases rx with
      | tup hq ra => exact go rfl (.inl hq) ra q
    · rename_i xs
      cases rx with
      | lst hq ra => exact go rfl (.inr (.inl (.inr ⟨_, hq⟩))) ra q
    · exact q.elim
  · cases h
theorem ks_nil : KsOk C gx g cl cs n .nil := by
  intro X sc Wx ks es ι H S σ ρ T h s rr Q q
  simp only [chkKs] at h
  split at h
  · exact .of pk_nil (q ι H [] (.refl _ _) s .nil)
  · cases h
theorem ks_cons {e : E} {r : Es} (he : EOk C gx g cl cs n e) (hr : KsOk C gx g cl cs n r) : KsOk C gx g cl cs n (.cons e r) := by
  intro X sc Wx ks es ι H S σ ρ T h s rr Q q
  simp only [chkKs] at h
  split at h
  · simp only [Bool.and_eq_true] at h
    refine .of (pk_cons pe_wp pk_wp) ?_
    simp only [evEs] at q
    refine one_step (he T h.1.2 s rr).1 (fun ι1 H1 S1 v w l1 s1 rx q => ?_) q
    refine (hr T h.2 s1 (rr.mono l1) _ q.bind).mono ?_
    rintro vs H2 ⟨ι2, S2, ws, l2, s2, rs, q⟩
    exact q ι2 H2 _ (.refl _ _) s2 (.cons (rx.mono l2) rs)
  · cases h
theorem ks_star {e : E} {r : Es} : KsOk C gx g cl cs n (.star e r) := by intro X sc Wx ks es ι H S σ ρ T h; simp [chkKs] at h
theorem chkKs_spec {sc : Sc} {pos : Pos} {env : PySem.Env} : ∀ {kv : Es} {ks : List Str} {kws : List Keyword}, chkKs g sc kv ks kws = true →
    (backToKw pos (keywordEach kws env)).all (·.1.isSome) = true ∧ (backToKw pos (keywordEach kws env)).filterMap (·.1) = ks ∧ (backToKw pos (keywordEach kws env)).any (·.1.isNone) = false
  | .nil, ks, kws, h => by
    simp only [chkKs] at h
    split at h
    · exact ⟨rfl, rfl, rfl⟩
    · cases h
  | .cons a r, ks, kws, h => by
    simp only [chkKs] at h
    split at h
    · rename_i k ks x e p kws
      simp only [Bool.and_eq_true] at h
      obtain ⟨h1, h2, h3⟩ := chkKs_spec (pos := pos) (env := env) h.2
      have hx := eq_of_beq h.1.1
      subst hx
      refine ⟨?_, ?_, ?_⟩
      · show (true && _) = true; rw [Bool.true_and]; exact h1
      · show x :: _ = x :: _; rw [← h2]; rfl
      · show (false || _) = false; rw [Bool.false_or]; exact h3
    · cases h
  | .star _ _, ks, kws, h => by simp [chkKs] at h
theorem ifs_nil : IfsOk C gx g cl cs n .nil := by
  intro X sc Wx es ι H S σ ρ T h s rr Q q
  simp only [chkTs] at h
  split at h
  · exact .of pts_nil (q ι H true (.refl _ _) s rfl)
  · cases h
theorem ifs_cons {e : E} {r : Es} (he : EOk C gx g cl cs n e) : IfsOk C gx g cl cs n (.cons e r) := by
  intro X sc Wx es ι H S σ ρ T h s rr Q q
  simp only [chkTs] at h
  split at h
  · rename_i x
    rw [Bool.and_eq_true] at h
    obtain ⟨h1, h2⟩ := h
    split at h2
    · refine .of (pts_one pt_wp) ?_
      simp only [evIfs] at q
      rw [asB_bind (g := fun b S1 => .ok b S1) _ _ (fun b S => by cases b <;> rfl) (fun w S hw => ?_)] at q
      · exact one_stepT (f := fun b S1 => .ok b S1) (Fin := Q) (he T h1 s rr).2 (fun ι2 H2 S2 k l2 s2 q => q ι2 H2 _ (.refl _ _) s2 rfl) q
      · split
        · exact absurd rfl (hw true)
        · exact absurd rfl (hw false)
        · rfl
    · cases h2
  · cases h
theorem ifs_star {e : E} {r : Es} : IfsOk C gx g cl cs n (.star e r) := by intro X sc Wx es ι H S σ ρ T h; simp [chkTs] at h
theorem op_non : OpOk C gx g cl cs n .non := by
  intro X sc Wx e ι H S σ ρ T h s rr Q q
  simp only [chkO] at h
  split at h
  · exact .of po_none (q ι H none (.refl _ _) s rfl)
  · cases h
theorem op_som {e : E} (he : EOk C gx g cl cs n e) : OpOk C gx g cl cs n (.som e) := by
  intro X sc Wx e ι H S σ ρ T h s rr Q q
  simp only [chkO] at h
  split at h
  · refine .of (po_some pe_wp) ?_
    simp only [evOp] at q
    refine one_step (he T h s rr).1 (fun ι1 H1 S1 v w l1 s1 rx q => ?_) q
    split at q
    · rename_i i; cases rx; exact ⟨i, rfl, q ι1 H1 _ (.refl _ _) s1 rfl⟩
    · exact q.elim
  · cases h
theorem tyV_tyS (t : Ty) : bootBuiltins (tyN t) = some (.type (tyS t)) := by cases t <;> decide +kernel
theorem tyN_ok (t : Ty) : tyN t ≠ "__name__" := by cases t <;> decide +kernel
theorem tyN_db (t : Ty) : (tyN t == ("__debug__" : Str)) = false := by cases t <;> decide +kernel
theorem ok_isi {a : E} {ts : List Ty} (ha : EOk C gx g cl cs n a) : EOk C gx g cl cs n (.isi a ts) := by
  intro X sc Wx e ι H S σ ρ T h s rr
  simp only [chkE] at h
  split at h
  · rename_i x p y t pos
    simp only [Bool.and_eq_true] at h
    obtain ⟨⟨⟨h1, h2⟩, h3⟩, h4⟩ := h
    have h2 := eq_of_beq h2; subst h2
    unfold chkTy at h4
    split at h4
    · rename_i T1 x' p'
      simp only [Bool.and_eq_true] at h4
      obtain ⟨h5, h6⟩ := h4
      have h6 := eq_of_beq h6; subst h6
      refine both (by intro _; rfl) fun Q q => ?_
      refine .of (pe_callB (call_wp (X := X) (f := .builtin "isinstance")) (T.R.gl _ h1) T.G.isi (by decide +kernel) (pa_cons pe_wp (pa_cons (pe_bltn (v := .ty (tyS T1)) (T.R.gl _ h5) (T.G.ty T1) (tyV_tyS T1) rfl (tyN_ok T1) (tyN_db T1)) pa_nil rfl) ?_) (by decide) (by decide) ?_ ?_) ?_
      · exact starEach_plain (fun v p z => by subst z; exact chkE_plain h3)
      · exact starEach_plain (fun v p z => by subst z; exact chkE_plain h3)
      · rfl
      · refine one_step (ha T h3 s rr).1 (fun ι1 H1 S1 v w l1 s1 rx q => ?_) q
        split at q
        · rename_i d hd
          have q' := dst_b q s1
          simp only [List.any_cons, List.any_nil, Bool.or_false] at q'
          exact isi_ok (view_dp s1 rx hd) q'
        · exact q.elim
    · cases h4
  · cases h
theorem ok_call {f : Nat} {as : Es} (ha : EsOk C gx g cl cs n as) : EOk C gx g cl cs n (.call f as) := by
  intro X sc Wx e ι H S σ ρ T h s rr
  simp only [chkE] at h
  split at h
  · rename_i x p args pos
    simp only [Bool.and_eq_true, Bool.not_eq_true'] at h
    obtain ⟨⟨⟨⟨⟨h1, h2⟩, h3⟩, h4⟩, h5⟩, hh⟩ := h
    obtain ⟨d1, d2⟩ := okName_spec h2
    have hc := T.R.cm hh
    obtain ⟨fa, fd, ps, hm, hk, hb, F⟩ := T.G.fns f x (of_decide_eq_true (by simpa using h3)) h5
    refine both (by intro _; rfl) fun Q q => ?_
    have fin : ∀ ι1 H1 S1 vs ws, Lt ι ι1 H H1 → Sim X.K ι1 H1 S1 → RWs X.K (ux gx X) ι1 H1 vs ws → Dst gx X.K ι1 H1 σ Wx (RlV X.K (ux gx X)) Q (cl f ws S1) → spF gx X.K X.w cl f vs H1 Q (WE Wx σ) :=
      fun ι1 H1 S1 vs ws l1 s1 rs q => ⟨ι1, S1, ws, s1, RWs.to (w1 := ux gx X) (w2 := u0 gx X.w) rfl (ux_calm hc) rs, (q.back hc).callee⟩
    cases args with
    | nil =>
      refine .of (pe_call0G F ((T.R.room hh).mono (by omega)) (fun e => (T.rp e).hg) (T.R.gl _ h1) hm hk hb T.tk d1) ?_
      cases as with
      | nil =>
        simp only [evEs, R.bind_ok] at q
        exact fin ι H S [] [] (.refl _ _) s .nil q
      | cons a b => simp [chkEs] at h4
      | star a b => simp [chkEs] at h4
    | cons a r =>
      have hp : starEach (a :: r) X.env = (false, eval a X.env) :: starEach r X.env := by
        cases as with
        | nil => simp [chkEs] at h4
        | cons b c =>
          simp only [chkEs, Bool.and_eq_true] at h4
          exact starEach_plain (fun v p z => by subst z; exact chkE_plain h4.1)
        | star b c => simp [chkEs] at h4
      have hq : (backTo pos (starEach r X.env)).any (·.1) = false := by
        rw [back_any]
        have := plain_args (env := X.env) (pos := pos) h4
        rw [hp, List.any_cons] at this
        simpa using this
      refine .of (pe_callG F ((T.R.room hh).mono (by omega)) (fun e => (T.rp e).hg) (T.R.gl _ h1) hm hk hb T.tk pa_wp d1 hp hq) ?_
      exact one_stepA (ha T h4 s rr) (fun ι1 H1 S1 vs ws l1 s1 rs q => fin ι1 H1 S1 vs ws l1 s1 rs q) q
  · cases h
theorem ok_callK {f : Nat} {as : Es} {kn : List Str} {kv : Es} {mp : List (Sum Nat PyData)} (ha : EsOk C gx g cl cs n as) (hv : KsOk C gx g cl cs n kv) : EOk C gx g cl cs n (.callK f as kn kv mp) := by
  intro X sc Wx e ι H S σ ρ T h s rr
  simp only [chkE] at h
  split at h
  · rename_i x p args kws pos
    simp only [Bool.and_eq_true, Bool.not_eq_true'] at h
    obtain ⟨⟨⟨⟨⟨⟨⟨h1, h2⟩, h3⟩, h4⟩, h5⟩, h6⟩, h7⟩, hh⟩ := h
    have hc := T.R.cm hh
    have h7 : (f, as.len, kn, mp) ∈ g.kw := by
      rw [List.any_eq_true] at h7
      obtain ⟨⟨f', m', kn', mp'⟩, hm, hy⟩ := h7
      simp only [Bool.and_eq_true] at hy
      have e1 := eq_of_beq hy.1.1.1
      have e0 := eq_of_beq hy.1.1.2
      have e2 := eq_of_beq hy.1.2
      have e3 := mpB_eq hy.2
      rw [← e1, ← e0, ← e2, ← e3]
      exact hm
    obtain ⟨d1, d2⟩ := okName_spec h2
    obtain ⟨fa, fd, ps, gg, gV, hm, hk, hb, F, rel⟩ := T.G.kws f x as.len kn mp (of_decide_eq_true (by simpa using h3)) h7
    obtain ⟨k1, k2, k3⟩ := chkKs_spec (pos := pos) (env := X.env) h6
    refine both (by intro _; rfl) fun Q q => ?_
    cases args with
    | nil => simp at h5
    | cons a r =>
      have hp : starEach (a :: r) X.env = (false, eval a X.env) :: starEach r X.env := by
        cases as with
        | nil => simp [chkEs] at h4
        | cons b c =>
          simp only [chkEs, Bool.and_eq_true] at h4
          exact starEach_plain (fun v p z => by subst z; exact chkE_plain h4.1)
        | star b c => simp [chkEs] at h4
      have hq : (backTo pos (starEach (a :: r) X.env)).any (·.1) = false := by
        rw [back_any]; exact plain_args (env := X.env) (pos := pos) h4
      refine .of (pe_callKG F ((T.R.room hh).mono (by omega)) (fun e => (T.rp e).hg) (T.R.gl _ h1) hm hk hb T.tk pa_wp pk_wp k1 k2 d1 hp (by rw [hq, k3]; rfl)) ?_
      refine one_stepA (ha T h4 s rr) (fun ι1 H1 S1 vs ws l1 s1 rs q => ?_) q
      refine (hv T h6 s1 (rr.mono l1) _ q.bind).mono ?_
      rintro zs H2 ⟨ι2, S2, xs, l2, s2, rz, q⟩
      simp only at q
      split at q
      case isFalse => exact q.elim
      rename_i hlen
      refine ⟨by rw [rs.length]; exact hlen.1, by rw [rz.length]; exact hlen.2, ?_⟩
      split at q
      · rename_i us hu
        exact ⟨ι2, S2, us, s2, rel ι2 H2 vs ws zs xs us (by rw [rs.length]; exact hlen.1) (by rw [rz.length]; exact hlen.2) (RWs.to (w1 := ux gx X) (w2 := u0 gx X.w) rfl (ux_calm hc) (rs.mono l2)) (RWs.to (w1 := ux gx X) (w2 := u0 gx X.w) rfl (ux_calm hc) rz) hu, (q.back hc).callee⟩
      · exact q.elim
  · cases h
theorem ok_bi {m : Bool} {b : Bi} {as : Es} (ha : EsOk C gx g cl cs n as) : EOk C gx g cl cs n (.bi m b as) := by
  intro X sc Wx e ι H S σ ρ T h s rr
  simp only [chkE] at h
  split at h
  · rename_i x p args pos
    simp only [Bool.and_eq_true] at h
    obtain ⟨⟨⟨⟨⟨⟨h1, h2⟩, h3⟩, h4⟩, h5⟩, h6⟩, hh⟩ := h
    have hh : sc.hot = false := by simpa using hh
    obtain ⟨d1, d2⟩ := okName_spec h2
    have h3 := eq_of_beq h3; subst h3
    have hrp : b = .repr → CxR X := fun e => by
      subst e
      exact T.rp (by simpa using h6)
    refine both (by intro _; rfl) fun Q q => ?_
    cases args with
    | nil => simp at h5
    | cons a r =>
      have hp : starEach (a :: r) X.env = (false, eval a X.env) :: starEach r X.env := by
        cases as with
        | nil => simp [chkEs] at h4
        | cons b c =>
          simp only [chkEs, Bool.and_eq_true] at h4
          exact starEach_plain (fun v p z => by subst z; exact chkE_plain h4.1)
        | star b c => simp [chkEs] at h4
      have hq : (backTo pos (starEach r X.env)).any (·.1) = false := by
        rw [back_any]
        have := plain_args (env := X.env) (pos := pos) h4
        rw [hp, List.any_cons] at this
        simpa using this
      refine .of (pe_biV call_wp (T.R.gl _ h1) (T.G.bi b) pa_wp d1 hp hq) ?_
      exact one_stepA (ha T h4 s rr) (fun ι1 H1 S1 vs ws l1 s1 rs q => biW_ok (T.R.o hh) hrp q s1 rs) q
  · cases h
theorem ok_me {m : Me} {o : E} {as : Es} (ho : EOk C gx g cl cs n o) (ha : EsOk C gx g cl cs n as) : EOk C gx g cl cs n (.me m o as) := by
  intro X sc Wx e ι H S σ ρ T h s rr
  simp only [chkE] at h
  split at h
  · rename_i ov nm apos args cpos
    simp only [Bool.and_eq_true, Bool.not_eq_true', decide_eq_true_eq] at h
    obtain ⟨⟨⟨⟨⟨⟨h0, h1⟩, h2⟩, h3⟩, h4⟩, h5⟩, h6⟩ := h
    have h2 := eq_of_beq h2; subst h2
    refine both (by intro _; rfl) fun Q q => ?_
    cases args with
    | nil =>
      refine .of (pe_me0 h0 pe_wp (base_of h5) h4) ?_
      cases as with
      | nil =>
        refine one_step (ho T h1 s rr).1 (fun ι1 H1 S1 v w l1 s1 rx q => ?_) q
        split at q
        · rename_i ht
          exact ⟨meT_ok ht s1 rx, meW_ok q s1 rx .nil⟩
        · exact q.elim
      | cons a b => simp [chkEs] at h3
      | star a b => simp [chkEs] at h3
    | cons a r =>
      have hp : starEach (a :: r) X.env = (false, eval a X.env) :: starEach r X.env := by
        cases as with
        | nil => simp [chkEs] at h3
        | cons b c =>
          simp only [chkEs, Bool.and_eq_true] at h3
          exact starEach_plain (fun v p z => by subst z; exact chkE_plain h3.1)
        | star b c => simp [chkEs] at h3
      have hq : (starEach r X.env).any (·.1) = false := by
        have := plain_args (env := X.env) (pos := cpos) h3
        rw [hp, List.any_cons] at this
        simpa using this
      refine .of (pe_me h0 pe_wp pa_wp (base_of h5) h4 hq h6 hp) ?_
      refine one_step (ho T h1 s rr).1 (fun ι1 H1 S1 v w l1 s1 rx q => ?_) q
      split at q
      · rename_i ht
        refine ⟨meT_ok ht s1 rx, ?_⟩
        exact one_stepA (ha T h3 s1 (rr.mono l1)) (fun ι2 H2 S2 vs ws l2 s2 rs q => meW_ok q s2 (rx.mono l2) rs) q
      · exact q.elim
  · cases h
theorem ok_sset {m : Bool} {a : E} (ha : EOk C gx g cl cs n a) : EOk C gx g cl cs n (.sset m a) := by
  intro X sc Wx e ι H S σ ρ T h s rr
  simp only [chkE] at h
  split at h
  · rename_i x p y p2 z p3 pos
    simp only [Bool.and_eq_true] at h
    obtain ⟨⟨⟨⟨⟨h1, h2⟩, h3⟩, h4⟩, h5⟩, hh⟩ := h
    have hh : sc.hot = false := by simpa using hh
    have h2 := eq_of_beq h2; subst h2
    have h4 := eq_of_beq h4; subst h4
    have hz := starEach_plain (e := z) (env := X.env) (es := []) (fun v p z => by subst z; exact chkE_plain h5)
    refine both (by intro _; rfl) fun Q q => .ghost ?_
    refine .of (pe_callB (cr_sortedSet (T.R.cm hh)) (T.R.gl _ h1) (T.G.bi .sorted) (by decide +kernel) (pa_cons (pe_callTy (cr_setOfL (T.R.cm hh)) (T.R.gl _ h3) T.G.set (by decide +kernel) (pa_cons pe_wp pa_nil hz) (by decide) (by decide) hz rfl) pa_nil rfl) (by decide) (by decide) rfl rfl) ?_
    refine one_step (ha T h5 s rr).1 (fun ι1 H1 S1 v w l1 s1 rx q => ?_) q
    split at q
    · rename_i xs hv
      split at q
      · rename_i is hi
        split at q
        · rename_i hl
          obtain ⟨b, us, rfl, hb, ra⟩ := view_list s1 rx hv
          obtain ⟨e1, e2⟩ := ra.ints hi
          subst e1
          refine ⟨b, is, rfl, .inl hb, by show is.length + 1 < scanBound; unfold scanBound; omega, fun p nn hp hn => ?_⟩
          refine ⟨p, _, nn, rfl, upd_same, by omega, fun ns p2 hs hm hlen hp2 => ?_⟩
          have e3 : ns = setI is := sorted_eq hs setI_sorted fun k => by rw [hm k, setI_mem]; simp
          subst e3
          have s2 := s1.new (o := SetO X.w p (fun j => decide (j ∈ is)) nn) hp
          have rl : RpAll X.K (upd H1 p (SetO X.w p (fun j => decide (j ∈ is)) nn)) ((setI is).map V.int) ((setI is).map PyData.int) := by
            generalize setI is = l
            induction l with
            | nil => exact .nil
            | cons x r ih => exact .cons (.int x) ih
          exact dst_lst (q.later (.new hp)) s2 rl hp2
        · exact q.elim
      · exact q.elim
    · exact q.elim
  · cases h
/-! ### walks -/
theorem it_e {e : E} (he : EOk C gx g cl cs n e) : ItOk C gx g cl cs n (.e e) := by
  intro X sc Wx x ι H S σ ρ T h s rr tg htg Q q
  simp only [chkIt, Bool.and_eq_true] at h
  refine .of (pi_any pe_wp) ?_
  simp only [evIt] at q
  refine one_step (he T h.1 s rr).1 (fun ι1 H1 S1 v w l1 s1 rx q => ?_) q
  split at q
  · rename_i xs
    cases rx with
    | tup hq r => exact .inr (.inl ⟨_, _, rfl, hq, q ι1 H1 _ (.refl _ _) s1 (yields_tup hq r)⟩)
  · rename_i xs
    cases rx with
    | lst hq r => exact .inl ⟨_, _, rfl, .inl (.inr ⟨_, hq⟩), q ι1 H1 _ (.refl _ _) s1 (yields_list hq r)⟩
  · rename_i z
    cases rx
    exact .inr (.inr ⟨z, rfl, q ι1 H1 _ (.refl _ _) s1 yields_str⟩)
  · exact q.elim
theorem it_r1 {a : E} (ha : EOk C gx g cl cs n a) : ItOk C gx g cl cs n (.r1 a) := by
  intro X sc Wx x ι H S σ ρ T h s rr tg htg Q q
  simp only [chkIt] at h
  split at h
  · rename_i r p y pos
    simp only [Bool.and_eq_true] at h
    obtain ⟨⟨h1, h2⟩, h3⟩ := h
    have h2 := eq_of_beq h2; subst h2
    have hy := starEach_plain (e := y) (env := X.env) (es := []) (fun v p z => by subst z; exact chkE_plain h3)
    refine .of (pi_range1 (T.R.gl _ h1) T.G.rng (pa_cons pe_wp pa_nil hy) hy) ?_
    simp only [evIt] at q
    refine one_step (ha T h3 s rr).1 (fun ι1 H1 S1 v w l1 s1 rx q => ?_) q
    split at q
    · rename_i j
      cases rx
      split at q
      · rename_i hj
        exact ⟨j, rfl, hj.1, hj.2, q ι1 H1 _ (.refl _ _) s1 yields_range⟩
      · exact q.elim
    · exact q.elim
  · cases h
theorem it_r2 {a b : E} (ha : EOk C gx g cl cs n a) (hb : EOk C gx g cl cs n b) : ItOk C gx g cl cs n (.r2 a b) := by
  intro X sc Wx x ι H S σ ρ T h s rr tg htg Q q
  simp only [chkIt] at h
  split at h
  · rename_i r p y z pos
    simp only [Bool.and_eq_true] at h
    obtain ⟨⟨⟨h1, h2⟩, h3⟩, h4⟩ := h
    have h2 := eq_of_beq h2; subst h2
    have hz := starEach_plain (e := z) (env := X.env) (es := []) (fun v p z => by subst z; exact chkE_plain h4)
    have hy := starEach_plain (e := y) (env := X.env) (es := [z]) (fun v p z => by subst z; exact chkE_plain h3)
    refine .of (pi_range2 (T.R.gl _ h1) T.G.rng (pa_cons pe_wp (pa_cons pe_wp pa_nil hz) hy) (by rw [hy, hz]; rfl) hz) ?_
    simp only [evIt] at q
    refine two_steps (ha T h3 s rr).1 (fun ι1 H1 S1 l1 s1 => (hb T h4 s1 (rr.mono l1)).1) (fun ι2 H2 S2 x y wx wy l2 s2 rx ry q => ?_) q
    split at q
    · rename_i i j
      cases rx; cases ry
      split at q
      · rename_i hj
        exact ⟨i, j, rfl, hj, q ι2 H2 _ (.refl _ _) s2 yields_range⟩
      · exact q.elim
    · exact q.elim
  · cases h
theorem it_zi {a b : E} (ha : EOk C gx g cl cs n a) (hb : EOk C gx g cl cs n b) : ItOk C gx g cl cs n (.zi a b) := by
  intro X sc Wx x ι H S σ ρ T h s rr tg htg Q q
  simp only [chkIt] at h
  split at h
  · rename_i r p y z pos
    simp only [Bool.and_eq_true] at h
    obtain ⟨⟨⟨h1, h2⟩, h3⟩, h4⟩ := h
    have h2 := eq_of_beq h2; subst h2
    have hz := starEach_plain (e := z) (env := X.env) (es := []) (fun v p z => by subst z; exact chkE_plain h4)
    have hy := starEach_plain (e := y) (env := X.env) (es := [z]) (fun v p z => by subst z; exact chkE_plain h3)
    cases tg with
    | Tuple elts kk tpos =>
      refine .of (RZ.pi_zipA (T.R.gl _ h1) T.G.zip (pa_cons pe_wp (pa_cons pe_wp pa_nil hz) hy) hy (by rw [hz]; rfl)) ?_
      simp only [evIt] at q
      refine two_steps (ha T h3 s rr).1 (fun ι1 H1 S1 l1 s1 => (hb T h4 s1 (rr.mono l1)).1) (fun ι2 H2 S2 x y wx wy l2 s2 rx ry q => ?_) q
      unfold zipW at q
      split at q
      · rename_i ds hd
        split at hd
        · cases hd
          cases rx with
          | tup h1 r1 =>
            cases ry with
            | tup h2 r2 => exact ⟨_, _, _, _, rfl, .inr ⟨h1, h2, q ι2 H2 _ (.refl _ _) s2 (yields_zipT h1 r1 h2 r2)⟩⟩
        · cases hd
          cases rx with
          | lst h1 r1 =>
            cases ry with
            | lst h2 r2 => exact ⟨_, _, _, _, rfl, .inl ⟨.inl (.inr ⟨_, h1⟩), .inl (.inr ⟨_, h2⟩), q ι2 H2 _ (.refl _ _) s2 (yields_zipL h1 r1 h2 r2)⟩⟩
        · cases hd
      · exact q.elim
    | _ => cases htg
  · cases h
theorem it_en {a : E} (ha : EOk C gx g cl cs n a) : ItOk C gx g cl cs n (.en a) := by
  intro X sc Wx x ι H S σ ρ T h s rr tg htg Q q
  simp only [chkIt] at h
  split at h
  · rename_i r p y pos
    simp only [Bool.and_eq_true] at h
    obtain ⟨⟨h1, h2⟩, h3⟩ := h
    have h2 := eq_of_beq h2; subst h2
    have hy := starEach_plain (e := y) (env := X.env) (es := []) (fun v p z => by subst z; exact chkE_plain h3)
    cases tg with
    | Tuple elts kk tpos =>
      refine .of (pi_en2 (T.R.gl _ h1) T.G.enu (pa_cons pe_wp pa_nil hy) hy) ?_
      simp only [evIt] at q
      refine one_step (ha T h3 s rr).1 (fun ι1 H1 S1 v w l1 s1 rx q => ?_) q
      split at q
      · rename_i xs
        cases rx with
        | lst h1 r1 => exact ⟨_, _, rfl, .inl ⟨.inl (.inr ⟨_, h1⟩), q ι1 H1 _ (.refl _ _) s1 (yields_enum h1 r1)⟩⟩
      · rename_i xs
        cases rx with
        | tup h1 r1 => exact ⟨_, _, rfl, .inr ⟨h1, q ι1 H1 _ (.refl _ _) s1 (yields_enT h1 r1)⟩⟩
      · exact q.elim
    | _ => cases htg
  · cases h
end
end Px

set_option Elab.async false
set_option maxRecDepth 100000
set_option linter.all false
set_option maxHeartbeats 1000000
/-! Px11o: objects of the module's classes, f-strings, defs as values. -/
namespace Px
open PySem L2 PySem.Spec
section
variable {K : PySem.W.Frag} {H : Hp}
theorem lk_rel {f : Str} : ∀ {vs : List (Str × V)} {fs : List (Str × PyData)}, vs.map (·.1) = fs.map (·.1) → RpAll K H (vs.map (·.2)) (fs.map (·.2)) →
    match fs.lookup f with
    | some d => ∃ v, vs.lookup f = some v ∧ Rp K H v d
    | none => vs.lookup f = none
  | [], [], _, _ => rfl
  | (g, v) :: vs, (g', d) :: fs, h, r => by
    simp only [List.map_cons, List.cons.injEq] at h
    obtain ⟨rfl, h⟩ := h
    cases r with
    | cons r0 rn =>
      have ih := lk_rel (f := f) h rn
      rw [List.lookup_cons, List.lookup_cons]
      cases hb : f == g
      · simp only [hb]; exact ih
      · simp only [hb]; exact ⟨v, rfl, r0⟩
  | [], _ :: _, h, _ => by simp at h
  | _ :: _, [], h, _ => by simp at h
theorem put_rel {f : Str} {v : V} {d : PyData} (hv : Rp K H v d) : ∀ {vs : List (Str × V)} {fs : List (Str × PyData)}, vs.map (·.1) = fs.map (·.1) → RpAll K H (vs.map (·.2)) (fs.map (·.2)) →
    (putF f v vs).map (·.1) = (putA f d fs).map (·.1) ∧ RpAll K H ((putF f v vs).map (·.2)) ((putA f d fs).map (·.2))
  | [], [], _, _ => ⟨rfl, .cons hv .nil⟩
  | (g, y) :: vs, (g', z) :: fs, h, r => by
    simp only [List.map_cons, List.cons.injEq] at h
    obtain ⟨rfl, h⟩ := h
    cases r with
    | cons r0 rn =>
      obtain ⟨i1, i2⟩ := put_rel hv h rn
      simp only [putF, putA]
      by_cases hg : g = f
      · rw [if_pos hg, if_pos hg]; subst hg; exact ⟨by simp [h], .cons hv rn⟩
      · rw [if_neg hg, if_neg hg]; exact ⟨by simp [i1], .cons r0 i2⟩
  | [], _ :: _, h, _ => by simp at h
  | _ :: _, [], h, _ => by simp at h
end
section
variable {K : PySem.W.Frag} {w : Ws} {ι : List Addr} {H : Hp} {S : Store} {x : Str} {l : List Str} {Ca : Addr}
theorem attrW_ok {nm : Str} {o : W} {v : V} {d : PyData} (ob : ObOk K x l Ca) (s : Sim K ι H S) (r : RW K w ι H v o) (h : attrW x nm o S = some d) : ∃ a dx vs y, v = .ref a ∧ H a = some (.ins Ca dx vs) ∧ vs.lookup nm = some y ∧ Rp K H y d := by
  unfold attrW at h
  split at h
  · rename_i i
    split at h
    · rename_i y fs hs
      split at h
      · rename_i hy
        subst hy
        obtain ⟨a, ha, rfl⟩ := r
        obtain ⟨C, dx, vs, h0, h1, h2, h3⟩ := s.ob _ _ _ hs ha
        have e : C = Ca := by
          have := h0.symm.trans ob.at_
          injection this with e; injection e with e; injection e
        subst e
        have lk := lk_rel (f := nm) h2 h3
        rw [h] at lk
        obtain ⟨y, l1, l2⟩ := lk
        exact ⟨a, dx, vs, y, rfl, h1, l1, l2⟩
      · cases h
    · cases h
  · cases h
theorem isObj_ok {m : Str} {o : W} {v : V} (ob : ObOk K x l Ca) (s : Sim K ι H S) (r : RW K w ι H v o) (h : isObj x m o S = true) : ∃ a dx vs, v = .ref a ∧ H a = some (.ins Ca dx vs) ∧ vs.lookup m = none := by
  unfold isObj at h
  split at h
  · rename_i i
    split at h
    · rename_i y fs hs
      rw [Bool.and_eq_true, decide_eq_true_eq] at h
      obtain ⟨hy, hn⟩ := h
      subst hy
      obtain ⟨a, ha, rfl⟩ := r
      obtain ⟨C, dx, vs, h0, h1, h2, h3⟩ := s.ob _ _ _ hs ha
      have e : C = Ca := by
        have := h0.symm.trans ob.at_
        injection this with e; injection e with e; injection e
      subst e
      have lk := lk_rel (f := m) h2 h3
      rw [Option.isNone_iff_eq_none.mp hn] at lk
      exact ⟨a, dx, vs, rfl, h1, lk⟩
    · cases h
  · cases h
theorem setA_ok {nm : Str} {o : W} {v y : V} {d : PyData} {S' : Store} (ob : ObOk K x l Ca) (s : Sim K ι H S) (r : RW K w ι H v o) (ry : Rp K H y d) (h : setA x nm o d S = some S') :
    ∃ a dx vs, v = .ref a ∧ H a = some (.ins Ca dx vs) ∧ vs.length < 1000 ∧ Lt ι ι H (upd H a (.ins Ca dx (putF nm y vs))) ∧ Sim K ι (upd H a (.ins Ca dx (putF nm y vs))) S' := by
  unfold setA at h
  split at h
  · rename_i i
    split at h
    · rename_i z fs hs
      split at h
      · rename_i hc
        obtain ⟨hy, hl⟩ := hc
        subst hy
        cases h
        obtain ⟨a, ha, rfl⟩ := r
        obtain ⟨C, dx, vs, h0, h1, h2, h3⟩ := s.ob _ _ _ hs ha
        have e : C = Ca := by
          have := h0.symm.trans ob.at_
          injection this with e; injection e with e; injection e
        subst e
        have k := Kp.ins (o := .ins C dx (putF nm y vs)) h1
        obtain ⟨p1, p2⟩ := put_rel (f := nm) (ry.mono k) h2 (h3.mono k)
        refine ⟨a, dx, vs, rfl, h1, ?_, .setI (List.mem_of_getElem? ha) h1, s.set ha k ⟨C, dx, _, h0, upd_same, p1, p2⟩⟩
        have := congrArg List.length h2
        simp only [List.length_map] at this
        omega
      · cases h
    · cases h
  · cases h
end
section
variable {C : CXT} {gx : GX} {g : Gd} {cl : Cl} {cs : List W} {n : Nat}
theorem ok_attr {x nm : Str} {o : E} (ho : EOk C gx g cl cs n o) : EOk C gx g cl cs n (.attr x nm o) := by
  intro X sc Wx e ι H S σ ρ T h s rr
  simp only [chkE] at h
  split at h
  · rename_i v y pos
    simp only [Bool.and_eq_true, Bool.not_eq_true'] at h
    obtain ⟨⟨⟨h1, h2⟩, h3⟩, h4⟩ := h
    have h1 := eq_of_beq h1; subst h1
    split at h4
    · rename_i l hl
      obtain ⟨Ca, ob, hm⟩ := T.G.oc x l hl
      refine both (by intro _; rfl) fun Q q => ?_
      refine .of (pe_fld pe_wp (base_of h3)) ?_
      refine one_step (ho T h2 s rr).1 (fun ι1 H1 S1 v w l1 s1 rx q => ?_) q
      split at q
      · rename_i d hd
        obtain ⟨a, dx, vs, z, rfl, e1, e2, e3⟩ := attrW_ok ob s1 rx hd
        exact ⟨a, Ca, dx, vs, z, rfl, e1, ob.cls, ob.noa _ (by simpa using h4), e2, dst_p q s1 e3⟩
      · exact q.elim
    · cases h4
  · cases h
theorem ok_mc {f : Nat} {x m : Str} {o : E} {as : Es} (ho : EOk C gx g cl cs n o) (ha : EsOk C gx g cl cs n as) : EOk C gx g cl cs n (.mc f x m o as) := by
  intro X sc Wx e ι H S σ ρ T h s rr
  simp only [chkE] at h
  split at h
  · rename_i ov nm apos args cpos
    simp only [Bool.and_eq_true, Bool.not_eq_true', decide_eq_true_eq] at h
    obtain ⟨⟨⟨⟨⟨⟨⟨⟨h1, h2⟩, h3⟩, h4⟩, h5⟩, h6⟩, h7⟩, h8⟩, hh⟩ := h
    have h1 := eq_of_beq h1; subst h1
    have hc := T.R.cm hh
    obtain ⟨l, hl⟩ := Option.isSome_iff_exists.mp h8
    obtain ⟨Ca, ob, hcg⟩ := T.G.oc x l hl
    obtain ⟨Ca', fa, fd, ps, hn, hm, hb, F⟩ := T.G.mt f x nm (by simpa using h7)
    have e : Ca' = Ca := by
      have := hn.symm.trans ob.at_
      injection this with e; injection e with e; injection e
    subst e
    refine both (by intro _; rfl) fun Q q => ?_
    have fin : ∀ ι1 H1 S1 vs ws, Lt ι ι1 H H1 → Sim X.K ι1 H1 S1 → RWs X.K (ux gx X) ι1 H1 vs ws → Dst gx X.K ι1 H1 σ Wx (RlV X.K (ux gx X)) Q (cl f ws S1) → spF gx X.K X.w cl f vs H1 Q (WE Wx σ) :=
      fun ι1 H1 S1 vs ws l1 s1 rs q => ⟨ι1, S1, ws, s1, RWs.to (w1 := ux gx X) (w2 := u0 gx X.w) rfl (ux_calm hc) rs, (q.back hc).callee⟩
    cases args with
    | nil =>
      refine .of (pe_meth0G F ((T.R.room hh).mono (by omega)) (fun e => (T.rp e).hg) ob.cls hm hb T.tk pe_wp (base_of h5) h4) ?_
      refine one_step (ho T h2 s rr).1 (fun ι1 H1 S1 v w l1 s1 rx q => ?_) q
      split at q
      · rename_i hob
        obtain ⟨a, dx, vs, rfl, e1, e2⟩ := isObj_ok ob s1 rx hob
        refine ⟨a, dx, vs, rfl, e1, e2, ?_⟩
        cases as with
        | nil =>
          simp only [evEs, R.bind_ok] at q
          exact fin ι1 H1 S1 _ _ l1 s1 (.cons rx .nil) q
        | cons a b => simp [chkEs] at h3
        | star a b => simp [chkEs] at h3
      · exact q.elim
    | cons a r =>
      have hp : starEach (a :: r) X.env = (false, eval a X.env) :: starEach r X.env := by
        cases as with
        | nil => simp [chkEs] at h3
        | cons b c =>
          simp only [chkEs, Bool.and_eq_true] at h3
          exact starEach_plain (fun v p z => by subst z; exact chkE_plain h3.1)
        | star b c => simp [chkEs] at h3
      have hpa := plain_args (env := X.env) (pos := cpos) h3
      have hq : (backTo cpos (starEach r X.env)).any (·.1) = false := by
        rw [back_any]
        have := hpa
        rw [hp, List.any_cons] at this
        simpa using this
      have hf : methodCallForm (a :: r).length (backTo cpos (starEach (a :: r) X.env)) (backToKw cpos (keywordEach [] X.env)) = true := by
        unfold methodCallForm
        rw [back_all, hpa]
        simp only [List.length_cons] at h6
        simp [List.length_cons, backToKw, keywordEach]
        omega
      refine .of (pe_methG F ((T.R.room hh).mono (by omega)) (fun e => (T.rp e).hg) ob.cls hm hb T.tk pe_wp pa_wp (base_of h5) hf h4 hp hq) ?_
      refine one_step (ho T h2 s rr).1 (fun ι1 H1 S1 v w l1 s1 rx q => ?_) q
      split at q
      · rename_i hob
        obtain ⟨a, dx, vs, rfl, e1, e2⟩ := isObj_ok ob s1 rx hob
        refine ⟨a, dx, vs, rfl, e1, e2, ?_⟩
        exact one_stepA (ha T h3 s1 (rr.mono l1)) (fun ι2 H2 S2 vs ws l2 s2 rs q => fin ι2 H2 S2 _ _ (l1.trans l2) s2 (.cons (rx.mono l2) rs) q) q
      · exact q.elim
  · cases h
theorem ok_mk {f : Nat} {x : Str} {as : Es} (ha : EsOk C gx g cl cs n as) : EOk C gx g cl cs n (.mk f x as) := by
  intro X sc Wx e ι H S σ ρ T h s rr
  simp only [chkE] at h
  split at h
  · rename_i y p args pos
    simp only [Bool.and_eq_true, Bool.not_eq_true'] at h
    obtain ⟨⟨⟨⟨⟨⟨⟨h1, h2⟩, h3⟩, h4⟩, h5⟩, h6⟩, h7⟩, hh⟩ := h
    have h1 := eq_of_beq h1; subst h1
    obtain ⟨d1, d2⟩ := okName_spec h3
    have hc := T.R.cm hh
    obtain ⟨l, hl⟩ := Option.isSome_iff_exists.mp h7
    obtain ⟨Ca, ob, hcg⟩ := T.G.oc y l hl
    obtain ⟨Ca', fa, fd, ps, hn, hm, hb, F⟩ := T.G.mi f y (by simpa using h6)
    have e : Ca' = Ca := by
      have := hn.symm.trans ob.at_
      injection this with e; injection e with e; injection e
    subst e
    refine both (by intro _; rfl) fun Q q => ?_
    cases args with
    | nil => simp at h5
    | cons a r =>
      have hp : starEach (a :: r) X.env = (false, eval a X.env) :: starEach r X.env := by
        cases as with
        | nil => simp [chkEs] at h4
        | cons b c =>
          simp only [chkEs, Bool.and_eq_true] at h4
          exact starEach_plain (fun v p z => by subst z; exact chkE_plain h4.1)
        | star b c => simp [chkEs] at h4
      have hq : (backTo pos (starEach r X.env)).any (·.1) = false := by
        rw [back_any]
        have := plain_args (env := X.env) (pos := pos) h4
        rw [hp, List.any_cons] at this
        simpa using this
      refine .of (pe_makeG hm F ((T.R.room hh).mono (by omega)) (fun e => (T.rp e).hg) (T.R.gl _ h2) hcg hb T.tk pa_wp d1 hp hq) ?_
      refine one_stepA (ha T h4 s rr) (fun ι1 H1 S1 vs ws l1 s1 rs q => ?_) q
      intro o dx ho hdx hne
      have l2 : Lt ι1 ι1 H1 (upd H1 dx (.own o)) := .new hdx
      have ho' : (upd H1 dx (.own o)) o = none := by rw [upd_ne (Ne.symm hne)]; exact ho
      have l3 : Lt ι1 (ι1 ++ [o]) (upd H1 dx (.own o)) (upd (upd H1 dx (.own o)) o (.ins Ca' dx [])) := .push ho'
      have s3 : Sim X.K (ι1 ++ [o]) (upd (upd H1 dx (.own o)) o (.ins Ca' dx [])) (S1 ++ [.obj y []]) := (s1.new hdx).push ho' ⟨Ca', dx, [], hn, upd_same, rfl, .nil⟩
      have r3 : RW X.K (ux gx X) (ι1 ++ [o]) (upd (upd H1 dx (.own o)) o (.ins Ca' dx [])) (.ref o) (.ref S1.length) := ⟨o, by rw [← s1.len]; simp, rfl⟩
      have rs3 : RWs X.K (ux gx X) (ι1 ++ [o]) (upd (upd H1 dx (.own o)) o (.ins Ca' dx [])) (.ref o :: vs) (.ref S1.length :: ws) := .cons r3 ((rs.mono l2).mono l3)
      refine ⟨ι1 ++ [o], S1 ++ [.obj y []], .ref S1.length :: ws, s3, RWs.to (w1 := ux gx X) (w2 := u0 gx X.w) rfl (ux_calm hc) rs3, ?_⟩
      have q2 := Dst.later (l2.trans l3) q
      cases hr : cl f (.ref S1.length :: ws) (S1 ++ [.obj y []]) with
      | stuck => rw [hr] at q2; exact q2.elim
      | exc e S2 => rw [hr] at q2; exact fun ι' H' cls dd l' s' xr => q2 ι' H' cls dd l' s' xr
      | ok a S2 =>
        rw [hr, R.bind_ok] at q2
        split at q2
        · intro ι' H' b l' s' rb
          cases rb
          exact ⟨rfl, q2 ι' H' _ l' s' (r3.mono l')⟩
        · exact q2.elim
  · cases h
theorem ok_fv {x : Str} : EOk C gx g cl cs n (.fv x) := by
  intro X sc Wx e ι H S σ ρ T h s rr
  simp only [chkE] at h
  split at h
  · rename_i y pos
    simp only [Bool.and_eq_true] at h
    obtain ⟨⟨⟨h1, h2⟩, h3⟩, h4⟩ := h
    have h1 := eq_of_beq h1; subst h1
    obtain ⟨d1, d2⟩ := okName_spec h3
    obtain ⟨fa, hm, hn⟩ := T.G.fv y h4
    refine both (by intro _; rfl) fun Q q => ?_
    exact .of (pe_glob (v := .ref fa) (T.R.gl _ h2) hm rfl d1) (q ι H _ (.refl _ _) s ⟨fa, rfl, hn⟩)
  · cases h
/-- v(..), v a name that holds the def at f -/
theorem pe_callVG {X : Cx} {k : Nat} {f : Addr} {fd : FuncData} {ps : List Str} {sp : Sp} {E : St → XK} {rp : Bool} {t : TA} {i : Nat} {x : Str} {p pos : Pos} {e : Expr} {es : List Expr} (F : FnG rp X.prog X.w X.K X.mg X.base C k f fd ps sp) (hr : Room k X.A) (hgd : rp = true → X.A.guards = some [])
    (hN : X.N[i]? = some x) (hv : Vis X.env.scope x) (hk : PySem.W.keepIn X.K (.ref f) = true)
    (hb : Binds X.K fd ps []) (hx : ∀ σ, PassesAt C X σ (E σ)) (ha : PA X (e :: es) t) (hd : (x == ("__debug__" : Str)) = false) (hcd : (x == ("__classdict__" : Str)) = false) (he : starEach (e :: es) X.env = (false, eval e X.env) :: starEach es X.env) (hpl : (backTo pos (starEach es X.env)).any (·.1) = false) :
    PE X (.Call (.Name x p) (e :: es) [] pos) (fun σ H Q => σ[i]? = some (some (.ref f)) ∧ t σ H fun vs H1 => sp vs H1 Q (E σ)) := by
  refine ⟨fun pins s σ H Q I h => ?_⟩
  obtain ⟨hs, ht⟩ := h
  refine wpAny_Call_Name_kw (thn ((pe_var (pos := p) (i := i) hN hv hd hcd).run pins s σ H (fun v H1 => v = .ref f ∧ H1 = H) I ⟨.ref f, hs, rfl, rfl⟩) fun u s1 ⟨v, H1, I1, r1, q1⟩ => ?_)
  obtain ⟨ev, eH⟩ := q1
  subst ev
  rw [eH] at I1
  obtain rfl : u = Value.ref f := r1
  exact PySem.W.callWith_K (h₀ := X.base) I1.ok.mod.kin hk (thn (ha.run pos pins s1 σ H _ I1 ht) fun us s2 ⟨vs, H2, I2, r, q⟩ => ⟨I2.kIn, goG F hr hgd hb (hx σ) I2 r q⟩) he hpl
theorem ok_cv {i f : Nat} {x : Str} {as : Es} (ha : EsOk C gx g cl cs n as) : EOk C gx g cl cs n (.cv i f x as) := by
  intro X sc Wx e ι H S σ ρ T h s rr
  simp only [chkE] at h
  split at h
  · rename_i y p args pos
    simp only [Bool.and_eq_true, Bool.not_eq_true'] at h
    obtain ⟨⟨⟨⟨⟨⟨⟨⟨h1, h2⟩, h3⟩, h4⟩, h5⟩, h6⟩, h7⟩, h8⟩, hh⟩ := h
    obtain ⟨d1, d2⟩ := okName_spec h3
    have hc := T.R.cm hh
    obtain ⟨fa, fd, ps, hm, hk, hb, F⟩ := T.G.fns f x (of_decide_eq_true (by simpa using h4)) h6
    obtain ⟨fa', hm', hn⟩ := T.G.fv x h5
    have e : fa' = fa := by
      have := hm'.symm.trans hm
      injection this with e; injection e
    subst e
    refine both (by intro _; rfl) fun Q q => ?_
    cases args with
    | nil => simp at h8
    | cons a r =>
      have hp : starEach (a :: r) X.env = (false, eval a X.env) :: starEach r X.env := by
        cases as with
        | nil => simp [chkEs] at h7
        | cons b c =>
          simp only [chkEs, Bool.and_eq_true] at h7
          exact starEach_plain (fun v p z => by subst z; exact chkE_plain h7.1)
        | star b c => simp [chkEs] at h7
      have hq : (backTo pos (starEach r X.env)).any (·.1) = false := by
        rw [back_any]
        have := plain_args (env := X.env) (pos := pos) h7
        rw [hp, List.any_cons] at this
        simpa using this
      refine .of (pe_callVG F ((T.R.room hh).mono (by omega)) (fun e => (T.rp e).hg) (T.R.ix h1) (T.R.vis _ h2) hk hb T.tk pa_wp d1 d2 hp hq) ?_
      split at q
      · rename_i z hz
        split at q
        · rename_i hy
          subst hy
          obtain ⟨v, v1, a', rfl, hn'⟩ := rr.at_ _ _ hz
          have e : a' = fa' := by
            have := hn'.symm.trans hn
            injection this with e; injection e with e; injection e
          subst e
          refine ⟨v1, ?_⟩
          exact one_stepA (ha T h7 s rr) (fun ι1 H1 S1 vs ws l1 s1 rs q => ⟨ι1, S1, ws, s1, RWs.to (w1 := ux gx X) (w2 := u0 gx X.w) rfl (ux_calm hc) rs, (q.back hc).callee⟩) q
        · exact q.elim
      · exact q.elim
  · cases h
/-! ### z[::-1], z a text -/
theorem pe_revS {X : Cx} {e : Expr} {te : TE} {k : Nat} {p1 p2 p3 pos : Pos} (he : PE X e te) : PE X (.Subscript e (.Slice none none (some (.UnaryOp .USub (.Constant (.int 1) k p1) p2)) p3) pos)
    (fun σ H Q => te σ H fun x H1 => ∃ z, x = .str z ∧ z.length ≤ sizeLine ∧ Q (.str (Txt.sliceBy z none none (-1, 0))) H1) := by
  refine ⟨fun pins s σ H Q I h => ?_⟩
  refine PyProof.Rows.Subscript_ (thn (he.run pins s σ H _ I h) fun v s1 ⟨x, H1, I1, r1, z, ez, hz, q⟩ => ?_)
  subst ez
  obtain ⟨t, rfl⟩ := r1
  have hst : PO X (some (.UnaryOp .USub (.Constant (.int 1) k p1) p2)) (tPart (tUn (rU fun i => .int (-i)) (tC (.int 1)))) := po_some (pe_un un_neg pe_int)
  refine wpAny_Slice (thn (po_none.run pins s1 σ H1 (fun o H2 => o = none ∧ H2 = H1) I1 ⟨rfl, rfl⟩) fun vl s2 ⟨l, H2, I2, pl, el, e2⟩ => ?_)
  subst el e2
  refine thn (po_none.run pins s2 σ H2 (fun o H3 => o = none ∧ H3 = H2) I2 ⟨rfl, rfl⟩) fun vu s3 ⟨u, H3, I3, pu, eu, e3⟩ => ?_
  subst eu e3
  refine thn (hst.run pins s3 σ H3 (fun o H4 => o = some (-1) ∧ H4 = H3) I3 ⟨1, rfl, -1, rfl, rfl, rfl⟩) fun vs s4 ⟨o, H4, I4, ps, eo, e4⟩ => ?_
  subst eo e4
  cases pl; cases pu
  obtain ⟨uk, e3⟩ : ∃ uk, vs = .int (-1) uk := by cases ps; exact ⟨_, rfl⟩
  subst e3
  have I5 : Inv X pins σ H4 { s4 with heap := s4.heap.push { cls := .type "slice", data := .fields #[.none, .none, .int (-1) uk] } } := I4.kept (t' := s4.toks) fun b ob q => Heap.get?_push_of_some _ q
  have le := Txt.sliceBy_le z none none (-1, uk) (show (-1 : Int) ≠ 0 by decide)
  refine PyProof.Rows.tail_any (ops := [.ref s4.heap.objs.size, .str z t]) (typeIs_str _ _ _) F.slot_str_getitem.lookup (wpAny_getItem_str_slice (l := none) (u := none) (st := some (-1, uk)) ⟨_, Heap.get?_push_size _ rfl, rfl, rfl⟩ (show ((-1 : Int) == 0) = false by decide)
    (post_val_or_str ⟨Nat.le_trans le hz, fun t' c => ?_⟩)) (by with_unfolding_all rfl)
  exact ⟨.str (Txt.sliceBy z none none (-1, uk)), H4, I5.tok c, ⟨t', rfl⟩, q⟩
theorem ok_rev {a : E} (ha : EOk C gx g cl cs n a) : EOk C gx g cl cs n (.rev a) := by
  intro X sc Wx e ι H S σ ρ T h s rr
  simp only [chkE] at h
  split at h
  · refine both (by intro _; rfl) fun Q q => ?_
    refine .of (pe_revS pe_wp) ?_
    refine one_step (ha T h s rr).1 (fun ι1 H1 S1 v w l1 s1 rx q => ?_) q
    unfold revW at q
    split at q
    · rename_i z hv
      obtain ⟨rfl, hz⟩ := view_str s1 rx hv
      exact ⟨z, rfl, hz, dst_p q s1 (.str _ (Nat.le_trans (Txt.sliceBy_le z none none (-1, 0) (by decide)) hz))⟩
    · exact q.elim
  · cases h
/-! ### f-strings -/
def fsTs (X : Cx) : List Expr → List TE
  | [] => []
  | .FormattedValue v _ _ _ :: r => tFmt (WpE X v) :: fsTs X r
  | e :: r => WpE X e :: fsTs X r
def FsOk (C : CXT) (gx : GX) (g : Gd) (cl : Cl) (cs : List W) (n : Nat) (ies : Es) : Prop := ∀ {X : Cx} {sc : Sc} {Wx : WX} {es : List Expr} {ι : List Addr} {H : Hp} {S : Store} {σ : St} {ρ : Env} {acc : Str} {Q : VK}, Sit C gx g cl cs n X sc Wx → chkFs g sc ies es = true → Sim X.K ι H S → RhoOk X.K (ux gx X) ι H ρ σ →
  acc.length ≤ sizeLine → Dst gx X.K ι H σ Wx (RlV X.K (ux gx X)) Q (evFs cl cs ies acc ρ S) → PJ X es (fsTs X es) ∧ tJs (fsTs X es) acc σ H fun out H1 => Q (.str out) H1
theorem fs_pj {X : Cx} {sc : Sc} : ∀ {ies : Es} {es : List Expr}, chkFs g sc ies es = true → PJ X es (fsTs X es)
  | .nil, es, h => by simp only [chkFs] at h; split at h <;> first | exact .nil | cases h
  | .cons a r, es, h => by
    simp only [chkFs] at h
    split at h
    · rename_i v c p es'
      simp only [Bool.and_eq_true] at h
      have e := eq_of_beq h.1.1; subst e
      exact .cons (pe_fmt pe_wp) (fs_pj h.2)
    · simp only [Bool.and_eq_true] at h
      exact .cons pe_wp (fs_pj h.2)
    · cases h
  | .star _ _, es, h => by simp [chkFs] at h
theorem fs_nil : FsOk C gx g cl cs n .nil := by
  intro X sc Wx es ι H S σ ρ acc Q T h s rr hz q
  refine ⟨fs_pj h, ?_⟩
  simp only [chkFs] at h
  split at h
  · exact dst_p q s (.str _ hz)
  · cases h
theorem fs_cons {a : E} {r : Es} (ha : EOk C gx g cl cs n a) (hr : FsOk C gx g cl cs n r) : FsOk C gx g cl cs n (.cons a r) := by
  intro X sc Wx es ι H S σ ρ acc Q T h s rr hz q
  refine ⟨fs_pj h, ?_⟩
  simp only [evFs] at q
  have h' := h
  simp only [chkFs] at h
  split at h
  · rename_i v c p es'
    simp only [Bool.and_eq_true] at h
    show tFmt (WpE X v) σ H _
    refine one_step (ha T h.1.2 s rr).1 (fun ι1 H1 S1 v w l1 s1 rx q => ?_) q
    unfold txtW at q
    split at q
    · rename_i y hy
      split at q
      · rename_i hl
        split at hy
        · cases hy
          cases rx with
          | str _ hy => exact .inl ⟨_, rfl, hy, _, rfl, hl, (hr T h.2 s1 (rr.mono l1) hl q).2⟩
        · split at hy
          · rename_i hi
            cases hy
            cases rx
            exact .inr ⟨_, rfl, hi, _, rfl, hl, (hr T h.2 s1 (rr.mono l1) hl q).2⟩
          · cases hy
        · cases hy
      · exact q.elim
    · exact q.elim
  · rename_i c p z es'
    simp only [Bool.and_eq_true] at h
    show WpE X _ σ H _
    have hk : ∃ d, a = .k (.str d) := by
      have := h.1.2
      unfold isKS at this
      split at this
      · exact ⟨_, rfl⟩
      · cases this
    obtain ⟨d, rfl⟩ := hk
    refine (ha T h.1.1 s rr).1 _ ?_
    simp only [ev, tst, Bool.false_eq_true, if_false, R.bind_ok, txtW] at q ⊢
    intro ι' H' b l' s' rb
    split at q
    · rename_i hl
      cases rb
      exact ⟨d, rfl, hl, (hr T h.2 s' (rr.mono l') hl (Dst.later l' q)).2⟩
    · exact q.elim
  · cases h
theorem ok_fs {es : Es} (he : FsOk C gx g cl cs n es) : EOk C gx g cl cs n (.fs es) := by
  intro X sc Wx e ι H S σ ρ T h s rr
  simp only [chkE] at h
  split at h
  · rename_i a b r pos
    refine both (by intro _; rfl) fun Q q => ?_
    obtain ⟨h1, h2⟩ := he T h s rr (Nat.zero_le _) q
    exact .of (pe_joined h1) h2
  · cases h
end
end Px

set_option Elab.async false
set_option maxRecDepth 100000
set_option linter.all false
set_option maxHeartbeats 1000000
/-! Px12: comprehensions; every expression. -/
namespace Px
open PySem L2 PySem.Spec

theorem Lt.updD {ι ι' : List Addr} {H H' : Hp} {D : Addr} {xs : List V} {o : HO} (l : Lt ι ι' H H') (h : H D = none) (h' : H' D = some (.lst xs)) : Lt ι ι' H (upd H' D o) :=
  ⟨l.pre, l.kp.trans (.lst h'), fun b ob e n => by rw [upd_ne (ne_of_none e h)]; exact l.fr b ob e n, l.nw⟩
theorem wipe_at {σ : St} : ∀ {vs : List Nat} {i : Nat}, (L2.wipe σ vs)[i]? = if i ∈ vs then (σ[i]?).map (fun _ => none) else σ[i]?
  | [], i => by simp [L2.wipe]
  | v :: vs, i => by
    show ((L2.wipe σ vs).set v none)[i]? = _
    rw [List.getElem?_set]
    by_cases hv : v = i
    · subst hv
      simp only [if_true, List.mem_cons, true_or]
      rw [wipe_length]
      by_cases hl : v < σ.length
      · simp [hl]
      · simp [hl]
    · rw [if_neg hv, wipe_at (vs := vs)]
      have : i ∈ v :: vs ↔ i ∈ vs := by simp [Ne.symm hv]
      simp only [this]
theorem wipe_idem (σ : St) (vs : List Nat) : L2.wipe (L2.wipe σ vs) vs = L2.wipe σ vs := by
  refine List.ext_getElem? fun i => ?_
  rw [wipe_at, wipe_at]
  by_cases h : i ∈ vs
  · simp only [h, if_true, Option.map_map]; rfl
  · simp [h]
theorem chk_noset {g : Gd} {sc : Sc} {it : It} {e : Expr} {env : PySem.Env} (h : chkIt g sc it e = true) : ∀ x, foldedSetIterable e env x = pure x := by
  intro x
  cases it with
  | e a =>
    simp only [chkIt, Bool.and_eq_true] at h
    cases e <;> first | rfl | (exact absurd h.2 (by simp))
  | r1 a => simp only [chkIt] at h; split at h <;> first | rfl | cases h
  | r2 a b => simp only [chkIt] at h; split at h <;> first | rfl | cases h
  | zi a b => simp only [chkIt] at h; split at h <;> first | rfl | cases h
  | en a => simp only [chkIt] at h; split at h <;> first | rfl | cases h
theorem lookup_relS_fwd {sc : Scope} : ∀ {names : List (Str × NameKind)} {x : Str} {k : NameKind}, names.lookup x = some k →
    ∃ k', (names.map fun (n, k) => if (k == NameKind.free && sc.kind == .function && sc.names.lookup n == some .cell) then (n, NameKind.cell) else (n, k)).lookup x = some k' ∧ (k' = k ∨ (k = .free ∧ k' = .cell))
  | [], _, _, h => by simp at h
  | (n, k₀) :: r, x, k, h => by
    have ih := @lookup_relS_fwd sc r x k
    cases hx : x == n with
    | true =>
      simp only [List.lookup_cons, hx] at h
      have h : k₀ = k := Option.some.inj h
      subst h
      by_cases hc : (k₀ == NameKind.free && sc.kind == .function && sc.names.lookup n == some .cell) = true
      · refine ⟨.cell, ?_, .inr ?_⟩
        · rw [List.map_cons]
          show List.lookup x ((if _ = true then _ else _) :: _) = _
          rw [if_pos hc]; simp only [List.lookup_cons, hx]
        · simp only [Bool.and_eq_true, beq_iff_eq] at hc
          exact ⟨hc.1.1, rfl⟩
      · refine ⟨k₀, ?_, .inl rfl⟩
        rw [List.map_cons]
        show List.lookup x ((if _ = true then _ else _) :: _) = _
        rw [if_neg hc]; simp only [List.lookup_cons, hx]
    | false =>
      simp only [List.lookup_cons, hx] at h
      obtain ⟨k', h1, h2⟩ := ih h
      refine ⟨k', ?_, h2⟩
      rw [List.map_cons]
      show List.lookup x ((if _ = true then _ else _) :: _) = _
      split
      · simp only [List.lookup_cons, hx]; exact h1
      · simp only [List.lookup_cons, hx]; exact h1
/-- the names of a comprehension's block, with their slots -/
def ownP (N : List Str) (own : List Nat) : List (Str × Nat) := own.filterMap fun i => (N[i]?).map fun x => (x, i)
theorem ownP_snd {N : List Str} : ∀ {own : List Nat}, (own.all fun i => (N[i]?).isSome) = true → (ownP N own).map (·.2) = own
  | [], _ => rfl
  | i :: r, h => by
    rw [List.all_cons, Bool.and_eq_true] at h
    obtain ⟨x, hx⟩ := Option.isSome_iff_exists.mp h.1
    have := ownP_snd h.2
    unfold ownP at this ⊢
    rw [List.filterMap_cons, hx]
    simp only [Option.map_some, List.map_cons, this]
theorem ownP_fst {N : List Str} (own : List Nat) : (ownP N own).map (·.1) = own.filterMap fun i => N[i]? := by
  induction own with
  | nil => rfl
  | cons i r ih =>
    unfold ownP at ih ⊢
    rw [List.filterMap_cons, List.filterMap_cons]
    cases h : N[i]? with
    | none => simpa using ih
    | some x => simp [ih]
section
variable {C : CXT} {gx : GX} {g : Gd} {cl : Cl} {cs : List W} {n : Nat} {X : Cx} {sc : Sc} {Wx : WX}
theorem blk_of (R : Rn X sc n) {scope : Scope} {own : List Nat} (h : chkBlk sc scope own = true) : BlkOk X.N X.env.scope scope (ownP sc.N own) ∧ (ownP sc.N own).map (·.2) = own := by
  unfold chkBlk at h
  simp only [Bool.and_eq_true] at h
  obtain ⟨⟨⟨h1, h2⟩, h3⟩, h4⟩ := h
  rw [List.all_eq_true] at h2 h4
  refine ⟨⟨?_, fun y hy => of_decide_eq_true (h2 y hy), fun p hp => ?_, fun y hy e => ?_, fun y hy e => ?_⟩, ownP_snd h3⟩
  · split at h1
    · assumption
    · cases h1
  · rw [R.N]
    unfold ownP at hp
    rw [List.mem_filterMap] at hp
    obtain ⟨i, _, e⟩ := hp
    rw [Option.map_eq_some_iff] at e
    obtain ⟨x, e1, rfl⟩ := e
    exact e1
  · have := h4 y hy
    rw [e] at this
    simp only at this
    refine R.cf y.1 ?_
    split at this
    · exact .inl ‹_›
    · exact .inr ‹_›
    · cases this
  · have := h4 y hy
    rw [ownP_fst, R.N]
    rcases e with e | e <;> rw [e] at this <;> simp only [Bool.or_eq_true, decide_eq_true_eq] at this <;> exact this
theorem sit_blk (T : Sit C gx g cl cs n X sc Wx) (scope : Scope) (s : Shared) (H : Hp) (Cc : Addr) (clo : List (Str × Addr)) (fp : List Addr) (hk : scope.kind = .function) (hh : sc.hot = false) (hC : ∀ outer H s e s', C outer H s (fun _ _ _ => False) e s' → False) :
    Sit C gx g cl cs n (X.blk s H scope (compEnvC scope clo Cc X.env) fp) ⟨sc.N, scope.names, false⟩ (fun _ _ _ _ => False) := by
  have fwd : ∀ {x k}, scope.names.lookup x = some k → ∃ k', (relS scope X.env.scope).names.lookup x = some k' ∧ (k' = k ∨ (k = .free ∧ k' = .cell)) := fun h => lookup_relS_fwd h
  refine ⟨⟨T.R.hu, fun _ => T.R.cm hh, T.R.nd, T.R.N, fun x h => ?_, fun x h => ?_, fun x h => ?_, fun x h => ?_, fun _ => T.R.room hh, hk, fun x h => ?_, fun x h => ?_⟩, T.G, fun σ pins H s e s' I c => (hC _ _ _ _ _ c).elim, fun h => ⟨(T.rp h).hg⟩⟩
  · show Vis (relS scope X.env.scope) x
    unfold Sc.vis at h
    split at h
    · rename_i h'; obtain ⟨k', h1, h2⟩ := fwd h'
      rcases h2 with rfl | ⟨z, _⟩
      · exact .inl h1
      · cases z
    · rename_i h'; obtain ⟨k', h1, h2⟩ := fwd h'
      rcases h2 with rfl | ⟨z, _⟩
      · exact .inr (.inl h1)
      · cases z
    · rename_i h'; obtain ⟨k', h1, h2⟩ := fwd h'
      rcases h2 with rfl | ⟨_, rfl⟩
      · exact .inr (.inr h1)
      · exact .inr (.inl h1)
    · cases h
  · show (relS scope X.env.scope).names.lookup x = _
    unfold Sc.glo at h
    split at h
    · rename_i h'; obtain ⟨k', h1, h2⟩ := fwd h'
      rcases h2 with rfl | ⟨z, _⟩
      · exact h1
      · cases z
    · cases h
  · show Loc (relS scope X.env.scope) x ∧ ((scope.names.lookup x == some NameKind.cell) = true ∨ (relS scope X.env.scope).names.lookup x = some .local)
    unfold Sc.own at h
    split at h
    · rename_i h'; obtain ⟨k', h1, h2⟩ := fwd h'
      rcases h2 with rfl | ⟨z, _⟩
      · exact ⟨.inl h1, .inr h1⟩
      · cases z
    · rename_i h'; obtain ⟨k', h1, h2⟩ := fwd h'
      rcases h2 with rfl | ⟨z, _⟩
      · exact ⟨.inr h1, .inl (by rw [show scope.names.lookup x = _ from h']; rfl)⟩
      · cases z
    · cases h
  · show (relS scope X.env.scope).names.lookup x = _ ∨ (relS scope X.env.scope).names.lookup x = _
    rcases h with h | h
    · obtain ⟨k', h1, h2⟩ := fwd h
      rcases h2 with rfl | ⟨z, _⟩
      · exact .inl h1
      · cases z
    · obtain ⟨k', h1, h2⟩ := fwd h
      rcases h2 with rfl | ⟨_, rfl⟩
      · exact .inr h1
      · exact .inl h1
  · show (relS scope X.env.scope).names.lookup x = _
    obtain ⟨k', h1, h2⟩ := fwd h
    rcases h2 with rfl | ⟨z, _⟩
    · exact h1
    · cases z
  · show (relS scope X.env.scope).names.lookup x = _
    obtain ⟨k', h1, h2⟩ := fwd h
    rcases h2 with rfl | ⟨z, _⟩
    · exact h1
    · cases z
end
/-- one turn of a comprehension, as the interpreter takes it -/
def stepC (cl : Cl) (cs : List W) (elt : E) (tg : Tg) (ifs : Es) (ρ : Env) (x : PyData) (S : Store) : R (Option PyData) :=
  match asgT tg x (wipe ρ tg.own) with
  | none => .stuck
  | some ρ' => (evIfs cl cs ifs ρ' S).bind fun b S1 => if b then (ev cl cs elt false ρ' S1).bind fun w S2 => (match pureW w with | some d => .ok (some d) S2 | none => .stuck) else .ok none S1
theorem ev_lc (cl : Cl) (cs : List W) (m : Bool) (elt : E) (tg : Tg) (it : It) (ifs : Es) (t : Bool) (ρ : Env) (S : Store) : ev cl cs (.lc m elt tg it ifs) t ρ S =
    tst t ((evIt cl cs it ρ S).bind fun xs S1 => (lcF (stepC cl cs elt tg ifs ρ) xs S1).bind fun ys S2 => if ys.length ≤ sizeLine then mkL m ys S2 else .stuck) := rfl
theorem stepC_ok {cl : Cl} {cs : List W} {elt : E} {tg : Tg} {ifs : Es} {ρ : Env} {x : PyData} {S S' : Store} {o : Option PyData} (h : stepC cl cs elt tg ifs ρ x S = .ok o S') :
    ∃ ρ' b S1, asgT tg x (wipe ρ tg.own) = some ρ' ∧ evIfs cl cs ifs ρ' S = .ok b S1 ∧ ((b = true ∧ ∃ d, o = some d ∧ ev cl cs elt false ρ' S1 = .ok (.p d) S') ∨ (b = false ∧ o = none ∧ S' = S1)) := by
  unfold stepC at h
  split at h
  · cases h
  · rename_i ρ' hρ
    refine ⟨ρ', ?_⟩
    cases hi : evIfs cl cs ifs ρ' S with
    | exc e S1 => rw [hi] at h; cases h
    | stuck => rw [hi] at h; cases h
    | ok b S1 =>
      rw [hi, R.bind_ok] at h
      refine ⟨b, S1, hρ, rfl, ?_⟩
      cases b with
      | false => simp only [Bool.false_eq_true, if_false] at h; cases h; exact .inr ⟨rfl, rfl, rfl⟩
      | true =>
        simp only [if_true] at h
        cases he : ev cl cs elt false ρ' S1 with
        | exc e S1 => rw [he] at h; cases h
        | stuck => rw [he] at h; cases h
        | ok w S2 =>
          rw [he, R.bind_ok] at h
          cases w with
          | p d => simp only [pureW] at h; cases h; exact .inl ⟨rfl, d, rfl, rfl⟩
          | ref i => cases h
          | ex c d => cases h
          | kd k => cases h
          | kl k => cases h
          | kt k => cases h
          | fn k => cases h
theorem lcF_ok {step : PyData → Store → R (Option PyData)} {x : PyData} {r : List PyData} {S : Store} {α : Type} {f : List PyData → Store → R α} (h : (lcF step (x :: r) S).bind f ≠ .stuck) :
    ∃ o S1 ys S2, step x S = .ok o S1 ∧ lcF step r S1 = .ok ys S2 ∧ (lcF step (x :: r) S).bind f = f (match o with | some y => y :: ys | none => ys) S2 := by
  cases h1 : step x S with
  | exc e S1 => simp only [lcF, h1] at h; exact absurd rfl h
  | stuck => simp only [lcF, h1] at h; exact absurd rfl h
  | ok o S1 =>
    cases h2 : lcF step r S1 with
    | exc e S2 => simp only [lcF, h1, h2] at h; exact absurd rfl h
    | stuck => simp only [lcF, h1, h2] at h; exact absurd rfl h
    | ok ys S2 =>
      refine ⟨o, S1, ys, S2, rfl, h2, ?_⟩
      simp only [lcF, h1, h2, R.bind_ok]
      all_goals (cases o <;> rfl)
section
variable {C : CXT} {gx : GX} {g : Gd} {cl : Cl} {cs : List W} {n : Nat}
theorem Dst.ns {α β : Type} {K : PySem.W.Frag} {ι : List Addr} {H : Hp} {σ : St} {Wx : WX} {Rl : List Addr → Hp → β → α → Prop} {Q : β → Hp → Prop} {r : R α} (h : Dst gx K ι H σ Wx Rl Q r) : r ≠ .stuck := by
  intro e; subst e; exact h
/-- what a comprehension's parts are to do in its block -/
abbrev lcTe (X : Cx) (scope : Scope) (el : Expr) : TE := fun σ H' Q => ∀ s H Cc clo fp, WpE (X.blk s H scope (compEnvC scope clo Cc X.env) fp) el σ H' Q
abbrev lcTt (X : Cx) (scope : Scope) (fs : List Expr) : TT := fun σ H' Q => ∀ s H Cc clo fp, WpTs (X.blk s H scope (compEnvC scope clo Cc X.env) fp) fs σ H' Q
theorem lc_read (hC : ∀ outer H s e s', C outer H s (fun _ _ _ => False) e s' → False) {m : Bool} {elt : E} {tg : Tg} {it : It} {ifs : Es} (he : EOk C gx g cl cs n elt) (hi : ItOk C gx g cl cs n it) (hf : IfsOk C gx g cl cs n ifs)
    {X : Cx} {sc : Sc} {Wx : WX} {ι : List Addr} {H : Hp} {S : Store} {σ : St} {ρ : Env} {t i el : Expr} {fs : List Expr} {scope : Scope} {Q : VK} (T : Sit C gx g cl cs n X sc Wx) (h1 : chkIt g sc it i = true) (ht : tgOk it t = true) (h2 : chkBlk sc scope tg.own = true)
    (hh : sc.hot = false) (h4 : chkE g ⟨sc.N, scope.names, false⟩ elt el = true) (h5 : chkTs g ⟨sc.N, scope.names, false⟩ ifs fs = true) (s : Sim X.K ι H S) (rr : RhoOk X.K (ux gx X) ι H ρ σ)
    (q : Dst gx X.K ι H σ Wx (RlV X.K (ux gx X)) Q ((evIt cl cs it ρ S).bind fun xs S1 => (lcF (stepC cl cs elt tg ifs ρ) xs S1).bind fun ys S2 => if ys.length ≤ sizeLine then mkL m ys S2 else .stuck)) :
    tLc (WpI X t i) (gT X.K tg) (lcTt X scope fs) (lcTe X scope el) tg.own σ H (Gz Q) := by
    obtain ⟨bo, bo2⟩ := blk_of T.R h2
    have sb := fun s H Cc clo fp => sit_blk T scope s H Cc clo fp bo.kind hh hC
    refine (hi T h1 s rr t ht _ q.bind).mono ?_
    rintro J H1 ⟨ι1, S1, ds, l1, s1, Y, q1⟩
    intro D hD
    let fn : List PyData → Store → R W := fun ys S2 => if ys.length ≤ sizeLine then mkL m ys S2 else .stuck
    let st := stepC cl cs elt tg ifs ρ
    refine ⟨fun i mm Hc => mm = ds.length - i ∧ i ≤ ds.length ∧ ∃ ιc Sc acc yd, Hc D = some (.lst acc) ∧ D ∉ ιc ∧ Sim X.K ιc Hc Sc ∧ Lt ι1 ιc H1 Hc ∧ RpAll X.K Hc acc yd ∧
      Dst gx X.K ι1 H1 σ Wx (RlV X.K (ux gx X)) Q ((lcF st (ds.drop i) Sc).bind fun ys S2 => fn (yd ++ ys) S2), ⟨ds.length, by simp, Nat.zero_le _, ι1, S1, [], [], upd_same, s1.fresh hD, s1.new hD, .new hD, .nil, q1⟩, ?_⟩
    rintro i mm Hc ⟨rfl, hile, ιc, Sc, acc, yd, hacc, hDn, sc', lc, ra, q2⟩
    by_cases hlt : i < ds.length
    · refine .inr ⟨Y.1 i Hc lc.kp hlt, fun Hn => i + 1 ≤ ds.length ∧ ∃ ιc Sc acc yd, Hn D = some (.lst acc) ∧ D ∉ ιc ∧ Sim X.K ιc Hn Sc ∧ Lt ι1 ιc H1 Hn ∧ RpAll X.K Hn acc yd ∧
        Dst gx X.K ι1 H1 σ Wx (RlV X.K (ux gx X)) Q ((lcF st (ds.drop (i + 1)) Sc).bind fun ys S2 => fn (yd ++ ys) S2), fun Hn hn => ⟨ds.length - (i + 1), by omega, rfl, hn⟩, fun x Hx y => ?_⟩
      obtain ⟨hx, rx⟩ := Y.2.2 i Hc x Hx ds[i] lc.kp (List.getElem?_eq_getElem hlt) y
      obtain ⟨lx, sx⟩ : Lt ιc ιc Hc Hx ∧ Sim X.K ιc Hx Sc := by
        rcases hx with rfl | ⟨p, o, hp, rfl⟩
        · exact ⟨.refl _ _, sc'⟩
        · exact ⟨.new hp, sc'.new hp⟩
      replace hacc := lx.fr D _ hacc hDn
      replace ra := ra.mono lx.kp
      replace lc := lc.trans lx
      replace sc' := sx
      rw [List.drop_eq_getElem_cons hlt] at q2
      obtain ⟨o, Sa, ys, Sb, e1, e2, e3⟩ := lcF_ok q2.ns
      rw [e3] at q2
      obtain ⟨ρ', b, St, hρ', hb, hcase⟩ := stepC_ok e1
      have rrc : RhoOk X.K (ux gx X) ιc Hx ρ σ := rr.mono (l1.trans lc)
      refine gT_ok tg hρ' rx (rrc.wipe tg.own) fun σ' rσ' wσ' => ⟨?_, ?_⟩
      · rw [wσ' tg.own (fun _ h => h), wipe_idem]
      · intro s0 H0 Cc clo fp
        have toB : ∀ {ι' : List Addr} {H' : Hp} {ρ1 : Env} {σ1 : L2.St} (s0 : Shared) (H0 : Hp) (Cc : Addr) (clo : List (Str × Addr)) (fp : List Addr), RhoOk X.K (ux gx X) ι' H' ρ1 σ1 → RhoOk X.K (ux gx (X.blk s0 H0 scope (compEnvC scope clo Cc X.env) fp)) ι' H' ρ1 σ1 :=
          fun s0 H0 Cc clo fp r => RhoOk.to (w1 := ux gx X) (w2 := ux gx (X.blk s0 H0 scope (compEnvC scope clo Cc X.env) fp)) rfl (ux_calm (T.R.cm hh)) r
        refine hf (sb s0 H0 Cc clo fp) h5 sc' (toB s0 H0 Cc clo fp rσ') _ ?_
        rw [hb]
        intro ι3 H3 b' l3 s3 eb
        subst eb
        rcases hcase with ⟨rfl, d, rfl, hev⟩ | ⟨rfl, rfl, rfl⟩
        · simp only [if_true]
          intro s0 H0 Cc clo fp
          refine (he (sb s0 H0 Cc clo fp) h4 s3 (toB s0 H0 Cc clo fp (rσ'.mono l3))).1 _ ?_
          rw [hev]
          intro ι4 H4 v l4 s4 rv
          have l34 := l3.trans l4
          have hacc4 : H4 D = some (.lst acc) := l34.fr D _ hacc hDn
          have hDn4 : D ∉ ι4 := l34.nw D _ hacc hDn
          have ra4 : RpAll X.K H4 acc yd := ra.mono l34.kp
          have hlen : yd.length < sizeLine := by
            by_cases hz : (yd ++ d :: ys).length ≤ sizeLine
            · simp only [List.length_append, List.length_cons] at hz; omega
            · have := q2.ns
              exact absurd (if_neg hz) this
          have kd := Kp.lst (o := .lst (acc ++ [v])) hacc4
          refine ⟨acc, hacc4, by rw [ra4.length]; exact hlen, hlt, ι4, Sa, acc ++ [v], yd ++ [d], upd_same, hDn4, s4.upd hDn4 kd, (lc.trans l34).updD hD hacc4, (ra4.mono kd).append (.cons (Rp.mono kd rv) .nil), ?_⟩
          rw [e2, R.bind_ok, List.append_assoc]
          exact q2
        · simp only [Bool.false_eq_true, if_false]
          refine ⟨hlt, ι3, Sa, acc, yd, l3.fr D _ hacc hDn, l3.nw D _ hacc hDn, s3, lc.trans l3, ra.mono l3.kp, ?_⟩
          rw [e2, R.bind_ok]
          exact q2
    · have hi' : i = ds.length := by omega
      subst hi'
      refine .inl ⟨Y.2.1 Hc lc.kp, ?_⟩
      rw [List.drop_length] at q2
      simp only [lcF, R.bind_ok, List.append_nil] at q2
      have hz : yd.length ≤ sizeLine := by
        by_cases hz : yd.length ≤ sizeLine
        · exact hz
        · exact absurd (if_neg hz) q2.ns
      have q3 : Dst gx X.K ι1 H1 σ Wx (RlV X.K (ux gx X)) Q (mkL m yd Sc) := by
        have : fn yd Sc = mkL m yd Sc := if_pos hz
        rw [← this]; exact q2
      cases m with
      | true =>
        refine .inl (q3 (ιc ++ [D]) Hc _ ⟨lc.pre.trans (List.prefix_append _ _), lc.kp, lc.fr, fun b o e nb hb => ?_⟩ ⟨by simp [sc'.len], ?_, fun j y a hy ha => ?_⟩ ⟨D, ?_, rfl⟩)
        · rcases List.mem_append.mp hb with hb | hb
          · exact lc.nw b o e nb hb
          · rw [List.mem_singleton.mp hb, hD] at e; cases e
        · rw [List.nodup_append]
          exact ⟨sc'.nd, by simp, fun a ha b hb => by simp at hb; subst hb; exact fun e => hDn (e ▸ ha)⟩
        · by_cases hj : j < Sc.length
          · rw [List.getElem?_append_left hj] at hy
            rw [List.getElem?_append_left (by rw [sc'.len]; exact hj)] at ha
            exact sc'.ob j y a hy ha
          · have ej : j = Sc.length := by
              have := (List.getElem?_eq_some_iff.mp hy).1
              simp at this; omega
            subst ej
            rw [List.getElem?_append_right (Nat.le_refl _)] at hy
            rw [List.getElem?_append_right (by rw [sc'.len]; exact Nat.le_refl _), sc'.len] at ha
            simp at hy ha
            subst hy; subst ha
            exact ⟨acc, hacc, ra⟩
        · rw [← sc'.len]; simp
      | false =>
        refine .inr ⟨D, acc, hacc, fun o => ?_⟩
        have kd := Kp.lst (o := .frz o (.lst acc)) hacc
        exact q3 ιc _ _ (lc.updD hD hacc) (sc'.upd hDn kd) (Rp.lst upd_same (ra.mono kd))
theorem ok_lc (hC : ∀ outer H s e s', C outer H s (fun _ _ _ => False) e s' → False) {m : Bool} {elt : E} {tg : Tg} {it : It} {ifs : Es} (he : EOk C gx g cl cs n elt) (hi : ItOk C gx g cl cs n it) (hf : IfsOk C gx g cl cs n ifs) : EOk C gx g cl cs n (.lc m elt tg it ifs) := by
  intro X sc Wx e ι H S σ ρ T h s rr
  rw [ev_lc, ev_lc]
  simp only [chkE] at h
  split at h
  · rename_i el t i fs scope pos
    simp only [Bool.and_eq_true] at h
    obtain ⟨⟨⟨⟨⟨⟨h1, ht⟩, h2⟩, h3⟩, h4⟩, h5⟩, hh⟩ := h
    have hh : sc.hot = false := by simpa using hh
    obtain ⟨bo, bo2⟩ := blk_of T.R h2
    refine both (by intro _; rfl) fun Q q => .ghost ?_
    have sb := fun s H Cc clo fp => sit_blk T scope s H Cc clo fp bo.kind hh hC
    refine .of (pe_lc (te := lcTe X scope el) (tt := lcTt X scope fs) (g := gT X.K tg) (wi := WpI X t i) (own := ownP sc.N tg.own)
      (T.R.cm hh) T.R.nd pi_wp bo (fun s H Cc clo fp => pg_T (sb s H Cc clo fp).R tg h3) (fun s H Cc clo fp => ⟨fun pins s' σ H' Q I k => k s H Cc clo fp pins s' I⟩)
      (fun s H Cc clo fp => ⟨fun pins s' σ H' Q I k => k s H Cc clo fp pins s' I⟩) (chk_noset h1)) ?_
    rw [bo2]
    exact lc_read hC he hi hf T h1 ht h2 hh h4 h5 s rr q
  · cases h
theorem ok_frz {a : E} (ha : EOk C gx g cl cs n a) : EOk C gx g cl cs n (.frz a) := by
  intro X sc Wx e ι H S σ ρ T h s rr
  have h : chkE g sc a e = true := by simpa only [chkE] using h
  have key : ∀ Q, Dst gx X.K ι H σ Wx (RlV X.K (ux gx X)) Q ((ev cl cs a false ρ S).bind fun w S1 => freezeW w S1) → WpE X e σ H Q := by
    intro Q q
    refine .ghost ?_
    refine (one_step (Fin := Gz Q) (ha T h s rr).1 (fun ι1 H1 S1 v w l1 s1 rx q => ?_) q)
    unfold freezeW at q
    split at q
    · rename_i i
      split at q
      · rename_i xs hx
        obtain ⟨a, hi, rfl⟩ := rx
        obtain ⟨vs, hv, rv⟩ := s1.ob _ _ _ hx hi
        refine .inr ⟨a, vs, hv, fun o => ?_⟩
        have k := Kp.lst (o := .frz o (.lst vs)) hv
        exact q ι1 _ _ (.set (List.mem_of_getElem? hi) hv) (s1.set hi k ⟨_, upd_same⟩) (Rp.lst upd_same (rv.mono k))
      · exact q.elim
    · exact .inl (q ι1 H1 _ (.refl _ _) s1 rx)
  exact ⟨fun Q q => key Q (by simpa only [ev, Bool.false_eq_true, if_false] using q), fun Q q => (by simp only [ev, if_true] at q; exact q.elim)⟩
/-- isinstance(name, own class), the name an except clause's -/
theorem ok_isx {i c : Nat} {tab : List Bool} : EOk C gx g cl cs n (.isx i c tab) := by
  intro X sc Wx e ι H S σ ρ T h s rr
  simp only [chkE] at h
  split at h
  · rename_i x p y p2 z p3 pos
    simp only [Bool.and_eq_true] at h
    obtain ⟨⟨⟨⟨⟨⟨⟨⟨⟨⟨h1, h2⟩, h3⟩, h4⟩, h5⟩, h6⟩, h7⟩, h8⟩, h9⟩, hh⟩, hf⟩ := h
    have h2 := eq_of_beq h2; subst h2
    obtain ⟨d1, d2⟩ := okName_spec h5
    obtain ⟨d3, d4⟩ := okName_spec h7
    obtain ⟨Ca, fc, x1, x2, x3, x4, x5⟩ := T.G.xc c z (of_decide_eq_true (by simpa using h8))
    have h9 : g.xt[c]? = some tab := of_decide_eq_true (by simpa using h9)
    refine both (by intro _; rfl) fun Q q => ?_
    refine .of (pe_callB (call_wp (X := X) (f := .builtin "isinstance")) (T.R.gl _ h1) T.G.isi (by decide +kernel) (pa_cons (pe_var (T.R.ix h3) (T.R.vis _ h4) d1 d2) (pa_cons (pe_glob (v := .ref Ca) (T.R.gl _ h6) x3 rfl d3) pa_nil rfl) rfl) (by decide) (by decide) rfl rfl) ?_
    split at q
    · rename_i k d hk
      split at q
      · rename_i b hb
        obtain ⟨v, v1, a, cls, dd, rfl, ⟨hc, oe, pn, Y, hX, hz, hv⟩, Ck, fk, g1, rfl, g2⟩ := rr.at_ _ _ hk
        refine ⟨_, v1, ?_⟩
        have g1 : gx[k]? = some (Ck, fk) := g1
        have hkl : k < g.xn.length := by rw [← T.G.xl.1]; exact (List.getElem?_eq_some_iff.mp g1).1
        obtain ⟨Ck', fk', y1, y2, y3, y4, y5⟩ := T.G.xc k g.xn[k] (List.getElem?_eq_getElem hkl)
        rw [g1] at y1; cases y1
        have fn : fk = none := by
          rw [List.all_eq_true] at hf
          have := hf fk (List.mem_of_getElem? y2)
          simpa using this
        subst fn
        subst g2
        subst hX
        have m := (T.G.xs c k tab b Ca Ck fc none h9 hb x1 g1).2
        refine WpCall.of (call_isE (y5.tx rfl).1 hz hv) ⟨.ref Ca, .ref Ca, b, rfl, fun u r => r, m, dst_b q s⟩
      · exact q.elim
    · exact q.elim
  · cases h
/-- name.attribute, the name an except clause's -/
theorem ok_exa {i : Nat} {nm : Str} {tab : List Bool} : EOk C gx g cl cs n (.exa i nm tab) := by
  intro X sc Wx e ι H S σ ρ T h s rr
  simp only [chkE] at h
  split at h
  · rename_i y p x pos
    simp only [Bool.and_eq_true] at h
    obtain ⟨⟨⟨⟨⟨h3, h4⟩, h5⟩, h6⟩, h7⟩, hh⟩ := h
    have h6 := eq_of_beq h6; subst h6
    have h7 := eq_of_beq h7; subst h7
    obtain ⟨d1, d2⟩ := okName_spec h5
    refine both (by intro _; rfl) fun Q q => ?_
    split at q
    · rename_i k d hk
      split at q
      · rename_i hb
        obtain ⟨v, v1, a, cls, dd, rfl, ⟨hc, oe, pn, Y, hX, hz, hv⟩, Ck, fk, g1, rfl, g2⟩ := rr.at_ _ _ hk
        have g1 : gx[k]? = some (Ck, fk) := g1
        have hkl : k < g.xn.length := by rw [← T.G.xl.1]; exact (List.getElem?_eq_some_iff.mp g1).1
        obtain ⟨Ck', fk', y1, y2, y3, y4, y5⟩ := T.G.xc k g.xn[k] (List.getElem?_eq_getElem hkl)
        rw [g1] at y1; cases y1
        rw [List.getElem?_map, y2] at hb
        simp only [Option.map_some, Option.some.injEq, beq_iff_eq] at hb
        subst hb
        obtain ⟨dx, v', rfl, e1, e2⟩ := g2
        obtain ⟨z1, z2⟩ := y5.fd _ rfl
        subst hX
        refine .of (pe_xf z1 z2 hz hv (pe_var (T.R.ix h3) (T.R.vis _ h4) d1 d2) rfl) ?_
        refine ⟨_, v1, rfl, rfl, dx, _, v', rfl, e1, by simp [List.lookup], dst_p q s e2⟩
      · exact q.elim
    · exact q.elim
  · cases h
/-! ### every expression -/
section
variable (hC : ∀ outer H s e s', C outer H s (fun _ _ _ => False) e s' → False)
include hC
mutual
theorem e_ok : ∀ e : E, EOk C gx g cl cs n e
  | .k d => ok_k d
  | .v i => ok_v i
  | .g j => ok_g j
  | .bin _ _ a b => ok_bin (e_ok a) (e_ok b)
  | .un _ a => ok_un (e_ok a)
  | .boo _ es => ok_boo (bo_ok es)
  | .cmp _ a b => ok_cmp (e_ok a) (e_ok b)
  | .ch a _ b _ c => ok_ch (e_ok a) (e_ok b) (e_ok c)
  | .ife c a b => ok_ife (e_ok c) (e_ok a) (e_ok b)
  | .tup es => ok_tup (ex_ok es)
  | .lst _ es => ok_lst (ex_ok es)
  | .dct _ _ _ => fun T h => by simp [chkE] at h
  | .sub a i => ok_sub (e_ok a) (e_ok i)
  | .slc _ a lo hi => ok_slc (e_ok a) (op_ok lo) (op_ok hi)
  | .rev a => ok_rev (e_ok a)
  | .call _ as => ok_call (es_ok as)
  | .callK _ as _ kv _ => ok_callK (es_ok as) (ks_ok kv)
  | .bi _ _ as => ok_bi (es_ok as)
  | .me _ o as => ok_me (e_ok o) (es_ok as)
  | .isi a _ => ok_isi (e_ok a)
  | .lc _ elt _ it ifs => ok_lc hC (e_ok elt) (it_ok it) (ifs_ok ifs)
  | .frz a => ok_frz (e_ok a)
  | .isx _ _ _ => ok_isx
  | .exa _ _ _ => ok_exa
  | .sset _ a => ok_sset (e_ok a)
  | .attr _ _ o => ok_attr (e_ok o)
  | .mc _ _ _ o as => ok_mc (e_ok o) (es_ok as)
  | .mk _ _ as => ok_mk (es_ok as)
  | .fs es => ok_fs (fs_ok es)
  | .fv _ => ok_fv
  | .cv _ _ _ as => ok_cv (es_ok as)
  | .stk => fun T h s rr => ⟨fun Q q => q.elim, fun Q q => q.elim⟩
theorem es_ok : ∀ es : Es, EsOk C gx g cl cs n es
  | .nil => es_nil
  | .cons e r => es_cons (e_ok e) (es_ok r)
  | .star _ _ => es_star
theorem ex_ok : ∀ es : Es, EXOk C gx g cl cs n es
  | .nil => ex_nil
  | .cons e r => ex_cons (e_ok e) (ex_ok r)
  | .star e r => ex_star (e_ok e) (ex_ok r)
theorem fs_ok : ∀ es : Es, FsOk C gx g cl cs n es
  | .nil => fs_nil
  | .cons e r => fs_cons (e_ok e) (fs_ok r)
  | .star _ _ => fun T h => by simp [chkFs] at h
theorem ks_ok : ∀ es : Es, KsOk C gx g cl cs n es
  | .nil => ks_nil
  | .cons e r => ks_cons (e_ok e) (ks_ok r)
  | .star _ _ => ks_star
theorem bo_ok : ∀ es : Es, BoOk C gx g cl cs n es
  | .nil => bo_nil
  | .cons e r => bo_cons (e_ok e) (bo_ok r)
  | .star _ _ => bo_star
theorem ifs_ok : ∀ es : Es, IfsOk C gx g cl cs n es
  | .nil => ifs_nil
  | .cons e _ => ifs_cons (e_ok e)
  | .star _ _ => ifs_star
theorem op_ok : ∀ o : Op, OpOk C gx g cl cs n o
  | .non => op_non
  | .som e => op_som (e_ok e)
theorem it_ok : ∀ o : It, ItOk C gx g cl cs n o
  | .e e => it_e (e_ok e)
  | .r1 a => it_r1 (e_ok a)
  | .r2 a b => it_r2 (e_ok a) (e_ok b)
  | .zi a b => it_zi (e_ok a) (e_ok b)
  | .en a => it_en (e_ok a)
end
end
end
end Px

set_option Elab.async false
set_option maxRecDepth 100000
set_option linter.all false
set_option maxHeartbeats 1000000
/-! Px13: statements held against the text; where a statement leads; the small statements. -/
namespace Px
open PySem L2 PySem.Spec

def isComp : Expr → Bool
  | .ListComp _ _ _ _ => true | .SetComp _ _ _ _ => true | .DictComp _ _ _ _ _ => true | _ => false
def isStar : Expr → Bool
  | .Starred _ _ => true | _ => false
def unstar : Expr → Expr
  | .Starred v _ => v
  | e => e
def chkAlts : List PyData → List Pattern → Bool
  | [], [] => true
  | d :: ds, .MatchValue (.Constant c _ _) _ :: ps => constD c d && chkAlts ds ps
  | _, _ => false
def isFrz : Sx → Bool
  | .frz _ => true
  | _ => false
def chkLoc (sc : Sc) (i : Nat) (x : Str) : Bool := sc.N[i]? == some x && (match sc.nm.lookup x with | some .local => true | _ => false)
/-- a sequence pattern's items -/
def chkSeq (sc : Sc) : List (Sum PyData Nat) → Option Nat → List Pattern → Bool
  | [], st, qs => (match st, qs with
    | none, [] => true
    | some j, [.MatchStar (some x) _] => chkLoc sc j x
    | _, _ => false)
  | .inl d :: ps, st, qs => (match qs with | .MatchValue (.Constant c _ _) _ :: qs => constD c d && chkSeq sc ps st qs | _ => false)
  | .inr i :: ps, st, qs => (match qs with | .MatchAs none (some x) _ :: qs => chkLoc sc i x && chkSeq sc ps st qs | _ => false)
def chkPt (sc : Sc) : Pt → Pattern → Bool
  | .val d, p => (match p with | .MatchValue (.Constant c _ _) _ => constD c d | _ => false)
  | .alt ds, p => (match p with | .MatchOr ps _ => chkAlts ds ps | _ => false)
  | .any, p => (match p with | .MatchAs none none _ => true | _ => false)
  | .seq ps st, p => (match p with | .MatchSequence qs _ => chkSeq sc ps st qs && !ps.isEmpty && !sc.hot | _ => false)
/-- name = [..]: the stores' order is as written -/
def chkSwap (sc : Sc) (x : Str) (px : Pos) (v : Expr) : Bool :=
  match sc.nm.lookup x with
  | some .local => (match v with | .ListComp _ [⟨_, _, _, 0⟩] scope pos => px.line == pos.line && !(scope.names.any fun (n, k) => n == x && (k == .local || k == .cell)) | _ => false)
  | _ => false
def isCell (sc : Sc) (x : Str) : Bool := match sc.nm.lookup x with | some .cell => true | _ => false
def isLc : E → Bool
  | .lc _ _ _ _ _ => true
  | _ => false
section
variable (g : Gd)
mutual
def chkS (sc : Sc) : Sx → Stmt → Bool
  | .asg tg e, st => (match st with
    | .Assign [t] v _ => chkE g sc e v && (match tg with
      | .n i => (match t with
        | .Name x px => sc.N[i]? == some x && sc.own x && (!(isComp v) || isCell sc x || (isLc e && chkSwap sc x px v))
        | _ => false)
      | .t ts => chkTg sc (.t ts) t && (match v with | .Tuple vs _ _ => vs.all (foldedForSure 8) | _ => true)
      | .s o i => (match t with | .Subscript oe ie _ => chkE g sc o oe && chkE g sc i ie | _ => false))
    | _ => false)
  | .par i j a b, st => !sc.hot && (match st with
    | .Assign [.Tuple [.Name x px, .Name y py] _ _] (.Tuple [u, v] _ _) _ => chkLoc sc i x && chkLoc sc j y && px.line == py.line && !(x == y) && chkE g sc a u && chkE g sc b v && !([u, v].all (foldedForSure 8)) && !([u, v].all (constantsAlone 8))
    | _ => false)
  | .par3 i j l a b c, st => !sc.hot && (match st with
    | .Assign [.Tuple [.Name x px, .Name y py, .Name z pz] _ _] (.Tuple [u, v, w] _ _) _ => chkLoc sc i x && chkLoc sc j y && chkLoc sc l z && px.line == py.line && px.line == pz.line && !(x == y) && !(x == z) && !(y == z) && chkE g sc a u && chkE g sc b v && chkE g sc c w &&
        !([u, v, w].all (foldedForSure 8)) && !([u, v, w].all (constantsAlone 8))
    | _ => false)
  | .aug i op e, st => (match st with
    | .AugAssign (.Name x _) op' v _ => sc.N[i]? == some x && sc.own x && op == op' && chkE g sc e v && (match op with | .Add => true | .Sub => true | _ => false)
    | _ => false)
  | .ifs t a b, st => (match st with | .If c p q _ => chkE g sc t c && chkSs sc a p && chkSs sc b q | _ => false)
  | .fo tg it b, st => !sc.hot && (match st with | .For t i p [] _ => chkTg sc tg t && (chkIt g sc it i && tgOk it t) && chkSs sc b p | _ => false)
  | .wh _ t b, st => (match st with | .While c p [] _ => chkE g sc t c && chkSs sc b p | _ => false)
  | .ret o, st => (match st with | .Return e _ => chkO g sc o e | _ => false)
  | .exp e, st => (match st with | .Expr v _ => chkE g sc e v && !(isComp v) | _ => false)
  | .pass, st => (match st with | .Pass _ => true | _ => false)
  | .brk, st => (match st with | .Break _ => true | _ => false)
  | .cont, st => (match st with | .Continue _ => true | _ => false)
  | .mat e ks, st => (match st with | .Match s cs _ => chkE g sc e s && chkCs sc ks cs | _ => false)
  | .rai c a, st => !sc.hot && (match a with
    | .non => (match st with | .Raise (some (.Call (.Name x _) [.Constant (.str _) _ _] [] _)) none _ => sc.glo x && okName x && g.xn[c]? == some x && g.xf[c]? == some none | _ => false)
    | .som e => (match st with | .Raise (some (.Call (.Name x _) [v] [] _)) none _ => sc.glo x && okName x && g.xn[c]? == some x && g.xf[c]? == some none && chkE g sc e v | _ => false))
  | .tr b c tab i h, st => !sc.hot && (match st with
    | .Try body [.ExceptHandler (some (.Name x _)) nm (b₀ :: suite) _] [] [] _ => sc.glo x && okName x && g.xn[c]? == some x && g.xt[c]? == some tab && chkSs sc b body && chkSs { sc with hot := true } h (b₀ :: suite) &&
        (match i, nm with
        | none, none => true
        | some j, some n => chkLoc sc j n
        | _, _ => false)
    | _ => false)
  | .frz _, _ => false
  | .stk, _ => true
  | .uns i ts e, st => !sc.hot && (match st with
    | .Assign [.Tuple es _ _] v _ => es.findIdx? isStar == some i && chkTgs sc ts (es.map unstar) && chkE g sc e v && (match v with | .Tuple vs _ _ => vs.all (foldedForSure 8) | _ => true)
    | _ => false)
  | .sat x nm o e, st => (match st with
    | .Assign [.Attribute oe y _] v _ => y == nm && chkE g sc o oe && chkE g sc e v && !(isComp v) && (match g.oc.lookup x with | some l => l.contains nm | none => false)
    | _ => false)
  | .saug x nm op o e, st => (match st with
    | .AugAssign (.Attribute oe y _) op' v _ => y == nm && op == op' && chkE g sc o oe && chkE g sc e v && (match op with | .Add => true | .Sub => true | _ => false) && (match g.oc.lookup x with | some l => l.contains nm | none => false)
    | _ => false)
def chkSs (sc : Sc) : Ss → List Stmt → Bool
  | .nil, sts => (match sts with | [] => true | _ => false)
  | .cons s r, sts => if isFrz s then chkSs sc r sts else (match sts with | st :: rest => chkS sc s st && chkSs sc r rest | [] => false)
def chkCs (sc : Sc) : Cs → List MatchCase → Bool
  | .nil, cs => (match cs with | [] => true | _ => false)
  | .cons p b r, cs => (match cs with | ⟨q, none, body⟩ :: rest => chkPt sc p q && chkSs sc b body && chkCs sc r rest | _ => false)
end
end
/-! ### where a statement leads -/
section
variable (gx : GX) (K : PySem.W.Frag) (w : Ws) (ι : List Addr) (H : Hp) (Wx : WX) (D : Ends)
def DstS : RS → Prop
  | .nx ρ S => ∀ ι' H' σ', Lt ι ι' H H' → Sim K ι' H' S → RhoOk K w ι' H' ρ σ' → D.nx σ' H'
  | .bk ρ S => ∀ ι' H' σ', Lt ι ι' H H' → Sim K ι' H' S → RhoOk K w ι' H' ρ σ' → D.bk σ' H'
  | .ct ρ S => ∀ ι' H' σ', Lt ι ι' H H' → Sim K ι' H' S → RhoOk K w ι' H' ρ σ' → D.ct σ' H'
  | .rt x S => ∀ ι' H' v, Lt ι ι' H H' → Sim K ι' H' S → RW K w ι' H' v x → D.rt v H'
  | .ex e ρ S => ∀ ι' H' σ' cls d, Lt ι ι' H H' → Sim K ι' H' S → RhoOk K w ι' H' ρ σ' → XRel gx K e cls d H' → Wx cls d σ' H'
  | .stuck => False
end
section
variable {gx : GX} {K : PySem.W.Frag} {w : Ws} {ι ι1 : List Addr} {H H1 : Hp} {Wx : WX} {D : Ends} {σ : St} {ρ : Env}
theorem DstS.later {r : RS} (l : Lt ι ι1 H H1) (h : DstS gx K w ι H Wx D r) : DstS gx K w ι1 H1 Wx D r := by
  cases r with
  | nx ρ S => exact fun ι' H' σ' l' s r => h ι' H' σ' (l.trans l') s r
  | bk ρ S => exact fun ι' H' σ' l' s r => h ι' H' σ' (l.trans l') s r
  | ct ρ S => exact fun ι' H' σ' l' s r => h ι' H' σ' (l.trans l') s r
  | rt x S => exact fun ι' H' v l' s r => h ι' H' v (l.trans l') s r
  | ex e ρ S => exact fun ι' H' σ' c d l' s r => h ι' H' σ' c d (l.trans l') s r
  | stuck => exact h
def MidS (gx : GX) (K : PySem.W.Frag) (w : Ws) (ι : List Addr) (H : Hp) (Wx : WX) (D : Ends) {α β : Type} (Rl : List Addr → Hp → β → α → Prop) (f : α → Store → RS) : β → Hp → Prop := fun b H1 =>
  ∃ ι1 S1 a, Lt ι ι1 H H1 ∧ Sim K ι1 H1 S1 ∧ Rl ι1 H1 b a ∧ DstS gx K w ι1 H1 Wx D (f a S1)
theorem DstS.st {α β : Type} {r : R α} {f : α → Store → RS} {Rl : List Addr → Hp → β → α → Prop} (h : DstS gx K w ι H Wx D (r.st ρ f)) (rr : RhoOk K w ι H ρ σ) : Dst gx K ι H σ Wx Rl (MidS gx K w ι H Wx D Rl f) r := by
  cases r with
  | ok a S => exact fun ι' H' b l s k => ⟨ι', S, a, l, s, k, DstS.later l h⟩
  | exc e S => exact fun ι' H' cls d l s k => h ι' H' σ cls d l s (rr.mono l) k
  | stuck => exact h
theorem DstS.ns {r : RS} (h : DstS gx K w ι H Wx D r) : r ≠ .stuck := by intro e; subst e; exact h
end
/-- the ghost step behind a statement -/
def Gn (N : St → Hp → Prop) : St → Hp → Prop := fun σ H => N σ H ∨ ∃ a xs, H a = some (.lst xs) ∧ ∀ o, N σ (upd H a (.frz o (.lst xs)))
section
variable {X : Cx} {st : Stmt} {sts : List Stmt} {σ : St} {H : Hp} {D : Ends}
theorem WpS.ghost (h : WpS X st { D with nx := Gn D.nx } σ H) : WpS X st D σ H := fun pins s I => thn (h pins s I) fun f s' q => by
  cases f with
  | next =>
    obtain ⟨σ', H', I', k | ⟨a, xs, e, k⟩⟩ := q
    · exact ⟨σ', H', I', k⟩
    · obtain ⟨o, I''⟩ := I'.lock e trivial
      exact ⟨σ', _, I'', k o⟩
  | ret u => exact q
  | brk => exact q
  | cont => exact q
theorem WpSs.lock {a : Addr} {xs : List V} (e : H a = some (.lst xs)) (h : ∀ o, WpSs X sts D σ (upd H a (.frz o (.lst xs)))) : WpSs X sts D σ H := fun pins s I => by
  obtain ⟨o, I'⟩ := I.lock e trivial
  exact h o pins s I'
end
/-- the situation in a def's body -/
structure SitS (C : CXT) (gx : GX) (g : Gd) (cl : Cl) (cs : List W) (n : Nat) (X : Cx) (sc : Sc) (Wx : WX) : Prop extends Sit C gx g cl cs n X sc Wx where
  po : PassesOwn (model X.prog X.w) X.A X.env X.xe
  tx : Takes X Wx
  st : X.stack = X.env :: X.outer
  ce : C = L2.CX X.prog X.w
  fr : X.env.frame = some X.env.locals
section
variable (C : CXT) (gx : GX) (g : Gd) (cl : Cl) (cs : List W) (n : Nat)
def SOk (is : Sx) : Prop := ∀ {X : Cx} {sc : Sc} {Wx : WX} {st : Stmt} {ι : List Addr} {H : Hp} {S : Store} {σ : St} {ρ : Env} {D : Ends}, SitS C gx g cl cs n X sc Wx → chkS g sc is st = true → Sim X.K ι H S → RhoOk X.K (ux gx X) ι H ρ σ →
  DstS gx X.K (ux gx X) ι H Wx D (exS cl cs is ρ S) → WpS X st D σ H
def SsOk (is : Ss) : Prop := ∀ {X : Cx} {sc : Sc} {Wx : WX} {sts : List Stmt} {ι : List Addr} {H : Hp} {S : Store} {σ : St} {ρ : Env} {D : Ends}, SitS C gx g cl cs n X sc Wx → chkSs g sc is sts = true → Sim X.K ι H S → RhoOk X.K (ux gx X) ι H ρ σ →
  DstS gx X.K (ux gx X) ι H Wx D (exSs cl cs is ρ S) → WpSs X sts D σ H
def CsOk (ks : Cs) : Prop := ∀ {X : Cx} {sc : Sc} {Wx : WX} {cases : List MatchCase} {ι : List Addr} {H : Hp} {S : Store} {σ : St} {ρ : Env} {D : Ends} {d : PyData} {x : V} {first : Bool}, SitS C gx g cl cs n X sc Wx → chkCs g sc ks cases = true → Sim X.K ι H S → RhoOk X.K (ux gx X) ι H ρ σ → Rp X.K H x d →
  DstS gx X.K (ux gx X) ι H Wx D (exCs cl cs ks d ρ S) → ∀ pins s v, Inv X pins σ H s → RelV x v → wpAny (model X.prog X.w) X.A (matchCases cases X.env v first) (SP X pins D) X.xe s
end
section
variable {C : CXT} {gx : GX} {g : Gd} {cl : Cl} {cs : List W} {n : Nat}
variable (hC : ∀ outer H s e s', C outer H s (fun _ _ _ => False) e s' → False)
include hC
theorem eS {X : Cx} {sc : Sc} {Wx : WX} {e : Expr} {ie : E} {ι : List Addr} {H : Hp} {S : Store} {σ : St} {ρ : Env} {D : Ends} {f : W → Store → RS} {Fin : V → Hp → Prop} (T : SitS C gx g cl cs n X sc Wx) (h : chkE g sc ie e = true) (s : Sim X.K ι H S) (rr : RhoOk X.K (ux gx X) ι H ρ σ)
    (fin : ∀ ι1 H1 S1 v wv, Lt ι ι1 H H1 → Sim X.K ι1 H1 S1 → RW X.K (ux gx X) ι1 H1 v wv → DstS gx X.K (ux gx X) ι1 H1 Wx D (f wv S1) → Fin v H1) (q : DstS gx X.K (ux gx X) ι H Wx D ((ev cl cs ie false ρ S).st ρ f)) : WpE X e σ H Fin :=
  ((e_ok hC ie T.toSit h s rr).1 _ (q.st rr)).mono fun v H1 ⟨ι1, S1, wv, l, s1, r, k⟩ => fin ι1 H1 S1 v wv l s1 r k
theorem tS {X : Cx} {sc : Sc} {Wx : WX} {e : Expr} {ie : E} {ι : List Addr} {H : Hp} {S : Store} {σ : St} {ρ : Env} {D : Ends} {f : Bool → Store → RS} {Fin : Bool → Hp → Prop} (T : SitS C gx g cl cs n X sc Wx) (h : chkE g sc ie e = true) (s : Sim X.K ι H S) (rr : RhoOk X.K (ux gx X) ι H ρ σ)
    (fin : ∀ ι1 H1 S1 b, Lt ι ι1 H H1 → Sim X.K ι1 H1 S1 → DstS gx X.K (ux gx X) ι1 H1 Wx D (f b S1) → Fin b H1) (q : DstS gx X.K (ux gx X) ι H Wx D ((asB (ev cl cs ie true ρ S)).st ρ f)) : WpT X e σ H Fin :=
  ((e_ok hC ie T.toSit h s rr).2 _ (q.st rr)).mono fun v H1 ⟨ι1, S1, wv, l, s1, r, k⟩ => by subst r; exact fin ι1 H1 S1 _ l s1 k
omit hC in
theorem asB_st (r : R W) (ρ : Env) (f : W → Store → RS) (k : Bool → Store → RS) (h1 : ∀ b S, f (.p (.bool b)) S = k b S) (h2 : ∀ w S, (∀ b, w ≠ .p (.bool b)) → f w S = .stuck) : r.st ρ f = (asB r).st ρ k := by
  cases r with
  | exc e S => rfl
  | stuck => rfl
  | ok w S =>
    by_cases h : ∃ b, w = .p (.bool b)
    · obtain ⟨b, rfl⟩ := h
      exact h1 b S
    · have h' : ∀ b, w ≠ .p (.bool b) := fun b e => h ⟨b, e⟩
      show f w S = _
      rw [h2 w S h']
      have : asB (.ok w S) = .stuck := by
        unfold asB
        split
        · rename_i e; cases e; exact absurd rfl (h' _)
        · rfl
        · rename_i e; cases e
        · rfl
      rw [this]; rfl
theorem s_ifs {t : E} {a b : Ss} (ha : SsOk C gx g cl cs n a) (hb : SsOk C gx g cl cs n b) : SOk C gx g cl cs n (.ifs t a b) := by
  intro X sc Wx st ι H S σ ρ D T h s rr q
  simp only [chkS] at h
  split at h
  · rename_i c p q' pos
    simp only [Bool.and_eq_true] at h
    refine .of (ps_if pt_wp pss_wp pss_wp) ?_
    simp only [exS] at q
    rw [asB_st (k := fun b' S1 => if b' then exSs cl cs a ρ S1 else exSs cl cs b ρ S1) _ _ _ (fun b S => by cases b <;> rfl) (fun w S hw => ?_)] at q
    · refine tS hC T h.1.1 s rr (fun ι1 H1 S1 k l s1 q => ?_) q
      cases k with
      | true => exact ha T h.1.2 s1 (rr.mono l) q
      | false => exact hb T h.2 s1 (rr.mono l) q
    · split
      · exact absurd rfl (hw true)
      · exact absurd rfl (hw false)
      · rfl
  · cases h
theorem s_ret {o : Op} : SOk C gx g cl cs n (.ret o) := by
  intro X sc Wx st ι H S σ ρ D T h s rr q
  simp only [chkS] at h
  split at h
  · rename_i e pos
    cases o with
    | non =>
      simp only [chkO] at h
      split at h
      · exact .of ps_retN (q ι H _ (.refl _ _) s .non)
      · cases h
    | som ie =>
      simp only [chkO] at h
      split at h
      · refine .of (ps_ret pe_wp) ?_
        simp only [exS] at q
        exact eS hC (D := D) (f := fun w S1 => .rt w S1) T h s rr (fun ι1 H1 S1 v wv l s1 r k => k ι1 H1 v (.refl _ _) s1 r) q
      · cases h
  · cases h
omit hC in
theorem noswap {v : Expr} {tg : Option Expr} {l : Nat} {env : PySem.Env} (h : isComp v = false) : swapsWith v tg l env = pure false := by
  cases v <;> first | rfl | cases h
theorem s_exp {e : E} : SOk C gx g cl cs n (.exp e) := by
  intro X sc Wx st ι H S σ ρ D T h s rr q
  simp only [chkS] at h
  split at h
  · rename_i v pos
    simp only [Bool.and_eq_true, Bool.not_eq_true'] at h
    refine .of (ps_expr pe_wp (noswap h.2)) ?_
    simp only [exS] at q
    exact eS hC (D := D) (f := fun _ S1 => .nx ρ S1) T h.1 s rr (fun ι1 H1 S1 v wv l s1 r k => k ι1 H1 σ (.refl _ _) s1 (rr.mono l)) q
  · cases h
omit hC in
theorem s_pass : SOk C gx g cl cs n .pass := by
  intro X sc Wx st ι H S σ ρ D T h s rr q
  simp only [chkS] at h
  split at h
  · exact .of ps_pass (q ι H σ (.refl _ _) s rr)
  · cases h
omit hC in
theorem s_brk : SOk C gx g cl cs n .brk := by
  intro X sc Wx st ι H S σ ρ D T h s rr q
  simp only [chkS] at h
  split at h
  · exact .of ps_break (q ι H σ (.refl _ _) s rr)
  · cases h
omit hC in
theorem s_cont : SOk C gx g cl cs n .cont := by
  intro X sc Wx st ι H S σ ρ D T h s rr q
  simp only [chkS] at h
  split at h
  · exact .of ps_continue (q ι H σ (.refl _ _) s rr)
  · cases h
/-! ### stores -/
omit hC in
theorem put_ok {X : Cx} {Wx : WX} {ι1 : List Addr} {H1 : Hp} {S1 : Store} {σ : St} {ρ : Env} {D : Ends} {i : Nat} {v : V} {wv : W} (s1 : Sim X.K ι1 H1 S1) (rr : RhoOk X.K (ux gx X) ι1 H1 ρ σ) (r : RW X.K (ux gx X) ι1 H1 v wv)
    (q : DstS gx X.K (ux gx X) ι1 H1 Wx D (putN ρ i wv S1)) : D.nx (σ.set i (some v)) H1 := by
  unfold putN at q
  split at q
  · exact q ι1 H1 _ (.refl _ _) s1 (rr.set r)
  · exact q.elim
omit hC in
theorem sw_cell {elt : Expr} {gs : List Comprehension} {scope : Scope} {pos py : Pos} {y : Str} {l : Nat} {env : PySem.Env} {v : Expr} (hy : env.scope.names.lookup y = some .cell) : swapsWith v (some (.Name y py)) l env = pure false := by
  have ky : env.kindOf y = some .cell := hy
  unfold swapsWith
  split
  · simp only [ky]
    show (pure _ : Sem Bool) = _
    congr 1
    have : ((some NameKind.cell : Option NameKind) == some .local) = false := by decide
    rw [this]; simp
  · rfl
omit hC in
theorem chkLoc_spec {X : Cx} {sc : Sc} (R : Rn X sc n) {i : Nat} {x : Str} (h : chkLoc sc i x = true) : X.N[i]? = some x ∧ X.env.scope.names.lookup x = some .local := by
  unfold chkLoc at h
  rw [Bool.and_eq_true] at h
  refine ⟨R.ix h.1, R.loc x ?_⟩
  have := h.2
  split at this
  · assumption
  · cases this
theorem s_asgN {i : Nat} {e : E} : SOk C gx g cl cs n (.asg (.n i) e) := by
  intro X sc Wx st ι H S σ ρ D T h s rr q
  simp only [chkS] at h
  split at h
  · rename_i t v pos
    rw [Bool.and_eq_true] at h
    obtain ⟨hv, h⟩ := h
    split at h
    · rename_i x px
      simp only [Bool.and_eq_true, Bool.or_eq_true, Bool.not_eq_true'] at h
      obtain ⟨⟨h1, h2⟩, h3⟩ := h
      obtain ⟨o1, o2⟩ := T.R.own x h2
      simp only [exS] at q
      have plain : swapsWith v (some (.Name x px)) pos.line X.env = pure false → WpS X (.Assign [.Name x px] v pos) D σ H := fun hs => by
        refine .of (ps_set T.R.nd (T.R.ix h1) o1 pe_wp hs o2) ?_
        exact eS hC (f := fun w S1 => putN ρ i w S1) T hv s rr (fun ι1 H1 S1 v wv l s1 r k => put_ok s1 (rr.mono l) r k) q
      rcases h3 with (h3 | h3) | ⟨h3, h4⟩
      · exact plain (noswap h3)
      · refine plain (sw_cell (elt := v) (gs := []) (scope := X.env.scope) (pos := pos) (T.R.cel x ?_))
        unfold isCell at h3
        split at h3
        · assumption
        · cases h3
      · -- the comprehension's value is stored within
        unfold chkSwap at h4
        split at h4
        · rename_i hl
          split at h4
          · rename_i el t i' fs scope cpos
            rw [Bool.and_eq_true, Bool.not_eq_true'] at h4
            cases e with
            | lc m elt tg it ifs =>
              simp only [chkE, Bool.and_eq_true] at hv
              obtain ⟨⟨⟨⟨⟨⟨c1, ct⟩, c2⟩, c3⟩, c4⟩, c5⟩, hh⟩ := hv
              have hh : sc.hot = false := by simpa using hh
              obtain ⟨bo, bo2⟩ := blk_of T.R c2
              have sb := fun s H Cc clo fp => sit_blk T.toSit scope s H Cc clo fp bo.kind hh hC
              have hloc := T.R.loc x hl
              refine .ghost (.of (ps_setLc (te := lcTe X scope el) (tt := lcTt X scope fs) (g := gT X.K tg) (wi := WpI X t i') (own := ownP sc.N tg.own)
                (T.R.cm hh) T.R.nd (T.R.ix h1) hloc (sw_true T.R.fk hloc h4.1 h4.2) pi_wp bo (fun s H Cc clo fp => pg_T (sb s H Cc clo fp).R tg c3) (fun s H Cc clo fp => ⟨fun pins s' σ H' Q I k => k s H Cc clo fp pins s' I⟩)
                (fun s H Cc clo fp => ⟨fun pins s' σ H' Q I k => k s H Cc clo fp pins s' I⟩) (chk_noset c1)) ?_)
              rw [bo2]
              have q' : Dst gx X.K ι H σ Wx (RlV X.K (ux gx X)) (fun v H' => D.nx (σ.set i (some v)) H') (ev cl cs (.lc m elt tg it ifs) false ρ S) :=
                (q.st (β := V) (Rl := RlV X.K (ux gx X)) rr).mono fun v H1 ⟨ι1, S1, wv, l, s1, r, k⟩ => put_ok s1 (rr.mono l) r k
              rw [ev_lc, tst_F] at q'
              exact lc_read hC (e_ok hC elt) (it_ok hC it) (ifs_ok hC ifs) T.toSit c1 ct c2 hh c4 c5 s rr q'
            | _ => cases h3
          · cases h4
        · cases h4
    · cases h
  · cases h
end
end Px

set_option Elab.async false
set_option maxRecDepth 100000
set_option linter.all false
set_option maxHeartbeats 1000000
/-! Px14: the other statements; every statement. -/
namespace Px
open PySem L2 PySem.Spec
theorem dups2 {x y : Str} (h : (x == y) = false) : ([x, y] : List Str).eraseDups = [x, y] := by
  have h' : (y == x) = false := by
    cases e : y == x with
    | false => rfl
    | true => rw [eq_of_beq e] at h; simp at h
  rw [List.eraseDups_cons]
  have : List.filter (fun b => !b == x) [y] = [y] := by rw [List.filter_cons, h']; rfl
  rw [this, List.eraseDups_cons]
  rfl
theorem dups3 {x y z : Str} (h : (x == y) = false) (h2 : (x == z) = false) (h3 : (y == z) = false) : ([x, y, z] : List Str).eraseDups = [x, y, z] := by
  have sw : ∀ {a b : Str}, (a == b) = false → (b == a) = false := by
    intro a b h
    cases e : b == a with
    | false => rfl
    | true => rw [eq_of_beq e] at h; simp at h
  rw [List.eraseDups_cons]
  have : List.filter (fun b => !b == x) [y, z] = [y, z] := by rw [List.filter_cons, sw h, List.filter_cons, sw h2]; rfl
  rw [this, dups2 h3]
theorem swst2 {x y : Str} {px py pt p2 : Pos} {kt k2 : Nat} {u v : Expr} {env : PySem.Env} (hb : env.blockKind = .function) (hx : env.kindOf x = some .local) (hy : env.kindOf y = some .local) (hl : (px.line == py.line) = true) (hxy : (x == y) = false)
    (hs : ∀ e ∈ [u, v], isStar e = false) (hf : [u, v].all (foldedForSure 8) = false) (hc : [u, v].all (constantsAlone 8) = false) :
    swappedStores [.Tuple [.Name x px, .Name y py] kt pt] (.Tuple [u, v] k2 p2) env = pure (some [x, y]) := by
  have hl' : (py.line == px.line) = true := by rw [beq_iff_eq] at hl ⊢; exact hl.symm
  unfold swappedStores
  simp only [List.length_cons, List.length_nil, hb]
  rw [if_neg (by decide)]
  refine (if_neg fun h => ?_).trans ?_
  · rw [List.any_eq_true] at h
    obtain ⟨e, he, h⟩ := h
    have hse := hs e he
    cases e <;> first | exact Bool.noConfusion h | cases hse
  simp only [List.head?_cons, Option.map_some, Option.getD_some, List.filterMap_cons, List.filterMap_nil, hx, hy, Expr.pos, hl', beq_self_eq_true, Bool.and_self, if_true, dups2 hxy, hf, hc, List.length_cons, List.length_nil]
  rfl
theorem swst3 {x y z : Str} {px py pz pt p2 : Pos} {kt k2 : Nat} {u v w : Expr} {env : PySem.Env} (hb : env.blockKind = .function) (hx : env.kindOf x = some .local) (hy : env.kindOf y = some .local) (hz : env.kindOf z = some .local) (hl : (px.line == py.line) = true) (hl2 : (px.line == pz.line) = true)
    (hxy : (x == y) = false) (hxz : (x == z) = false) (hyz : (y == z) = false)
    (hs : ∀ e ∈ [u, v, w], isStar e = false) (hf : [u, v, w].all (foldedForSure 8) = false) (hc : [u, v, w].all (constantsAlone 8) = false) :
    swappedStores [.Tuple [.Name x px, .Name y py, .Name z pz] kt pt] (.Tuple [u, v, w] k2 p2) env = pure (some [x, y, z]) := by
  have hl' : (py.line == px.line) = true := by rw [beq_iff_eq] at hl ⊢; exact hl.symm
  have hl2' : (pz.line == px.line) = true := by rw [beq_iff_eq] at hl2 ⊢; exact hl2.symm
  unfold swappedStores
  simp only [List.length_cons, List.length_nil, hb]
  rw [if_neg (by decide)]
  refine (if_neg fun h => ?_).trans ?_
  · rw [List.any_eq_true] at h
    obtain ⟨e, he, h⟩ := h
    have hse := hs e he
    cases e <;> first | exact Bool.noConfusion h | cases hse
  simp only [List.head?_cons, Option.map_some, Option.getD_some, List.filterMap_cons, List.filterMap_nil, hx, hy, hz, Expr.pos, hl', hl2', beq_self_eq_true, Bool.and_self, if_true, dups3 hxy hxz hyz, hf, hc, List.length_cons, List.length_nil]
  rfl
theorem swsole {t v : Expr} {l : Nat} {env : PySem.Env} (h : ∀ x p, t ≠ .Name x p) : swapsWithSole [t] v l env = pure false := by
  show swapsWith v (some t) l env = _
  unfold swapsWith
  split
  · split
    · rename_i e; cases e
    · rename_i e; cases e; exact absurd rfl (h _ _)
    · rfl
  · rfl
theorem swst_none {t v : Expr} {env : PySem.Env} (h : (match v with | .Tuple vs _ _ => vs.all (foldedForSure 8) | _ => true) = true) : swappedStores [t] v env = pure none := by
  unfold swappedStores
  split
  · rename_i ts vs e
    have hv : vs.all (foldedForSure 8) = true := by
      split at e
      · cases e; exact h
      · cases e; exact h
      · cases e
    rw [hv]
    simp only [if_true]
    split
    · rfl
    · split
      · rfl
      · split <;> rfl
  · rfl
section
variable {C : CXT} {gx : GX} {g : Gd} {cl : Cl} {cs : List W} {n : Nat}
variable (hC : ∀ outer H s e s', C outer H s (fun _ _ _ => False) e s' → False)
theorem assignEach_one {t : Expr} {env : PySem.Env} (h : ∀ v p, t ≠ .Starred v p) : (assignEach [t] env).map (·.2) = [assign t env] := by
  rw [assignEach_plain h]; rfl
/-! ### a, *rest = t -/
theorem assignEach_cons_star {v : Expr} {p : Pos} {es : List Expr} {env : PySem.Env} : assignEach (.Starred v p :: es) env = (true, assign v env) :: assignEach es env := rfl
theorem assignEach_un {env : PySem.Env} : ∀ es : List Expr, (∀ e ∈ es, ∀ v p q, e ≠ .Starred (.Starred v p) q) → (assignEach es env).map (·.2) = (assignEach (es.map unstar) env).map (·.2) ∧ (assignEach es env).findIdx? (·.1) = es.findIdx? isStar ∧ (assignEach es env).length = es.length
  | [], _ => ⟨rfl, rfl, rfl⟩
  | e :: es, h => by
    obtain ⟨h1, h2, h3⟩ := assignEach_un (env := env) es fun e he => h e (List.mem_cons_of_mem _ he)
    by_cases hs : ∃ v p, e = .Starred v p
    · obtain ⟨v, p, rfl⟩ := hs
      rw [assignEach_cons_star]
      refine ⟨?_, ?_, by rw [List.length_cons, List.length_cons, h3]⟩
      · rw [List.map_cons, List.map_cons]
        show _ = List.map _ (assignEach (v :: es.map unstar) env)
        rw [assignEach_plain (fun v' p' z => h _ List.mem_cons_self v' p' p (by rw [z])), List.map_cons, h1]
      · rw [List.findIdx?_cons, List.findIdx?_cons]; rfl
    · have hs' : ∀ v p, e ≠ .Starred v p := fun v p z => hs ⟨v, p, z⟩
      have hu : unstar e = e := by cases e <;> first | rfl | exact absurd rfl (hs' _ _)
      have hi : isStar e = false := by cases e <;> first | rfl | exact absurd rfl (hs' _ _)
      rw [assignEach_plain hs']
      refine ⟨?_, ?_, by rw [List.length_cons, List.length_cons, h3]⟩
      · rw [List.map_cons, List.map_cons, hu, assignEach_plain hs', List.map_cons, h1]
      · rw [List.findIdx?_cons, List.findIdx?_cons, hi, h2]
/-- the items of a tuple, the middle ones in a new list -/
theorem unpack_star {prog : Program} {w : World} {A : Around} {E : Value → Shared → Prop} {s : Shared} {l : Addr} {its : Array Value} {n i : Nat} {Q : List Value → Shared → Prop} (hl : PyProof.Rows.IsTup s.heap l its) (hh : A.handled = none) (hi : i < n) (hn : n ≤ its.size + 1) (hz : its.size ≤ sizeLine)
    (h : ∀ h' tk, (∀ b o, s.heap.get? b = some o → h'.get? b = some o) → wpAny (model prog w) A (newList ((its.toList.drop i).take (its.size + 1 - n)) >>= fun d => pure (its.toList.take i ++ [d] ++ (its.toList.drop i).drop (its.size + 1 - n))) Q E { s with heap := h', toks := tk }) :
    wpAny (model prog w) A (unpackItems (.ref l) n (some i)) Q E s := by
  have ho : ∃ o, s.heap.get? l = some o := let ⟨o, e, _⟩ := hl; ⟨o, e⟩
  obtain ⟨o, e⟩ := ho
  have ll := Heap.lt_size e
  have ne : l ≠ s.heap.objs.size := Nat.ne_of_lt ll
  unfold unpackItems
  refine wpAny_bind (by
    unfold notIterableAtAll
    refine wpAny_bind (wpAny_specialOf hl.typeIs PyProof.Rows.slot_tuple_iter.lookup (wpAny_pure ?_))
    simp only [Bool.false_eq_true, if_false]
    refine wpAny_bind (wpAny_holding (PyProof.Rows.iter_tuple hl ?_))
    refine wpAny_bind (wpAny_holding (PyProof.Rows.draw_tuple ne i 0 _ _ ⟨_, Heap.get?_push_size _ rfl, rfl, rfl⟩ (hl.push _) (by omega) fun g it1 sb => ?_))
    have t1 : PyProof.Rows.IsTup g l its := (hl.push _).extBut sb.extBut ne
    rw [Nat.zero_add] at it1
    have bi : s.heap.objs.size < g.objs.size := by obtain ⟨_, q, _⟩ := id it1; exact Heap.lt_size q
    have bl : l < g.objs.size := by obtain ⟨_, q, _⟩ := id t1; exact Heap.lt_size q
    rw [List.drop_zero]
    have e1 : (its.toList.take i).length = i := by rw [List.length_take, Array.length_toList]; omega
    have e2 : (its.toList.drop i).length = its.size - i := by rw [List.length_drop, Array.length_toList]
    rw [if_neg (by rw [e1]; exact Nat.lt_irrefl i)]
    refine wpAny_bind (wpAny_holding (PySem.W.kun_collect (s := { s with heap := g }) (T := "tuple_iterator") (.inr (.inr (.inr rfl))) (Walks.tuple (A := A.in1) hh s.heap.objs.size l ne its) (fun j u st => st.1.typeIs) (k := i) (by omega) ⟨it1, t1⟩ bi bl (fun g2 tk hk => ?_) hz))
    show wpAny _ _ (if (its.toList.drop i).length < n - 1 - i then _ else _) _ _ _
    rw [if_neg (by rw [e2]; omega)]
    have e3 : (its.toList.drop i).length - (n - 1 - i) = its.size + 1 - n := by rw [e2]; omega
    simp only [e3]
    refine h g2 tk fun b ob q => hk b ob (Nat.ne_of_lt (Heap.lt_size q)) (sb.extBut b ob (Nat.ne_of_lt (Heap.lt_size q)) (Heap.get?_push_of_some _ q)))
theorem ps_uns {X : Cx} {es : List Expr} {kk i n : Nat} {tpos pos : Pos} {v : Expr} {te : TE} {g : TGs} (hc : X.calm = true) (he : PE X v te) (hg : PGs X (es.map unstar) g) (hun : ∀ e ∈ es, ∀ v p q, e ≠ .Starred (.Starred v p) q) (hst : es.findIdx? isStar = some i) (hn : es.length = n)
    (hw : swappedStores [.Tuple es kk tpos] v X.env = pure none) : PS X (.Assign [.Tuple es kk tpos] v pos) (fun D σ H => te σ H fun x H1 => ∃ a xs, x = .ref a ∧ SqT X.K H1 a xs ∧ i < n ∧ n ≤ xs.length + 1 ∧
      ∀ d, H1 d = none → ∀ o, g (xs.take i ++ [.ref d] ++ (xs.drop i).drop (xs.length + 1 - n)) σ (upd H1 d (.frz o (.lst ((xs.drop i).take (xs.length + 1 - n))))) D.nx) := by
  obtain ⟨u1, u2, u3⟩ := assignEach_un (env := X.env) es hun
  refine ⟨fun pins s σ H D I h => ?_⟩
  refine wpAny_Assign_stores (thn (he.run pins s σ H _ I h) fun u s1 ⟨x, H1, I1, r1, a, xs, ex, hq, hi, hnx, k⟩ => ?_) (swsole (fun x p z => by cases z)) hw
  subst ex
  cases r1
  rw [assignEach_one (fun x p z => by cases z)]
  show wpAny _ _ (assign (.Tuple es kk tpos) X.env (.ref a)) _ _ _
  rw [PyProof.Rows.assign_Tuple]
  obtain ⟨its, rv, pl, hz⟩ := I1.tuple hq
  have hl := rv.length
  refine wpAny_bind (wpAny_standAt ?_)
  unfold unpack
  rw [u2, hst, u3, hn]
  refine wpAny_bind (wpAny_holding (unpack_star pl (I.ok.hd hc) hi (by simpa [← hl] using hnx) (by simpa [← hl] using hz) fun h' tk hk => ?_))
  have I2 : Inv X pins σ H1 { s1 with heap := h', toks := tk } := I1.kept hk
  have e0 : its.toArray.toList = its := by simp
  have e1 : its.toArray.size = xs.length := by simp [hl]
  rw [e0, e1]
  have hm := (rv.drop i).take (xs.length + 1 - n)
  have hmz : ((xs.drop i).take (xs.length + 1 - n)).length ≤ sizeLine := by rw [List.length_take, List.length_drop]; omega
  refine wpAny_bind ?_
  show wpAny _ _ (newObj (.type "list") (.seq ((its.drop i).take (xs.length + 1 - n)).toArray)) _ _ _
  refine wpAny_newObj_type (wpAny_pure ?_) (by show (List.toArray _).size ≤ sizeLine; rw [List.size_toArray, ← hm.length]; exact hmz)
  have I3 := I2.lnew (t' := tk) hm hmz
  have hd := I2.hok.fresh (Nat.le_refl h'.objs.size)
  obtain ⟨o, I4⟩ := I3.lock (upd_same) trivial
  rw [upd_upd] at I4
  rw [u1]
  refine thn (hg.run pins _ σ _ _ _ _ I4 ((Vals.append (rv.take i) (show Vals [V.ref h'.objs.size] [Value.ref h'.objs.size] from .cons rfl .nil)).append ((rv.drop i).drop (xs.length + 1 - n))) (k _ hd o)) fun _ s3 ⟨σ3, H3, I5, q⟩ => ⟨σ3, H3, I5, q⟩
include hC
theorem s_asgT {ts : Tgs} {e : E} : SOk C gx g cl cs n (.asg (.t ts) e) := by
  intro X sc Wx st ι H S σ ρ D T h s rr q
  simp only [chkS] at h
  split at h
  · rename_i t v pos
    rw [Bool.and_eq_true] at h
    obtain ⟨hv, h⟩ := h
    rw [Bool.and_eq_true] at h
    obtain ⟨h1, h2⟩ := h
    have hn : ∀ x p, t ≠ .Name x p := fun x p z => by subst z; simp [chkTg] at h1
    have hs : ∀ x p, t ≠ .Starred x p := fun x p z => by subst z; simp [chkTg] at h1
    refine .of (ps_asg pe_wp (pg_T T.R (.t ts) h1) (swsole hn) (swst_none h2) (assignEach_one hs)) ?_
    simp only [exS] at q
    refine eS hC (D := D) T hv s rr (fun ι1 H1 S1 v wv l s1 r k => ?_) q
    split at k
    · rename_i d
      split at k
      · rename_i ρ' hρ
        exact gT_ok (.t ts) hρ r (rr.mono l) fun σ' rσ' _ => k ι1 H1 σ' (.refl _ _) s1 rσ'
      · exact k.elim
    · exact k.elim
  · cases h
theorem s_asgS {o i e : E} : SOk C gx g cl cs n (.asg (.s o i) e) := by
  intro X sc Wx st ι H S σ ρ D T h s rr q
  simp only [chkS] at h
  split at h
  · rename_i t v pos
    rw [Bool.and_eq_true] at h
    obtain ⟨hv, h⟩ := h
    split at h
    · rename_i oe ie tpos
      rw [Bool.and_eq_true] at h
      have hns : ∀ a b c p, ie ≠ .Slice a b c p := fun a b c p z => by subst z; exact chkE_noslice h.2
      refine .of (ps_asg pe_wp (pg_sub pe_wp pe_wp set_list ?_) (swsole (fun x p z => by cases z)) ?_ (assignEach_one (fun x p z => by cases z))) ?_
      · intro v
        cases ie <;> first | rfl | exact absurd rfl (hns _ _ _ _)
      · unfold swappedStores
        cases v <;> rfl
      · simp only [exS] at q
        refine eS hC (D := D) T hv s rr (fun ι1 H1 S1 vv wv l1 s1 rv k => ?_) q
        refine eS hC (D := D) T h.1 s1 (rr.mono l1) (fun ι2 H2 S2 vo wo l2 s2 ro k => ?_) k
        refine eS hC (D := D) T h.2 s2 (rr.mono (l1.trans l2)) (fun ι3 H3 S3 vi wi l3 s3 ri k => ?_) k
        have rv3 := rv.mono (l2.trans l3)
        have ro3 := ro.mono l3
        unfold setW at k
        split at k
        · rename_i S4 hS4
          split at hS4
          · rename_i a
            split at hS4
            · rename_i xs hx
              split at hS4
              · rename_i kk
                split at hS4
                · rename_i d
                  split at hS4
                  · rename_i j hj
                    cases hS4
                    obtain ⟨p, hp, rfl⟩ := ro3
                    obtain ⟨vs, hvs, rvs⟩ := s3.ob _ _ _ hx hp
                    cases ri
                    refine ⟨p, vs, kk, j, rfl, rfl, hvs, by rw [rvs.length]; exact hj, ?_⟩
                    have kp := Kp.lst (o := .lst (vs.set j vv)) hvs
                    have l3' : Lt ι3 ι3 H3 (upd H3 p (.lst (vs.set j vv))) := .set (List.mem_of_getElem? hp) hvs
                    exact k ι3 _ σ l3' (s3.set hp kp ⟨_, upd_same, (rvs.mono kp).set j (Rp.mono kp rv3)⟩) ((rr.mono (l1.trans (l2.trans l3))).mono l3')
                  · cases hS4
                · cases hS4
              · cases hS4
            · cases hS4
          · cases hS4
        · exact k.elim
    · cases h
  · cases h
theorem s_aug {i : Nat} {op : Operator} {e : E} : SOk C gx g cl cs n (.aug i op e) := by
  intro X sc Wx st ι H S σ ρ D T h s rr q
  simp only [chkS] at h
  split at h
  · rename_i x px op' v pos
    simp only [Bool.and_eq_true] at h
    obtain ⟨⟨⟨⟨h1, h2⟩, h3⟩, h4⟩, h5⟩ := h
    have h3 := eq_of_beq h3; subst h3
    obtain ⟨o1, o2⟩ := T.R.own x h2
    simp only [exS] at q
    unfold loc at q
    split at q
    · rename_i w hw
      rw [R.st_ok] at q
      obtain ⟨vx, hvx, rx⟩ := rr.at_ _ _ hw
      have go : ∀ {f : Int → Int → Int}, PIp X op (ipI f) → (∀ x y S, augI op x y S = (match x, y with | .p (.int i), .p (.int j) => okI (f i j) S | _, _ => .stuck)) → WpS X (.AugAssign (.Name x px) op v pos) D σ H := by
        intro f hp hf
        refine .of (ps_aug T.R.nd (T.R.ix h1) o1 pe_wp hp o2) ⟨vx, hvx, ?_⟩
        refine eS hC (D := D) T h4 s rr (fun ι1 H1 S1 vy wy l1 s1 ry k => ?_) q
        rw [hf] at k
        have rx1 := rx.mono l1
        split at k
        · rename_i a b
          cases rx1; cases ry
          exact ⟨a, b, rfl, rfl, put_ok (wv := .p (.int _)) s1 (rr.mono l1) (Rp.int _) k⟩
        · exact k.elim
      cases op with
      | Add => exact go ip_add (fun x y S => rfl)
      | Sub => exact go ip_sub (fun x y S => rfl)
      | _ => cases h5
    · exact q.elim
  · cases h
theorem s_par {i j : Nat} {a b : E} : SOk C gx g cl cs n (.par i j a b) := by
  intro X sc Wx st ι H S σ ρ D T h s rr q
  simp only [chkS] at h
  rw [Bool.and_eq_true, Bool.not_eq_true'] at h
  obtain ⟨hh, h⟩ := h
  split at h
  · rename_i x px y py k1 p1 u v k2 p2 pos
    simp only [Bool.and_eq_true, Bool.not_eq_true'] at h
    obtain ⟨⟨⟨⟨⟨⟨⟨h1, h2⟩, h3⟩, h4⟩, h5⟩, h6⟩, h7⟩, h8⟩ := h
    obtain ⟨n1, l1⟩ := chkLoc_spec T.R h1
    obtain ⟨n2, l2⟩ := chkLoc_spec T.R h2
    have hij : i ≠ j := fun e => by subst e; rw [n1] at n2; cases n2; simp at h4
    have hb : X.env.blockKind = .function := by unfold PySem.Env.blockKind; rw [T.R.fk]; rfl
    have hst : ∀ e ∈ [u, v], isStar e = false := by
      intro e he
      simp only [List.mem_cons, List.not_mem_nil, or_false] at he
      rcases he with rfl | rfl
      · cases e <;> first | rfl | exact (chkE_plain h5).elim
      · cases e <;> first | rfl | exact (chkE_plain h6).elim
    have hu := starEach_plain (e := u) (env := X.env) (es := [v]) (fun v p z => by subst z; exact chkE_plain h5)
    have hv := starEach_plain (e := v) (env := X.env) (es := []) (fun v p z => by subst z; exact chkE_plain h6)
    refine .of (ps_par (T.R.cm hh) T.R.nd n1 n2 hij l1 l2 (pa_cons pe_wp (pa_cons pe_wp pa_nil hv) hu) (swst2 hb l1 l2 h3 h4 hst h7 h8) (swsole (fun x p z => by cases z))) ?_
    simp only [exS] at q
    refine eS hC (D := D) T h5 s rr (fun ι1 H1 S1 va wa l1 s1 ra k => ?_) q
    refine eS hC (D := D) T h6 s1 (rr.mono l1) (fun ι2 H2 S2 vb wb l2 s2 rb k => ?_) k
    refine ⟨va, vb, rfl, ?_⟩
    split at k
    · exact k ι2 H2 _ (.refl _ _) s2 (((rr.mono (l1.trans l2)).set (ra.mono l2)).set rb)
    · exact k.elim
  · cases h
theorem s_par3 {i j l : Nat} {a b c : E} : SOk C gx g cl cs n (.par3 i j l a b c) := by
  intro X sc Wx st ι H S σ ρ D T h s rr q
  simp only [chkS] at h
  rw [Bool.and_eq_true, Bool.not_eq_true'] at h
  obtain ⟨hh, h⟩ := h
  split at h
  · rename_i x px y py z pz k1 p1 u v w k2 p2 pos
    simp only [Bool.and_eq_true, Bool.not_eq_true'] at h
    obtain ⟨⟨⟨⟨⟨⟨⟨⟨⟨⟨⟨⟨h1, h2⟩, h3⟩, h4⟩, h5⟩, h6⟩, h7⟩, h8⟩, h9⟩, h10⟩, h11⟩, h12⟩, h13⟩ := h
    obtain ⟨n1, l1⟩ := chkLoc_spec T.R h1
    obtain ⟨n2, l2⟩ := chkLoc_spec T.R h2
    obtain ⟨n3, l3⟩ := chkLoc_spec T.R h3
    have hij : i ≠ j := fun e => by subst e; rw [n1] at n2; cases n2; simp at h6
    have hil : i ≠ l := fun e => by subst e; rw [n1] at n3; cases n3; simp at h7
    have hjl : j ≠ l := fun e => by subst e; rw [n2] at n3; cases n3; simp at h8
    have hb : X.env.blockKind = .function := by unfold PySem.Env.blockKind; rw [T.R.fk]; rfl
    have hst : ∀ e ∈ [u, v, w], isStar e = false := by
      intro e he
      simp only [List.mem_cons, List.not_mem_nil, or_false] at he
      rcases he with rfl | rfl | rfl
      · cases e <;> first | rfl | exact (chkE_plain h9).elim
      · cases e <;> first | rfl | exact (chkE_plain h10).elim
      · cases e <;> first | rfl | exact (chkE_plain h11).elim
    have hu := starEach_plain (e := u) (env := X.env) (es := [v, w]) (fun v p z => by subst z; exact chkE_plain h9)
    have hv := starEach_plain (e := v) (env := X.env) (es := [w]) (fun v p z => by subst z; exact chkE_plain h10)
    have hw := starEach_plain (e := w) (env := X.env) (es := []) (fun v p z => by subst z; exact chkE_plain h11)
    refine .of (ps_par3 (T.R.cm hh) T.R.nd n1 n2 n3 hij hil hjl l1 l2 l3 (pa_cons pe_wp (pa_cons pe_wp (pa_cons pe_wp pa_nil hw) hv) hu) (swst3 hb l1 l2 l3 h4 h5 h6 h7 h8 hst h12 h13) (swsole (fun x p z => by cases z))) ?_
    simp only [exS] at q
    refine eS hC (D := D) T h9 s rr (fun ι1 H1 S1 va wa l1 s1 ra k => ?_) q
    refine eS hC (D := D) T h10 s1 (rr.mono l1) (fun ι2 H2 S2 vb wb l2 s2 rb k => ?_) k
    refine eS hC (D := D) T h11 s2 (rr.mono (l1.trans l2)) (fun ι3 H3 S3 vc wc l3 s3 rc k => ?_) k
    refine ⟨va, vb, vc, rfl, ?_⟩
    split at k
    · exact k ι3 H3 _ (.refl _ _) s3 ((((rr.mono (l1.trans (l2.trans l3))).set (ra.mono (l2.trans l3))).set (rb.mono l3)).set rc)
    · exact k.elim
  · cases h
theorem s_uns {i : Nat} {ts : Tgs} {e : E} : SOk C gx g cl cs n (.uns i ts e) := by
  intro X sc Wx st ι H S σ ρ D T h s rr q
  simp only [chkS] at h
  rw [Bool.and_eq_true, Bool.not_eq_true'] at h
  obtain ⟨hh, h⟩ := h
  split at h
  · rename_i es k1 p1 v pos
    simp only [Bool.and_eq_true, beq_iff_eq] at h
    obtain ⟨⟨⟨h1, h2⟩, h3⟩, h4⟩ := h
    have hlen : ∀ {ts : Tgs} {es : List Expr}, chkTgs sc ts es = true → es.length = ts.len := by
      intro ts es h
      exact ((assignEach_un (env := X.env) es (fun e he v p q z => by
        subst z
        clear h2
        induction es generalizing ts with
        | nil => cases he
        | cons y ys ih =>
          cases ts with
          | nil => simp [chkTgs] at h
          | cons t r =>
            simp only [chkTgs, Bool.and_eq_true] at h
            rcases List.mem_cons.mp he with z | z
            · subst z; exact chkTg_plain h.1
            · exact ih h.2 z)).2.2).symm.trans (assignEach_ok (X := X) h).1
    have hl : es.length = ts.len := by rw [← hlen h2, List.length_map]
    have hun : ∀ e ∈ es, ∀ v p q, e ≠ .Starred (.Starred v p) q := by
      intro e he v p q z
      subst z
      have hm : Expr.Starred v p ∈ es.map unstar := List.mem_map.mpr ⟨_, he, rfl⟩
      have : ∀ {ts : Tgs} {es : List Expr}, chkTgs sc ts es = true → Expr.Starred v p ∈ es → False := by
        intro ts es
        induction es generalizing ts with
        | nil => intro _ h; cases h
        | cons y ys ih =>
          intro h hm
          cases ts with
          | nil => simp [chkTgs] at h
          | cons t r =>
            simp only [chkTgs, Bool.and_eq_true] at h
            rcases List.mem_cons.mp hm with z | z
            · subst z; exact chkTg_plain h.1
            · exact ih h.2 z
      exact this h2 hm
    refine .of (ps_uns (T.R.cm hh) pe_wp (pgs_T T.R ts h2) hun h1 hl (swst_none h4)) ?_
    simp only [exS] at q
    refine eS hC (D := D) T h3 s rr (fun ι1 H1 S1 vv wv l1 s1 rv k => ?_) q
    split at k
    · rename_i ds
      cases rv with
      | tup hq ra =>
        unfold starD at k
        split at k
        · rename_i es' hs
          split at hs
          · rename_i hb
            cases hs
            split at k
            · rename_i ρ' hρ
              refine ⟨_, _, rfl, hq, hb.1, by rw [ra.length]; exact hb.2, fun d hd o => ?_⟩
              rw [ra.length]
              have r2 : RpAll X.K (upd H1 d (.frz o (.lst (List.take (ds.length + 1 - ts.len) (List.drop i _))))) _ (ds.take i ++ [PyData.list ((ds.drop i).take (ds.length + 1 - ts.len))] ++ (ds.drop i).drop (ds.length + 1 - ts.len)) :=
                (((ra.take i).mono (.new hd)).append (.cons (Rp.lst upd_same (((ra.drop i).take _).mono (.new hd))) .nil)).append (((ra.drop i).drop _).mono (.new hd))
              exact (gTs_ok ts hρ r2 ((rr.mono l1).mono (.new hd)) fun σ' rσ' _ => k ι1 _ σ' (.new hd) (s1.new hd) rσ').2
            · exact k.elim
          · cases hs
        · exact k.elim
    · exact k.elim
  · cases h
/-! ### loops -/
omit hC in
theorem DstS.ends {K : PySem.W.Frag} {w : Ws} {ι : List Addr} {H : Hp} {Wx : WX} {D D' : Ends} {r : RS} (h : DstS gx K w ι H Wx D r) (hn : ∀ ρ S, r = .nx ρ S → DstS gx K w ι H Wx D' r) (hb : ∀ ρ S, r = .bk ρ S → DstS gx K w ι H Wx D' r) (hc : ∀ ρ S, r = .ct ρ S → DstS gx K w ι H Wx D' r)
    (hr : D.rt = D'.rt) : DstS gx K w ι H Wx D' r := by
  cases r with
  | nx ρ S => exact hn _ _ rfl
  | bk ρ S => exact hb _ _ rfl
  | ct ρ S => exact hc _ _ rfl
  | rt x S => show ∀ ι' H' v, _ → _ → _ → D'.rt v H'; rw [← hr]; exact h
  | ex e ρ S => exact h
  | stuck => exact h
theorem s_for {tg : Tg} {it : It} {b : Ss} (hb : SsOk C gx g cl cs n b) : SOk C gx g cl cs n (.fo tg it b) := by
  intro X sc Wx st ι H S σ ρ D T h s rr q
  simp only [chkS] at h
  rw [Bool.and_eq_true, Bool.not_eq_true'] at h
  obtain ⟨hh, h⟩ := h
  split at h
  · rename_i t i p pos
    simp only [Bool.and_eq_true] at h
    obtain ⟨⟨h1, h2, ht⟩, h3⟩ := h
    refine .of (ps_for T.po (T.R.cm hh) pi_wp (pg_T T.R tg h1) pss_wp (chk_noset h2)) ?_
    simp only [exS] at q
    refine (it_ok hC it T.toSit h2 s rr t ht _ (q.st rr)).mono ?_
    rintro J H1 ⟨ι1, S1, ds, l1, s1, Y, q1⟩
    refine ⟨fun i m σ' Hc => m = ds.length - i ∧ i ≤ ds.length ∧ ∃ ιc Sc ρc, Lt ι1 ιc H1 Hc ∧ Sim X.K ιc Hc Sc ∧ RhoOk X.K (ux gx X) ιc Hc ρc σ' ∧
      DstS gx X.K (ux gx X) ι1 H1 Wx D (forL (fun x ρ S => (match asgT tg x ρ with | some ρ' => exSs cl cs b ρ' S | none => .stuck)) (ds.drop i) ρc Sc), ⟨ds.length, by simp, Nat.zero_le _, ι1, S1, ρ, .refl _ _, s1, rr.mono l1, q1⟩, ?_⟩
    rintro i m σ' Hc ⟨rfl, hile, ιc, Sc, ρc, lc, sc', rc, q2⟩
    by_cases hlt : i < ds.length
    · refine .inr ⟨Y.1 i Hc lc.kp hlt, fun σ'' Hn => i + 1 ≤ ds.length ∧ ∃ ιc Sc ρc, Lt ι1 ιc H1 Hn ∧ Sim X.K ιc Hn Sc ∧ RhoOk X.K (ux gx X) ιc Hn ρc σ'' ∧
        DstS gx X.K (ux gx X) ι1 H1 Wx D (forL (fun x ρ S => (match asgT tg x ρ with | some ρ' => exSs cl cs b ρ' S | none => .stuck)) (ds.drop (i + 1)) ρc Sc), fun σ'' Hn hn => ⟨ds.length - (i + 1), by omega, rfl, hn⟩, fun x Hx y => ?_⟩
      obtain ⟨hx, rx⟩ := Y.2.2 i Hc x Hx ds[i] lc.kp (List.getElem?_eq_getElem hlt) y
      obtain ⟨lx, sx⟩ : Lt ιc ιc Hc Hx ∧ Sim X.K ιc Hx Sc := by
        rcases hx with rfl | ⟨p, o, hp, rfl⟩
        · exact ⟨.refl _ _, sc'⟩
        · exact ⟨.new hp, sc'.new hp⟩
      replace lc := lc.trans lx
      replace sc' := sx
      replace rc := rc.mono lx
      rw [List.drop_eq_getElem_cons hlt] at q2
      simp only [forL] at q2
      cases ha : asgT tg ds[i] ρc with
      | none => rw [ha] at q2; exact q2.elim
      | some ρ' =>
        rw [ha] at q2
        simp only at q2
        refine gT_ok tg ha rx rc fun σ2 r2 _ => ?_
        refine hb (ι := ιc) T h3 sc' r2 ?_
        cases hr : exSs cl cs b ρ' Sc with
        | nx ρ3 S3 =>
          rw [hr] at q2
          exact fun ι3 H3 σ3 l3 s3 r3 => ⟨hlt, ι3, S3, ρ3, lc.trans l3, s3, r3, q2⟩
        | ct ρ3 S3 =>
          rw [hr] at q2
          exact fun ι3 H3 σ3 l3 s3 r3 => ⟨hlt, ι3, S3, ρ3, lc.trans l3, s3, r3, q2⟩
        | bk ρ3 S3 =>
          rw [hr] at q2
          exact DstS.later lc q2
        | rt x S3 =>
          rw [hr] at q2
          exact DstS.later lc q2
        | ex e ρ3 S3 =>
          rw [hr] at q2
          exact DstS.later lc q2
        | stuck => rw [hr] at q2; exact q2.elim
    · have hi' : i = ds.length := by omega
      subst hi'
      rw [List.drop_length] at q2
      exact .inl ⟨Y.2.1 Hc lc.kp, q2 ιc Hc σ' lc sc' rc⟩
  · cases h
theorem s_wh {k : Nat} {t : E} {b : Ss} (hb : SsOk C gx g cl cs n b) : SOk C gx g cl cs n (.wh k t b) := by
  intro X sc Wx st ι H S σ ρ D T h s rr q
  simp only [chkS] at h
  split at h
  · rename_i c p pos
    simp only [Bool.and_eq_true] at h
    refine .of (ps_while T.po pt_wp pss_wp) ?_
    simp only [exS] at q
    refine ⟨fun m σ' Hc => ∃ ιc Sc ρc, Lt ι ιc H Hc ∧ Sim X.K ιc Hc Sc ∧ RhoOk X.K (ux gx X) ιc Hc ρc σ' ∧ DstS gx X.K (ux gx X) ιc Hc Wx D (whF (fun ρ S => ev cl cs t true ρ S) (fun ρ S => exSs cl cs b ρ S) m ρc Sc), ⟨k, ι, S, ρ, .refl _ _, s, rr, q⟩, ?_⟩
    rintro m σ' Hc ⟨ιc, Sc, ρc, lc, sc', rc, q2⟩
    cases m with
    | zero => exact q2.elim
    | succ m =>
      simp only [whF] at q2
      rw [asB_st (k := fun b' S1 => if b' then (match exSs cl cs b ρc S1 with
        | .nx ρ' S' => whF (fun ρ S => ev cl cs t true ρ S) (fun ρ S => exSs cl cs b ρ S) m ρ' S'
        | .ct ρ' S' => whF (fun ρ S => ev cl cs t true ρ S) (fun ρ S => exSs cl cs b ρ S) m ρ' S'
        | .bk ρ' S' => .nx ρ' S'
        | o => o) else .nx ρc S1) _ _ _ (fun b S => by cases b <;> rfl) (fun w S hw => ?_)] at q2
      · refine tS hC T h.1 sc' rc (fun ι1 H1 S1 b' l1 s1 q3 => ?_) q2
        cases b' with
        | false => exact q3 ι1 H1 σ' (.refl _ _) s1 (rc.mono l1)
        | true =>
          simp only [if_true] at q3 ⊢
          refine ⟨fun σ'' Hn => ∃ ιc Sc ρc, Lt ι ιc H Hn ∧ Sim X.K ιc Hn Sc ∧ RhoOk X.K (ux gx X) ιc Hn ρc σ'' ∧ DstS gx X.K (ux gx X) ιc Hn Wx D (whF (fun ρ S => ev cl cs t true ρ S) (fun ρ S => exSs cl cs b ρ S) m ρc Sc), fun σ'' Hn hn => ⟨m, Nat.lt_succ_self m, hn⟩, ?_⟩
          refine hb T h.2 s1 (rc.mono l1) ?_
          cases hr : exSs cl cs b ρc S1 with
          | nx ρ3 S3 =>
            rw [hr] at q3
            exact fun ι3 H3 σ3 l3 s3 r3 => ⟨ι3, S3, ρ3, lc.trans (l1.trans l3), s3, r3, DstS.later l3 q3⟩
          | ct ρ3 S3 =>
            rw [hr] at q3
            exact fun ι3 H3 σ3 l3 s3 r3 => ⟨ι3, S3, ρ3, lc.trans (l1.trans l3), s3, r3, DstS.later l3 q3⟩
          | bk ρ3 S3 => rw [hr] at q3; exact q3
          | rt x S3 => rw [hr] at q3; exact q3
          | ex e ρ3 S3 => rw [hr] at q3; exact q3
          | stuck => rw [hr] at q3; exact q3.elim
      · split
        · exact absurd rfl (hw true)
        · exact absurd rfl (hw false)
        · rfl
  · cases h
end
end Px

set_option Elab.async false
set_option maxRecDepth 100000
set_option linter.all false
set_option maxHeartbeats 1000000
/-! Px15q: sequence patterns. -/
namespace Px
open PySem L2 PySem.Spec
section
variable {X : Cx} {ι : List Addr} {H : Hp} {S : Store} {σ : St}
/-- a written constant -/
def cV : PyData → V
  | .none => .non | .bool b => .bl b | .int i => .int i | .str x => .str x | _ => .non
theorem const_rp {K : PySem.W.Frag} {c : Const} {d : PyData} (h : constD c d = true) : Rp K H (cV d) d := by
  cases c <;> cases d <;> simp only [constD, Bool.false_eq_true] at h
  · exact .non
  · exact .bl _
  · exact .int _
  · rw [Bool.and_eq_true, decide_eq_true_eq] at h
    have h1 := eq_of_beq h.1; subst h1
    exact .str _ (dec_line h.2)
theorem const_pe {c : Const} {d : PyData} {j : Nat} {p : Pos} (h : constD c d = true) : PE X (.Constant c j p) (tC (cV d)) := by
  cases c <;> cases d <;> simp only [constD, Bool.false_eq_true] at h
  · exact pe_non
  · have h := eq_of_beq h; subst h; exact pe_bl
  · have h := eq_of_beq h; subst h; exact pe_int
  · rw [Bool.and_eq_true, decide_eq_true_eq] at h
    have h1 := eq_of_beq h.1; subst h1
    exact pe_str
/-- behind a pattern -/
def PP (X : Cx) (ι : List Addr) (H : Hp) (S : Store) (σ : St) (pins : List (Addr × Obj)) (b : Bool) (r : Option (List (Str × Value))) (s' : Shared) : Prop :=
  r = (if b then some [] else none) ∧ ∃ ι' H', Lt ι ι' H H' ∧ Sim X.K ι' H' S ∧ Inv X pins σ H' s'
/-- one pattern -/
theorem pat_val {c : Const} {d dv : PyData} {j : Nat} {p p2 : Pos} {vx : V} {v : Value} {b : Bool} {pins : List (Addr × Obj)} {s : Shared} (hu : X.A.units + 80 < cLine) (h : constD c d = true) (si : Sim X.K ι H S) (r : Rp X.K H vx dv) (e : eqp dv d = some b) (I : Inv X pins σ H s) (rv : RelV vx v) :
    wpAny (model X.prog X.w) X.A (matchPattern (.MatchValue (.Constant c j p) p2) X.env v) (PP X ι H S σ pins b) X.xe s := by
  refine wpAny_matchPattern_Value ?_
  refine thn ((const_pe h).run pins s σ H (fun u H1 => u = cV d ∧ H1 = H) I ⟨rfl, rfl⟩) fun u s1 ⟨w, H1, I1, rw1, e1, e2⟩ => ?_
  subst e1; subst e2
  have hq : WpOp X (compareOp .Eq) vx (cV d) H1 (fun z H2 => z = .bl b ∧ ∃ ι', Lt ι ι' H1 H2 ∧ Sim X.K ι' H2 S) := by
    refine cmpW_ok (gx := []) (σ := σ) (Wx := fun _ _ _ _ => False) (op := .Eq) (x := .p dv) (y := .p d) hu ?_ si r (const_rp h)
    show Dst _ _ _ _ _ _ _ _ (optB S (eqp dv d))
    rw [e]
    intro ι' H' z l s' rz
    cases rz
    exact ⟨rfl, ι', l, s'⟩
  refine thn (hq pins s1 σ v u I1 rv rw1) fun c2 s2 ⟨z, H2, I2, rz, ez, ι', l, s'⟩ => ?_
  subst ez
  cases rz
  refine wpAny_truthy_bool ?_
  cases b
  · exact ⟨rfl, ι', H2, l, s', I2⟩
  · exact ⟨rfl, ι', H2, l, s', I2⟩
theorem pat_first : ∀ {ds : List PyData} {ps : List Pattern} {dv : PyData} {vx : V} {v : Value} {pins : List (Addr × Obj)} {s : Shared} {ι : List Addr} {H : Hp}, X.A.units + 80 < cLine → chkAlts ds ps = true → Sim X.K ι H S → Rp X.K H vx dv → (ds.all (fun d => (eqp dv d).isSome)) = true → Inv X pins σ H s → RelV vx v →
    wpAny (model X.prog X.w) X.A (matchFirst ps X.env v) (PP X ι H S σ pins (ds.any fun d => eqp dv d == some true)) X.xe s
  | [], ps, dv, vx, v, pins, s, ι, H, hu, h, si, r, ha, I, rv => by
    cases ps with
    | nil => exact wpAny_matchFirst_nil ⟨rfl, ι, H, .refl _ _, si, I⟩
    | cons p ps => simp [chkAlts] at h
  | d :: ds, ps, dv, vx, v, pins, s, ι, H, hu, h, si, r, ha, I, rv => by
    unfold chkAlts at h
    split at h
    · rename_i e2; cases e2
    · rename_i d' ds' c j p p2 ps' e1
      cases e1
      rw [Bool.and_eq_true] at h
      rw [List.all_cons, Bool.and_eq_true] at ha
      obtain ⟨b, hb⟩ := Option.isSome_iff_exists.mp ha.1
      refine wpAny_matchFirst_cons (thn (pat_val hu h.1 si r hb I rv) fun rr s1 ⟨e, ι', H', l, s', I'⟩ => ?_)
      subst e
      cases b with
      | true =>
        simp only [if_true]
        refine ⟨?_, ι', H', l, s', I'⟩
        rw [List.any_cons, hb]; rfl
      | false =>
        simp only [Bool.false_eq_true, if_false]
        refine thn (pat_first hu h.2 s' (r.mono l.kp) ha.2 I' rv) fun rr s2 ⟨e, ι2, H2, l2, s2', I2⟩ => ?_
        refine ⟨?_, ι2, H2, l.trans l2, s2', I2⟩
        rw [List.any_cons, hb, e]; rfl
    · cases h
theorem pat_ok {sc : Sc} {pt : Pt} {p : Pattern} {dv : PyData} {vx : V} {v : Value} {b : Bool} {pins : List (Addr × Obj)} {s : Shared} (hu : X.A.units + 80 < cLine) (h : chkPt sc pt p = true) (si : Sim X.K ι H S) (r : Rp X.K H vx dv) (e : ptD pt dv = some b) (I : Inv X pins σ H s) (rv : RelV vx v) :
    wpAny (model X.prog X.w) X.A (matchPattern p X.env v) (PP X ι H S σ pins b) X.xe s := by
  cases pt with
  | val d =>
    simp only [chkPt] at h
    split at h
    · exact pat_val hu h si r e I rv
    · cases h
  | alt ds =>
    simp only [chkPt] at h
    split at h
    · rename_i ps pos
      simp only [ptD] at e
      split at e
      · rename_i ha
        cases e
        refine wpAny_matchPattern_Or (thn (pat_first hu h si r ha I rv) fun rr s1 ⟨e, k⟩ => ?_)
        subst e
        split
        · rename_i e
          refine ⟨?_, k⟩
          split at e
          · cases e
          · rename_i hb; rw [if_neg hb]
        · rename_i bs e
          refine ⟨?_, k⟩
          split at e
          · rename_i hb
            cases e
            rw [if_pos hb]
            congr 1
            rw [List.filterMap_eq_nil_iff]
            intro a _; rfl
          · cases e
      · cases e
    · cases h
  | any =>
    simp only [chkPt] at h
    split at h
    · cases e
      exact wpAny_matchPattern_Capture ⟨rfl, ι, H, .refl _ _, si, I⟩
    · cases h
  | seq ps st => simp [ptD] at e
end
/-- the names that a pattern binds -/
inductive Caps (X : Cx) (H : Hp) : List (Nat × V) → List (Nat × PyData) → List (Str × Value) → Prop
  | nil : Caps X H [] [] []
  | cons {i : Nat} {x : Str} {v : V} {d : PyData} {u : Value} {ws : List (Nat × V)} {ds : List (Nat × PyData)} {bs : List (Str × Value)} : X.N[i]? = some x → X.env.scope.names.lookup x = some .local → Rp X.K H v d → RelV v u → Caps X H ws ds bs →
      Caps X H ((i, v) :: ws) ((i, d) :: ds) ((x, u) :: bs)
def setsE (ρ : Env) : List (Nat × PyData) → Env
  | [] => ρ
  | (i, d) :: r => setsE (ρ.set i (some (.p d))) r
def setsS (σ : St) : List (Nat × V) → St
  | [] => σ
  | (i, v) :: r => setsS (σ.set i (some v)) r
section
variable {X : Cx} {ι : List Addr} {H H' : Hp} {S : Store} {σ : St}
theorem Caps.mono (k : Kp H H') {ws : List (Nat × V)} {ds : List (Nat × PyData)} {bs : List (Str × Value)} (h : Caps X H ws ds bs) : Caps X H' ws ds bs := by
  induction h with
  | nil => exact .nil
  | cons a b c d _ ih => exact .cons a b (c.mono k) d ih
theorem Caps.rho {w : Ws} {ws : List (Nat × V)} {ds : List (Nat × PyData)} {bs : List (Str × Value)} (h : Caps X H ws ds bs) : ∀ {ρ : Env} {σ : St}, RhoOk X.K w ι H ρ σ → RhoOk X.K w ι H (setsE ρ ds) (setsS σ ws) := by
  induction h with
  | nil => exact fun r => r
  | cons a b c d _ ih => exact fun r => ih (r.set (x := .p _) c)
/-- the names are bound -/
theorem caps_bind {ws : List (Nat × V)} {ds : List (Nat × PyData)} {bs : List (Str × Value)} {E : Value → Shared → Prop} {pins : List (Addr × Obj)} (hN : X.N.Nodup) (h : Caps X H ws ds bs) : ∀ {σ : St} {s : Shared} {Q : Unit → Shared → Prop}, Inv X pins σ H s → (∀ s', Inv X pins (setsS σ ws) H s' → Q () s') →
    wpAny (model X.prog X.w) X.A (assignInOrder (bs.map fun (n, _) => bindName X.env n) (bs.map (·.2))) Q E s := by
  induction h with
  | nil => exact fun I q => wpAny_assignInOrder_none (q _ I)
  | cons a b c d _ ih =>
    intro σ s Q I q
    exact wpAny_assignInOrder_more (wpAny_bindName (store_ok I hN a (.inl b) d (fun s' I' => ih I' q) (.inr b)))
/-- behind a sequence's items -/
def SqP (X : Cx) (ι : List Addr) (H : Hp) (S : Store) (σ : St) (pins : List (Addr × Obj)) (ρ : Env) (o : Option Env) (r : Option (List (Str × Value))) (s' : Shared) : Prop :=
  ∃ ι' H', Lt ι ι' H H' ∧ Sim X.K ι' H' S ∧ Inv X pins σ H' s' ∧ match o with
    | none => r = none
    | some ρ' => ∃ bs ws ds, r = some bs ∧ Caps X H' ws ds bs ∧ ρ' = setsE ρ ds
theorem chkLoc_N {sc : Sc} (hN : X.N = sc.N) (hl : ∀ x, sc.nm.lookup x = some .local → X.env.scope.names.lookup x = some .local) {i : Nat} {x : Str} (h : chkLoc sc i x = true) : X.N[i]? = some x ∧ X.env.scope.names.lookup x = some .local := by
  unfold chkLoc at h
  rw [Bool.and_eq_true] at h
  refine ⟨by rw [hN]; exact of_decide_eq_true (by simpa using h.1), hl x ?_⟩
  have := h.2
  split at this
  · assumption
  · cases this
theorem wpAny_matchEach_nil_any {M : Model} {A : Around} {E : Value → Shared → Prop} {s : Shared} {env : PySem.Env} {vs : List Value} {Q : Option (List (Str × Value)) → Shared → Prop} (h : Q (some []) s) : wpAny M A (matchEach [] env vs) Q E s := wpAny_matchEach_nil h
/-- the items of a sequence, one by one -/
theorem each_ok {sc : Sc} {pins : List (Addr × Obj)} (hu : X.A.units + 80 < cLine) (hN : X.N = sc.N) (hl : ∀ x, sc.nm.lookup x = some .local → X.env.scope.names.lookup x = some .local) : ∀ {ps : List (Sum PyData Nat)} {st : Option Nat} {qs : List Pattern} {zs : List V} {us : List Value} {es : List PyData} {ρ : Env} {o : Option Env} {ι : List Addr} {H : Hp} {s : Shared},
    chkSeq sc ps st qs = true → Vals zs us → RpAll X.K H zs es → seqJ ps st es ρ = some o → Sim X.K ι H S → Inv X pins σ H s → wpAny (model X.prog X.w) X.A (matchEach qs X.env us) (SqP X ι H S σ pins ρ o) X.xe s
  | [], st, qs, zs, us, es, ρ, o, ι, H, s, h, rv, rp, e, si, I => by
    simp only [chkSeq] at h
    simp only [seqJ] at e
    split at h
    · split at e
      · cases e
        exact wpAny_matchEach_nil_any ⟨ι, H, .refl _ _, si, I, [], [], [], rfl, .nil, rfl⟩
      · contradiction
      · cases e
    · rename_i j x p
      split at e
      · contradiction
      · rename_i j' d e1
        cases e1
        split at e
        · cases e
          cases rp with
          | cons r0 rn =>
            cases rn
            cases rv with
            | cons v0 vn =>
              cases vn
              obtain ⟨l1, l2⟩ := chkLoc_N hN hl h
              refine wpAny_bind (wpAny_holding ?_)
              refine wpAny_matchEach_nil_any (wpAny_pure ?_)
              exact ⟨ι, H, .refl _ _, si, I, _, _, _, rfl, .cons l1 l2 r0 v0 .nil, rfl⟩
        · cases e
      · cases e
    · cases h
  | .inl c :: ps, st, qs, zs, us, es, ρ, o, ι, H, s, h, rv, rp, e, si, I => by
    simp only [chkSeq] at h
    split at h
    · rename_i c' j p p2 qs'
      rw [Bool.and_eq_true] at h
      simp only [seqJ] at e
      split at e
      · rename_i d ds
        cases rp with
        | cons r0 rn =>
          cases rv with
          | cons v0 vn =>
            refine wpAny_matchEach_cons ?_
            split at e
            · rename_i hb
              refine thn (pat_val hu h.1 si r0 hb I v0) fun r s1 ⟨er, ι1, H1, l1, s1', I1⟩ => ?_
              subst er
              simp only [if_true]
              refine thn (each_ok hu hN hl h.2 vn (rn.mono l1.kp) e s1' I1) fun r2 s2 ⟨ι2, H2, l2, s2', I2, k⟩ => ?_
              cases o with
              | none => subst k; exact ⟨ι2, H2, l1.trans l2, s2', I2, rfl⟩
              | some ρ' =>
                obtain ⟨bs, ws, ds', er, cp, e'⟩ := k
                subst er
                exact ⟨ι2, H2, l1.trans l2, s2', I2, bs, ws, ds', rfl, cp, e'⟩
            · rename_i hb
              cases e
              refine thn (pat_val hu h.1 si r0 hb I v0) fun r s1 ⟨er, ι1, H1, l1, s1', I1⟩ => ?_
              subst er
              simp only [Bool.false_eq_true, if_false]
              exact ⟨ι1, H1, l1, s1', I1, rfl⟩
            · cases e
      · cases e
    · cases h
  | .inr i :: ps, st, qs, zs, us, es, ρ, o, ι, H, s, h, rv, rp, e, si, I => by
    simp only [chkSeq] at h
    split at h
    · rename_i x p qs'
      rw [Bool.and_eq_true] at h
      obtain ⟨l1, l2⟩ := chkLoc_N hN hl h.1
      simp only [seqJ] at e
      split at e
      · rename_i d ds
        cases rp with
        | cons r0 rn =>
          cases rv with
          | cons v0 vn =>
            split at e
            · refine wpAny_matchEach_cons ?_
              refine wpAny_matchPattern_Capture ?_
              refine thn (each_ok hu hN hl h.2 vn rn e si I) fun r2 s2 ⟨ι2, H2, l3, s2', I2, k⟩ => ?_
              cases o with
              | none => subst k; exact ⟨ι2, H2, l3, s2', I2, rfl⟩
              | some ρ' =>
                obtain ⟨bs, ws, ds', er, cp, e'⟩ := k
                subst er
                exact ⟨ι2, H2, l3, s2', I2, _, _, _, rfl, .cons l1 l2 (r0.mono l3.kp) v0 cp, e'⟩
            · cases e
      · cases e
    · cases h
theorem chkSeq_len {sc : Sc} : ∀ {ps : List (Sum PyData Nat)} {st : Option Nat} {qs : List Pattern}, chkSeq sc ps st qs = true → qs.length = ps.length + (if st.isSome then 1 else 0)
  | [], st, qs, h => by
    simp only [chkSeq] at h
    split at h
    · rfl
    · rfl
    · cases h
  | .inl c :: ps, st, qs, h => by
    simp only [chkSeq] at h
    split at h
    · rw [Bool.and_eq_true] at h
      simp only [List.length_cons, chkSeq_len h.2]; omega
    · cases h
  | .inr i :: ps, st, qs, h => by
    simp only [chkSeq] at h
    split at h
    · rw [Bool.and_eq_true] at h
      simp only [List.length_cons, chkSeq_len h.2]; omega
    · cases h
theorem chkSeq_star {sc : Sc} : ∀ {ps : List (Sum PyData Nat)} {st : Option Nat} {qs : List Pattern}, chkSeq sc ps st qs = true → qs.findIdx? (·.isStar) = (if st.isSome then some ps.length else none) ∧ (st.isSome = true → ((qs[ps.length]?).elim [] (·.names)).isEmpty = false)
  | [], st, qs, h => by
    simp only [chkSeq] at h
    split at h
    · exact ⟨rfl, fun z => by cases z⟩
    · exact ⟨rfl, fun _ => rfl⟩
    · cases h
  | .inl c :: ps, st, qs, h => by
    simp only [chkSeq] at h
    split at h
    · rw [Bool.and_eq_true] at h
      obtain ⟨h1, h2⟩ := chkSeq_star h.2
      refine ⟨?_, fun z => by simpa using h2 z⟩
      rw [List.findIdx?_cons, h1]
      simp only [Pattern.isStar, Bool.false_eq_true, if_false]
      cases st <;> rfl
    · cases h
  | .inr i :: ps, st, qs, h => by
    simp only [chkSeq] at h
    split at h
    · rw [Bool.and_eq_true] at h
      obtain ⟨h1, h2⟩ := chkSeq_star h.2
      refine ⟨?_, fun z => by simpa using h2 z⟩
      rw [List.findIdx?_cons, h1]
      simp only [Pattern.isStar, Bool.false_eq_true, if_false]
      cases st <;> rfl
    · cases h
theorem chkSeq_wild {sc : Sc} {ps : List (Sum PyData Nat)} {st : Option Nat} {qs : List Pattern} (hne : ps.isEmpty = false) (h : chkSeq sc ps st qs = true) : (qs.all fun p => p.isWildcard || (p.isStar && p.names.isEmpty)) = false := by
  cases ps with
  | nil => cases hne
  | cons a ps =>
    cases a with
    | inl c =>
      simp only [chkSeq] at h
      split at h
      · rfl
      · cases h
    | inr i =>
      simp only [chkSeq] at h
      split at h
      · rfl
      · cases h
/-- a sequence pattern -/
theorem seq_ok {sc : Sc} {ps : List (Sum PyData Nat)} {st : Option Nat} {qs : List Pattern} {pos : Pos} {dv : PyData} {vx : V} {v : Value} {ρ : Env} {o : Option Env} {pins : List (Addr × Obj)} {s : Shared} (hc : X.calm = true) (hu : X.A.units + 80 < cLine) (hN : X.N = sc.N) (hl : ∀ x, sc.nm.lookup x = some .local → X.env.scope.names.lookup x = some .local)
    (h : chkSeq sc ps st qs = true) (hne : ps.isEmpty = false) (si : Sim X.K ι H S) (r : Rp X.K H vx dv) (e : seqM ps st dv ρ = some o) (I : Inv X pins σ H s) (rv : RelV vx v) :
    wpAny (model X.prog X.w) X.A (matchPattern (.MatchSequence qs pos) X.env v) (SqP X ι H S σ pins ρ o) X.xe s := by
  unfold seqM at e
  split at e
  · rename_i ds
    cases r with
    | tup hq rp =>
      rename_i a xs
      cases rv
      obtain ⟨its, rvi, pl, hz⟩ := I.tuple hq
      have hlen := rvi.length
      have hlen2 := rp.length
      have hfit : ((its.toArray.size : Nat) : Int) < 2 ^ 63 := by
        have : sizeLine < 2 ^ 62 := by decide
        rw [List.size_toArray, ← hlen]; omega
      have hql := chkSeq_len h
      obtain ⟨hst, hnm⟩ := chkSeq_star h
      have hw := chkSeq_wild hne h
      cases st with
      | none =>
        simp only [Option.isSome_none, Bool.false_eq_true, if_false, Nat.add_zero] at hql hst
        simp only at e
        split at e
        · rename_i hd
          have hn : its.toArray.size = qs.length := by rw [List.size_toArray, ← hlen, hlen2, hd, hql]
          refine PyProof.Rows.matchSeq_tuple_hit pl hfit hn ?_ hst hw
          rw [← hn]
          refine PyProof.Rows.unpackItems_tuple (I.ok.hd hc) pl fun h' hx => ?_
          have e0 : its.toArray.toList = its := by simp
          rw [e0]
          exact each_ok hu hN hl h rvi rp e si (I.kept (t' := s.toks + 1 + 1) fun b ob q => hx b ob (Nat.ne_of_lt (Heap.lt_size q)) q)
        · rename_i hd
          cases e
          refine PyProof.Rows.matchSeq_tuple_miss pl hfit (fun z => hd ?_) ⟨ι, H, .refl _ _, si, I.tok _, rfl⟩ hst hw
          rw [List.size_toArray, ← hlen, hlen2, hql] at z
          exact z
      | some j =>
        simp only [Option.isSome_some, if_true] at hql hst
        have hnm := hnm rfl
        have hpl : 0 < ps.length := by
          cases ps with
          | nil => cases hne
          | cons a b => simp
        rw [arm_matchPattern_MatchSequence]
        refine wpAny_bind (wpAny_standAt ?_)
        refine wpAny_bind (wpAny_collectionFlag pl.typeIs flag_seq_tuple ?_)
        simp only [Bool.not_true, Bool.false_eq_true, if_false, hst, hw]
        rw [if_pos (by omega)]
        refine wpAny_bind (PyProof.Rows.pyLen_tuple pl hfit ?_)
        simp only at e
        split at e
        · rename_i hd
          have c1 : ¬ ((its.toArray.size : Nat) : Int) < ((qs.length : Nat) : Int) - 1 := by rw [List.size_toArray, ← hlen, hlen2, hql]; omega
          rw [if_neg c1, if_neg (by rw [hnm]; decide), hql]
          refine wpAny_bind ?_
          refine unpack_star pl (I.ok.hd hc) (by omega) (by rw [List.size_toArray, ← hlen, hlen2]; omega) (by rw [List.size_toArray, ← hlen]; exact hz) fun h' tk hk => ?_
          have I2 : Inv X pins σ H { s with heap := h', toks := tk } := I.kept hk
          have e0 : its.toArray.toList = its := by simp
          have e1 : its.toArray.size + 1 - (ps.length + 1) = its.length - ps.length := by rw [List.size_toArray]; omega
          rw [e0, e1]
          have ed : (its.drop ps.length).take (its.length - ps.length) = its.drop ps.length := List.take_of_length_le (by rw [List.length_drop]; omega)
          have ed2 : (its.drop ps.length).drop (its.length - ps.length) = [] := List.drop_of_length_le (by rw [List.length_drop]; omega)
          rw [ed, ed2]
          have hm := rvi.drop ps.length
          have hmz : (xs.drop ps.length).length ≤ sizeLine := by rw [List.length_drop]; omega
          refine wpAny_bind ?_
          show wpAny _ _ (newObj (.type "list") (.seq (its.drop ps.length).toArray)) _ _ _
          refine wpAny_newObj_type (wpAny_pure ?_) (by show (List.toArray _).size ≤ sizeLine; rw [List.size_toArray, ← hm.length]; exact hmz)
          have I3 := I2.lnew (t' := tk) hm hmz
          have hd2 := I2.hok.fresh (Nat.le_refl h'.objs.size)
          obtain ⟨o2, I4⟩ := I3.lock (upd_same) trivial
          rw [upd_upd] at I4
          have l4 : Lt ι ι H (upd H h'.objs.size (.frz o2 (.lst (xs.drop ps.length)))) := .new hd2
          have rp4 := rp.mono l4.kp
          rw [List.append_nil]
          refine wpAny_mono (each_ok hu hN hl h ((rvi.take ps.length).append (show Vals [V.ref h'.objs.size] [Value.ref h'.objs.size] from .cons rfl .nil)) ((rp4.take ps.length).append (.cons (.lst upd_same (rp4.drop ps.length)) .nil)) e (si.new hd2) I4) (fun r s' ⟨ι2, H2, l2, s2, I5, k⟩ => ⟨ι2, H2, l4.trans l2, s2, I5, k⟩) fun _ _ x => x
        · rename_i hd
          cases e
          have c1 : ((its.toArray.size : Nat) : Int) < ((qs.length : Nat) : Int) - 1 := by rw [List.size_toArray, ← hlen, hlen2, hql]; omega
          rw [if_pos c1]
          exact wpAny_pure ⟨ι, H, .refl _ _, si, I.tok _, rfl⟩
  · cases e
end
end Px

set_option Elab.async false
set_option maxRecDepth 100000
set_option linter.all false
set_option maxHeartbeats 1000000
/-! Px15: match; every statement. -/
namespace Px
open PySem L2 PySem.Spec
section
variable {C : CXT} {gx : GX} {g : Gd} {cl : Cl} {cs : List W} {n : Nat}
variable (hC : ∀ outer H s e s', C outer H s (fun _ _ _ => False) e s' → False)
include hC
theorem cs_nil : CsOk C gx g cl cs n .nil := by
  intro X sc Wx cases_ ι H S σ ρ D d x first T h s rr rd q pins sh v I rv
  simp only [chkCs] at h
  split at h
  · exact wpAny_matchCases_nil ⟨σ, H, I, q ι H σ (.refl _ _) s rr⟩
  · cases h
theorem cs_cons {p : Pt} {b : Ss} {r : Cs} (hb : SsOk C gx g cl cs n b) (hr : CsOk C gx g cl cs n r) : CsOk C gx g cl cs n (.cons p b r) := by
  intro X sc Wx cases_ ι H S σ ρ D d x first T h s rr rd q pins sh v I rv
  simp only [chkCs] at h
  split at h
  · rename_i pat body rest
    simp only [Bool.and_eq_true] at h
    simp only [exCs] at q
    have hu : X.A.units + 80 < cLine := by have := T.R.hu; omega
    have old : ∀ k, ptD p d = some k → (ptM p d ρ = if k then some (some ρ) else some none) → wpAny (model X.prog X.w) X.A (matchCases (⟨pat, none, body⟩ :: rest) X.env v first) (SP X pins D) X.xe sh := by
      intro k e em
      rw [em] at q
      refine wpAny_matchCases_cons (thn (pat_ok hu h.1.1 s rd e I rv) fun o s1 ⟨eo, ι', H', l, s', I'⟩ => ?_)
      subst eo
      cases k with
      | true =>
        simp only [if_true] at q ⊢
        exact wpAny_assignInOrder_none (hb T h.1.2 s' (rr.mono l) (DstS.later l q) pins s1 I')
      | false =>
        simp only [Bool.false_eq_true, if_false] at q ⊢
        exact hr T h.2 s' (rr.mono l) (rd.mono l.kp) (DstS.later l q) pins s1 v I' rv
    have olds : (∀ k, ptD p d = some k → (ptM p d ρ = if k then some (some ρ) else some none)) → (ptD p d = none → ptM p d ρ = none) → wpAny (model X.prog X.w) X.A (matchCases (⟨pat, none, body⟩ :: rest) X.env v first) (SP X pins D) X.xe sh := by
      intro h1 h2
      cases e : ptD p d with
      | none => rw [h2 e] at q; exact q.elim
      | some k => exact old k e (h1 k e)
    cases p with
    | val c => exact olds (fun k e => by simp only [ptM, e]; cases k <;> rfl) (fun e => by simp only [ptM, e])
    | alt c => exact olds (fun k e => by simp only [ptM, e]; cases k <;> rfl) (fun e => by simp only [ptM, e])
    | any => exact olds (fun k e => by simp only [ptM, e]; cases k <;> rfl) (fun e => by simp only [ptM, e])
    | seq ps st =>
      have h1 := h.1.1
      simp only [chkPt] at h1
      split at h1
      · rename_i qs pos
        simp only [Bool.and_eq_true, Bool.not_eq_true'] at h1
        obtain ⟨⟨c1, c2⟩, hh⟩ := h1
        have em : ptM (.seq ps st) d ρ = seqM ps st d ρ := rfl
        cases e : seqM ps st d ρ with
        | none => rw [em, e] at q; exact q.elim
        | some o =>
          rw [em, e] at q
          refine wpAny_matchCases_cons (thn (seq_ok (T.R.cm hh) hu T.R.N T.R.loc c1 c2 s rd e I rv) fun r s1 ⟨ι', H', l, s', I', k⟩ => ?_)
          cases o with
          | none =>
            subst k
            exact hr T h.2 s' (rr.mono l) (rd.mono l.kp) (DstS.later l q) pins s1 v I' rv
          | some ρ' =>
            obtain ⟨bs, ws, ds, er, cp, e'⟩ := k
            subst er
            subst e'
            exact caps_bind T.R.nd cp I' fun s2 I2 => hb T h.1.2 s' (cp.rho (rr.mono l)) (DstS.later l q) pins s2 I2
      · cases h1
  · cases h
theorem s_mat {e : E} {ks : Cs} (hk : CsOk C gx g cl cs n ks) : SOk C gx g cl cs n (.mat e ks) := by
  intro X sc Wx st ι H S σ ρ D T h s rr q
  simp only [chkS] at h
  split at h
  · rename_i sb cases_ pos
    rw [Bool.and_eq_true] at h
    simp only [exS] at q
    intro pins sh I
    refine wpAny_Match (thn (eS hC (D := D) T h.1 s rr (Fin := fun v H1 => ∃ ι1 S1 d, Lt ι ι1 H H1 ∧ Sim X.K ι1 H1 S1 ∧ Rp X.K H1 v d ∧ DstS gx X.K (ux gx X) ι1 H1 Wx D (exCs cl cs ks d ρ S1)) (fun ι1 H1 S1 v wv l s1 r k => ?_) q pins sh I) fun v s1 ⟨x, H1, I1, rv, ι1, S1, d, l, s1', rd, k⟩ => ?_)
    · split at k
      · rename_i d
        exact ⟨ι1, S1, d, l, s1, r, k⟩
      · exact k.elim
    · exact hk T h.2 s1' (rr.mono l) rd k pins s1 v I1 rv
  · cases h
theorem ss_nil : SsOk C gx g cl cs n .nil := by
  intro X sc Wx sts ι H S σ ρ D T h s rr q
  simp only [chkSs] at h
  split at h
  · exact .of pss_nil (q ι H σ (.refl _ _) s rr)
  · cases h
theorem ss_cons {a : Sx} {r : Ss} (ha : SOk C gx g cl cs n a) (hr : SsOk C gx g cl cs n r) : SsOk C gx g cl cs n (.cons a r) := by
  intro X sc Wx sts ι H S σ ρ D T h s rr q
  simp only [chkSs] at h
  simp only [exSs] at q
  split at h
  · -- the ghost step
    rename_i hf
    cases a with
    | frz i =>
      simp only [exS] at q
      cases e1 : ρ[i]? with
      | none => rw [e1] at q; exact q.elim
      | some o =>
        rw [e1] at q
        split at q
        · rename_i a ho
          cases ho
          cases e2 : S[a]? with
          | none => rw [e2] at q; exact q.elim
          | some m =>
            rw [e2] at q
            split at q
            · rename_i xs hm
              cases hm
              obtain ⟨v, hv, p, hp, rfl⟩ := rr.at_ _ _ e1
              obtain ⟨vs, hvs, rvs⟩ := s.ob _ _ _ e2 hp
              refine WpSs.lock hvs fun o => ?_
              have kp := Kp.lst (o := .frz o (.lst vs)) hvs
              have l : Lt ι ι H (upd H p (.frz o (.lst vs))) := .set (List.mem_of_getElem? hp) hvs
              have r1 := rr.mono l
              have rl : RW X.K (ux gx X) ι (upd H p (.frz o (.lst vs))) (.ref p) (.p (.list xs)) := Rp.lst upd_same (rvs.mono kp)
              have r2 := r1.set (i := i) rl
              have e3 : σ.set i (some (V.ref p)) = σ := by
                obtain ⟨hl, he⟩ := List.getElem?_eq_some_iff.mp hv
                rw [← he, List.set_getElem_self]
              rw [e3] at r2
              exact hr T h (s.set (x := .gone) hp kp ⟨_, upd_same⟩) r2 (DstS.later l q)
            · exact q.elim
        · exact q.elim
    | _ => cases hf
  · split at h
    · rename_i st rest
      rw [Bool.and_eq_true] at h
      refine .of (pss_cons ps_wp pss_wp) ?_
      refine ha T h.1 s rr ?_
      cases hq : exS cl cs a ρ S with
      | nx ρ1 S1 =>
        rw [hq] at q
        exact fun ι1 H1 σ1 l1 s1 r1 => hr T h.2 s1 r1 (DstS.later l1 q)
      | bk ρ1 S1 => rw [hq] at q; exact q
      | ct ρ1 S1 => rw [hq] at q; exact q
      | rt x S1 => rw [hq] at q; exact q
      | ex e ρ1 S1 => rw [hq] at q; exact q
      | stuck => rw [hq] at q; exact q.elim
    · cases h
/-! ### raise, try -/
theorem s_rai {c : Nat} {a : Op} : SOk C gx g cl cs n (.rai c a) := by
  intro X sc Wx st ι H S σ ρ D T h s rr q
  simp only [chkS] at h
  rw [Bool.and_eq_true, Bool.not_eq_true'] at h
  obtain ⟨hh, h⟩ := h
  cases a with
  | som e =>
    simp only at h
    split at h
    · rename_i x p v pos pos2
      simp only [Bool.and_eq_true] at h
      obtain ⟨⟨⟨⟨h1, h2⟩, h3⟩, h4⟩, h5⟩ := h
      obtain ⟨d1, d2⟩ := okName_spec h2
      obtain ⟨Ca, f, x1, x2, x3, x4, x5⟩ := T.G.xc c x (of_decide_eq_true (by simpa using h3))
      have h4 : g.xf[c]? = some none := of_decide_eq_true (by simpa using h4)
      rw [h4] at x2; cases x2
      obtain ⟨_, bmB, B, newId, initId, F, xi⟩ := x5.tx rfl
      refine .of (ps_raise (T.R.cm hh) T.tx (SkE.pmk_own1 F xi x3 x4 (raises_own x5.ex x5.ty) (T.R.gl _ h1) pe_wp (starEach_plain (fun v p z => by subst z; exact chkE_plain h5)) d1)) ?_
      simp only [exS] at q
      exact eS hC (D := D) (f := fun _ S1 => .ex ⟨c, .none⟩ ρ S1) T h5 s rr (fun ι1 H1 S1 v wv l s1 r k => k ι1 H1 σ _ _ (.refl _ _) s1 (rr.mono l) ⟨Ca, none, x1, rfl, rfl⟩) q
    · cases h
  | non =>
    simp only at h
    split at h
    · rename_i x p m j p2 pos pos2
      simp only [Bool.and_eq_true] at h
      obtain ⟨⟨⟨h1, h2⟩, h3⟩, h4⟩ := h
      obtain ⟨d1, d2⟩ := okName_spec h2
      obtain ⟨Ca, f, x1, x2, x3, x4, x5⟩ := T.G.xc c x (of_decide_eq_true (by simpa using h3))
      have h4 : g.xf[c]? = some none := of_decide_eq_true (by simpa using h4)
      rw [h4] at x2; cases x2
      obtain ⟨_, bmB, B, newId, initId, F, xi⟩ := x5.tx rfl
      refine .of (ps_raise (T.R.cm hh) T.tx (pmk_own F xi x3 x4 (raises_own x5.ex x5.ty) (T.R.gl _ h1) d1)) ?_
      simp only [exS] at q
      exact q ι H σ _ _ (.refl _ _) s rr ⟨Ca, none, x1, rfl, rfl⟩
    · cases h
/-- o.nm = e -/
theorem s_sat {x nm : Str} {o e : E} : SOk C gx g cl cs n (.sat x nm o e) := by
  intro X sc Wx st ι H S σ ρ D T h s rr q
  simp only [chkS] at h
  split at h
  · rename_i oe y p v pos
    simp only [Bool.and_eq_true, Bool.not_eq_true'] at h
    obtain ⟨⟨⟨⟨h1, h2⟩, h3⟩, h4⟩, h5⟩ := h
    have h1 := eq_of_beq h1; subst h1
    split at h5
    · rename_i l hl
      obtain ⟨Ca, ob, hm⟩ := T.G.oc x l hl
      refine .of (ps_fld pe_wp pe_wp (noswap h4)) ?_
      simp only [exS] at q
      refine eS hC (D := D) T h3 s rr (fun ι1 H1 S1 vv wv l1 s1 rv k => ?_) q
      refine eS hC (D := D) T h2 s1 (rr.mono l1) (fun ι2 H2 S2 vo wo l2 s2 ro k => ?_) k
      have rv2 := rv.mono l2
      split at k
      · rename_i d
        split at k
        · rename_i S3 hS
          obtain ⟨a, dx, vs, rfl, e1, e2, e3, e4⟩ := setA_ok ob s2 ro rv2 hS
          exact ⟨a, Ca, dx, vs, rfl, e1, ob.cls, ob.noa _ (by simpa using h5), e2, k ι2 _ σ e3 e4 (rr.mono ((l1.trans l2).trans e3))⟩
        · exact k.elim
      · exact k.elim
    · cases h5
  · cases h
omit hC in
theorem exS_saug {x nm : Str} {op : Operator} {o e : E} {ρ : Env} {S : Store} : exS cl cs (.saug x nm op o e) ρ S = (ev cl cs o false ρ S).st ρ fun w S1 => (match attrW x nm w S1 with
      | none => .stuck
      | some d => (ev cl cs e false ρ S1).st ρ fun v S2 => (augI op (.p d) v S2).st ρ fun z S3 => (match z with
        | .p y => (match setA x nm w y S3 with | some S4 => .nx ρ S4 | none => .stuck)
        | _ => .stuck)) := rfl
/-- o.nm op= e -/
theorem s_saug {x nm : Str} {op : Operator} {o e : E} : SOk C gx g cl cs n (.saug x nm op o e) := by
  intro X sc Wx st ι H S σ ρ D T h s rr q
  simp only [chkS] at h
  split at h
  · rename_i oe y p op' v pos
    simp only [Bool.and_eq_true] at h
    obtain ⟨⟨⟨⟨⟨h1, h2⟩, h3⟩, h4⟩, h5⟩, h6⟩ := h
    have h1 := eq_of_beq h1; subst h1
    have h2 := eq_of_beq h2; subst h2
    split at h6
    · rename_i l hl
      obtain ⟨Ca, ob, hm⟩ := T.G.oc x l hl
      rw [exS_saug] at q
      have go : ∀ {f : Int → Int → Int} {rd : V → V → Hp → VK → Prop}, InOp X op rd → (∀ i j H Q, Q (.int (f i j)) H → rd (.int i) (.int j) H Q) → (∀ x y S, augI op x y S = (match x, y with | .p (.int i), .p (.int j) => okI (f i j) S | _, _ => .stuck)) → WpS X (.AugAssign (.Attribute oe y p) op v pos) D σ H := by
        intro f rd hop hrd hf
        refine .of (ps_fldaug pe_wp pe_wp hop) ?_
        refine eS hC (D := D) T h3 s rr (fun ι1 H1 S1 vo wo l1 s1 ro k => ?_) q
        split at k
        · exact k.elim
        · rename_i d hd
          obtain ⟨a, dx, vs, z, rfl, e1, e2, e3⟩ := attrW_ok ob s1 ro hd
          refine ⟨a, Ca, dx, vs, z, rfl, e1, ob.cls, ob.noa _ (by simpa using h6), e2, ?_⟩
          refine eS hC (D := D) T h4 s1 (rr.mono l1) (fun ι2 H2 S2 vy wy l2 s2 ry k2 => ?_) k
          clear k
          rw [hf] at k2
          have e3' := e3.mono l2.kp
          split at k2
          · rename_i i j hi
            cases hi
            cases e3'; cases ry
            refine hrd _ _ _ _ ?_
            simp only [okI, R.st_ok] at k2
            split at k2
            · rename_i S4 hS
              obtain ⟨a', dx', vs', ea, f1, f2, f3, f4⟩ := setA_ok ob s2 (ro.mono l2) (Rp.int (f i j)) hS
              cases ea
              exact ⟨dx', vs', f1, f2, k2 ι2 _ σ f3 f4 (rr.mono ((l1.trans l2).trans f3))⟩
            · exact k2.elim
          · exact k2.elim
      cases op with
      | Add => exact go (f := fun i j => i + j) in_add (fun i j H Q q => ⟨i, j, rfl, rfl, q⟩) (fun x y S => rfl)
      | Sub => exact go (f := fun i j => i - j) in_sub (fun i j H Q q => ⟨i, j, rfl, rfl, q⟩) (fun x y S => rfl)
      | _ => cases h5
    · cases h6
  · cases h
omit hC in
/-- the exception's name goes -/
theorem RhoOk.clear {K : PySem.W.Frag} {w : Ws} {ι : List Addr} {H : Hp} {ρ : Env} {σ : St} (j : Nat) (r : RhoOk K w ι H ρ σ) : RhoOk K w ι H (ρ.set j none) (σ.set j none) := by
  refine ⟨by rw [List.length_set, List.length_set]; exact r.len, fun i x e => ?_⟩
  by_cases hj : j = i
  · subst hj
    rw [List.getElem?_set] at e
    simp only [if_pos] at e
    split at e <;> cases e
  · rw [List.getElem?_set_ne hj] at e
    rw [List.getElem?_set_ne hj]
    exact r.at_ i x e
omit hC in
theorem RW.noEx {K : PySem.W.Frag} {w1 w2 : Ws} (hw : w1.w = w2.w) {ι : List Addr} {H : Hp} {v : V} {x : W} (hx : isEx (some x) = false) (r : RW K w1 ι H v x) : RW K w2 ι H v x := by
  cases x with
  | ex c d => cases hx
  | kd k => obtain ⟨a, h1, h2⟩ := r; exact ⟨a, h1, hw ▸ h2⟩
  | _ => exact r
omit hC in
theorem RhoOk.noEx {K : PySem.W.Frag} {w1 w2 : Ws} (hw : w1.w = w2.w) {ι : List Addr} {H : Hp} {ρ : Env} {σ : St} (hx : ρ.any isEx = false) (r : RhoOk K w1 ι H ρ σ) : RhoOk K w2 ι H ρ σ :=
  ⟨r.len, fun i x e => by
    obtain ⟨v, h1, h2⟩ := r.at_ i x e
    rw [List.any_eq_false] at hx
    exact ⟨v, h1, h2.noEx hw (by simpa using hx (some x) (List.mem_of_getElem? e))⟩⟩
omit hC in
theorem sit_try {X : Cx} {sc : Sc} {Wx W' : WX} (T : SitS C gx g cl cs n X sc Wx) {pn : List (Addr × Obj)} {xe : Value → Shared → Prop} (tk : Takes (X.tr pn xe) W') (po : PassesOwn (model X.prog X.w) X.A X.env xe) :
    SitS C gx g cl cs n (X.tr pn xe) sc W' :=
  ⟨⟨⟨T.R.hu, T.R.cm, T.R.nd, T.R.N, T.R.vis, T.R.gl, T.R.own, T.R.cf, T.R.room, T.R.fk, T.R.loc, T.R.cel⟩, T.G, fun σ => by rw [T.ce]; exact passAt (X := X.tr pn xe) tk σ, fun h => ⟨(T.rp h).hg⟩⟩, po, tk, T.st, T.ce, T.fr⟩
theorem sit_suite {X : Cx} {sc : Sc} {Wx : WX} (T : SitS C gx g cl cs n X sc Wx) {a : Addr} {pn : List (Addr × Obj)} : SitS C gx g cl cs n (X.suite a pn) { sc with hot := true } (fun _ _ _ _ => False) :=
  ⟨⟨⟨T.R.hu, fun h => (by cases h), T.R.nd, T.R.N, T.R.vis, T.R.gl, T.R.own, T.R.cf, fun h => (by cases h), T.R.fk, T.R.loc, T.R.cel⟩, T.G, fun σ pins H s e s' I c => (hC _ _ _ _ _ c).elim, fun h => ⟨(T.rp h).hg⟩⟩, PassesOwn.never, takes_none5, T.st, T.ce, T.fr⟩
/-- where a try leads, from where its body leads -/
abbrev dOff (i : Option Nat) (D : Ends) : Ends := match i with
  | none => D
  | some j => { nx := fun σ' H' => D.nx (σ'.set j none) H', rt := D.rt, bk := fun σ' H' => D.bk (σ'.set j none) H', ct := fun σ' H' => D.ct (σ'.set j none) H' }
omit hC in
theorem off_ok {X Y : Cx} {Wx : WX} {ι : List Addr} {H : Hp} {D : Ends} {i : Option Nat} {r : RS} (hw : Y.w = X.w) (hK : Y.K = X.K) (q : DstS gx X.K (ux gx X) ι H Wx D (offS i r)) : DstS gx X.K (ux gx Y) ι H (fun _ _ _ _ => False) (dOff i D) r := by
  have cl : ∀ {ι' : List Addr} {H' : Hp} {ρ : Env} {σ' : St}, (offE i ρ).any isEx = false → RhoOk X.K (ux gx Y) ι' H' ρ σ' → RhoOk X.K (ux gx X) ι' H' (offE i ρ) (match i with | some j => σ'.set j none | none => σ') := fun {ι' H' ρ σ'} hx r => by
    refine RhoOk.noEx (w1 := ux gx Y) (w2 := ux gx X) (show (ux gx Y).w = (ux gx X).w from hw) hx ?_
    cases i with
    | none => exact r
    | some j => exact r.clear j
  cases r with
  | nx ρ S =>
    simp only [offS] at q
    split at q
    · exact q.elim
    · rename_i hx
      have hx : (offE i ρ).any isEx = false := by simpa using hx
      intro ι' H' σ' l s r
      have := q ι' H' _ l s (cl hx r)
      cases i <;> exact this
  | bk ρ S =>
    simp only [offS] at q
    split at q
    · exact q.elim
    · rename_i hx
      have hx : (offE i ρ).any isEx = false := by simpa using hx
      intro ι' H' σ' l s r
      have := q ι' H' _ l s (cl hx r)
      cases i <;> exact this
  | ct ρ S =>
    simp only [offS] at q
    split at q
    · exact q.elim
    · rename_i hx
      have hx : (offE i ρ).any isEx = false := by simpa using hx
      intro ι' H' σ' l s r
      have := q ι' H' _ l s (cl hx r)
      cases i <;> exact this
  | rt x S =>
    cases x with
    | ex c d => exact q.elim
    | _ =>
      intro ι' H' v l s r
      have := q ι' H' v l s (RW.noEx (w1 := ux gx Y) (w2 := ux gx X) (show (ux gx Y).w = (ux gx X).w from hw) rfl r)
      cases i <;> exact this
  | ex e ρ S => exact q.elim
  | stuck => exact q.elim
theorem s_tr {b : Ss} {c : Nat} {tab : List Bool} {i : Option Nat} {hd : Ss} (hb : SsOk C gx g cl cs n b) (hh : SsOk C gx g cl cs n hd) : SOk C gx g cl cs n (.tr b c tab i hd) := by
  intro X sc Wx st ι H S σ ρ D T h s rr q
  simp only [chkS] at h
  rw [Bool.and_eq_true, Bool.not_eq_true'] at h
  obtain ⟨hot, h⟩ := h
  have hcalm := T.R.cm hot
  split at h
  · rename_i body x p nm b₀ suite pos' pos
    simp only [Bool.and_eq_true] at h
    obtain ⟨⟨⟨⟨⟨⟨h1, h2⟩, h3⟩, h4⟩, h5⟩, h6⟩, h7⟩ := h
    obtain ⟨d1, d2⟩ := okName_spec h2
    obtain ⟨Ca, f, x1, x2, x3, x4, x5⟩ := T.G.xc c x (of_decide_eq_true (by simpa using h3))
    have h4 : g.xt[c]? = some tab := of_decide_eq_true (by simpa using h4)
    have names : Names X x (.ref Ca) := ⟨T.R.gl _ h1, d1, .inl x3⟩
    simp only [exS] at q
    -- the body, given what the clause wishes
    have bodyOk : ∀ (W' : WX), (∀ ι' H' σ' cls d e ρ' S', exSs cl cs b ρ S = .ex e ρ' S' → Lt ι ι' H H' → Sim X.K ι' H' S' → RhoOk X.K (ux gx X) ι' H' ρ' σ' → XRel gx X.K e cls d H' → W' cls d σ' H') → ∀ (pn : List (Addr × Obj)) (xe : Value → Shared → Prop),
        Takes (X.tr pn xe) W' → PassesOwn (model X.prog X.w) X.A X.env xe → WpSs (X.tr pn xe) body D σ H := fun W' hW pn xe tk po => by
      have conv : ∀ {ι' : List Addr} {H' : Hp} {ρ' : Env} {σ' : St}, RhoOk X.K (ux gx (X.tr pn xe)) ι' H' ρ' σ' → RhoOk X.K (ux gx X) ι' H' ρ' σ' := fun r => RhoOk.to (w1 := ux gx (X.tr pn xe)) (w2 := ux gx X) rfl (ux_calm hcalm) r
      refine hb (sit_try T tk po) h5 s (RhoOk.to (w1 := ux gx X) (w2 := ux gx (X.tr pn xe)) rfl (ux_calm hcalm) rr) ?_
      cases hr : exSs cl cs b ρ S with
      | nx ρ1 S1 => rw [hr] at q; exact fun ι' H' σ' l s r => q ι' H' σ' l s (conv r)
      | bk ρ1 S1 => rw [hr] at q; exact fun ι' H' σ' l s r => q ι' H' σ' l s (conv r)
      | ct ρ1 S1 => rw [hr] at q; exact fun ι' H' σ' l s r => q ι' H' σ' l s (conv r)
      | rt x S1 => rw [hr] at q; exact fun ι' H' v l s r => q ι' H' v l s (RW.to (w1 := ux gx (X.tr pn xe)) (w2 := ux gx X) rfl (ux_calm hcalm) r)
      | ex e ρ1 S1 => exact fun ι' H' σ' cls d l s r xr => hW ι' H' σ' cls d e ρ1 S1 hr l s (conv r) xr
      | stuck => rw [hr] at q; exact q.elim
    -- what the clause wishes holds
    have wish : ∀ {ι' : List Addr} {H' : Hp} {σ' : St} {cls : Value} {d : Option Addr} {e : EV} {ρ' : Env} {S' : Store}, exSs cl cs b ρ S = .ex e ρ' S' → Lt ι ι' H H' → Sim X.K ι' H' S' → RhoOk X.K (ux gx X) ι' H' ρ' σ' → XRel gx X.K e cls d H' →
        ∃ bb, PySem.W.exmOne X.K cls (.ref Ca) = some bb ∧ (bb = true → ∀ a oe pn, Zc cls d oe → (∃ vs, oe.data = .fields vs) → WpSs (X.suite a ((a, oe) :: pn)) (b₀ :: suite) (dOff i D) (match i with | some j => σ'.set j (some (.ref a)) | none => σ') H') ∧ (bb = false → Wx cls d σ' H') := by
      intro ι' H' σ' cls d e ρ' S' hr l s' r' xr
      rw [hr] at q
      simp only at q
      obtain ⟨Ck, fk, g1, rfl, g2⟩ := xr
      cases ht : tab[e.c]? with
      | none => rw [ht] at q; exact q.elim
      | some bb =>
        refine ⟨bb, (T.G.xs c e.c tab bb Ca Ck f fk h4 ht x1 g1).1, fun hbb a oe pn hz hv => ?_, fun hbb => ?_⟩
        · subst hbb
          rw [ht] at q
          simp only at q
          have ts := sit_suite hC T (a := a) (pn := (a, oe) :: pn)
          have xpa : (ux gx (X.suite a ((a, oe) :: pn))).xp a (.ref Ck) d := ⟨rfl, oe, pn, X, rfl, hz, hv⟩
          have rs := RhoOk.to (w1 := ux gx X) (w2 := ux gx (X.suite a ((a, oe) :: pn))) rfl (ux_calm hcalm) r'
          cases i with
          | none => exact hh ts h6 s' rs (off_ok (X := X) (Y := X.suite a ((a, oe) :: pn)) rfl rfl (DstS.later l q))
          | some j =>
            simp only at q
            split at q
            · exact hh ts h6 s' (rs.set (i := j) (v := .ref a) (x := .ex e.c e.d) ⟨a, .ref Ck, d, rfl, xpa, Ck, fk, g1, rfl, g2⟩) (off_ok (X := X) (Y := X.suite a ((a, oe) :: pn)) rfl rfl (DstS.later l q))
            · exact q.elim
        · subst hbb
          rw [ht] at q
          exact q ι' H' σ' _ d l s' r' ⟨Ck, fk, g1, rfl, g2⟩
    cases i with
    | none =>
      cases nm with
      | some n => simp at h7
      | none =>
        refine .of (ps_try_only T.st T.fr names T.tx (tb := fun W' D' σ' H' => ∀ pn xe, Takes (X.tr pn xe) W' → PassesOwn (model X.prog X.w) X.A X.env xe → WpSs (X.tr pn xe) body D' σ' H')
          (ts := fun a cls d D' σ' H' => ∀ oe pn, Zc cls d oe → (∃ vs, oe.data = .fields vs) → WpSs (X.suite a ((a, oe) :: pn)) (b₀ :: suite) D' σ' H')
          (fun W' pn xe tk po => ⟨fun pins s σ H D I k => k pn xe tk po pins s I⟩) (fun a oe cls d pn hz hv => ⟨fun pins s σ H D I k => k oe pn hz hv pins s I⟩)) ?_
        refine bodyOk _ fun ι' H' σ' cls d e ρ' S' hr l s' r' xr => ?_
        obtain ⟨bb, e1, e2, e3⟩ := wish hr l s' r' xr
        exact ⟨bb, e1, fun hb a _ oe pn hz hv => e2 hb a oe pn hz hv, e3⟩
    | some j =>
      cases nm with
      | none => simp at h7
      | some nn =>
        obtain ⟨l1, l2⟩ := chkLoc_spec T.R h7
        refine .of (ps_try_as T.st T.fr T.R.nd l1 l2 names T.tx (tb := fun W' D' σ' H' => ∀ pn xe, Takes (X.tr pn xe) W' → PassesOwn (model X.prog X.w) X.A X.env xe → WpSs (X.tr pn xe) body D' σ' H')
          (ts := fun a cls d D' σ' H' => ∀ oe pn, Zc cls d oe → (∃ vs, oe.data = .fields vs) → WpSs (X.suite a ((a, oe) :: pn)) (b₀ :: suite) D' σ' H')
          (fun W' pn xe tk po => ⟨fun pins s σ H D I k => k pn xe tk po pins s I⟩) (fun a oe cls d pn hz hv => ⟨fun pins s σ H D I k => k oe pn hz hv pins s I⟩)) ?_
        refine bodyOk _ fun ι' H' σ' cls d e ρ' S' hr l s' r' xr => ?_
        obtain ⟨bb, e1, e2, e3⟩ := wish hr l s' r' xr
        exact ⟨bb, e1, fun hb a _ oe pn hz hv => e2 hb a oe pn hz hv, e3⟩
  · cases h
mutual
theorem s_ok : ∀ s : Sx, SOk C gx g cl cs n s
  | .asg (.n _) _ => s_asgN hC
  | .asg (.t _) _ => s_asgT hC
  | .asg (.s _ _) _ => s_asgS hC
  | .par _ _ _ _ => s_par hC
  | .par3 _ _ _ _ _ _ => s_par3 hC
  | .aug _ _ _ => s_aug hC
  | .ifs _ a b => s_ifs hC (ss_ok a) (ss_ok b)
  | .fo _ _ b => s_for hC (ss_ok b)
  | .wh _ _ b => s_wh hC (ss_ok b)
  | .ret _ => s_ret hC
  | .exp _ => s_exp hC
  | .pass => s_pass
  | .brk => s_brk
  | .cont => s_cont
  | .mat _ ks => s_mat hC (cs_ok ks)
  | .rai _ _ => s_rai hC
  | .sat _ _ _ _ => s_sat hC
  | .saug _ _ _ _ _ => s_saug hC
  | .tr b _ _ _ h => s_tr hC (ss_ok b) (ss_ok h)
  | .frz _ => fun T h s rr q => by simp [chkS] at h
  | .stk => fun T h s rr q => q.elim
  | .uns _ _ _ => s_uns hC
theorem ss_ok : ∀ s : Ss, SsOk C gx g cl cs n s
  | .nil => ss_nil hC
  | .cons a r => ss_cons hC (s_ok a) (ss_ok r)
theorem cs_ok : ∀ s : Cs, CsOk C gx g cl cs n s
  | .nil => cs_nil hC
  | .cons _ b r => cs_cons hC (ss_ok b) (cs_ok r)
end
end
end Px

set_option Elab.async false
set_option maxRecDepth 100000
set_option linter.all false
set_option maxHeartbeats 1000000
/-! Px16: defs. -/
namespace Px
open PySem L2 PySem.Spec

/-- a def's names -/
def scC (N ps : List Str) (sc : Scope) : Bool :=
  (match sc.kind with | .function => true | _ => false) && !sc.isCoroutine && !sc.isGenerator && decide N.Nodup && decide (N.take ps.length = ps) && (ps.all fun x => match sc.names.lookup x with | some .local => true | some .cell => true | _ => false) &&
    sc.names.all fun y => match y.2 with | .free => false | _ => true
theorem scC_spec {N ps : List Str} {sc : Scope} (h : scC N ps sc = true) : FnScope N ps sc := by
  unfold scC at h
  simp only [Bool.and_eq_true, Bool.not_eq_true', decide_eq_true_eq, List.all_eq_true] at h
  obtain ⟨⟨⟨⟨⟨⟨h1, h2⟩, h3⟩, h4⟩, h5⟩, h6⟩, h7⟩ := h
  refine ⟨?_, h2, h3, h4, h5, fun x hx => ?_, fun y hy e => ?_⟩
  · split at h1
    · assumption
    · cases h1
  · have := h6 x hx
    split at this
    · exact .inl ‹_›
    · exact .inr ‹_›
    · cases this
  · have := h7 y hy
    rw [e] at this; cases this
/-- a def of the text: the module's name for it, its name, its qualified name, its parameters, its names, its meaning -/
structure Df where
  gn : Str
  x : Str
  q : Str
  st : Stmt
  ps : List Str
  N : List Str
  ir : Fn
def chkD (g : Gd) (d : Df) : Bool :=
  scC d.N d.ps (defScope d.st) && d.ir.ps == d.ps.length && d.ir.n == d.N.length && chkSs g ⟨d.N, (defScope d.st).names, false⟩ d.ir.body (defBody d.st)
section
variable {P : Program} {w : World} {K : PySem.W.Frag} {mg : Str → Option Value} {base : Heap} {gx : GX} {g : Gd} {cs : List W} {G : List Fn} {n : Nat}
theorem hC2 : ∀ outer H s e s', L2.CX P w outer H s (fun _ _ _ => False) e s' → False := fun _ _ _ _ _ ⟨_, _, _, _, _, _, _, _, _, _, _, _, h⟩ => h
/-- the store's end -/
theorem fin_ok {ι ι' : List Addr} {H H' : Hp} {S' : Store} {σ : St} {Wx : WX} {Q : VK} {v : V} {x : W} {m : Nat} (hm : ι.length = m) (l : Lt ι ι' H H') (s : Sim K ι' H' S') (r : RW K (u0 gx w) ι' H' v x) (q : Dst gx K ι H σ Wx (RlV K (u0 gx w)) Q (fin m x S')) : Q v H' := by
  have pre := l.pre
  obtain ⟨t, ht⟩ := pre
  have htake : ι'.take m = ι := by rw [← ht, ← hm, List.take_left]
  have lt : Lt ι ι H H' := ⟨List.prefix_refl _, l.kp, l.fr, fun _ _ _ n => n⟩
  have st : Sim K ι H' (S'.take m) := htake ▸ s.take m
  unfold fin at q
  split at q
  · rename_i hl
    have e : ι' = ι := by
      have h1 : ι'.length = m := by rw [s.len]; exact hl
      rw [← htake, List.take_of_length_le (by omega)]
    subst e
    exact q ι' H' v lt s r
  · split at q
    · rename_i i
      obtain ⟨a, ha, rfl⟩ := r
      split at q
      · rename_i hi
        refine q ι H' _ lt st ⟨a, ?_, rfl⟩
        rw [← htake, List.getElem?_take_of_lt hi]; exact ha
      · split at q
        · rename_i o ho
          -- a new cell is kept
          have hn : a ∉ ι := fun h => by
            rw [← htake] at h
            obtain ⟨j, hj⟩ := List.mem_iff_getElem?.mp h
            have hjm : j < m := by
              have := (List.getElem?_eq_some_iff.mp hj).1
              rw [List.length_take] at this; omega
            rw [List.getElem?_take_of_lt hjm] at hj
            have h1 := List.getElem?_eq_some_iff.mp ha
            have h2 := List.getElem?_eq_some_iff.mp hj
            have := (List.getElem_inj s.nd).mp (h1.2.trans h2.2.symm)
            omega
          refine q (ι ++ [a]) H' _ ⟨List.prefix_append _ _, l.kp, l.fr, fun b ob e nb hb => ?_⟩ ⟨by rw [List.length_append, List.length_append, st.len]; rfl, ?_, fun j y b hy hb => ?_⟩ ⟨a, ?_, rfl⟩
          · rcases List.mem_append.mp hb with hb | hb
            · exact nb hb
            · have hb := List.mem_singleton.mp hb
              subst hb
              exact l.nw b ob e nb (List.mem_of_getElem? ha)
          · rw [List.nodup_append]
            exact ⟨st.nd, by simp, fun b hb c hc => by simp at hc; subst hc; exact fun e => hn (e ▸ hb)⟩
          · by_cases hj : j < (S'.take m).length
            · rw [List.getElem?_append_left hj] at hy
              rw [List.getElem?_append_left (by rw [st.len]; exact hj)] at hb
              exact st.ob j y b hy hb
            · have ej : j = (S'.take m).length := by
                have := (List.getElem?_eq_some_iff.mp hy).1
                simp only [List.length_append, List.length_cons, List.length_nil] at this; omega
              subst ej
              rw [List.getElem?_append_right (Nat.le_refl _)] at hy
              rw [List.getElem?_append_right (by rw [st.len]; exact Nat.le_refl _), st.len] at hb
              simp at hy hb
              subst hy; subst hb
              exact s.ob i o a ho ha
          · have : m = ι.length := hm.symm
            rw [this]; simp
        · exact q.elim
    · rename_i hne
      exact q ι H' v lt st (by
        cases x with
        | p d => exact r
        | ref i => exact absurd rfl (hne i)
        | ex c d => obtain ⟨_, _, _, _, h, _⟩ := r; exact h.elim
        | kd k => exact r
        | kl k => exact r
        | kt k => exact r
        | fn k => exact r)
theorem rho_start {ι : List Addr} {H : Hp} {vs : List V} {ws : List W} {wx : Ws} (r : RWs K wx ι H vs ws) (F : Fn) {N : List Str} (hn : F.n = N.length) : RhoOk K wx ι H (Px.start F ws) (L2.start N vs) := by
  unfold Px.start L2.start
  rw [hn, ← r.length]
  refine ⟨by simp [r.length], fun i x e => ?_⟩
  by_cases hi : i < ws.length
  · rw [List.getElem?_append_left (by simpa using hi), List.getElem?_map] at e
    rw [List.getElem?_append_left (by simpa [r.length] using hi), List.getElem?_map]
    cases h : ws[i]? with
    | none => rw [h] at e; cases e
    | some y =>
      rw [h] at e
      simp only [Option.map_some, Option.some.injEq] at e
      subst e
      obtain ⟨v, h1, h2⟩ := r.get h
      exact ⟨v, by rw [h1]; rfl, h2⟩
  · rw [List.getElem?_append_right (by simpa using hi)] at e
    have := List.mem_of_getElem? e
    rw [List.mem_replicate] at this
    cases this.2
/-- a def keeps its promise -/
theorem df_ok {d : Df} {f : Nat} {fa : Addr} {fd : FuncData} (hg : GOk (L2.CX P w) P w K mg base gx g (callF G cs n) cs n) (hf : G[f]? = some d.ir) (hd : chkD g d = true) (F : Fun K d.x d.q d.st fa fd) :
    FnG g.rp P w K mg base (L2.CX P w) (3 * (n + 1)) fa fd d.ps (spF gx K w (callF G cs (n + 1)) f) := by
  unfold chkD at hd
  simp only [Bool.and_eq_true, beq_iff_eq] at hd
  obtain ⟨⟨⟨h1, h2⟩, h3⟩, h4⟩ := hd
  have S := scC_spec h1
  have cal : ∀ {ws : List W} {S0 : Store}, callF G cs (n + 1) f ws S0 = if ws.length = d.ir.ps then finS S0.length (exSs (callF G cs n) cs d.ir.body (Px.start d.ir ws) S0) else .stuck := by
    intro ws S0
    simp only [callF, hf]
  refine fnG_ok (k := 3 * n + 2) F S (fun vs H Q E h => ?_) (fun cdv A outer s H vs Q E hr hgd hmod h => ?_)
  · obtain ⟨ι, S0, ws, s0, r, q⟩ := h
    rw [cal] at q
    split at q
    · rename_i hl
      rw [r.length, hl, h2]
    · exact q.elim
  · obtain ⟨ι, S0, ws, s0, r, q⟩ := h
    rw [cal] at q
    split at q
    · refine ⟨_, pss_wp, ?_⟩
      let X0 := cxOf (L2.CX P w) P w K mg base d.N d.q (defScope d.st) fa cdv A outer s H E
      have u1 : ∀ a c dd, ¬ (u0 gx w).xp a c dd := fun _ _ _ h => h
      have u2 : ∀ a c dd, ¬ (ux gx X0).xp a c dd := ux_calm rfl
      have T : SitS (L2.CX P w) gx g (callF G cs n) cs n X0 ⟨d.N, (defScope d.st).names, false⟩ (fun cls d _ H => E cls d H) := by
        refine ⟨⟨⟨(by have := hr.un; show (A.deeper _).units + 100 < cLine; omega), fun _ => rfl, S.nd, rfl, fun x h => ?_, fun x h => ?_, fun x h => ?_, fun x h => h, fun _ => hr, S.kind, fun x h => h, fun x h => h⟩, hg, fun σ => passAt (takes_of rfl rfl rfl rfl) σ, fun h => ⟨hgd h⟩⟩, passes_of rfl, takes_of rfl rfl rfl rfl, rfl, rfl, rfl⟩
        · unfold Sc.vis at h
          split at h
          · rename_i h'; exact .inl h'
          · rename_i h'; exact .inr (.inl h')
          · rename_i h'; exact .inr (.inr h')
          · cases h
        · unfold Sc.glo at h
          split at h
          · rename_i h'; exact h'
          · cases h
        · unfold Sc.own at h
          split at h
          · rename_i h'; exact ⟨.inl h', .inl rfl⟩
          · rename_i h'; exact ⟨.inr h', .inl rfl⟩
          · cases h
      refine ss_ok hC2 d.ir.body T h4 s0 (rho_start (RWs.to (w1 := u0 gx w) (w2 := ux gx X0) rfl u1 r) d.ir h3) ?_
      have lim : ∀ {ι' : List Addr} {H' : Hp} {S' : Store}, Lt ι ι' H H' → Sim K ι' H' S' → Lt ι ι H H' ∧ Sim K ι H' (S'.take S0.length) := fun {ι' H' S'} l s => by
        obtain ⟨t, ht⟩ := l.pre
        refine ⟨⟨List.prefix_refl _, l.kp, l.fr, fun _ _ _ n => n⟩, ?_⟩
        have e : ι'.take S0.length = ι := by rw [← ht, ← s0.len, List.take_left]
        have := s.take S0.length
        rw [e] at this
        exact this
      cases hr : exSs (callF G cs n) cs d.ir.body (Px.start d.ir ws) S0 with
      | rt x S' => rw [hr] at q; exact fun ι' H' v l s' rv => fin_ok s0.len l s' (RW.to (w1 := ux gx X0) (w2 := u0 gx w) rfl u2 rv) q
      | nx ρ S' => rw [hr] at q; exact fun ι' H' σ' l s' rv => fin_ok (x := .p .none) (v := .non) s0.len l s' Rp.non q
      | ex e ρ S' =>
        rw [hr] at q
        exact fun ι' H' σ' cls dd l s' rv xr => q ι H' cls dd (lim l s').1 (lim l s').2 xr
      | bk ρ S' => rw [hr] at q; exact q.elim
      | ct ρ S' => rw [hr] at q; exact q.elim
      | stuck => rw [hr] at q; exact q.elim
    · exact q.elim
def isMe (g : Gd) (f : Nat) : Bool := g.mt.any (fun y => y.1 == f) || g.mi.any fun y => y.1 == f
/-- what the top has written: the defs, the constants, no name of a built-in is bound anew -/
structure ModOk (w : World) (K : PySem.W.Frag) (mg : Str → Option Value) (gx : GX) (g : Gd) (cs : List W) (ds : List Df) : Prop where
  fn : g.fn = ds.map (·.gn)
  chk : ds.all (chkD g) = true
  fns : ∀ (f : Nat) (d : Df), ds[f]? = some d → isMe g f = false → ∃ (fa : Addr) (fd : FuncData), mg d.gn = some (.ref fa) ∧ Fun K d.x d.q d.st fa fd
  mko : (g.mt.all (fun y => g.ko.contains y.1) && g.mi.all (fun y => g.ko.contains y.1) && g.kw.all fun y => !isMe g y.1) = true
  mts : ∀ (f : Nat) (x m : Str), (f, x, m) ∈ g.mt → ∃ (d : Df) (Ca fa : Addr) (fd : FuncData), ds[f]? = some d ∧ PySem.W.nsIn K mainGlobals x = some (some (.ref Ca)) ∧ Meth K Ca m fa ∧ Fun K d.x d.q d.st fa fd
  mis : ∀ (f : Nat) (x : Str), (f, x) ∈ g.mi → ∃ (d : Df) (Ca fa : Addr) (fd : FuncData), ds[f]? = some d ∧ PySem.W.nsIn K mainGlobals x = some (some (.ref Ca)) ∧ Mk K Ca fa ∧ Fun K d.x d.q d.st fa fd
  oc : ∀ (x : Str) (fs : List Str), g.oc.lookup x = some fs → ∃ Ca, ObOk K x fs Ca ∧ mg x = some (.ref Ca)
  fv : ∀ (x : Str), g.fv.contains x = true → ∃ fa, mg x = some (.ref fa) ∧ PySem.W.nsIn K mainGlobals x = some (some (.ref fa))
  bnd : ∀ (f : Nat) (d : Df) (fa : Addr) (fd : FuncData), ds[f]? = some d → (g.ko.contains f = false ∨ isMe g f = true) → Fun K d.x d.q d.st fa fd → Binds K fd d.ps []
  kws : ∀ (f : Nat) (d : Df) (m : Nat) (kn : List Str) (mp : List (Sum Nat PyData)) (fa : Addr) (fd : FuncData), ds[f]? = some d → (f, m, kn, mp) ∈ g.kw → mg d.gn = some (.ref fa) → Fun K d.x d.q d.st fa fd → ∃ (gg : List Value → List Value → List Value) (gV : List V → List V → List V),
    KBn K fd d.ps m kn gg gV ∧ ∀ gx ι H vs ws zs xs us, vs.length = m → zs.length = kn.length → RWs K (u0 gx w) ι H vs ws → RWs K (u0 gx w) ι H zs xs → pickK (ws ++ xs) mp = some us → RWs K (u0 gx w) ι H (gV vs zs) us
  cst : ∀ (j : Nat) (x : Str) (w' : W), g.cn[j]? = some x → cs[j]? = some w' → ∃ u v, mg x = some u ∧ RelV v u ∧ ∀ xp gx ι H, RW K ⟨w, xp, gx⟩ ι H v w'
  bi : ∀ b, mg (biN b) = none
  isi : mg "isinstance" = none
  rng : mg "range" = none
  set : mg "set" = none
  zip : mg "zip" = none
  enu : mg "enumerate" = none
  ty : ∀ t, mg (tyN t) = none
  xc : ∀ (c : Nat) (x : Str), g.xn[c]? = some x → ∃ Ca f, gx[c]? = some (Ca, f) ∧ g.xf[c]? = some f ∧ mg x = some (.ref Ca) ∧ PySem.W.keepIn K (.ref Ca) = true ∧ XcOk K Ca f
  xs : ∀ (c k : Nat) (tab : List Bool) (b : Bool) (Cc Ck : Addr) (fc fk : Option Str), g.xt[c]? = some tab → tab[k]? = some b → gx[c]? = some (Cc, fc) → gx[k]? = some (Ck, fk) → PySem.W.exmOne K (.ref Ck) (.ref Cc) = some b ∧ PySem.W.kitOne K (.ref Ck) (.ref Cc) = some b
  xl : gx.length = g.xn.length ∧ g.xf.length = g.xn.length
theorem gok_all {ds : List Df} (M : ModOk w K mg gx g cs ds) : ∀ n, GOk (L2.CX P w) P w K mg base gx g (callF (ds.map (·.ir)) cs n) cs n := by
  have at_ : ∀ {f x}, g.fn[f]? = some x → ∃ d, ds[f]? = some d ∧ d.gn = x ∧ d ∈ ds := fun {f x} h => by
    rw [M.fn, List.getElem?_map, Option.map_eq_some_iff] at h
    obtain ⟨d, h1, h2⟩ := h
    exact ⟨d, h1, h2, List.mem_of_getElem? h1⟩
  have mko := M.mko
  simp only [Bool.and_eq_true, List.all_eq_true] at mko
  obtain ⟨⟨k1, k2⟩, k3⟩ := mko
  have noMe : ∀ {f}, g.ko.contains f = false → isMe g f = false := fun {f} h => by
    cases e : isMe g f with
    | false => rfl
    | true =>
      unfold isMe at e
      rw [Bool.or_eq_true, List.any_eq_true, List.any_eq_true] at e
      rcases e with ⟨y, hy, e⟩ | ⟨y, hy, e⟩
      · have e := eq_of_beq e; subst e
        have := k1 y hy
        rw [h] at this; cases this
      · have e := eq_of_beq e; subst e
        have := k2 y hy
        rw [h] at this; cases this
  have isM1 : ∀ {f x m}, (f, x, m) ∈ g.mt → isMe g f = true := fun {f x m} h => by
    unfold isMe
    rw [Bool.or_eq_true, List.any_eq_true]
    exact .inl ⟨_, h, by simp⟩
  have isM2 : ∀ {f x}, (f, x) ∈ g.mi → isMe g f = true := fun {f x} h => by
    unfold isMe
    rw [Bool.or_eq_true, List.any_eq_true, List.any_eq_true]
    exact .inr ⟨_, h, by simp⟩
  have kws_ : ∀ {n}, (∀ (f : Nat) (d : Df) (fa : Addr) (fd : FuncData), ds[f]? = some d → d ∈ ds → Fun K d.x d.q d.st fa fd → FnG g.rp P w K mg base (L2.CX P w) (3 * n) fa fd d.ps (spF gx K w (callF (ds.map (·.ir)) cs n) f)) →
      GOk (L2.CX P w) P w K mg base gx g (callF (ds.map (·.ir)) cs n) cs n := fun {n} hF => by
    refine ⟨fun f x h hk => ?_, M.cst, M.bi, fun f x m kn mp h hk => ?_, M.isi, M.rng, M.set, M.zip, M.enu, M.ty, M.xc, M.xs, M.xl, M.oc, fun f x m h => ?_, fun f x h => ?_, M.fv⟩
    · obtain ⟨d, h1, rfl, hd⟩ := at_ h
      obtain ⟨fa, fd, m1, F⟩ := M.fns f d h1 (noMe hk)
      exact ⟨fa, fd, d.ps, m1, F.kp, M.bnd f d fa fd h1 (.inl hk) F, hF f d fa fd h1 hd F⟩
    · obtain ⟨d, h1, rfl, hd⟩ := at_ h
      have nm : isMe g f = false := by have := k3 _ hk; simpa using this
      obtain ⟨fa, fd, m1, F⟩ := M.fns f d h1 nm
      obtain ⟨gg, gV, k1, k2⟩ := M.kws f d m kn mp fa fd h1 hk m1 F
      exact ⟨fa, fd, d.ps, gg, gV, m1, F.kp, k1, hF f d fa fd h1 hd F, k2 gx⟩
    · obtain ⟨d, Ca, fa, fd, h1, h2, h3, F⟩ := M.mts f x m h
      exact ⟨Ca, fa, fd, d.ps, h2, h3, M.bnd f d fa fd h1 (.inr (isM1 h)) F, hF f d fa fd h1 (List.mem_of_getElem? h1) F⟩
    · obtain ⟨d, Ca, fa, fd, h1, h2, h3, F⟩ := M.mis f x h
      exact ⟨Ca, fa, fd, d.ps, h2, h3, M.bnd f d fa fd h1 (.inr (isM2 h)) F, hF f d fa fd h1 (List.mem_of_getElem? h1) F⟩
  intro n
  induction n with
  | zero =>
    exact kws_ fun f d fa fd h1 hd F => ⟨fun vs H Q E ⟨_, _, _, _, _, q⟩ => q.elim, fun A outer s H args us vs Q E hr hgd e0 hb r ⟨_, _, _, _, _, q⟩ => q.elim⟩
  | succ n ih =>
    exact kws_ fun f d fa fd h1 hd F => df_ok ih (by rw [List.getElem?_map, h1]; rfl) (List.all_eq_true.mp M.chk d hd) F
/-- THE LAW: from what the interpreter says of it -/
theorem walk_px {l : PySem.W.OpenLaw} {q : Program} {loose : List Str} {XP : (Str → Option Value) → Heap → Prop} {YP : World → Heap → Prop} {d : DefRec} {K : Params → PySem.W.Frag} {ds : List Df} {g : Gd} {cs : List W} {k ix : Nat} {dl : Df}
    (hn : l.most = some 63) (hdf : d.params.defaults = []) (hr : Room (3 * (k + 1)) callerA) (hY : ∀ (w : World) (h : Heap), YP w h → (K w.params).In h) (hix : ds[ix]? = some dl) (hnm : d.name = dl.gn) (hps : dl.ps = [("script" : Str)])
    (hb : ∀ (kV doc pm : Value) (an : Option Addr) (cdv ct u : Value), bindArgs (PySem.W.fnOf dl.x dl.q (defArgs dl.st) (defBody dl.st) (defScope dl.st) .none kV doc pm an cdv ct) ⟨[u], []⟩ = pure [(("script" : Str), u)])
    (math : ∀ (ns : List Int) (x : W), ns.length ≤ 63 → (x = .p (.list (ns.map PyData.int)) ∨ x = .kl ns) → callF (ds.map (·.ir)) cs (k + 1) ix [x] [] = .ok (.p (.bool true)) [])
    (hme : isMe g ix = false)
    (F : ∀ (w : World) (mg : Str → Option Value) (h : Heap), (K w.params).In h → h.Ns mainGlobals mg → ∃ gx, ModOk w (K w.params) mg gx g cs ds) :
    PySem.W.WalkO q loose XP YP l.row.toRowW d [] (fun f vs => PySem.call f vs) := by
  refine walk_ofG (rp := g.rp) (n := 63) (k := 3 * (k + 1)) (x := "script") (C := fun w => L2.CX l.prog w) (sp := fun w vs H Q E => ∀ gx, spF gx (K w.params) w (callF (ds.map (·.ir)) cs (k + 1)) ix vs H Q E) hn (by decide) hdf hr hY (fun w mg fa h KX G hfa => ?_) (fun w H a ns hl ho hS gx => ?_) fun w H s e s' => hC2 _ _ _ _ _
  · obtain ⟨gx, M⟩ := F w mg h KX G
    have hd : dl ∈ ds := List.mem_of_getElem? hix
    obtain ⟨fa', fd, m1, Fd⟩ := M.fns ix dl hix hme
    have e : fa' = fa := by rw [hnm, m1] at hfa; injection hfa with e; injection e
    subst e
    refine ⟨fd, fun s u => ?_, fun base KB GB => ?_⟩
    · obtain ⟨oc, od, kV, doc, pm, an, cdv, ct, osl, rfl, _, _⟩ := Fd.ex
      exact .of_eq (hb kV doc pm an cdv ct u)
    · have := df_ok (P := l.prog) (base := base) (gx := gx) (f := ix) (gok_all M k) (by rw [List.getElem?_map, hix]; rfl) (List.all_eq_true.mp M.chk dl hd) Fd
      rw [hps] at this
      exact ⟨fun vs H Q E h => this.len vs H Q E (h gx), fun A outer s H args us vs Q E r1 r2 e0 hb r h => this.run A outer s H args us vs Q E r1 r2 e0 hb r (h gx)⟩
  · have fin : ∀ x : W, RW (K w.params) (u0 gx w) [] H (.ref a) x → (x = .p (.list (ns.map PyData.int)) ∨ x = .kl ns) → spF gx (K w.params) w (callF (ds.map (·.ir)) cs (k + 1)) ix [.ref a] H (fun v _ => v = .bl true) (fun _ _ _ => False) := fun x hx hc => by
      refine ⟨[], [], [x], ⟨rfl, List.nodup_nil, fun i o b h _ => by simp at h⟩, .cons hx .nil, ?_⟩
      rw [math ns x hl hc]
      intro ι' H' v l' s' r
      cases r
      rfl
    rcases hS with hS | hS
    · have hf : ∃ o, H a = some (.frz o (.lst (ns.map V.int))) := by
        rcases hS with hS | hS
        · rcases ho a with z | ⟨o, xs, z⟩
          · rw [z] at hS; cases hS
          · rw [z] at hS; cases hS
        · exact hS
      obtain ⟨o, hf⟩ := hf
      refine fin (.p (.list (ns.map PyData.int))) (show Rp _ _ _ _ from .lst hf ?_) (.inl rfl)
      clear hl hS hf fin math
      induction ns with
      | nil => exact .nil
      | cons n ns ih => exact .cons (.int n) ih
    · exact fin (.kl ns) (show ∃ b, V.ref a = V.ref b ∧ ∀ H, SqL _ H b _ from ⟨a, rfl, fun H => .inr hS⟩) (.inr rfl)
end
end Px
namespace Px
open PySem L2 PySem.Spec
/-- a def stands where its name says -/
def DefAt (K : PySem.W.Frag) (mg : Str → Option Value) (d : Df) : Prop := ∃ (fa : Addr) (fd : FuncData), mg d.gn = some (.ref fa) ∧ Fun K d.x d.q d.st fa fd
theorem def_at {K : PySem.W.Frag} {h : Heap} {mg : Str → Option Value} {d : Df} {f : Addr} {oc kV doc pm cdv ct : Value} {od an : Option Addr} {osl : Array (Option Value)} (X : K.In h) (G : h.Ns mainGlobals mg)
    (a : PySem.W.nsIn K mainGlobals d.gn = some (some (.ref f))) (l : K.lookup f = some ⟨oc, od, .func (PySem.W.fnOf d.x d.q (defArgs d.st) (defBody d.st) (defScope d.st) .none kV doc pm an cdv ct), osl⟩)
    (c : PySem.W.codeIn K cdv d.q = true) (k : PySem.W.keepIn K (.ref f) = true) : DefAt K mg d :=
  ⟨f, _, PySem.W.mg_of X G a, fun_mk l c k⟩
theorem with_def {K : PySem.W.Frag} {h : Heap} {mg : Str → Option Value} {d : Df} {f : Addr} {oc kV doc pm cdv ct : Value} {od an : Option Addr} {osl : Array (Option Value)} {T : Prop} (X : K.In h) (G : h.Ns mainGlobals mg)
    (a : PySem.W.nsIn K mainGlobals d.gn = some (some (.ref f))) (l : K.lookup f = some ⟨oc, od, .func (PySem.W.fnOf d.x d.q (defArgs d.st) (defBody d.st) (defScope d.st) .none kV doc pm an cdv ct), osl⟩)
    (c : PySem.W.codeIn K cdv d.q = true) (k : PySem.W.keepIn K (.ref f) = true) (rest : DefAt K mg d → T) : T := rest (def_at X G a l c k)
end Px

set_option Elab.async false
set_option maxRecDepth 100000
set_option linter.all false
set_option maxHeartbeats 1000000
/-! Px17: the module's constants, as the top has written them; keyword binding. -/
namespace Px
open PySem L2 PySem.Spec
def ConstAt (K : PySem.W.Frag) (w : World) (mg : Str → Option Value) (x : Str) (y : W) : Prop := ∃ u v, mg x = some u ∧ RelV v u ∧ ∀ xp gx ι H, RW K ⟨w, xp, gx⟩ ι H v y
section
variable {K : PySem.W.Frag} {w : World} {h : Heap} {mg : Str → Option Value} {T : Prop}
theorem with_int {x : Str} {i : Int} {t : Tok} (X : K.In h) (G : h.Ns mainGlobals mg) (a : PySem.W.nsIn K mainGlobals x = some (some (.int i t))) (rest : ConstAt K w mg x (.p (.int i)) → T) : T :=
  rest ⟨_, .int i, PySem.W.mg_of X G a, ⟨t, rfl⟩, fun _ _ _ _ => Rp.int i⟩
theorem with_str {x y : Str} {t : Tok} (hl : y.length ≤ 1000000) (X : K.In h) (G : h.Ns mainGlobals mg) (a : PySem.W.nsIn K mainGlobals x = some (some (.str y t))) (rest : ConstAt K w mg x (.p (.str y)) → T) : T :=
  rest ⟨_, .str y, PySem.W.mg_of X G a, ⟨t, rfl⟩, fun _ _ _ _ => Rp.str y (dec_line hl)⟩
/-- flat values of the module and what they are -/
def fltB : Value → PyData → Bool
  | .none, .none => true
  | .bool a, .bool b => a == b
  | .int a _, .int b => a == b
  | .str a _, .str b => a == b && decide (b.length ≤ 1000000)
  | _, _ => false
def fltsB : List Value → List PyData → Bool
  | [], [] => true
  | u :: us, d :: ds => fltB u d && fltsB us ds
  | _, _ => false
theorem fltB_ok {u : Value} {d : PyData} (h : fltB u d = true) : RelV (fV d) u ∧ ∀ H, Rp K H (fV d) d := by
  unfold fltB at h
  split at h
  · exact ⟨rfl, fun _ => .non⟩
  · have h := eq_of_beq h; subst h; exact ⟨rfl, fun _ => .bl _⟩
  · have h := eq_of_beq h; subst h; exact ⟨⟨_, rfl⟩, fun _ => .int _⟩
  · rw [Bool.and_eq_true, decide_eq_true_eq] at h
    have h1 := eq_of_beq h.1; subst h1
    exact ⟨⟨_, rfl⟩, fun _ => .str _ (dec_line h.2)⟩
  · cases h
theorem fltsB_ok : ∀ {us : List Value} {ds : List PyData}, fltsB us ds = true → Vals (ds.map fV) us ∧ ∀ H, RpAll K H (ds.map fV) ds
  | [], [], _ => ⟨.nil, fun _ => .nil⟩
  | u :: us, d :: ds, h => by
    rw [fltsB, Bool.and_eq_true] at h
    obtain ⟨h1, h2⟩ := fltB_ok (K := K) h.1
    obtain ⟨h3, h4⟩ := fltsB_ok h.2
    exact ⟨.cons h1 h3, fun H => .cons (h2 H) (h4 H)⟩
  | [], _ :: _, h => by simp [fltsB] at h
  | _ :: _, [], h => by simp [fltsB] at h
theorem fltsB_len : ∀ {us : List Value} {ds : List PyData}, fltsB us ds = true → us.length = ds.length
  | [], [], _ => rfl
  | u :: us, d :: ds, h => by
    rw [fltsB, Bool.and_eq_true] at h
    rw [List.length_cons, List.length_cons, fltsB_len h.2]
  | [], _ :: _, h => by simp [fltsB] at h
  | _ :: _, [], h => by simp [fltsB] at h
theorem tup_rp {f : Addr} {dd : Option Addr} {its : Array Value} {n : Nat} {sl : Array (Option Value)} {ds : List PyData} (hs : ds.length ≤ 1000000) (l : K.lookup f = some ⟨.type "tuple", dd, .seq its n, sl⟩) (e : fltsB its.toList ds = true) (H : Hp) : Rp K H (.ref f) (.tuple ds) := by
  obtain ⟨h1, h2⟩ := fltsB_ok (K := K) e
  refine .tup (.inr ⟨_, its, n, l, rfl, rfl, ?_, h1⟩) (h2 H)
  have := fltsB_len e
  rw [Array.length_toList] at this
  rw [this]; exact dec_line hs
theorem with_tup {x : Str} {f : Addr} {dd : Option Addr} {its : Array Value} {n : Nat} {sl : Array (Option Value)} {ds : List PyData} (hs : ds.length ≤ 1000000) (X : K.In h) (G : h.Ns mainGlobals mg) (a : PySem.W.nsIn K mainGlobals x = some (some (.ref f)))
    (l : K.lookup f = some ⟨.type "tuple", dd, .seq its n, sl⟩) (e : fltsB its.toList ds = true) (rest : ConstAt K w mg x (.p (.tuple ds)) → T) : T :=
  rest ⟨_, .ref f, PySem.W.mg_of X G a, rfl, fun _ _ _ H => tup_rp hs l e H⟩
theorem with_kt {x : Str} {f : Addr} {its : Array Value} {n : Nat} {sl : Array (Option Value)} {ds : List PyData} (hs : ds.length ≤ 1000000) (X : K.In h) (G : h.Ns mainGlobals mg) (a : PySem.W.nsIn K mainGlobals x = some (some (.ref f)))
    (l : K.lookup f = some ⟨.type "tuple", none, .seq its n, sl⟩) (e : fltsB its.toList ds = true) (rest : ConstAt K w mg x (.kt ds) → T) : T :=
  rest ⟨_, .ref f, PySem.W.mg_of X G a, rfl, fun _ _ _ H => ⟨f, rfl, ⟨_, l, rfl, rfl⟩, fun H => tup_rp hs l e H⟩⟩
/-- a dict's entries and what they are -/
def entB : List DictEntry → List (Str × PyData) → Bool
  | [], [] => true
  | e :: es, (k, d) :: ds => (match e.key with | .str x _ => x == k | _ => false) && fltB e.val d && entB es ds
  | _, _ => false
theorem entB_at {z : Str} : ∀ {es : List DictEntry} {ds : List (Str × PyData)}, entB es ds = true →
    es.any (·.refKey) = false ∧ match ds.lookup z with
      | some d => ∃ e, es.find? (·.key.isStr z) = some e ∧ fltB e.val d = true
      | none => es.find? (·.key.isStr z) = none
  | [], [], _ => ⟨rfl, rfl⟩
  | e :: es, (k, d) :: ds, h => by
    simp only [entB, Bool.and_eq_true] at h
    obtain ⟨⟨h1, h2⟩, h3⟩ := h
    obtain ⟨i1, i2⟩ := entB_at (z := z) h3
    cases hk : e.key <;> rw [hk] at h1 <;> try cases h1
    rename_i x t
    have h1 := eq_of_beq h1
    subst h1
    have ek : e.key.isStr z = (x == z) := by rw [hk]; rfl
    refine ⟨?_, ?_⟩
    · rw [List.any_cons, i1, Bool.or_false]
      unfold DictEntry.refKey; rw [hk]
    · rw [List.lookup_cons, List.find?_cons, ek]
      by_cases hz : z = x
      · subst hz
        simp only [beq_self_eq_true]
        exact ⟨e, rfl, h2⟩
      · have hz1 : (z == x) = false := beq_eq_false_iff_ne.mpr hz
        have hz2 : (x == z) = false := beq_eq_false_iff_ne.mpr (Ne.symm hz)
        simp only [hz1, hz2]
        exact i2
  | [], _ :: _, h => by simp [entB] at h
  | _ :: _, [], h => by simp [entB] at h
theorem with_kd {x : Str} {f : Addr} {es : Array DictEntry} {n : Nat} {kvs : List (Str × PyData)} (X : K.In h) (G : h.Ns mainGlobals mg) (a : PySem.W.nsIn K mainGlobals x = some (some (.ref f)))
    (l : K.lookup f = some ⟨.type "dict", none, .dict es n, #[]⟩) (lit : PySem.W.KeysLit w.params es.toList) (low : (f == sysModules) = false) (e : entB es.toList kvs = true) (rest : ConstAt K w mg x (.kd kvs) → T) : T := by
  refine rest ⟨_, .ref f, PySem.W.mg_of X G a, rfl, fun _ _ _ H => ⟨f, rfl, ⟨es, n, l, lit, low⟩, fun z => ?_⟩⟩
  obtain ⟨h1, h2⟩ := entB_at (z := z) e
  unfold PySem.W.nsIn
  rw [l]
  simp only [h1]
  cases hz : kvs.lookup z with
  | none =>
    rw [hz] at h2
    simp only at h2
    rw [h2]
    exact ⟨none, rfl, rfl⟩
  | some d =>
    rw [hz] at h2
    obtain ⟨e', h3, h4⟩ := h2
    rw [h3]
    obtain ⟨g1, g2⟩ := fltB_ok (K := K) h4
    exact ⟨some e'.val, rfl, _, _, rfl, g1, g2⟩
theorem with_none {x : Str} (X : K.In h) (G : h.Ns mainGlobals mg) (a : PySem.W.nsIn K mainGlobals x = some none) (rest : mg x = none → T) : T := rest (PySem.W.mg_none_of X G a)
/-- a def with keyword-only defaults, as the top has made it -/
def KwAt (K : PySem.W.Frag) (mg : Str → Option Value) (d : Df) (kvs : List (Str × PyData)) : Prop := ∃ (fa : Addr) (fd : FuncData) (kws : List (Str × V)), mg d.gn = some (.ref fa) ∧ FunD K d.x d.q (defArgs d.st) (defBody d.st) (defScope d.st) [] kws fa fd ∧
  kws.map (·.1) = kvs.map (·.1) ∧ ∀ H, RpAll K H (kws.map (·.2)) (kvs.map (·.2))
theorem with_def3 {d : Df} {f D a1 a2 a3 : Addr} {n1 n2 n3 : Str} {oc doc pm cdv ct : Value} {od an dd1 dd2 dd3 : Option Addr} {osl s1 s2 s3 : Array (Option Value)} {i1 i2 i3 : Array Value} {m1 m2 m3 : Nat} (X : K.In h) (G : h.Ns mainGlobals mg)
    (a : PySem.W.nsIn K mainGlobals d.gn = some (some (.ref f))) (l : K.lookup f = some ⟨oc, od, .func (PySem.W.fnOf d.x d.q (defArgs d.st) (defBody d.st) (defScope d.st) .none (.ref D) doc pm an cdv ct), osl⟩)
    (c : PySem.W.codeIn K cdv d.q = true) (k : PySem.W.keepIn K (.ref f) = true)
    (z1 : PySem.W.nsIn K D n1 = some (some (.ref a1))) (l1 : K.lookup a1 = some ⟨.type "tuple", dd1, .seq i1 m1, s1⟩) (e1 : fltsB i1.toList [] = true)
    (z2 : PySem.W.nsIn K D n2 = some (some (.ref a2))) (l2 : K.lookup a2 = some ⟨.type "tuple", dd2, .seq i2 m2, s2⟩) (e2 : fltsB i2.toList [] = true)
    (z3 : PySem.W.nsIn K D n3 = some (some (.ref a3))) (l3 : K.lookup a3 = some ⟨.type "tuple", dd3, .seq i3 m3, s3⟩) (e3 : fltsB i3.toList [] = true)
    (rest : DefAt K mg d → KwAt K mg d [(n1, .tuple []), (n2, .tuple []), (n3, .tuple [])] → T) : T := by
  refine rest (def_at X G a l c k) ⟨f, _, [(n1, .ref a1), (n2, .ref a2), (n3, .ref a3)], PySem.W.mg_of X G a, ⟨⟨oc, od, .none, .ref D, doc, pm, an, cdv, ct, osl, rfl, l, c, .inl ⟨rfl, rfl⟩, .inr ⟨D, rfl, fun q hq => ?_⟩⟩, k⟩, rfl, fun H => ?_⟩
  · simp only [List.mem_cons, List.not_mem_nil, or_false] at hq
    rcases hq with rfl | rfl | rfl
    · exact ⟨_, z1, rfl⟩
    · exact ⟨_, z2, rfl⟩
    · exact ⟨_, z3, rfl⟩
  · exact .cons (tup_rp (by decide) l1 e1 H) (.cons (tup_rp (by decide) l2 e2 H) (.cons (tup_rp (by decide) l3 e3 H) .nil))
/-- the def that stands there is the one -/
theorem same_def {d : Df} {fa fa' : Addr} {fd fd' : FuncData} {kws : List (Str × V)} (e : mg d.gn = some (.ref fa)) (F : Fun K d.x d.q d.st fa fd) (e' : mg d.gn = some (.ref fa')) (F' : FunD K d.x d.q (defArgs d.st) (defBody d.st) (defScope d.st) [] kws fa' fd') : fa = fa' ∧ fd = fd' := by
  rw [e] at e'
  injection e' with e1
  injection e1 with e2
  subst e2
  obtain ⟨_, _, _, _, _, _, _, _, _, _, l, _⟩ := F.ex
  obtain ⟨_, _, _, _, _, _, _, _, _, _, _, l', _⟩ := F'.ex
  rw [l] at l'
  injection l' with e3
  injection e3 with _ _ e4
  injection e4 with e5
  exact ⟨rfl, e5⟩
/-! ### keyword calls -/
/-- values picked out of those that lacked and those that were given -/
def gsel {α : Type} : List (Sum Nat Nat) → List α → List α → List α
  | [], _, _ => []
  | .inl i :: r, m, z => (match z[i]? with | some a => a :: gsel r m z | none => gsel r m z)
  | .inr j :: r, m, z => (match m[j]? with | some a => a :: gsel r m z | none => gsel r m z)
theorem paired_get {α β : Type} {R : α → β → Prop} : ∀ {l : List α} {l' : List β} (_ : Paired R l l') (i : Nat), (l[i]? = none ∧ l'[i]? = none) ∨ ∃ a b, l[i]? = some a ∧ l'[i]? = some b ∧ R a b
  | _, _, .nil, i => .inl ⟨by simp, by simp⟩
  | _, _, .cons h r, 0 => .inr ⟨_, _, rfl, rfl, h⟩
  | _, _, .cons h r, i + 1 => by simpa using paired_get r i
theorem gsel_rel {α β : Type} {R : α → β → Prop} {m z : List α} {m' z' : List β} (r1 : Paired R m m') (r2 : Paired R z z') : ∀ sel : List (Sum Nat Nat), Paired R (gsel sel m z) (gsel sel m' z')
  | [] => .nil
  | .inl i :: sel => by
    have ih := gsel_rel r1 r2 sel
    rcases paired_get r2 i with ⟨h1, h2⟩ | ⟨a, b, h1, h2, h3⟩
    · simp only [gsel, h1, h2]; exact ih
    · simp only [gsel, h1, h2]; exact .cons h3 ih
  | .inr i :: sel => by
    have ih := gsel_rel r1 r2 sel
    rcases paired_get r1 i with ⟨h1, h2⟩ | ⟨a, b, h1, h2, h3⟩
    · simp only [gsel, h1, h2]; exact ih
    · simp only [gsel, h1, h2]; exact .cons h3 ih
/-- the keyword-only parameters that lack -/
def nmiss {α : Type} (mi : List Nat) (kvs : List (Str × α)) : List (Str × α) := mi.filterMap fun i => kvs[i]?
theorem nmiss_map {α β : Type} {f : α → β} (mi : List Nat) (kvs : List (Str × α)) (kws : List (Str × β)) (h : kws.map (·.1) = kvs.map (·.1)) : (nmiss mi kws).map (·.1) = (nmiss mi kvs).map (·.1) := by
  have at_ : ∀ i : Nat, (kws[i]?).map (·.1) = (kvs[i]?).map (·.1) := fun i => by rw [← List.getElem?_map, ← List.getElem?_map, h]
  unfold nmiss
  induction mi with
  | nil => rfl
  | cons i mi ih =>
    have := at_ i
    cases h1 : kws[i]? with
    | none =>
      rw [h1] at this
      cases h2 : kvs[i]? with
      | none => rw [List.filterMap_cons_none h1, List.filterMap_cons_none h2]; exact ih
      | some b => rw [h2] at this; cases this
    | some a =>
      rw [h1] at this
      cases h2 : kvs[i]? with
      | none => rw [h2] at this; cases this
      | some b =>
        rw [h2] at this
        rw [List.filterMap_cons_some h1, List.filterMap_cons_some h2, List.map_cons, List.map_cons, ih]
        simp at this; rw [this]
theorem rpall_get {K : PySem.W.Frag} {H : Hp} {vs : List V} {ds : List PyData} (h : RpAll K H vs ds) (i : Nat) : (vs[i]? = none ∧ ds[i]? = none) ∨ ∃ v d, vs[i]? = some v ∧ ds[i]? = some d ∧ Rp K H v d := by
  cases hd : ds[i]? with
  | none =>
    refine .inl ⟨?_, rfl⟩
    rw [List.getElem?_eq_none_iff] at hd ⊢
    rw [h.length]; exact hd
  | some d => obtain ⟨v, h1, h2⟩ := h.get hd; exact .inr ⟨v, d, h1, rfl, h2⟩
/-- where each keyword-only parameter's value comes from, for the interpreter -/
def mpSel (n : Nat) (mi : List Nat) (kvs : List (Str × PyData)) : List (Sum Nat Nat) → List (Sum Nat PyData)
  | [] => []
  | .inl i :: r => .inl (n + i) :: mpSel n mi kvs r
  | .inr j :: r => (match ((nmiss mi kvs).map (·.2))[j]? with | some d => .inr d | none => .inl 1000000) :: mpSel n mi kvs r
theorem pickK_app {ws : List W} : ∀ {a b : List (Sum Nat PyData)} {us : List W}, pickK ws (a ++ b) = some us → ∃ u1 u2, pickK ws a = some u1 ∧ pickK ws b = some u2 ∧ us = u1 ++ u2
  | [], b, us, h => ⟨[], us, rfl, h, rfl⟩
  | .inl i :: a, b, us, h => by
    simp only [List.cons_append, pickK] at h
    cases hw : ws[i]? with
    | none => rw [hw] at h; cases h
    | some w =>
      rw [hw] at h
      simp only [Option.map_eq_some_iff] at h
      obtain ⟨u, h1, rfl⟩ := h
      obtain ⟨u1, u2, h2, h3, rfl⟩ := pickK_app h1
      exact ⟨w :: u1, u2, by simp only [pickK, hw, h2]; rfl, h3, rfl⟩
  | .inr d :: a, b, us, h => by
    simp only [List.cons_append, pickK, Option.map_eq_some_iff] at h
    obtain ⟨u, h1, rfl⟩ := h
    obtain ⟨u1, u2, h2, h3, rfl⟩ := pickK_app h1
    exact ⟨.p d :: u1, u2, by simp only [pickK, h2]; rfl, h3, rfl⟩
theorem pickK_pre {ws xs : List W} {us : List W} (h : pickK (ws ++ xs) ((List.range ws.length).map .inl) = some us) : us = ws := by
  have gen : ∀ (k : Nat) (us : List W), k ≤ ws.length → pickK (ws ++ xs) ((List.range' (ws.length - k) k).map .inl) = some us → us = ws.drop (ws.length - k) := by
    intro k
    induction k with
    | zero => intro us _ h; simp [pickK] at h; subst h; simp
    | succ k ih =>
      intro us hk h
      rw [List.range'_succ, List.map_cons, pickK] at h
      have hi : ws.length - (k + 1) < ws.length := by omega
      rw [List.getElem?_append_left hi, List.getElem?_eq_getElem hi] at h
      simp only [Option.map_eq_some_iff] at h
      obtain ⟨u, h1, rfl⟩ := h
      have e : ws.length - (k + 1) + 1 = ws.length - k := by omega
      rw [e] at h1
      rw [ih u (by omega) h1, List.drop_eq_getElem_cons hi, e]
  have := gen ws.length us (Nat.le_refl _) (by rw [Nat.sub_self, ← List.range_eq_range']; exact h)
  simpa using this
theorem pick_sel {K : PySem.W.Frag} {w : Ws} {ι : List Addr} {H : Hp} {n : Nat} {mi : List Nat} {kvs : List (Str × PyData)} {ws xs : List W} {zs mz : List V} (hn : ws.length = n) (rz : RWs K w ι H zs xs) (rm : RpAll K H mz ((nmiss mi kvs).map (·.2))) :
    ∀ (sel : List (Sum Nat Nat)) (us : List W), (ws ++ xs).length ≤ 1000000 → pickK (ws ++ xs) (mpSel n mi kvs sel) = some us → RWs K w ι H (gsel sel mz zs) us
  | [], us, hl, h => by simp [mpSel, pickK] at h; subst h; exact .nil
  | .inl i :: sel, us, hl, h => by
    simp only [mpSel, pickK] at h
    rw [List.getElem?_append_right (by omega), show n + i - ws.length = i by omega] at h
    cases hx : xs[i]? with
    | none => rw [hx] at h; cases h
    | some x =>
      rw [hx] at h
      simp only [Option.map_eq_some_iff] at h
      obtain ⟨u, h1, rfl⟩ := h
      obtain ⟨v, h2, h3⟩ := rz.get hx
      have ih := pick_sel hn rz rm sel u hl h1
      simp only [gsel, h2]
      exact .cons h3 ih
  | .inr j :: sel, us, hl, h => by
    simp only [mpSel] at h
    rcases rpall_get rm j with ⟨h1, h2⟩ | ⟨v, d, h1, h2, h3⟩
    · rw [h2] at h
      simp only [pickK] at h
      rw [List.getElem?_eq_none (by omega)] at h; cases h
    · rw [h2] at h
      simp only [pickK, Option.map_eq_some_iff] at h
      obtain ⟨u, h4, rfl⟩ := h
      have ih := pick_sel hn rz rm sel u hl h4
      simp only [gsel, h1]
      exact .cons (x := .p d) h3 ih
theorem kw_gen {K : PySem.W.Frag} {w : World} {mg : Str → Option Value} {d : Df} {kvs : List (Str × PyData)} (kw : KwAt K mg d kvs) (hne : kvs ≠ []) (n : Nat) (hn : n ≤ 1000) (ks : List Str) (hks : ks.length ≤ 1000) (mi : List Nat) (sel : List (Sum Nat Nat)) {mp : List (Sum Nat PyData)}
    (hmp : mp = (List.range n).map .inl ++ mpSel n mi kvs sel) {fa : Addr} {fd : FuncData} (he : mg d.gn = some (.ref fa)) (F : Fun K d.x d.q d.st fa fd)
    (ch : ∀ (D : Addr) (doc pm : Value) (an : Option Addr) (cdv ct : Value) (us mv ws : List Value), us.length = n → mv.length = (nmiss mi kvs).length → ws.length = ks.length →
      KwChain D (((nmiss mi kvs).map (·.1)).zip mv) (bindArgs (PySem.W.fnOf d.x d.q (defArgs d.st) (defBody d.st) (defScope d.st) .none (.ref D) doc pm an cdv ct) ⟨us, ks.zip ws⟩) (d.ps.zip (us ++ gsel sel mv ws))) :
    ∃ (gg : List Value → List Value → List Value) (gV : List V → List V → List V),
      KBn K fd d.ps n ks gg gV ∧ ∀ gx ι H vs ws zs xs us, vs.length = n → zs.length = ks.length → RWs K (u0 gx w) ι H vs ws → RWs K (u0 gx w) ι H zs xs → pickK (ws ++ xs) mp = some us → RWs K (u0 gx w) ι H (gV vs zs) us := by
  obtain ⟨fa', fd', kws, e', F', hnm, hr⟩ := kw
  obtain ⟨rfl, rfl⟩ := same_def he F e' F'
  have hnames := nmiss_map (f := fun _ => V.non) mi kvs kws hnm
  have hlen : (nmiss mi kws).length = (nmiss mi kvs).length := by have := congrArg List.length hnames; simpa using this
  obtain ⟨mv, B⟩ := F'.kbinds0 (ps := d.ps) n ks (nmiss mi kws) (fun us mv ws => us ++ gsel sel mv ws) (fun e => hne (by subst e; simpa using hnm.symm)) (fun q hq => by
    unfold nmiss at hq
    obtain ⟨i, _, h2⟩ := List.mem_filterMap.mp hq
    exact List.mem_of_getElem? h2) (fun r1 r2 r3 => r1.append (gsel_rel r2 r3 sel)) (fun D doc pm an cdv ct us mv ws h1 h2 h3 => by rw [hnames]; exact ch D doc pm an cdv ct us mv ws h1 (h2.trans hlen) h3)
  refine ⟨_, _, B, fun gx ι H vs ws zs xs us h1 h2 r1 r2 hp => ?_⟩
  rw [hmp] at hp
  obtain ⟨u1, u2, p1, p2, rfl⟩ := pickK_app hp
  have hwn : ws.length = n := by rw [← r1.length]; exact h1
  rw [← hwn] at p1
  rw [pickK_pre p1]
  refine r1.append (pick_sel hwn r2 ?_ sel u2 ?_ p2)
  · have hk := hr H
    clear hp p1 p2 B ch hmp
    unfold nmiss
    have : ∀ mi : List Nat, RpAll K H ((mi.filterMap fun i => kws[i]?).map (·.2)) ((mi.filterMap fun i => kvs[i]?).map (·.2)) := fun mi => by
      induction mi with
      | nil => exact .nil
      | cons i mi ih =>
        rcases rpall_get hk i with ⟨a1, a2⟩ | ⟨v, dd, a1, a2, a3⟩
        · rw [List.getElem?_map, Option.map_eq_none_iff] at a1 a2
          rw [List.filterMap_cons_none a1, List.filterMap_cons_none a2]; exact ih
        · rw [List.getElem?_map, Option.map_eq_some_iff] at a1 a2
          obtain ⟨p, b1, rfl⟩ := a1
          obtain ⟨q, b2, rfl⟩ := a2
          rw [List.filterMap_cons_some b1, List.filterMap_cons_some b2]
          exact .cons a3 ih
    exact this mi
  · have := r2.length
    rw [List.length_append, hwn, ← this, h2]; omega
end
end Px

set_option Elab.async false
set_option maxRecDepth 100000
set_option linter.all false
set_option maxHeartbeats 1000000
/-! Px17x: the module's classes, as the top has written them. -/
namespace Px
open PySem L2 PySem.Spec
/-- an exception class -/
structure ExAt (K : PySem.W.Frag) (mg : Str → Option Value) (x : Str) (f : Option Str) (Ca : Addr) : Prop where
  m : mg x = some (.ref Ca)
  k : PySem.W.keepIn K (.ref Ca) = true
  ok : XcOk K Ca f
/-- the class Ck is caught by Cc or not -/
structure PrAt (K : PySem.W.Frag) (Cc Ck : Addr) (b : Bool) : Prop where
  m : PySem.W.exmOne K (.ref Ck) (.ref Cc) = some b
  i : PySem.W.kitOne K (.ref Ck) (.ref Cc) = some b
inductive ExsAt (K : PySem.W.Frag) (mg : Str → Option Value) : List Str → List (Option Str) → GX → Prop
  | nil : ExsAt K mg [] [] []
  | cons {x : Str} {f : Option Str} {Ca : Addr} {xs : List Str} {fs : List (Option Str)} {gx : GX} : ExAt K mg x f Ca → ExsAt K mg xs fs gx → ExsAt K mg (x :: xs) (f :: fs) ((Ca, f) :: gx)
/-- a class against the first ones -/
inductive RowAt (K : PySem.W.Frag) (Cc : Addr) : GX → List Bool → Prop
  | nil {gx : GX} : RowAt K Cc gx []
  | cons {Ck : Addr} {f : Option Str} {b : Bool} {gx : GX} {tab : List Bool} : PrAt K Cc Ck b → RowAt K Cc gx tab → RowAt K Cc ((Ck, f) :: gx) (b :: tab)
inductive TabAt (K : PySem.W.Frag) (gx : GX) : GX → List (List Bool) → Prop
  | nil {r : GX} : TabAt K gx r []
  | cons {Cc : Addr} {f : Option Str} {r : GX} {tab : List Bool} {xt : List (List Bool)} : RowAt K Cc gx tab → TabAt K gx r xt → TabAt K gx ((Cc, f) :: r) (tab :: xt)
section
variable {K : PySem.W.Frag} {w : World} {h : Heap} {mg : Str → Option Value} {T : Prop}
theorem ExsAt.xc {xs : List Str} {fs : List (Option Str)} {gx : GX} (e : ExsAt K mg xs fs gx) : ∀ (c : Nat) (x : Str), xs[c]? = some x → ∃ Ca f, gx[c]? = some (Ca, f) ∧ fs[c]? = some f ∧ mg x = some (.ref Ca) ∧ PySem.W.keepIn K (.ref Ca) = true ∧ XcOk K Ca f := by
  induction e with
  | nil => intro c x h; simp at h
  | cons a _ ih =>
    intro c x h
    cases c with
    | zero => simp at h; subst h; exact ⟨_, _, rfl, rfl, a.m, a.k, a.ok⟩
    | succ c => exact ih c x (by simpa using h)
theorem ExsAt.xl {xs : List Str} {fs : List (Option Str)} {gx : GX} (e : ExsAt K mg xs fs gx) : gx.length = xs.length ∧ fs.length = xs.length := by
  induction e with
  | nil => exact ⟨rfl, rfl⟩
  | cons _ _ ih => exact ⟨by simp [ih.1], by simp [ih.2]⟩
theorem RowAt.at {Cc : Addr} {gx : GX} {tab : List Bool} (r : RowAt K Cc gx tab) : ∀ {k : Nat} {b : Bool} {Ck : Addr} {fk : Option Str}, tab[k]? = some b → gx[k]? = some (Ck, fk) → PySem.W.exmOne K (.ref Ck) (.ref Cc) = some b ∧ PySem.W.kitOne K (.ref Ck) (.ref Cc) = some b := by
  induction r with
  | nil => intro k b Ck fk h; simp at h
  | cons p _ ih =>
    intro k b Ck fk h1 h2
    cases k with
    | zero => simp at h1 h2; obtain ⟨rfl, rfl⟩ := h2; subst h1; exact ⟨p.m, p.i⟩
    | succ k => exact ih (by simpa using h1) (by simpa using h2)
theorem TabAt.xs {gx r : GX} {xt : List (List Bool)} (t : TabAt K gx r xt) : ∀ (c k : Nat) (tab : List Bool) (b : Bool) (Cc Ck : Addr) (fc fk : Option Str), xt[c]? = some tab → tab[k]? = some b → r[c]? = some (Cc, fc) → gx[k]? = some (Ck, fk) → PySem.W.exmOne K (.ref Ck) (.ref Cc) = some b ∧ PySem.W.kitOne K (.ref Ck) (.ref Cc) = some b := by
  induction t with
  | nil => intro c k tab b Cc Ck fc fk h; simp at h
  | cons ro _ ih =>
    intro c k tab b Cc Ck fc fk h1 h2 h3 h4
    cases c with
    | zero => simp at h1 h3; obtain ⟨rfl, rfl⟩ := h3; subst h1; exact ro.at h2 h4
    | succ c => exact ih c k tab b Cc Ck fc fk (by simpa using h1) h2 (by simpa using h3) h4
theorem tab_of {xs : List Str} {fs : List (Option Str)} {gx : GX} {xt : List (List Bool)} (e : ExsAt K mg xs fs gx) (t : TabAt K gx gx xt) : TabAt K gx gx xt := t
/-- a class of texts -/
theorem with_exc {x : Str} {f : Addr} {bmB : List Value} {B newId initId : String} (F : ExcBaseFacts B newId initId bmB) (X : K.In h) (G : h.Ns mainGlobals mg) (a : PySem.W.nsIn K mainGlobals x = some (some (.ref f))) (k : PySem.W.keepIn K (.ref f) = true)
    (q : PySem.W.excIn K f bmB newId = true) (ex : PySem.W.subIn K (.ref f) (.type "BaseException") = some true) (ty : PySem.W.typeIn K (.ref f) = some (.type "type"))
    (hg : PySem.W.findIn K (.ref f) "__getattribute__" = some (some (.builtin "BaseException.__getattribute__"))) (hk : PySem.W.findIn K (.ref f) "__getattr__" = some none) (hd : PySem.W.hasDictIn K f = true)
    (ha : PySem.W.findIn K (.ref f) "__class__" = some (some (.builtin "object.__class__"))) (hn : PySem.W.specialIn K (.builtin "object.__class__") "__get__" = some (some (.builtin "getset_descriptor.__get__")))
    (ht : PySem.W.takesIn K (.builtin "object.__class__") = some true) (hm : PySem.W.mroIn K f (.type "object") = some true) (rest : ExAt K mg x none f → T) : T :=
  rest ⟨PySem.W.mg_of X G a, k, ⟨ex, ty, fun _ => ⟨⟨hg, hk, ex, hd, ha, hn, ht, hm⟩, bmB, B, newId, initId, F, q⟩, fun x z => by cases z⟩⟩
/-- a pair of them: caught or not -/
theorem with_pair {x y : Str} {fx fy : Option Str} {Cc Ck : Addr} {b : Bool} (ec : ExAt K mg x fx Cc) (ek : ExAt K mg y fy Ck) (h1 : PySem.W.subIn K (.ref Cc) (.type "BaseException") = some true) (hd : PySem.W.hasDictIn K Cc = true) (ht : PySem.W.typeIn K (.ref Cc) = some (.type "type"))
    (h4 : PySem.W.subIn K (.ref Ck) (.ref Cc) = some b) (h5 : PySem.W.kitOne K (.ref Ck) (.ref Cc) = some b) (rest : PrAt K Cc Ck b → T) : T := rest ⟨PySem.W.exm_ref h1 hd ht h4, h5⟩
/-- a class -/
structure OcAt (K : PySem.W.Frag) (mg : Str → Option Value) (x : Str) (fs : List Str) (Ca : Addr) : Prop where
  ob : ObOk K x fs Ca
  m : mg x = some (.ref Ca)
theorem with_cls2 {x a1 a2 : Str} {f : Addr} (X : K.In h) (G : h.Ns mainGlobals mg) (a : PySem.W.nsIn K mainGlobals x = some (some (.ref f))) (p1 : PySem.W.plainGet K f Str.empty = true) (p2 : PySem.W.hasDictIn K f = true) (p3 : PySem.W.plainOver K f = true)
    (p4 : PySem.W.findIn K (.ref f) "__setattr__" = some (some (.builtin "object.__setattr__"))) (n1 : PySem.W.findIn K (.ref f) a1 = some none) (n2 : PySem.W.findIn K (.ref f) a2 = some none) (rest : OcAt K mg x [a1, a2] f → T) : T :=
  rest ⟨⟨a, ⟨p1, p2, p3, p4⟩, fun n hn => by
    simp only [List.mem_cons, List.not_mem_nil, or_false] at hn
    rcases hn with rfl | rfl
    · exact n1
    · exact n2⟩, PySem.W.mg_of X G a⟩
/-- a method stands where its class says -/
def MtAt (K : PySem.W.Frag) (x m : Str) (d : Df) : Prop := ∃ (Ca fa : Addr) (fd : FuncData), PySem.W.nsIn K mainGlobals x = some (some (.ref Ca)) ∧ Meth K Ca m fa ∧ Fun K d.x d.q d.st fa fd
def MiAt (K : PySem.W.Frag) (x : Str) (d : Df) : Prop := ∃ (Ca fa : Addr) (fd : FuncData), PySem.W.nsIn K mainGlobals x = some (some (.ref Ca)) ∧ Mk K Ca fa ∧ Fun K d.x d.q d.st fa fd
theorem with_meth {x m : Str} {l : List Str} {d : Df} {C f : Addr} {oc kV doc pm cdv ct : Value} {od an : Option Addr} {osl : Array (Option Value)} (c : OcAt K mg x l C) (a : PySem.W.findIn K (.ref C) m = some (some (.ref f))) (fn : PySem.W.isFn K (.ref f) = true) (k : PySem.W.keepIn K (.ref f) = true)
    (lk : K.lookup f = some ⟨oc, od, .func (PySem.W.fnOf d.x d.q (defArgs d.st) (defBody d.st) (defScope d.st) .none kV doc pm an cdv ct), osl⟩) (cd : PySem.W.codeIn K cdv d.q = true) (rest : MtAt K x m d → T) : T :=
  rest ⟨C, f, _, c.ob.at_, ⟨a, fn, k⟩, fun_mk lk cd k⟩
theorem with_init {x : Str} {l : List Str} {d : Df} {C f : Addr} {oc kV doc pm cdv ct : Value} {od an : Option Addr} {osl : Array (Option Value)} (c : OcAt K mg x l C) (mk : PySem.W.makesIn K C = true) (a : PySem.W.findIn K (.ref C) "__init__" = some (some (.ref f))) (fn : PySem.W.isFn K (.ref f) = true) (kc : PySem.W.keepIn K (.ref C) = true)
    (k : PySem.W.keepIn K (.ref f) = true) (lk : K.lookup f = some ⟨oc, od, .func (PySem.W.fnOf d.x d.q (defArgs d.st) (defBody d.st) (defScope d.st) .none kV doc pm an cdv ct), osl⟩) (cd : PySem.W.codeIn K cdv d.q = true) (rest : MiAt K x d → T) : T :=
  rest ⟨C, f, _, c.ob.at_, ⟨mk, a, fn, kc⟩, fun_mk lk cd k⟩
def FvAt (K : PySem.W.Frag) (mg : Str → Option Value) (x : Str) : Prop := ∃ fa, mg x = some (.ref fa) ∧ PySem.W.nsIn K mainGlobals x = some (some (.ref fa))
theorem with_fv {x : Str} {f : Addr} (X : K.In h) (G : h.Ns mainGlobals mg) (a : PySem.W.nsIn K mainGlobals x = some (some (.ref f))) (rest : FvAt K mg x → T) : T := rest ⟨f, PySem.W.mg_of X G a, a⟩
end
end Px

set_option Elab.async false
set_option linter.all false
/-! Px18: the interpreter by rewriting. -/
namespace Px.Rw
open PySem
section
variable {cl : Cl} {cs : List W} {ρ : Env} {S : Store} {t : Bool}
@[simp ↓] theorem ev_k {d : PyData} : ev cl cs (.k d) t ρ S = tst t (.ok (.p d) S) := rfl
@[simp ↓] theorem ev_v {i : Nat} : ev cl cs (.v i) t ρ S = tst t (loc ρ i S) := rfl
@[simp ↓] theorem ev_g {j : Nat} : ev cl cs (.g j) t ρ S = tst t (match cs[j]? with | some w => .ok w S | none => .stuck) := rfl
@[simp ↓] theorem ev_bin {m op a b} : ev cl cs (.bin m op a b) t ρ S = tst t ((ev cl cs a false ρ S).bind fun x S1 => (ev cl cs b false ρ S1).bind fun y S2 => binW m op x y S2) := rfl
@[simp ↓] theorem ev_not {a} : ev cl cs (.un .Not a) t ρ S = (ev cl cs a t ρ S).bind fun w S1 => (match w with | .p (.bool b) => okB (!b) S1 | _ => .stuck) := rfl
@[simp ↓] theorem ev_neg {a} : ev cl cs (.un .USub a) t ρ S = tst t ((ev cl cs a false ρ S).bind fun w S1 => (match w with | .p (.int i) => okI (-i) S1 | _ => .stuck)) := rfl
@[simp ↓] theorem ev_boo {op es} : ev cl cs (.boo op es) t ρ S = evBo cl cs op es t ρ S := rfl
@[simp ↓] theorem ev_cmp {op a b} : ev cl cs (.cmp op a b) t ρ S = (ev cl cs a false ρ S).bind fun x S1 => (ev cl cs b false ρ S1).bind fun y S2 => optB S2 (cmpW op x y S2) := rfl
@[simp ↓] theorem ev_ife {c a b} : ev cl cs (.ife c a b) t ρ S = (ev cl cs c true ρ S).bind fun w S1 => (match w with
      | .p (.bool true) => ev cl cs a t ρ S1
      | .p (.bool false) => ev cl cs b t ρ S1
      | _ => .stuck) := rfl
@[simp ↓] theorem ev_sub {a i} : ev cl cs (.sub a i) t ρ S = tst t ((ev cl cs a false ρ S).bind fun x S1 => (ev cl cs i false ρ S1).bind fun y S2 => subW x y S2) := rfl
@[simp ↓] theorem ev_call {f as} : ev cl cs (.call f as) t ρ S = tst t ((evEs cl cs as ρ S).bind fun ws S1 => cl f ws S1) := rfl
@[simp ↓] theorem ev_bi {m b as} : ev cl cs (.bi m b as) t ρ S = tst t ((evEs cl cs as ρ S).bind fun ws S1 => biW m b ws S1) := rfl
@[simp ↓] theorem ev_isi {a ts} : ev cl cs (.isi a ts) t ρ S = tst t ((ev cl cs a false ρ S).bind fun x S1 => (match view S1 x with | some d => okB (ts.any fun y => tyIs y d) S1 | none => .stuck)) := rfl
@[simp ↓] theorem evEs_nil : evEs cl cs .nil ρ S = .ok [] S := rfl
@[simp ↓] theorem evEs_cons {e r} : evEs cl cs (.cons e r) ρ S = (ev cl cs e false ρ S).bind fun w S1 => (evEs cl cs r ρ S1).bind fun ws S2 => .ok (w :: ws) S2 := rfl
@[simp] theorem tst_false {r : R W} : tst false r = r := rfl
@[simp] theorem tst_ok {d : PyData} : tst true (.ok (.p d) S) = optB S (truD d) := rfl
@[simp] theorem optB_some {b : Bool} : optB S (some b) = .ok (.p (.bool b)) S := rfl
@[simp] theorem okB_def {b : Bool} : okB b S = .ok (.p (.bool b)) S := rfl
@[simp] theorem okI_def {i : Int} : okI i S = .ok (.p (.int i)) S := rfl
@[simp] theorem okP_def {d : PyData} : okP d S = .ok (.p d) S := rfl
@[simp] theorem view_p' {d : PyData} : view S (.p d) = some d := rfl
@[simp] theorem tru_bool {b : Bool} : truD (.bool b) = some b := rfl
@[simp] theorem tru_none : truD .none = some false := rfl
@[simp] theorem tru_int {i : Int} : truD (.int i) = some (i != 0) := rfl
@[simp ↓] theorem ev_tup {es} : ev cl cs (.tup es) t ρ S = tst t ((evEs cl cs es ρ S).bind fun ws S1 => (match pureWs ws with | some ds => if ds.length ≤ sizeLine then okP (.tuple ds) S1 else .stuck | none => .stuck)) := rfl
@[simp ↓] theorem ev_lst {m es} : ev cl cs (.lst m es) t ρ S = tst t ((evEs cl cs es ρ S).bind fun ws S1 => (match pureWs ws with | some ds => if ds.length ≤ sizeLine then mkL m ds S1 else .stuck | none => .stuck)) := rfl
@[simp ↓] theorem ev_slc {m a lo hi} : ev cl cs (.slc m a lo hi) t ρ S = tst t ((ev cl cs a false ρ S).bind fun x S1 => (evOp cl cs lo ρ S1).bind fun l S2 => (evOp cl cs hi ρ S2).bind fun h S3 => slcW m x l h S3) := rfl
@[simp ↓] theorem evOp_non : evOp cl cs .non ρ S = .ok none S := rfl
@[simp ↓] theorem evOp_som {e} : evOp cl cs (.som e) ρ S = (ev cl cs e false ρ S).bind fun w S1 => (match w with | .p (.int i) => .ok (some i) S1 | _ => .stuck) := rfl
@[simp ↓] theorem exSs_nil : exSs cl cs .nil ρ S = .nx ρ S := rfl
@[simp ↓] theorem exSs_cons {s r} : exSs cl cs (.cons s r) ρ S = (exS cl cs s ρ S).andThen fun ρ' S' => exSs cl cs r ρ' S' := rfl
@[simp ↓] theorem exS_ret {e} : exS cl cs (.ret (.som e)) ρ S = (ev cl cs e false ρ S).st ρ fun w S1 => .rt w S1 := rfl
@[simp ↓] theorem exS_retN : exS cl cs (.ret .non) ρ S = .rt (.p .none) S := rfl
@[simp ↓] theorem exS_ifs {c a b} : exS cl cs (.ifs c a b) ρ S = (ev cl cs c true ρ S).st ρ fun w S1 => (match w with
      | .p (.bool true) => exSs cl cs a ρ S1
      | .p (.bool false) => exSs cl cs b ρ S1
      | _ => .stuck) := rfl
@[simp ↓] theorem exS_asgN {i e} : exS cl cs (.asg (.n i) e) ρ S = (ev cl cs e false ρ S).st ρ fun w S1 => putN ρ i w S1 := rfl
@[simp ↓] theorem exS_exp {e} : exS cl cs (.exp e) ρ S = (ev cl cs e false ρ S).st ρ fun _ S1 => .nx ρ S1 := rfl
@[simp ↓] theorem exS_par {i j a b} : exS cl cs (.par i j a b) ρ S = (ev cl cs a false ρ S).st ρ fun x S1 => (ev cl cs b false ρ S1).st ρ fun y S2 =>
      if i < ρ.length ∧ j < ρ.length ∧ i ≠ j then .nx ((ρ.set i (some x)).set j (some y)) S2 else .stuck := rfl
@[simp] theorem at_nx {f : Env → Store → RS} : (RS.nx ρ S).andThen f = f ρ S := rfl
@[simp] theorem at_rt {f : Env → Store → RS} {w : W} : (RS.rt w S).andThen f = .rt w S := rfl
@[simp] theorem finS_rt {n : Nat} {w : W} : finS n (.rt w S) = fin n w S := rfl
@[simp] theorem finS_nx {n : Nat} : finS n (.nx ρ S) = fin n (.p .none) S := rfl
@[simp ↓] theorem evBo_one {op e} : evBo cl cs op (.cons e .nil) t ρ S = ev cl cs e t ρ S := rfl
@[simp ↓] theorem evBo_and {e f r} : evBo cl cs .And (.cons e (.cons f r)) t ρ S = (ev cl cs e t ρ S).bind fun w S1 => (match w with | .p (.bool b) => if b then evBo cl cs .And (.cons f r) t ρ S1 else okB false S1 | _ => .stuck) := by
  show (ev cl cs e t ρ S).bind _ = _
  congr 1
  funext w S1
  cases w <;> try rfl
  rename_i d
  cases d <;> try rfl
  rename_i b
  cases b <;> rfl
@[simp ↓] theorem evBo_or {e f r} : evBo cl cs .Or (.cons e (.cons f r)) t ρ S = (ev cl cs e t ρ S).bind fun w S1 => (match w with | .p (.bool b) => if b then okB true S1 else evBo cl cs .Or (.cons f r) t ρ S1 | _ => .stuck) := by
  show (ev cl cs e t ρ S).bind _ = _
  congr 1
  funext w S1
  cases w <;> try rfl
  rename_i d
  cases d <;> try rfl
  rename_i b
  cases b <;> rfl

end
end Px.Rw

set_option Elab.async false
set_option linter.all false
set_option maxRecDepth 100000
/-! Px19: more rewriting rules; texts, membership, comprehensions. -/
namespace Px.Rw
open PySem
theorem str_eq {a b : String} : (Str.ofString a = Str.ofString b) = (a = b) := by
  apply propext
  constructor
  · intro h
    rw [Str.ofString_eq_toList, Str.ofString_eq_toList] at h
    have h1 := congrArg (fun s : Str => s.cps.toList) h
    simp only at h1
    have h2 : a.toList = b.toList := by
      have h3 : a.toList.map Char.toNat = b.toList.map Char.toNat := by simpa using h1
      have inj : ∀ {l m : List Char}, l.map Char.toNat = m.map Char.toNat → l = m := by
        intro l
        induction l with
        | nil => intro m h; cases m with
          | nil => rfl
          | cons _ _ => cases h
        | cons c l ih => intro m h; cases m with
          | nil => cases h
          | cons d m =>
            rw [List.map_cons, List.map_cons] at h
            injection h with h4 h5
            rw [Char.toNat_inj.mp h4, ih h5]
      exact inj h3
    exact String.toList_inj.mp h2
  · intro h; rw [h]
@[simp] theorem str_eq' {a b : String} : (Str.ofString a = Str.ofString b) = (a = b) := str_eq
@[simp] theorem str_beq {a b : String} : (Str.ofString a == Str.ofString b) = (a == b) := by
  by_cases h : a = b
  · subst h; simp
  · have h1 : ¬ Str.ofString a = Str.ofString b := fun e => h (by rw [str_eq] at e; exact e)
    rw [beq_eq_false_iff_ne.mpr h1, beq_eq_false_iff_ne.mpr h]
@[simp] theorem eqp_ii {a b : Int} : eqp (.int a) (.int b) = some (decide (a = b)) := by simp [eqp, eqn, PyData.eqv]; rfl
@[simp] theorem eqp_ss {a b : Str} : eqp (.str a) (.str b) = some (decide (a = b)) := by simp [eqp, eqn, PyData.eqv]; rfl
@[simp] theorem eqp_nn : eqp .none .none = some true := by simp [eqp, eqn, PyData.eqv]
@[simp] theorem eqp_ns {a : Str} : eqp .none (.str a) = some false := by simp [eqp, eqn, PyData.eqv]
@[simp] theorem eqp_sn {a : Str} : eqp (.str a) .none = some false := by simp [eqp, eqn, PyData.eqv]
@[simp] theorem eqp_bb {a b : Bool} : eqp (.bool a) (.bool b) = some (decide (a = b)) := by simp [eqp, eqn, PyData.eqv]; rfl
@[simp] theorem eqp_t0 {x : PyData} {xs : List PyData} : eqp (.tuple (x :: xs)) (.tuple []) = some false := by simp [eqp, eqn, eqs]
@[simp] theorem eqp_00 : eqp (.tuple []) (.tuple []) = some true := by simp [eqp, eqn, eqs]
@[simp] theorem inp_nil {x : PyData} : inp x [] = some false := by simp [inp]
theorem inp_ints (i : Int) (l : List Int) : inp (.int i) (l.map PyData.int) = some (decide (i ∈ l)) := by
  unfold inp
  have h1 : (l.map PyData.int).all (fun y => (eqp y (.int i)).isSome) = true := by simp
  rw [if_pos h1]
  congr 1
  induction l with
  | nil => simp
  | cons a l ih =>
    rw [List.map_cons, List.any_cons, ih (by simp)]
    by_cases h : a = i
    · subst h; simp
    · have h' : ¬ i = a := fun e => h e.symm
      simp [h, h']
section
variable {cl : Cl} {cs : List W} {ρ : Env} {S : Store} {t : Bool}
@[simp ↓] theorem ev_un_not {a} : ev cl cs (.un .Not a) t ρ S = (ev cl cs a t ρ S).bind fun w S1 => (match w with | .p (.bool b) => okB (!b) S1 | _ => .stuck) := rfl
@[simp ↓] theorem ev_ch {a op b op' c} : ev cl cs (.ch a op b op' c) t ρ S = (ev cl cs a false ρ S).bind fun x S1 => (ev cl cs b false ρ S1).bind fun y S2 =>
      (match cmpW op x y S2 with
      | some true => (ev cl cs c false ρ S2).bind fun z S3 => optB S3 (cmpW op' y z S3)
      | some false => okB false S2
      | none => .stuck) := rfl
@[simp ↓] theorem ev_me {m o as} : ev cl cs (.me m o as) t ρ S = tst t ((ev cl cs o false ρ S).bind fun x S1 => if meT m x S1 then (evEs cl cs as ρ S1).bind fun ws S2 => meW m x ws S2 else .stuck) := rfl
@[simp ↓] theorem ev_callK {f as kn kv mp} : ev cl cs (.callK f as kn kv mp) t ρ S = tst t ((evEs cl cs as ρ S).bind fun ws S1 => (evEs cl cs kv ρ S1).bind fun zs S2 => if ws.length = as.len ∧ zs.length = kn.length then (match pickK (ws ++ zs) mp with | some us => cl f us S2 | none => .stuck) else .stuck) := rfl
/-- a comprehension's turn -/
def lcStep (cl : Cl) (cs : List W) (elt : E) (tg : Tg) (ifs : Es) (ρ : Env) (x : PyData) (S : Store) : R (Option PyData) :=
  match asgT tg x (wipe ρ tg.own) with
  | none => .stuck
  | some ρ' => (evIfs cl cs ifs ρ' S).bind fun b S1 => if b then (ev cl cs elt false ρ' S1).bind fun w S2 => (match pureW w with | some d => .ok (some d) S2 | none => .stuck) else .ok none S1
@[simp ↓] theorem ev_lc {m elt tg it ifs} : ev cl cs (.lc m elt tg it ifs) t ρ S = tst t ((evIt cl cs it ρ S).bind fun xs S1 =>
      (lcF (lcStep cl cs elt tg ifs ρ) xs S1).bind fun ys S2 => if ys.length ≤ sizeLine then mkL m ys S2 else .stuck) := rfl
@[simp ↓] theorem lcStep_def {elt tg ifs x} : lcStep cl cs elt tg ifs ρ x S = match asgT tg x (wipe ρ tg.own) with
  | none => .stuck
  | some ρ' => (evIfs cl cs ifs ρ' S).bind fun b S1 => if b then (ev cl cs elt false ρ' S1).bind fun w S2 => (match pureW w with | some d => .ok (some d) S2 | none => .stuck) else .ok none S1 := rfl
@[simp ↓] theorem ev_frz {e} : ev cl cs (.frz e) false ρ S = (ev cl cs e false ρ S).bind fun w S1 => freezeW w S1 := rfl
@[simp ↓] theorem ev_rev {a} : ev cl cs (.rev a) t ρ S = tst t ((ev cl cs a false ρ S).bind fun x S1 => revW x S1) := rfl
@[simp ↓] theorem ev_sset {m e} : ev cl cs (.sset m e) t ρ S = tst t ((ev cl cs e false ρ S).bind fun w S1 => (match view S1 w with
      | some (.list xs) => (match intsOf xs with | some is => if is.length < 63 then mkL m ((setI is).map PyData.int) S1 else .stuck | none => .stuck)
      | _ => .stuck)) := rfl
@[simp ↓] theorem evEs_star {e r} : evEs cl cs (.star e r) ρ S = (ev cl cs e false ρ S).bind fun w S1 => (match w with
    | .p (.tuple xs) => (evEs cl cs r ρ S1).bind fun ws S2 => .ok (xs.map W.p ++ ws) S2
    | .p (.list xs) => (evEs cl cs r ρ S1).bind fun ws S2 => .ok (xs.map W.p ++ ws) S2
    | _ => .stuck) := rfl
@[simp ↓] theorem evIfs_nil : evIfs cl cs .nil ρ S = .ok true S := rfl
@[simp ↓] theorem evIfs_cons {e r} : evIfs cl cs (.cons e r) ρ S = (ev cl cs e true ρ S).bind fun w S1 => (match w with
    | .p (.bool b) => if b then evIfs cl cs r ρ S1 else .ok false S1
    | _ => .stuck) := by
  show (ev cl cs e true ρ S).bind _ = _
  congr 1
  funext w S1
  cases w <;> try rfl
  rename_i d
  cases d <;> try rfl
  rename_i b
  cases b <;> rfl
@[simp ↓] theorem evIt_e {e} : evIt cl cs (.e e) ρ S = (ev cl cs e false ρ S).bind fun w S1 => (match w with
    | .p (.tuple xs) => .ok xs S1
    | .p (.list xs) => .ok xs S1
    | .p (.str z) => .ok (z.cps.toList.map fun c => .str ⟨#[c]⟩) S1
    | _ => .stuck) := rfl
@[simp ↓] theorem evIt_r1 {a} : evIt cl cs (.r1 a) ρ S = (ev cl cs a false ρ S).bind fun w S1 => (match w with
    | .p (.int j) => if -(2 ^ 62) ≤ j ∧ j < 2 ^ 62 then .ok (rangeL 0 j.toNat) S1 else .stuck
    | _ => .stuck) := rfl
@[simp ↓] theorem evIt_r2 {a b} : evIt cl cs (.r2 a b) ρ S = (ev cl cs a false ρ S).bind fun w S1 => (ev cl cs b false ρ S1).bind fun z S2 => (match w, z with
    | .p (.int i), .p (.int j) => if -(2 ^ 62) ≤ i ∧ i < 2 ^ 62 ∧ -(2 ^ 62) ≤ j ∧ j < 2 ^ 62 then .ok (rangeL i (j - i).toNat) S2 else .stuck
    | _, _ => .stuck) := rfl
@[simp ↓] theorem evIt_zi {a b} : evIt cl cs (.zi a b) ρ S = (ev cl cs a false ρ S).bind fun w S1 => (ev cl cs b false ρ S1).bind fun z S2 => (match zipW w z with | some ds => .ok ds S2 | none => .stuck) := rfl
@[simp ↓] theorem evIt_en {a} : evIt cl cs (.en a) ρ S = (ev cl cs a false ρ S).bind fun w S1 => (match w with | .p (.list xs) => .ok (enumD 0 xs) S1 | .p (.tuple xs) => .ok (enumD 0 xs) S1 | _ => .stuck) := rfl
/-- a for's turn -/
def foStep (cl : Cl) (cs : List W) (tg : Tg) (b : Ss) (x : PyData) (ρ : Env) (S : Store) : RS := match asgT tg x ρ with | some ρ' => exSs cl cs b ρ' S | none => .stuck
@[simp ↓] theorem foStep_def {tg b x} : foStep cl cs tg b x ρ S = match asgT tg x ρ with | some ρ' => exSs cl cs b ρ' S | none => .stuck := rfl
@[simp ↓] theorem exS_fo {tg it b} : exS cl cs (.fo tg it b) ρ S = (evIt cl cs it ρ S).st ρ fun xs S1 => forL (foStep cl cs tg b) xs ρ S1 := rfl
@[simp ↓] theorem exS_mat {e ks} : exS cl cs (.mat e ks) ρ S = (ev cl cs e false ρ S).st ρ fun w S1 => (match w with
      | .p d => exCs cl cs ks d ρ S1
      | _ => .stuck) := rfl
@[simp ↓] theorem exCs_nil {d} : exCs cl cs .nil d ρ S = .nx ρ S := rfl
@[simp ↓] theorem exCs_cons {p b r d} : exCs cl cs (.cons p b r) d ρ S = (match ptM p d ρ with
    | some (some ρ') => exSs cl cs b ρ' S
    | some none => exCs cl cs r d ρ S
    | none => .stuck) := rfl
@[simp] theorem ptM_val {c d} : ptM (.val c) d ρ = (match eqp d c with | some true => some (some ρ) | some false => some none | none => none) := rfl
@[simp] theorem ptM_alt {c d} : ptM (.alt c) d ρ = (match ptD (.alt c) d with | some true => some (some ρ) | some false => some none | none => none) := rfl
@[simp] theorem ptM_any {d} : ptM .any d ρ = some (some ρ) := rfl
@[simp] theorem ptM_seq {ps st d} : ptM (.seq ps st) d ρ = seqM ps st d ρ := rfl
@[simp ↓] theorem ev_attr {x nm o} : ev cl cs (.attr x nm o) t ρ S = tst t ((ev cl cs o false ρ S).bind fun w S1 => (match attrW x nm w S1 with | some d => okP d S1 | none => .stuck)) := rfl
@[simp ↓] theorem ev_mc {f x m o as} : ev cl cs (.mc f x m o as) t ρ S = tst t ((ev cl cs o false ρ S).bind fun w S1 => if isObj x m w S1 then (evEs cl cs as ρ S1).bind fun ws S2 => cl f (w :: ws) S2 else .stuck) := rfl
@[simp ↓] theorem ev_mk {f x as} : ev cl cs (.mk f x as) t ρ S = tst t ((evEs cl cs as ρ S).bind fun ws S1 => (cl f (.ref S1.length :: ws) (S1 ++ [.obj x []])).bind fun r S2 => (match r with | .p .none => .ok (.ref S1.length) S2 | _ => .stuck)) := rfl
@[simp ↓] theorem ev_fs {es} : ev cl cs (.fs es) t ρ S = tst t (evFs cl cs es Str.empty ρ S) := rfl
@[simp ↓] theorem evFs_nil {acc} : evFs cl cs .nil acc ρ S = okP (.str acc) S := rfl
@[simp ↓] theorem evFs_cons {e r acc} : evFs cl cs (.cons e r) acc ρ S = (ev cl cs e false ρ S).bind fun w S1 => (match txtW w with
    | some y => if (acc ++ y).length ≤ sizeLine then evFs cl cs r (acc ++ y) ρ S1 else .stuck
    | none => .stuck) := rfl
@[simp ↓] theorem ev_fv {x} : ev cl cs (.fv x) t ρ S = tst t (.ok (.fn x) S) := rfl
@[simp ↓] theorem ev_cv {i f x as} : ev cl cs (.cv i f x as) t ρ S = tst t (match ρ[i]? with | some (some (.fn y)) => if y = x then (evEs cl cs as ρ S).bind fun ws S1 => cl f ws S1 else .stuck | _ => .stuck) := rfl
@[simp ↓] theorem ev_isx {i c tab} : ev cl cs (.isx i c tab) t ρ S = tst t (match ρ[i]? with | some (some (.ex k _)) => (match tab[k]? with | some b => okB b S | none => .stuck) | _ => .stuck) := rfl
@[simp ↓] theorem exS_rai0 {c} : exS cl cs (.rai c .non) ρ S = .ex ⟨c, .none⟩ ρ S := rfl
@[simp ↓] theorem exS_rai1 {c e} : exS cl cs (.rai c (.som e)) ρ S = (ev cl cs e false ρ S).st ρ fun _ S1 => .ex ⟨c, .none⟩ ρ S1 := rfl
@[simp ↓] theorem exS_sat {x nm o e} : exS cl cs (.sat x nm o e) ρ S = (ev cl cs e false ρ S).st ρ fun v S1 => (ev cl cs o false ρ S1).st ρ fun w S2 => (match v with
      | .p d => (match setA x nm w d S2 with | some S3 => .nx ρ S3 | none => .stuck)
      | _ => .stuck) := rfl
@[simp ↓] theorem exS_saug {x nm op o e} : exS cl cs (.saug x nm op o e) ρ S = (ev cl cs o false ρ S).st ρ fun w S1 => (match attrW x nm w S1 with
      | none => .stuck
      | some d => (ev cl cs e false ρ S1).st ρ fun v S2 => (augI op (.p d) v S2).st ρ fun z S3 => (match z with
        | .p y => (match setA x nm w y S3 with | some S4 => .nx ρ S4 | none => .stuck)
        | _ => .stuck)) := rfl
@[simp ↓] theorem exS_trN {b c tab h} : exS cl cs (.tr b c tab none h) ρ S = (match exSs cl cs b ρ S with
      | .ex e ρ' S' => (match tab[e.c]? with
        | some true => offS none (exSs cl cs h ρ' S')
        | some false => .ex e ρ' S'
        | none => .stuck)
      | r => r) := rfl
@[simp ↓] theorem exS_uns {i ts e} : exS cl cs (.uns i ts e) ρ S = (ev cl cs e false ρ S).st ρ fun w S1 => (match w with
    | .p (.tuple ds) => (match starD i ts.len ds with
      | some es => (match asgTs ts es ρ with | some ρ' => .nx ρ' S1 | none => .stuck)
      | none => .stuck)
    | _ => .stuck) := rfl
@[simp ↓] theorem exS_asgT {ts e} : exS cl cs (.asg (.t ts) e) ρ S = (ev cl cs e false ρ S).st ρ fun w S1 => (match w with
      | .p d => (match asgT (.t ts) d ρ with | some ρ' => .nx ρ' S1 | none => .stuck)
      | _ => .stuck) := rfl
@[simp ↓] theorem exS_asgS {o i e} : exS cl cs (.asg (.s o i) e) ρ S = (ev cl cs e false ρ S).st ρ fun w S1 =>
    (ev cl cs o false ρ S1).st ρ fun x S2 => (ev cl cs i false ρ S2).st ρ fun y S3 => (match setW x y w S3 with | some S4 => .nx ρ S4 | none => .stuck) := rfl
@[simp ↓] theorem exS_pass : exS cl cs .pass ρ S = .nx ρ S := rfl
@[simp ↓] theorem exS_brk : exS cl cs .brk ρ S = .bk ρ S := rfl
@[simp ↓] theorem exS_cont : exS cl cs .cont ρ S = .ct ρ S := rfl
@[simp ↓] theorem exS_aug {i op e} : exS cl cs (.aug i op e) ρ S = (loc ρ i S).st ρ fun x S1 => (ev cl cs e false ρ S1).st ρ fun y S2 => (augI op x y S2).st ρ fun z S3 => putN ρ i z S3 := rfl
@[simp ↓] theorem exS_frz {i} : exS cl cs (.frz i) ρ S = (match ρ[i]? with
    | some (some (.ref a)) => (match S[a]? with
      | some (.lst xs) => .nx (ρ.set i (some (.p (.list xs)))) (S.set a .gone)
      | _ => .stuck)
    | _ => .stuck) := rfl
@[simp ↓] theorem exS_wh {n c b} : exS cl cs (.wh n c b) ρ S = whF (fun ρ S => ev cl cs c true ρ S) (fun ρ S => exSs cl cs b ρ S) n ρ S := rfl
@[simp] theorem at_bk {f : Env → Store → RS} : (RS.bk ρ S).andThen f = .bk ρ S := rfl
@[simp] theorem at_ct {f : Env → Store → RS} : (RS.ct ρ S).andThen f = .ct ρ S := rfl
@[simp] theorem at_ex {f : Env → Store → RS} {e : EV} : (RS.ex e ρ S).andThen f = .ex e ρ S := rfl
theorem lcF_map {step : PyData → Store → R (Option PyData)} {g : PyData → Option PyData} : ∀ {xs : List PyData} {S : Store}, (∀ x ∈ xs, step x S = .ok (g x) S) → lcF step xs S = .ok (xs.filterMap g) S
  | [], _, _ => rfl
  | x :: xs, S, h => by
    have ih := lcF_map (fun y hy => h y (List.mem_cons_of_mem _ hy))
    rw [lcF, h x (List.mem_cons_self ..)]
    simp only [ih]
    cases hg : g x with
    | none => rw [List.filterMap_cons_none hg]
    | some y => rw [List.filterMap_cons_some hg]
theorem lcF_map' {α : Type} {step : PyData → Store → R (Option PyData)} {f g : α → PyData} : ∀ {xs : List α} {S : Store}, (∀ x ∈ xs, step (f x) S = .ok (some (g x)) S) → lcF step (xs.map f) S = .ok (xs.map g) S
  | [], _, _ => rfl
  | x :: xs, S, h => by
    have ih := lcF_map' (fun y hy => h y (List.mem_cons_of_mem _ hy))
    rw [List.map_cons, lcF, h x (List.mem_cons_self ..)]
    simp only [ih, List.map_cons]
theorem pureWs_p (l : List PyData) : pureWs (l.map W.p) = some l := by
  induction l with
  | nil => rfl
  | cons a l ih => simp [pureWs, pureW, ih]
theorem pureWs_app (l : List PyData) (ws : List W) : pureWs (l.map W.p ++ ws) = (pureWs ws).map (l ++ ·) := by
  induction l with
  | nil => cases h : pureWs ws <;> simp [h]
  | cons a l ih => rw [List.map_cons, List.cons_append, pureWs]; simp only [pureW, ih]; cases h : pureWs ws <;> simp
end
end Px.Rw

set_option Elab.async false
set_option linter.all false
set_option maxRecDepth 100000
/-! Px20: the interpreter's operations at the shapes that occur. -/
namespace Px.Rw
open PySem
section
variable {cl : Cl} {cs : List W} {S : Store} {m : Bool}
@[simp] theorem loc0 {w : W} {l : Env} : loc (some w :: l) 0 S = .ok w S := rfl
@[simp] theorem putN0 {x : Option W} {w : W} {l : Env} : putN (x :: l) 0 w S = .nx (some w :: l) S := by unfold putN; rw [if_pos (by simp only [List.length_cons]; omega)]; rfl
theorem set0 {x y : Option W} {l : Env} : List.set (x :: l) 0 y = y :: l := rfl
@[simp] theorem loc1 {a0 : Option W} {w : W} {l : Env} : loc (a0 :: some w :: l) 1 S = .ok w S := rfl
@[simp] theorem putN1 {a0 : Option W} {x : Option W} {w : W} {l : Env} : putN (a0 :: x :: l) 1 w S = .nx (a0 :: some w :: l) S := by unfold putN; rw [if_pos (by simp only [List.length_cons]; omega)]; rfl
theorem set1 {a0 : Option W} {x y : Option W} {l : Env} : List.set (a0 :: x :: l) 1 y = a0 :: y :: l := rfl
@[simp] theorem loc2 {a0 a1 : Option W} {w : W} {l : Env} : loc (a0 :: a1 :: some w :: l) 2 S = .ok w S := rfl
@[simp] theorem putN2 {a0 a1 : Option W} {x : Option W} {w : W} {l : Env} : putN (a0 :: a1 :: x :: l) 2 w S = .nx (a0 :: a1 :: some w :: l) S := by unfold putN; rw [if_pos (by simp only [List.length_cons]; omega)]; rfl
theorem set2 {a0 a1 : Option W} {x y : Option W} {l : Env} : List.set (a0 :: a1 :: x :: l) 2 y = a0 :: a1 :: y :: l := rfl
@[simp] theorem loc3 {a0 a1 a2 : Option W} {w : W} {l : Env} : loc (a0 :: a1 :: a2 :: some w :: l) 3 S = .ok w S := rfl
@[simp] theorem putN3 {a0 a1 a2 : Option W} {x : Option W} {w : W} {l : Env} : putN (a0 :: a1 :: a2 :: x :: l) 3 w S = .nx (a0 :: a1 :: a2 :: some w :: l) S := by unfold putN; rw [if_pos (by simp only [List.length_cons]; omega)]; rfl
theorem set3 {a0 a1 a2 : Option W} {x y : Option W} {l : Env} : List.set (a0 :: a1 :: a2 :: x :: l) 3 y = a0 :: a1 :: a2 :: y :: l := rfl
@[simp] theorem loc4 {a0 a1 a2 a3 : Option W} {w : W} {l : Env} : loc (a0 :: a1 :: a2 :: a3 :: some w :: l) 4 S = .ok w S := rfl
@[simp] theorem putN4 {a0 a1 a2 a3 : Option W} {x : Option W} {w : W} {l : Env} : putN (a0 :: a1 :: a2 :: a3 :: x :: l) 4 w S = .nx (a0 :: a1 :: a2 :: a3 :: some w :: l) S := by unfold putN; rw [if_pos (by simp only [List.length_cons]; omega)]; rfl
theorem set4 {a0 a1 a2 a3 : Option W} {x y : Option W} {l : Env} : List.set (a0 :: a1 :: a2 :: a3 :: x :: l) 4 y = a0 :: a1 :: a2 :: a3 :: y :: l := rfl
@[simp] theorem loc5 {a0 a1 a2 a3 a4 : Option W} {w : W} {l : Env} : loc (a0 :: a1 :: a2 :: a3 :: a4 :: some w :: l) 5 S = .ok w S := rfl
@[simp] theorem putN5 {a0 a1 a2 a3 a4 : Option W} {x : Option W} {w : W} {l : Env} : putN (a0 :: a1 :: a2 :: a3 :: a4 :: x :: l) 5 w S = .nx (a0 :: a1 :: a2 :: a3 :: a4 :: some w :: l) S := by unfold putN; rw [if_pos (by simp only [List.length_cons]; omega)]; rfl
theorem set5 {a0 a1 a2 a3 a4 : Option W} {x y : Option W} {l : Env} : List.set (a0 :: a1 :: a2 :: a3 :: a4 :: x :: l) 5 y = a0 :: a1 :: a2 :: a3 :: a4 :: y :: l := rfl
@[simp] theorem loc6 {a0 a1 a2 a3 a4 a5 : Option W} {w : W} {l : Env} : loc (a0 :: a1 :: a2 :: a3 :: a4 :: a5 :: some w :: l) 6 S = .ok w S := rfl
@[simp] theorem putN6 {a0 a1 a2 a3 a4 a5 : Option W} {x : Option W} {w : W} {l : Env} : putN (a0 :: a1 :: a2 :: a3 :: a4 :: a5 :: x :: l) 6 w S = .nx (a0 :: a1 :: a2 :: a3 :: a4 :: a5 :: some w :: l) S := by unfold putN; rw [if_pos (by simp only [List.length_cons]; omega)]; rfl
theorem set6 {a0 a1 a2 a3 a4 a5 : Option W} {x y : Option W} {l : Env} : List.set (a0 :: a1 :: a2 :: a3 :: a4 :: a5 :: x :: l) 6 y = a0 :: a1 :: a2 :: a3 :: a4 :: a5 :: y :: l := rfl
@[simp] theorem loc7 {a0 a1 a2 a3 a4 a5 a6 : Option W} {w : W} {l : Env} : loc (a0 :: a1 :: a2 :: a3 :: a4 :: a5 :: a6 :: some w :: l) 7 S = .ok w S := rfl
@[simp] theorem putN7 {a0 a1 a2 a3 a4 a5 a6 : Option W} {x : Option W} {w : W} {l : Env} : putN (a0 :: a1 :: a2 :: a3 :: a4 :: a5 :: a6 :: x :: l) 7 w S = .nx (a0 :: a1 :: a2 :: a3 :: a4 :: a5 :: a6 :: some w :: l) S := by unfold putN; rw [if_pos (by simp only [List.length_cons]; omega)]; rfl
theorem set7 {a0 a1 a2 a3 a4 a5 a6 : Option W} {x y : Option W} {l : Env} : List.set (a0 :: a1 :: a2 :: a3 :: a4 :: a5 :: a6 :: x :: l) 7 y = a0 :: a1 :: a2 :: a3 :: a4 :: a5 :: a6 :: y :: l := rfl
@[simp] theorem loc8 {a0 a1 a2 a3 a4 a5 a6 a7 : Option W} {w : W} {l : Env} : loc (a0 :: a1 :: a2 :: a3 :: a4 :: a5 :: a6 :: a7 :: some w :: l) 8 S = .ok w S := rfl
@[simp] theorem putN8 {a0 a1 a2 a3 a4 a5 a6 a7 : Option W} {x : Option W} {w : W} {l : Env} : putN (a0 :: a1 :: a2 :: a3 :: a4 :: a5 :: a6 :: a7 :: x :: l) 8 w S = .nx (a0 :: a1 :: a2 :: a3 :: a4 :: a5 :: a6 :: a7 :: some w :: l) S := by unfold putN; rw [if_pos (by simp only [List.length_cons]; omega)]; rfl
theorem set8 {a0 a1 a2 a3 a4 a5 a6 a7 : Option W} {x y : Option W} {l : Env} : List.set (a0 :: a1 :: a2 :: a3 :: a4 :: a5 :: a6 :: a7 :: x :: l) 8 y = a0 :: a1 :: a2 :: a3 :: a4 :: a5 :: a6 :: a7 :: y :: l := rfl
@[simp] theorem loc9 {a0 a1 a2 a3 a4 a5 a6 a7 a8 : Option W} {w : W} {l : Env} : loc (a0 :: a1 :: a2 :: a3 :: a4 :: a5 :: a6 :: a7 :: a8 :: some w :: l) 9 S = .ok w S := rfl
@[simp] theorem putN9 {a0 a1 a2 a3 a4 a5 a6 a7 a8 : Option W} {x : Option W} {w : W} {l : Env} : putN (a0 :: a1 :: a2 :: a3 :: a4 :: a5 :: a6 :: a7 :: a8 :: x :: l) 9 w S = .nx (a0 :: a1 :: a2 :: a3 :: a4 :: a5 :: a6 :: a7 :: a8 :: some w :: l) S := by unfold putN; rw [if_pos (by simp only [List.length_cons]; omega)]; rfl
theorem set9 {a0 a1 a2 a3 a4 a5 a6 a7 a8 : Option W} {x y : Option W} {l : Env} : List.set (a0 :: a1 :: a2 :: a3 :: a4 :: a5 :: a6 :: a7 :: a8 :: x :: l) 9 y = a0 :: a1 :: a2 :: a3 :: a4 :: a5 :: a6 :: a7 :: a8 :: y :: l := rfl
@[simp] theorem loc10 {a0 a1 a2 a3 a4 a5 a6 a7 a8 a9 : Option W} {w : W} {l : Env} : loc (a0 :: a1 :: a2 :: a3 :: a4 :: a5 :: a6 :: a7 :: a8 :: a9 :: some w :: l) 10 S = .ok w S := rfl
@[simp] theorem putN10 {a0 a1 a2 a3 a4 a5 a6 a7 a8 a9 : Option W} {x : Option W} {w : W} {l : Env} : putN (a0 :: a1 :: a2 :: a3 :: a4 :: a5 :: a6 :: a7 :: a8 :: a9 :: x :: l) 10 w S = .nx (a0 :: a1 :: a2 :: a3 :: a4 :: a5 :: a6 :: a7 :: a8 :: a9 :: some w :: l) S := by unfold putN; rw [if_pos (by simp only [List.length_cons]; omega)]; rfl
theorem set10 {a0 a1 a2 a3 a4 a5 a6 a7 a8 a9 : Option W} {x y : Option W} {l : Env} : List.set (a0 :: a1 :: a2 :: a3 :: a4 :: a5 :: a6 :: a7 :: a8 :: a9 :: x :: l) 10 y = a0 :: a1 :: a2 :: a3 :: a4 :: a5 :: a6 :: a7 :: a8 :: a9 :: y :: l := rfl
@[simp] theorem loc11 {a0 a1 a2 a3 a4 a5 a6 a7 a8 a9 a10 : Option W} {w : W} {l : Env} : loc (a0 :: a1 :: a2 :: a3 :: a4 :: a5 :: a6 :: a7 :: a8 :: a9 :: a10 :: some w :: l) 11 S = .ok w S := rfl
@[simp] theorem putN11 {a0 a1 a2 a3 a4 a5 a6 a7 a8 a9 a10 : Option W} {x : Option W} {w : W} {l : Env} : putN (a0 :: a1 :: a2 :: a3 :: a4 :: a5 :: a6 :: a7 :: a8 :: a9 :: a10 :: x :: l) 11 w S = .nx (a0 :: a1 :: a2 :: a3 :: a4 :: a5 :: a6 :: a7 :: a8 :: a9 :: a10 :: some w :: l) S := by unfold putN; rw [if_pos (by simp only [List.length_cons]; omega)]; rfl
theorem set11 {a0 a1 a2 a3 a4 a5 a6 a7 a8 a9 a10 : Option W} {x y : Option W} {l : Env} : List.set (a0 :: a1 :: a2 :: a3 :: a4 :: a5 :: a6 :: a7 :: a8 :: a9 :: a10 :: x :: l) 11 y = a0 :: a1 :: a2 :: a3 :: a4 :: a5 :: a6 :: a7 :: a8 :: a9 :: a10 :: y :: l := rfl
@[simp] theorem loc12 {a0 a1 a2 a3 a4 a5 a6 a7 a8 a9 a10 a11 : Option W} {w : W} {l : Env} : loc (a0 :: a1 :: a2 :: a3 :: a4 :: a5 :: a6 :: a7 :: a8 :: a9 :: a10 :: a11 :: some w :: l) 12 S = .ok w S := rfl
@[simp] theorem putN12 {a0 a1 a2 a3 a4 a5 a6 a7 a8 a9 a10 a11 : Option W} {x : Option W} {w : W} {l : Env} : putN (a0 :: a1 :: a2 :: a3 :: a4 :: a5 :: a6 :: a7 :: a8 :: a9 :: a10 :: a11 :: x :: l) 12 w S = .nx (a0 :: a1 :: a2 :: a3 :: a4 :: a5 :: a6 :: a7 :: a8 :: a9 :: a10 :: a11 :: some w :: l) S := by unfold putN; rw [if_pos (by simp only [List.length_cons]; omega)]; rfl
theorem set12 {a0 a1 a2 a3 a4 a5 a6 a7 a8 a9 a10 a11 : Option W} {x y : Option W} {l : Env} : List.set (a0 :: a1 :: a2 :: a3 :: a4 :: a5 :: a6 :: a7 :: a8 :: a9 :: a10 :: a11 :: x :: l) 12 y = a0 :: a1 :: a2 :: a3 :: a4 :: a5 :: a6 :: a7 :: a8 :: a9 :: a10 :: a11 :: y :: l := rfl
@[simp] theorem loc13 {a0 a1 a2 a3 a4 a5 a6 a7 a8 a9 a10 a11 a12 : Option W} {w : W} {l : Env} : loc (a0 :: a1 :: a2 :: a3 :: a4 :: a5 :: a6 :: a7 :: a8 :: a9 :: a10 :: a11 :: a12 :: some w :: l) 13 S = .ok w S := rfl
@[simp] theorem putN13 {a0 a1 a2 a3 a4 a5 a6 a7 a8 a9 a10 a11 a12 : Option W} {x : Option W} {w : W} {l : Env} : putN (a0 :: a1 :: a2 :: a3 :: a4 :: a5 :: a6 :: a7 :: a8 :: a9 :: a10 :: a11 :: a12 :: x :: l) 13 w S = .nx (a0 :: a1 :: a2 :: a3 :: a4 :: a5 :: a6 :: a7 :: a8 :: a9 :: a10 :: a11 :: a12 :: some w :: l) S := by unfold putN; rw [if_pos (by simp only [List.length_cons]; omega)]; rfl
theorem set13 {a0 a1 a2 a3 a4 a5 a6 a7 a8 a9 a10 a11 a12 : Option W} {x y : Option W} {l : Env} : List.set (a0 :: a1 :: a2 :: a3 :: a4 :: a5 :: a6 :: a7 :: a8 :: a9 :: a10 :: a11 :: a12 :: x :: l) 13 y = a0 :: a1 :: a2 :: a3 :: a4 :: a5 :: a6 :: a7 :: a8 :: a9 :: a10 :: a11 :: a12 :: y :: l := rfl
@[simp] theorem atI0 {α : Type} {w : α} {l : List α} : L2.atI (w :: l) 0 = some w := by simp only [L2.atI, L2.ixN, List.length_cons]; rw [if_pos (by omega), if_pos (by omega)]; rfl
@[simp] theorem ixN0 {α : Type} {w : α} {l : List α} : L2.ixN (w :: l).length 0 = some 0 := by simp only [L2.ixN, List.length_cons]; rw [if_pos (by omega), if_pos (by omega)]; rfl
@[simp] theorem atI1 {α : Type} {a0 : α} {w : α} {l : List α} : L2.atI (a0 :: w :: l) 1 = some w := by simp only [L2.atI, L2.ixN, List.length_cons]; rw [if_pos (by omega), if_pos (by omega)]; rfl
@[simp] theorem ixN1 {α : Type} {a0 : α} {w : α} {l : List α} : L2.ixN (a0 :: w :: l).length 1 = some 1 := by simp only [L2.ixN, List.length_cons]; rw [if_pos (by omega), if_pos (by omega)]; rfl
@[simp] theorem atI2 {α : Type} {a0 a1 : α} {w : α} {l : List α} : L2.atI (a0 :: a1 :: w :: l) 2 = some w := by simp only [L2.atI, L2.ixN, List.length_cons]; rw [if_pos (by omega), if_pos (by omega)]; rfl
@[simp] theorem ixN2 {α : Type} {a0 a1 : α} {w : α} {l : List α} : L2.ixN (a0 :: a1 :: w :: l).length 2 = some 2 := by simp only [L2.ixN, List.length_cons]; rw [if_pos (by omega), if_pos (by omega)]; rfl
@[simp] theorem atI3 {α : Type} {a0 a1 a2 : α} {w : α} {l : List α} : L2.atI (a0 :: a1 :: a2 :: w :: l) 3 = some w := by simp only [L2.atI, L2.ixN, List.length_cons]; rw [if_pos (by omega), if_pos (by omega)]; rfl
@[simp] theorem ixN3 {α : Type} {a0 a1 a2 : α} {w : α} {l : List α} : L2.ixN (a0 :: a1 :: a2 :: w :: l).length 3 = some 3 := by simp only [L2.ixN, List.length_cons]; rw [if_pos (by omega), if_pos (by omega)]; rfl
@[simp] theorem atI4 {α : Type} {a0 a1 a2 a3 : α} {w : α} {l : List α} : L2.atI (a0 :: a1 :: a2 :: a3 :: w :: l) 4 = some w := by simp only [L2.atI, L2.ixN, List.length_cons]; rw [if_pos (by omega), if_pos (by omega)]; rfl
@[simp] theorem ixN4 {α : Type} {a0 a1 a2 a3 : α} {w : α} {l : List α} : L2.ixN (a0 :: a1 :: a2 :: a3 :: w :: l).length 4 = some 4 := by simp only [L2.ixN, List.length_cons]; rw [if_pos (by omega), if_pos (by omega)]; rfl
@[simp] theorem atI5 {α : Type} {a0 a1 a2 a3 a4 : α} {w : α} {l : List α} : L2.atI (a0 :: a1 :: a2 :: a3 :: a4 :: w :: l) 5 = some w := by simp only [L2.atI, L2.ixN, List.length_cons]; rw [if_pos (by omega), if_pos (by omega)]; rfl
@[simp] theorem ixN5 {α : Type} {a0 a1 a2 a3 a4 : α} {w : α} {l : List α} : L2.ixN (a0 :: a1 :: a2 :: a3 :: a4 :: w :: l).length 5 = some 5 := by simp only [L2.ixN, List.length_cons]; rw [if_pos (by omega), if_pos (by omega)]; rfl
@[simp] theorem ty_int_none : tyIs .int .none = false := rfl
@[simp] theorem ty_int_bool {b : Bool} : tyIs .int (.bool b) = true := rfl
@[simp] theorem ty_int_int {i : Int} : tyIs .int (.int i) = true := rfl
@[simp] theorem ty_int_str {s : Str} : tyIs .int (.str s) = false := rfl
@[simp] theorem ty_int_list {xs : List PyData} : tyIs .int (.list xs) = false := rfl
@[simp] theorem ty_int_tuple {xs : List PyData} : tyIs .int (.tuple xs) = false := rfl
@[simp] theorem ty_int_dict {ks : List (PyData × PyData)} : tyIs .int (.dict ks) = false := rfl
@[simp] theorem ty_bool_none : tyIs .bool .none = false := rfl
@[simp] theorem ty_bool_bool {b : Bool} : tyIs .bool (.bool b) = true := rfl
@[simp] theorem ty_bool_int {i : Int} : tyIs .bool (.int i) = false := rfl
@[simp] theorem ty_bool_str {s : Str} : tyIs .bool (.str s) = false := rfl
@[simp] theorem ty_bool_list {xs : List PyData} : tyIs .bool (.list xs) = false := rfl
@[simp] theorem ty_bool_tuple {xs : List PyData} : tyIs .bool (.tuple xs) = false := rfl
@[simp] theorem ty_bool_dict {ks : List (PyData × PyData)} : tyIs .bool (.dict ks) = false := rfl
@[simp] theorem ty_str_none : tyIs .str .none = false := rfl
@[simp] theorem ty_str_bool {b : Bool} : tyIs .str (.bool b) = false := rfl
@[simp] theorem ty_str_int {i : Int} : tyIs .str (.int i) = false := rfl
@[simp] theorem ty_str_str {s : Str} : tyIs .str (.str s) = true := rfl
@[simp] theorem ty_str_list {xs : List PyData} : tyIs .str (.list xs) = false := rfl
@[simp] theorem ty_str_tuple {xs : List PyData} : tyIs .str (.tuple xs) = false := rfl
@[simp] theorem ty_str_dict {ks : List (PyData × PyData)} : tyIs .str (.dict ks) = false := rfl
@[simp] theorem ty_tuple_none : tyIs .tuple .none = false := rfl
@[simp] theorem ty_tuple_bool {b : Bool} : tyIs .tuple (.bool b) = false := rfl
@[simp] theorem ty_tuple_int {i : Int} : tyIs .tuple (.int i) = false := rfl
@[simp] theorem ty_tuple_str {s : Str} : tyIs .tuple (.str s) = false := rfl
@[simp] theorem ty_tuple_list {xs : List PyData} : tyIs .tuple (.list xs) = false := rfl
@[simp] theorem ty_tuple_tuple {xs : List PyData} : tyIs .tuple (.tuple xs) = true := rfl
@[simp] theorem ty_tuple_dict {ks : List (PyData × PyData)} : tyIs .tuple (.dict ks) = false := rfl
@[simp] theorem ty_list_none : tyIs .list .none = false := rfl
@[simp] theorem ty_list_bool {b : Bool} : tyIs .list (.bool b) = false := rfl
@[simp] theorem ty_list_int {i : Int} : tyIs .list (.int i) = false := rfl
@[simp] theorem ty_list_str {s : Str} : tyIs .list (.str s) = false := rfl
@[simp] theorem ty_list_list {xs : List PyData} : tyIs .list (.list xs) = true := rfl
@[simp] theorem ty_list_tuple {xs : List PyData} : tyIs .list (.tuple xs) = false := rfl
@[simp] theorem ty_list_dict {ks : List (PyData × PyData)} : tyIs .list (.dict ks) = false := rfl
@[simp] theorem ty_dict_none : tyIs .dict .none = false := rfl
@[simp] theorem ty_dict_bool {b : Bool} : tyIs .dict (.bool b) = false := rfl
@[simp] theorem ty_dict_int {i : Int} : tyIs .dict (.int i) = false := rfl
@[simp] theorem ty_dict_str {s : Str} : tyIs .dict (.str s) = false := rfl
@[simp] theorem ty_dict_list {xs : List PyData} : tyIs .dict (.list xs) = false := rfl
@[simp] theorem ty_dict_tuple {xs : List PyData} : tyIs .dict (.tuple xs) = false := rfl
@[simp] theorem ty_dict_dict {ks : List (PyData × PyData)} : tyIs .dict (.dict ks) = true := rfl
@[simp] theorem start_def {F : Fn} {ws : List W} : Px.start F ws = ws.map some ++ List.replicate (F.n - ws.length) none := rfl
@[simp] theorem subW_t {xs : List PyData} {k : Int} : subW (.p (.tuple xs)) (.p (.int k)) S = match L2.atI xs k with | some d => .ok (.p d) S | none => .stuck := rfl
@[simp] theorem subW_l {xs : List PyData} {k : Int} : subW (.p (.list xs)) (.p (.int k)) S = match L2.atI xs k with | some d => .ok (.p d) S | none => .stuck := rfl
@[simp] theorem subW_kt {xs : List PyData} {k : Int} : subW (.kt xs) (.p (.int k)) S = match L2.atI xs k with | some d => .ok (.p d) S | none => .stuck := rfl
@[simp] theorem subW_kd {kvs : List (Str × PyData)} {a : Str} : subW (.kd kvs) (.p (.str a)) S = match kvs.lookup a with | some d => .ok (.p d) S | none => .stuck := rfl
theorem subW_ref {i : Nat} {xs : List PyData} {k : Int} (h : S[i]? = some (.lst xs)) : subW (.ref i) (.p (.int k)) S = match L2.atI xs k with | some d => .ok (.p d) S | none => .stuck := by
  simp only [subW, view, h]; rfl
@[simp] theorem cmpW_eq {a b : PyData} : cmpW .Eq (.p a) (.p b) S = eqp a b := rfl
@[simp] theorem cmpW_ne {a b : PyData} : cmpW .NotEq (.p a) (.p b) S = (eqp a b).map (!·) := rfl
@[simp] theorem cmpW_lt {a b : Int} : cmpW .Lt (.p (.int a)) (.p (.int b)) S = some (decide (a < b)) := rfl
@[simp] theorem cmpW_le {a b : Int} : cmpW .LtE (.p (.int a)) (.p (.int b)) S = some (decide (a ≤ b)) := rfl
@[simp] theorem cmpW_gt {a b : Int} : cmpW .Gt (.p (.int a)) (.p (.int b)) S = some (decide (b < a)) := rfl
@[simp] theorem cmpW_ge {a b : Int} : cmpW .GtE (.p (.int a)) (.p (.int b)) S = some (decide (b ≤ a)) := rfl
@[simp] theorem cmpW_isn {a : PyData} : cmpW .Is (.p a) (.p .none) S = some (isNon a) := rfl
@[simp] theorem cmpW_isnn {a : PyData} : cmpW .IsNot (.p a) (.p .none) S = some (!isNon a) := rfl
@[simp] theorem cmpW_isb {a : PyData} {b : Bool} : cmpW .Is (.p a) (.p (.bool b)) S = some (isBl b a) := rfl
@[simp] theorem cmpW_isnb {a : PyData} {b : Bool} : cmpW .IsNot (.p a) (.p (.bool b)) S = some (!isBl b a) := rfl
@[simp] theorem cmpW_int {a : PyData} {xs : List PyData} : cmpW .In (.p a) (.p (.tuple xs)) S = inp a xs := rfl
@[simp] theorem cmpW_inl {a : PyData} {xs : List PyData} : cmpW .In (.p a) (.p (.list xs)) S = inp a xs := rfl
@[simp] theorem cmpW_nint {a : PyData} {xs : List PyData} : cmpW .NotIn (.p a) (.p (.tuple xs)) S = (inp a xs).map (!·) := rfl
@[simp] theorem cmpW_ninl {a : PyData} {xs : List PyData} : cmpW .NotIn (.p a) (.p (.list xs)) S = (inp a xs).map (!·) := rfl
@[simp] theorem cmpW_inkd {a : Str} {kvs : List (Str × PyData)} : cmpW .In (.p (.str a)) (.kd kvs) S = some (kvs.lookup a).isSome := rfl
@[simp] theorem cmpW_ninkd {a : Str} {kvs : List (Str × PyData)} : cmpW .NotIn (.p (.str a)) (.kd kvs) S = some !(kvs.lookup a).isSome := rfl
@[simp] theorem isNon_n : isNon .none = true := rfl
@[simp] theorem isNon_b {b : Bool} : isNon (.bool b) = false := rfl
@[simp] theorem isNon_i {b : Int} : isNon (.int b) = false := rfl
@[simp] theorem isNon_s {b : Str} : isNon (.str b) = false := rfl
@[simp] theorem isNon_t {b : List PyData} : isNon (.tuple b) = false := rfl
@[simp] theorem isNon_l {b : List PyData} : isNon (.list b) = false := rfl
@[simp] theorem isNon_d {b : List (PyData × PyData)} : isNon (.dict b) = false := rfl
@[simp] theorem isBl_b {a b : Bool} : isBl a (.bool b) = (b == a) := rfl
@[simp] theorem lookup_nil' {a : Str} : List.lookup a ([] : List (Str × PyData)) = none := rfl
@[simp] theorem lookup_cons' {a k : String} {v : PyData} {l : List (Str × PyData)} : List.lookup (Str.ofString a) ((Str.ofString k, v) :: l) = if a == k then some v else List.lookup (Str.ofString a) l := by
  rw [List.lookup_cons, str_beq]; cases (a == k) <;> rfl
theorem inp_cons' {x y : PyData} {ys : List PyData} : inp x (y :: ys) = (eqp y x).bind fun b => (inp x ys).map (b || ·) := by
  unfold inp
  cases h : eqp y x with
  | none => simp [h]
  | some b =>
    by_cases h2 : (ys.all fun y => (eqp y x).isSome) = true
    · rw [if_pos (by simp only [List.all_cons, h, h2]; rfl), if_pos h2]
      cases b <;> simp [h]
    · rw [if_neg (by simp only [List.all_cons, h]; simpa using h2), if_neg h2]; rfl
@[simp] theorem inp_c1 {x : PyData} {y : Str} {ys : List PyData} : inp x (.str y :: ys) = (eqp (.str y) x).bind fun b => (inp x ys).map (b || ·) := inp_cons'
@[simp] theorem inp_c2 {x : PyData} {ys : List PyData} : inp x (.none :: ys) = (eqp .none x).bind fun b => (inp x ys).map (b || ·) := inp_cons'
@[simp] theorem inp_c3 {x : PyData} {n : Int} {ys : List PyData} : inp x (.int n :: ys) = (eqp (.int n) x).bind fun b => (inp x ys).map (b || ·) := inp_cons'
@[simp] theorem pt_val {d x : PyData} : ptD (.val d) x = eqp x d := rfl
@[simp] theorem pt_any {x : PyData} : ptD .any x = some true := rfl
@[simp] theorem pt_nil {x : PyData} : ptD (.alt []) x = some false := rfl
theorem ptD_alt {ds : List PyData} {x : PyData} : ptD (.alt ds) x = if ds.all (fun d => (eqp x d).isSome) then some (ds.any fun d => eqp x d == some true) else none := rfl
@[simp] theorem pt_cons {d x : PyData} {ds : List PyData} : ptD (.alt (d :: ds)) x = (eqp x d).bind fun b => (ptD (.alt ds) x).map (b || ·) := by
  rw [ptD_alt, ptD_alt]
  cases h : eqp x d with
  | none => simp [h]
  | some b =>
    by_cases h2 : (ds.all fun d => (eqp x d).isSome) = true
    · rw [if_pos (by simp only [List.all_cons, h, h2]; rfl), if_pos h2]
      cases b <;> simp [h]
    · rw [if_neg (by simp only [List.all_cons, h]; simpa using h2), if_neg h2]; rfl
@[simp] theorem pure_nil : pureWs [] = some [] := rfl
@[simp] theorem pure_cons {d : PyData} {r : List W} : pureWs (.p d :: r) = (pureWs r).map (d :: ·) := rfl
@[simp] theorem pure_p {d : PyData} : pureW (.p d) = some d := rfl
@[simp] theorem size_le {n : Nat} (h : n ≤ 1000) : n ≤ sizeLine := Nat.le_trans h (by decide)
@[simp] theorem views_nil : views S [] = some [] := rfl
@[simp] theorem bi_len_t {xs : List PyData} : biW m .len [.p (.tuple xs)] S = .ok (.p (.int xs.length)) S := rfl
@[simp] theorem bi_len_l {xs : List PyData} : biW m .len [.p (.list xs)] S = .ok (.p (.int xs.length)) S := rfl
@[simp] theorem bi_len_s {x : Str} : biW m .len [.p (.str x)] S = .ok (.p (.int x.length)) S := rfl
@[simp] theorem bi_len_kl {xs : List Int} : biW m .len [.kl xs] S = .ok (.p (.int xs.length)) S := rfl
@[simp] theorem bi_max2 {i j : Int} : biW m .max [.p (.int i), .p (.int j)] S = .ok (.p (.int (max i j))) S := by
  show R.ok (W.p (.int (if j > i then j else i))) S = _
  congr 3; split <;> omega
@[simp] theorem bi_min2 {i j : Int} : biW m .min [.p (.int i), .p (.int j)] S = .ok (.p (.int (min i j))) S := by
  show R.ok (W.p (.int (if j < i then j else i))) S = _
  congr 3; split <;> omega
@[simp] theorem bi_abs {i : Int} : biW m .abs [.p (.int i)] S = .ok (.p (.int i.natAbs)) S := by
  show R.ok (W.p (.int (if i < 0 then -i else i))) S = _
  congr 3; split <;> omega
@[simp] theorem bi_int_i {i : Int} : biW m .int [.p (.int i)] S = .ok (.p (.int i)) S := rfl
@[simp] theorem bi_int_b {b : Bool} : biW m .int [.p (.bool b)] S = .ok (.p (.int (if b then 1 else 0))) S := rfl
@[simp] theorem bi_str {d : PyData} : biW m .str [.p d] S = (match strD d with | some x => .ok (.p (.str x)) S | none => .stuck) := rfl
@[simp] theorem bi_sum {xs : List PyData} : biW m .sum [.p (.list xs)] S = (match intsOf xs with | some is => .ok (.p (.int is.sum)) S | none => .stuck) := rfl
@[simp] theorem bi_all {xs : List PyData} : biW m .all [.p (.list xs)] S = (match boolsOf xs with | some is => .ok (.p (.bool (is.all id))) S | none => .stuck) := rfl
@[simp] theorem bi_any {xs : List PyData} : biW m .any [.p (.list xs)] S = (match boolsOf xs with | some is => .ok (.p (.bool (is.any id))) S | none => .stuck) := rfl
@[simp] theorem bi_maxl {xs : List PyData} : biW m .max [.p (.list xs)] S = (match intsOf xs with | some is => (match maxL is with | some i => .ok (.p (.int i)) S | none => .stuck) | none => .stuck) := rfl
@[simp] theorem bi_minl {xs : List PyData} : biW m .min [.p (.list xs)] S = (match intsOf xs with | some is => (match minL is with | some i => .ok (.p (.int i)) S | none => .stuck) | none => .stuck) := rfl
@[simp] theorem bi_tup_l {xs : List PyData} : biW m .tuple [.p (.list xs)] S = .ok (.p (.tuple xs)) S := rfl
@[simp] theorem bi_tup_t {xs : List PyData} : biW m .tuple [.p (.tuple xs)] S = .ok (.p (.tuple xs)) S := rfl
@[simp] theorem bi_lst_l {xs : List PyData} : biW m .list [.p (.list xs)] S = mkL m xs S := rfl
@[simp] theorem bi_lst_t {xs : List PyData} : biW m .list [.p (.tuple xs)] S = mkL m xs S := rfl
@[simp] theorem bi_sorted {xs : List PyData} : biW m .sorted [.p (.list xs)] S = (if alikes xs && sortable xs && xs.all (fun x => decide (x.depth ≤ 64)) then mkL m (sortB leD xs) S else .stuck) := rfl
@[simp] theorem bi_repr {d : PyData} : biW m .repr [.p d] S = (if d.showable && !d.hasDict && decide (d.depth ≤ 64) && decide (d.shown.length ≤ sizeLine) then .ok (.p (.str d.shown)) S else .stuck) := rfl
@[simp] theorem mkL_f {xs : List PyData} : mkL false xs S = .ok (.p (.list xs)) S := rfl
@[simp] theorem mkL_t {xs : List PyData} : mkL true xs S = .ok (.ref S.length) (S ++ [.lst xs]) := rfl
@[simp] theorem ints_nil : intsOf [] = some [] := rfl
@[simp] theorem ints_cons {i : Int} {r : List PyData} : intsOf (.int i :: r) = (intsOf r).map (i :: ·) := rfl
@[simp] theorem ints_map {l : List Int} : intsOf (l.map PyData.int) = some l := by
  induction l with
  | nil => rfl
  | cons a l ih => simp [ih]
@[simp] theorem bools_nil : boolsOf [] = some [] := rfl
@[simp] theorem bools_cons {i : Bool} {r : List PyData} : boolsOf (.bool i :: r) = (boolsOf r).map (i :: ·) := rfl
@[simp] theorem bools_map {l : List Bool} : boolsOf (l.map PyData.bool) = some l := by
  induction l with
  | nil => rfl
  | cons a l ih => simp [ih]
@[simp] theorem max_one {x : Int} : maxL [x] = some x := rfl
@[simp] theorem max_cons {x y : Int} {l : List Int} : maxL (x :: y :: l) = (maxL (y :: l)).map fun z => max z x := by
  rw [maxL]
  · congr 1; funext z; split <;> omega
  · simp
@[simp] theorem min_one {x : Int} : minL [x] = some x := rfl
@[simp] theorem min_cons {x y : Int} {l : List Int} : minL (x :: y :: l) = (minL (y :: l)).map fun z => min z x := by
  rw [minL]
  · congr 1; funext z; split <;> omega
  · simp
@[simp] theorem bin_pp {op : Operator} {a b : PyData} : binW m op (.p a) (.p b) S = binD m op a b S := rfl
@[simp] theorem bin_add {i j : Int} : binD m .Add (.int i) (.int j) S = .ok (.p (.int (i + j))) S := rfl
@[simp] theorem bin_sub {i j : Int} : binD m .Sub (.int i) (.int j) S = .ok (.p (.int (i - j))) S := rfl
@[simp] theorem bin_mul {i j : Int} : binD m .Mult (.int i) (.int j) S = if i.natAbs.log2 + j.natAbs.log2 < 1000000 then .ok (.p (.int (i * j))) S else .stuck := rfl
@[simp] theorem bin_fdiv {i j : Int} : binD m .FloorDiv (.int i) (.int j) S = if 0 < j ∧ j.natAbs.log2 < 9000 then .ok (.p (.int (i / j))) S else .stuck := rfl
@[simp] theorem bin_mod {i j : Int} : binD m .Mod (.int i) (.int j) S = if 0 < j then .ok (.p (.int (i % j))) S else .stuck := rfl
@[simp] theorem bin_pow {i j : Int} : binD m .Pow (.int i) (.int j) S = if 0 ≤ j ∧ j ≤ 1000 ∧ i.natAbs.log2 < 2000 then .ok (.p (.int (i ^ j.toNat))) S else .stuck := rfl
@[simp] theorem bin_addt {xs ys : List PyData} : binD m .Add (.tuple xs) (.tuple ys) S = if xs.length + ys.length ≤ sizeLine then .ok (.p (.tuple (xs ++ ys))) S else .stuck := rfl
@[simp] theorem bin_addl {xs ys : List PyData} : binD m .Add (.list xs) (.list ys) S = if xs.length + ys.length ≤ sizeLine then mkL m (xs ++ ys) S else .stuck := rfl
@[simp] theorem bin_adds {xs ys : Str} : binD m .Add (.str xs) (.str ys) S = if xs.length + ys.length ≤ sizeLine then .ok (.p (.str (xs ++ ys))) S else .stuck := rfl
@[simp] theorem bin_mult {xs : List PyData} {k : Int} : binD m .Mult (.tuple xs) (.int k) S = if 2 ≤ k ∧ k ≤ 1000 ∧ xs.length ≤ 1000 ∧ xs.isEmpty = false then .ok (.p (.tuple (List.replicate k.toNat xs).flatten)) S else .stuck := rfl
@[simp] theorem slc_t {xs : List PyData} {lo hi : Option Int} : slcW m (.p (.tuple xs)) lo hi S = .ok (.p (.tuple (cutL xs lo hi))) S := rfl
@[simp] theorem slc_l {xs : List PyData} {lo hi : Option Int} : slcW m (.p (.list xs)) lo hi S = mkL m (cutL xs lo hi) S := rfl
@[simp] theorem cut_from1 {α : Type} {a : α} {xs : List α} : cutL (a :: xs) (some 1) none = xs := by
  simp [cutL, HT.sIx]
@[simp] theorem cut_from2 {α : Type} {a b : α} {xs : List α} : cutL (a :: b :: xs) (some 2) none = xs := by
  simp [cutL, HT.sIx]
@[simp] theorem range0 {lo : Int} : rangeL lo 0 = [] := rfl
@[simp] theorem range1 : rangeL 0 1 = [.int 0] := rfl
@[simp] theorem range2 : rangeL 0 2 = [.int 0, .int 1] := rfl
@[simp] theorem range3 : rangeL 0 3 = [.int 0, .int 1, .int 2] := rfl
@[simp] theorem range4 : rangeL 0 4 = [.int 0, .int 1, .int 2, .int 3] := rfl
@[simp] theorem range5 : rangeL 0 5 = [.int 0, .int 1, .int 2, .int 3, .int 4] := rfl
@[simp] theorem own_n {i : Nat} : Tg.own (.n i) = [i] := rfl
@[simp] theorem own_t {ts : Tgs} : Tg.own (.t ts) = ts.own := rfl
@[simp] theorem own_nil : Tgs.own .nil = [] := rfl
@[simp] theorem own_cons {t : Tg} {ts : Tgs} : Tgs.own (.cons t ts) = t.own ++ ts.own := rfl
@[simp] theorem wipe_nil {ρ : Env} : wipe ρ [] = ρ := rfl
@[simp] theorem wipe_cons {ρ : Env} {v : Nat} {vs : List Nat} : wipe ρ (v :: vs) = (wipe ρ vs).set v none := rfl
@[simp] theorem asgT_n {i : Nat} {d : PyData} {ρ : Env} : asgT (.n i) d ρ = if i < ρ.length then some (ρ.set i (some (.p d))) else none := rfl
@[simp] theorem asgT_t {ts : Tgs} {ds : List PyData} {ρ : Env} : asgT (.t ts) (.tuple ds) ρ = asgTs ts ds ρ := rfl
@[simp] theorem asgT_l {ts : Tgs} {ds : List PyData} {ρ : Env} : asgT (.t ts) (.list ds) ρ = asgTs ts ds ρ := rfl
@[simp] theorem asgTs_nil {ρ : Env} : asgTs .nil [] ρ = some ρ := rfl
@[simp] theorem asgTs_cons {t : Tg} {r : Tgs} {d : PyData} {ds : List PyData} {ρ : Env} : asgTs (.cons t r) (d :: ds) ρ = (match asgT t d ρ with | none => none | some ρ' => asgTs r ds ρ') := rfl
@[simp] theorem tlen_nil : Tgs.len .nil = 0 := rfl
@[simp] theorem tlen_cons {t : Tg} {r : Tgs} : Tgs.len (.cons t r) = r.len + 1 := rfl
@[simp] theorem eslen_nil : Es.len .nil = 0 := rfl
@[simp] theorem eslen_cons {t : E} {r : Es} : Es.len (.cons t r) = r.len + 1 := rfl
@[simp] theorem lcF_nil {step : PyData → Store → R (Option PyData)} : lcF step [] S = .ok [] S := rfl
@[simp] theorem lcF_cons {step : PyData → Store → R (Option PyData)} {x : PyData} {r : List PyData} : lcF step (x :: r) S = (match step x S with
    | .ok o S1 => (match lcF step r S1 with
      | .ok ys S2 => .ok (match o with | some y => y :: ys | none => ys) S2
      | _ => .stuck)
    | _ => .stuck) := rfl
@[simp] theorem forL_nil {step : PyData → Env → Store → RS} {ρ : Env} : forL step [] ρ S = .nx ρ S := rfl
@[simp] theorem forL_cons {step : PyData → Env → Store → RS} {x : PyData} {r : List PyData} {ρ : Env} : forL step (x :: r) ρ S = (match step x ρ S with
    | .nx ρ' S' => forL step r ρ' S'
    | .ct ρ' S' => forL step r ρ' S'
    | .bk ρ' S' => .nx ρ' S'
    | o => o) := by rw [forL]; all_goals (cases step x ρ S <;> rfl)
@[simp] theorem pick_nil {ws : List W} : pickK ws [] = some [] := rfl
@[simp] theorem pick_l {ws : List W} {i : Nat} {r : List (Sum Nat PyData)} : pickK ws (.inl i :: r) = (match ws[i]? with | none => none | some w => (pickK ws r).map (w :: ·)) := rfl
@[simp] theorem pick_r {ws : List W} {d : PyData} {r : List (Sum Nat PyData)} : pickK ws (.inr d :: r) = (pickK ws r).map (.p d :: ·) := rfl
@[simp] theorem aug_add {i j : Int} : augI .Add (.p (.int i)) (.p (.int j)) S = .ok (.p (.int (i + j))) S := rfl
@[simp] theorem aug_sub {i j : Int} : augI .Sub (.p (.int i)) (.p (.int j)) S = .ok (.p (.int (i - j))) S := rfl
@[simp] theorem fr_p {d : PyData} : freezeW (.p d) S = .ok (.p d) S := rfl
@[simp] theorem meT_idxT {xs : List PyData} : meT .indexT (.kt xs) S = true := rfl
@[simp] theorem meT_idx {xs : List PyData} : meT .index (.p (.list xs)) S = true := rfl
@[simp] theorem meW_idxT {ds : List PyData} {d : PyData} : meW .indexT (.kt ds) [.p d] S = if isSc d && ds.all isSc then (match idxD d 0 ds with | some j => .ok (.p (.int j)) S | none => .stuck) else .stuck := rfl
@[simp] theorem meW_idx {ds : List PyData} {d : PyData} : meW .index (.p (.list ds)) [.p d] S = if isSc d && ds.all isSc then (match idxD d 0 ds with | some j => .ok (.p (.int j)) S | none => .stuck) else .stuck := rfl
@[simp] theorem star_12 {a : PyData} {r : List PyData} : starD 1 2 (a :: r) = some [a, .list r] := by
  unfold starD; rw [if_pos (by simp only [List.length_cons]; omega)]
  simp
@[simp] theorem zip_l {xs ys : List PyData} : zipW (.p (.list xs)) (.p (.list ys)) = some (zipD xs ys) := rfl
@[simp] theorem zip_t {xs ys : List PyData} : zipW (.p (.tuple xs)) (.p (.tuple ys)) = some (zipD xs ys) := rfl
end
end Px.Rw

set_option Elab.async false
set_option linter.all false
set_option maxRecDepth 100000
/-! PxR: the length of a datum's text, from above. -/
namespace Px.Rw
open PySem
theorem textFrom_le : ∀ (ts : List Str) (k : Nat) (acc : Str), (textFrom k acc ts).length ≤ acc.length + piled ts
  | [], _, acc => by show acc.length ≤ _; simp [piled_nil]
  | t :: ts, k, acc => by
    have ih := textFrom_le ts (k + 1) (acc ++ (if k > 0 then ", " else "" : String) ++ t)
    rw [strLen_append, strLen_append] at ih
    rw [piled_cons]
    have e : (Str.ofString (if k > 0 then ", " else "")).length ≤ 2 := by split <;> decide
    show (textFrom (k + 1) _ ts).length ≤ _
    omega
theorem listText_le (ts : List Str) : (listText ts).length ≤ piled ts + 2 := by
  unfold listText
  rw [strLen_append]
  have := textFrom_le ts 0 "["
  have e1 : (Str.ofString "[").length = 1 := rfl
  have e2 : (Str.ofString "]").length = 1 := rfl
  omega
theorem tupleText_le (ts : List Str) : (tupleText ts).length ≤ piled ts + 3 := by
  unfold tupleText
  rw [strLen_append, strLen_append]
  have e1 : (Str.ofString "(").length = 1 := rfl
  have e2 : (Str.ofString (if ts.length == 1 then ",)" else ")")).length ≤ 2 := by split <;> decide
  have e3 : (Str.join ", " ts).length ≤ piled ts := by
    by_cases h : ts = []
    · subst h; decide
    · have := join_length_add ts h; omega
  omega
mutual
def rc : PyData → Nat
  | .none => 4
  | .bool _ => 5
  | .int i => if 0 ≤ i ∧ i < 10 ^ 40 then 40 else (PyData.shown (.int i)).length
  | .str x => (reprText x).length
  | .list xs => rcAll xs + 3
  | .tuple xs => rcAll xs + 3
  | .dict kvs => (PyData.shown (.dict kvs)).length
def rcAll : List PyData → Nat
  | [] => 0
  | x :: xs => (rc x + 2) + rcAll xs
end
mutual
theorem shown_le : ∀ d : PyData, d.shown.length ≤ rc d
  | .none => by decide
  | .bool b => by cases b <;> decide
  | .int i => by
    unfold rc
    split
    · rename_i h
      exact PyProof.Rows.toString_length_le h.1 (by decide) h.2
    · exact Nat.le_refl _
  | .str x => Nat.le_refl _
  | .list xs => by
    have := shownAll_le xs
    show (listText (PyData.shownAll xs)).length ≤ rcAll xs + 3
    have := listText_le (PyData.shownAll xs); omega
  | .tuple xs => by
    have := shownAll_le xs
    show (tupleText (PyData.shownAll xs)).length ≤ rcAll xs + 3
    have := tupleText_le (PyData.shownAll xs); omega
  | .dict kvs => Nat.le_refl _
theorem shownAll_le : ∀ xs : List PyData, piled (PyData.shownAll xs) ≤ rcAll xs
  | [] => by decide
  | x :: xs => by
    have := shown_le x
    have := shownAll_le xs
    show piled (x.shown :: PyData.shownAll xs) ≤ (rc x + 2) + rcAll xs
    rw [piled_cons]; omega
end
theorem rcAll_app (xs ys : List PyData) : rcAll (xs ++ ys) = rcAll xs + rcAll ys := by
  induction xs with
  | nil => simp [rcAll]
  | cons a l ih => simp only [List.cons_append, rcAll, ih]; omega
theorem rcAll_le {c : Nat} (xs : List PyData) (h : ∀ x ∈ xs, rc x ≤ c) : rcAll xs ≤ xs.length * (c + 2) := by
  induction xs with
  | nil => simp [rcAll]
  | cons a l ih =>
    have h1 := h a (List.mem_cons_self ..)
    have h2 := ih fun x hx => h x (List.mem_cons_of_mem _ hx)
    simp only [rcAll, List.length_cons, Nat.succ_mul]; omega
/-- repr's text is at hand -/
theorem repr_ok {d : PyData} {S : Store} {m : Bool} (h1 : d.showable = true) (h2 : d.hasDict = false) (h3 : d.depth ≤ 64) (h4 : rc d ≤ 1000000) : biW m .repr [.p d] S = .ok (.p (.str d.shown)) S := by
  rw [bi_repr]
  have h5 : d.shown.length ≤ sizeLine := Nat.le_trans (Nat.le_trans (shown_le d) h4) (by decide)
  simp [h1, h2, h3, h5]
end Px.Rw

set_option Elab.async false
set_option linter.all false
set_option maxRecDepth 1000000
set_option maxHeartbeats 1000000
/-! PxD: the draws that all laws share: _law_stream, _law_draw, _law_pick. -/
namespace Px.Dr
open PySem Px Px.Rw
/-- a call, its def in hand -/
theorem call_at {G : List Fn} {cs : List W} {n f : Nat} {F : Fn} {ws : List W} {S : Store} (h : G[f]? = some F) (hl : ws.length = F.ps) :
    callF G cs (n + 1) f ws S = finS S.length (exSs (callF G cs n) cs F.body (Px.start F ws) S) := by
  simp only [callF, h, hl, if_true]
@[simp] theorem fin_same {w : W} {S S' : Store} (h : S'.length = S.length) : fin S.length w S' = .ok w S' := by simp [fin, h]
theorem fin_p {L : Nat} {d : PyData} {S' : Store} (h : L ≤ S'.length) : fin L (.p d) S' = .ok (.p d) (S'.take L) := by
  unfold fin
  by_cases hs : S'.length = L
  · rw [if_pos hs, ← hs, List.take_length]
  · rw [if_neg hs]
theorem fin_ap {S T : Store} {d : PyData} : fin S.length (.p d) (S ++ T) = .ok (.p d) S := by rw [fin_p (by simp)]; simp
theorem fin_sap {S T : Store} {i : Nat} {o : MO} {d : PyData} : fin S.length (.p d) (S.set i o ++ T) = .ok (.p d) (S.set i o) := by rw [fin_p (by simp)]; rw [show S.length = (S.set i o).length by simp, List.take_left']; simp
@[simp ↓] theorem exS_par3 {cl : Cl} {cs : List W} {ρ : Px.Env} {S : Store} {i j l : Nat} {a b c : E} : exS cl cs (.par3 i j l a b c) ρ S = (ev cl cs a false ρ S).st ρ fun x S1 => (ev cl cs b false ρ S1).st ρ fun y S2 => (ev cl cs c false ρ S2).st ρ fun z S3 =>
      if i < ρ.length ∧ j < ρ.length ∧ l < ρ.length ∧ i ≠ j ∧ i ≠ l ∧ j ≠ l then .nx (((ρ.set i (some x)).set j (some y)).set l (some z)) S3 else .stuck := rfl
/-- a while, as simp leaves it alone -/
def whL (cl : Cl) (cs : List W) (t : E) (b : Ss) (n : Nat) (ρ : Px.Env) (S : Store) : RS := whF (fun ρ S => ev cl cs t true ρ S) (fun ρ S => exSs cl cs b ρ S) n ρ S
theorem exS_whL {cl : Cl} {cs : List W} {n : Nat} {t : E} {b : Ss} {ρ : Px.Env} {S : Store} : exS cl cs (.wh n t b) ρ S = whL cl cs t b n ρ S := rfl
theorem whL_succ {cl : Cl} {cs : List W} {n : Nat} {t : E} {b : Ss} {ρ : Px.Env} {S : Store} : whL cl cs t b (n + 1) ρ S = (ev cl cs t true ρ S).st ρ fun w S1 => (match w with
    | .p (.bool true) => (match exSs cl cs b ρ S1 with
      | .nx ρ' S' => whL cl cs t b n ρ' S'
      | .ct ρ' S' => whL cl cs t b n ρ' S'
      | .bk ρ' S' => .nx ρ' S'
      | o => o)
    | .p (.bool false) => .nx ρ S1
    | _ => .stuck) := rfl
def streamFn : Fn := ⟨2, 5, (.cons (.asg (.n 2) (.bin false .Add (.bin false .Mult (.k (.int 7)) (.v 1)) (.k (.int 3)))) (.cons (.ifs (.cmp .Lt (.v 1) (.bi false .len (.cons (.v 0) .nil))) (.cons (.asg (.n 2) (.sub (.v 0) (.v 1))) .nil) .nil) (.cons (.asg (.n 3) (.bin false .Mod (.bi false .abs (.cons (.v 2) .nil)) (.bin false .Pow (.bin false .Pow (.k (.int 10)) (.k (.int 60))) (.k (.int 12))))) (.cons (.asg (.n 4) (.bin false .Mod (.bin false .Add (.bin false .Add (.bin false .Add (.bin false .Mult (.bin false .Mod (.v 3) (.k (.int 2147483629))) (.k (.int 48271))) (.bin false .Mult (.k (.int 977)) (.v 1))) (.bin false .Mult (.k (.int 2)) (.bi false .int (.cons (.cmp .Lt (.v 2) (.k (.int 0))) .nil)))) (.k (.int 11))) (.k (.int 2147483647)))) (.cons (.ret (.som (.lst true (.cons (.bi true .max (.cons (.k (.int 0)) (.cons (.bin true .Sub (.v 3) (.bin true .Pow (.k (.int 10)) (.k (.int 18)))) .nil))) (.cons (.v 4) (.cons (.k (.int 0)) .nil)))))) .nil)))))⟩
def drawFn : Fn := ⟨2, 5, (.cons (.ifs (.cmp .Gt (.sub (.v 0) (.k (.int 0))) (.k (.int 0))) (.cons (.asg (.n 4) (.bin false .Mod (.sub (.v 0) (.k (.int 0))) (.v 1))) (.cons (.asg (.s (.v 0) (.k (.int 0))) (.bin false .FloorDiv (.sub (.v 0) (.k (.int 0))) (.v 1))) (.cons (.ret (.som (.v 4))) .nil))) .nil) (.cons (.asg (.s (.v 0) (.k (.int 2))) (.bin false .Add (.sub (.v 0) (.k (.int 2))) (.k (.int 1)))) (.cons (.asg (.n 2) (.bin false .Mod (.bin false .Add (.sub (.v 0) (.k (.int 1))) (.bin false .Mult (.k (.int 1000003)) (.sub (.v 0) (.k (.int 2))))) (.k (.int 2305843009213693951)))) (.cons (.asg (.n 3) (.bin false .Mod (.bin false .Add (.bin false .Mult (.bin false .Mod (.bin false .Mult (.v 2) (.v 2)) (.k (.int 2305843009213693921))) (.v 2)) (.bin false .Mult (.k (.int 8191)) (.sub (.v 0) (.k (.int 2))))) (.k (.int 2305843009213693907)))) (.cons (.ret (.som (.bin false .Mod (.bin false .FloorDiv (.v 3) (.k (.int 4096))) (.v 1)))) .nil)))))⟩
def pickFn (d : Nat) : Fn := ⟨2, 2, (.cons (.ret (.som (.sub (.v 1) (.call d (.cons (.v 0) (.cons (.bi false .len (.cons (.v 1) .nil)) .nil)))))) .nil)⟩
def cell (a b c : Int) : MO := .lst [.int a, .int b, .int c]
/-- the stream's cell: its numbers are small -/
def Dr (N : Int) (o : MO) : Prop := ∃ a b c, o = cell a b c ∧ 0 ≤ b ∧ b < 2147483647 ∧ 0 ≤ c ∧ c ≤ N
def Gs (S : Store) (i : Nat) (N : Int) : Prop := ∃ o, S[i]? = some o ∧ Dr N o
theorem Dr.mono {o : MO} {N M : Int} (h : Dr N o) (hm : N ≤ M) : Dr M o := by obtain ⟨a, b, c, h1, h2, h3, h4, h5⟩ := h; exact ⟨a, b, c, h1, h2, h3, h4, by omega⟩
theorem Gs.mono {S : Store} {i : Nat} {N M : Int} (h : Gs S i N) (hm : N ≤ M) : Gs S i M := by obtain ⟨o, h1, h2⟩ := h; exact ⟨o, h1, h2.mono hm⟩
theorem Gs.lt {S : Store} {i : Nat} {N : Int} (h : Gs S i N) : i < S.length := by obtain ⟨o, h1, h2⟩ := h; exact (List.getElem?_eq_some_iff.mp h1).1
theorem Gs.set {S : Store} {i : Nat} {N M : Int} (h : Gs S i N) {o : MO} (d : Dr M o) : Gs (S.set i o) i M := ⟨o, by rw [List.getElem?_set]; simp [h.lt], d⟩
theorem Gs.snoc {S : Store} {i : Nat} {N : Int} (h : Gs S i N) (T : Store) : Gs (S ++ T) i N := by
  obtain ⟨o, h1, h2⟩ := h
  exact ⟨o, by rw [List.getElem?_append_left (List.getElem?_eq_some_iff.mp h1).1]; exact h1, h2⟩
theorem Gs.oth {S : Store} {i j : Nat} {N : Int} (h : Gs S i N) (x : MO) (hj : j ≠ i) : Gs (S.set j x) i N := by
  obtain ⟨o, h1, h2⟩ := h
  exact ⟨o, by rw [List.getElem?_set_ne hj]; exact h1, h2⟩
theorem set_ap {S T : Store} {i : Nat} {o : MO} (h : i < S.length) : (S ++ T).set i o = S.set i o ++ T := List.set_append_left _ _ h
theorem lg {x : Int} (h : x.natAbs < 2 ^ 400) : x.natAbs.log2 < 400 := by
  by_cases hx : x.natAbs = 0
  · rw [hx]; decide
  · exact (Nat.log2_lt hx).mpr h
theorem mul_ok {x y : Int} (h : x.natAbs < 2 ^ 400) (h' : y.natAbs < 2 ^ 400) : x.natAbs.log2 + y.natAbs.log2 < 1000000 := by have := lg h; have := lg h'; omega
theorem small400 {x : Int} (h0 : 0 ≤ x) (h : x < 2 ^ 64) : x.natAbs < 2 ^ 400 := Nat.lt_of_lt_of_le (by omega : x.natAbs < 2 ^ 64) (Nat.pow_le_pow_right (by decide) (by decide))
theorem draw {G : List Fn} {cs : List W} {f : Nat} (hf : G[f]? = some drawFn) (n i : Nat) (total N : Int) (S : Store) (h : Gs S i N) (ht : 0 < total) (htb : total < 1000000) (hN : N < 1000000) :
    ∃ k o, callF G cs (n + 1) f [.ref i, .p (.int total)] S = .ok (.p (.int k)) (S.set i o) ∧ 0 ≤ k ∧ k < total ∧ Dr (N + 1) o := by
  obtain ⟨o, h, a, b, c, rfl, hb, hbb, hc, hcN⟩ := h
  rw [call_at hf rfl]
  unfold cell at h
  have hlog : total.natAbs.log2 < 9000 := by
    have h1 : total.natAbs < 2 ^ 9000 := Nat.lt_of_lt_of_le (by omega : total.natAbs < 2 ^ 20) (Nat.pow_le_pow_right (by decide) (by decide))
    exact (Nat.log2_lt (by omega)).mpr h1
  have hl : i < S.length := (List.getElem?_eq_some_iff.mp h).1
  have hset : ∀ x : MO, (S.set i x)[i]? = some x := fun x => by rw [List.getElem?_set]; simp [hl]
  by_cases ha : 0 < a
  · refine ⟨a % total, cell (a / total) b c, ?_, Int.emod_nonneg _ (by omega), Int.emod_lt_of_pos _ ht, ⟨_, b, c, rfl, hb, hbb, hc, by omega⟩⟩
    simp [drawFn, subW_ref h, ha, ht, hlog, setW, h, L2.ixN, cell, Px.start]
  · have m1 : ∀ x y : Int, 0 < y → 0 ≤ x % y ∧ x % y < y := fun x y h => ⟨Int.emod_nonneg _ (by omega), Int.emod_lt_of_pos _ h⟩
    obtain ⟨one, h1⟩ : ∃ one, one = (b + 1000003 * (c + 1)) % 2305843009213693951 := ⟨_, rfl⟩
    obtain ⟨o1, o2⟩ := m1 (b + 1000003 * (c + 1)) 2305843009213693951 (by decide)
    rw [← h1] at o1 o2
    obtain ⟨sq, h2⟩ : ∃ sq, sq = one * one % 2305843009213693921 := ⟨_, rfl⟩
    obtain ⟨s1, s2⟩ := m1 (one * one) 2305843009213693921 (by decide)
    rw [← h2] at s1 s2
    obtain ⟨two, h3⟩ : ∃ two, two = (sq * one + 8191 * (c + 1)) % 2305843009213693907 := ⟨_, rfl⟩
    have k1 := mul_ok (x := 1000003) (y := c + 1) (by decide) (small400 (by omega) (by omega))
    have k2 := mul_ok (small400 o1 (by omega)) (small400 o1 (by omega))
    have k3 := mul_ok (small400 s1 (by omega)) (small400 o1 (by omega))
    have k4 := mul_ok (x := 8191) (y := c + 1) (by decide) (small400 (by omega) (by omega))
    have k1 : Nat.log2 1000003 + (c + 1).natAbs.log2 < 1000000 := k1
    have k4 : Nat.log2 8191 + (c + 1).natAbs.log2 < 1000000 := k4
    have k5 : Nat.log2 4096 < 9000 := by decide
    have hg := fun k => subW_ref (k := k) (S := S.set i (.lst [.int a, .int b, .int (c + 1)])) (hset _)
    refine ⟨two / 4096 % total, cell a b (c + 1), ?_, Int.emod_nonneg _ (by omega), Int.emod_lt_of_pos _ ht, ⟨_, b, c + 1, rfl, hb, hbb, by omega, by omega⟩⟩
    simp [drawFn, subW_ref h, h, ha, ht, setW, L2.ixN, hg, k1, k2, k3, k4, k5, ← h1, ← h2, ← h3, cell, Px.start]
theorem m48 (x : Int) (h : 0 ≤ x) : (x % 2147483629).natAbs.log2 + Nat.log2 48271 < 1000000 := by
  have := lg (small400 (x := x % 2147483629) (Int.emod_nonneg _ (by decide)) (by have := Int.emod_lt_of_pos x (show (0 : Int) < 2147483629 by decide); omega))
  have : Nat.log2 48271 < 100 := by decide
  omega
/-- the script, as it comes in -/
def Sc (x : W) (ns : List Int) : Prop := x = .p (.list (ns.map PyData.int)) ∨ x = .kl ns
theorem sc_len {x : W} {ns : List Int} (h : Sc x ns) (S : Store) : biW false .len [x] S = .ok (.p (.int ns.length)) S := by
  rcases h with rfl | rfl <;> simp
theorem sc_at {x : W} {ns : List Int} (h : Sc x ns) {k : Nat} (hk : k < ns.length) (S : Store) : subW x (.p (.int k)) S = .ok (.p (.int ns[k])) S := by
  have h1 : ¬ ((ns.length : Int) ≤ k) := by omega
  rcases h with rfl | rfl
  · simp [L2.atI, L2.ixN, hk]
  · simp [subW, L2.atI, L2.ixN, hk]
theorem pow60 : ∃ P : Int, (∀ S m, binD m .Pow (.int 10) (.int 60) S = .ok (.p (.int P)) S) ∧ P = 10 ^ 60 := ⟨_, fun S m => by rw [bin_pow, if_pos (by decide)]; rfl, rfl⟩
theorem pow720 : ∃ P : Int, 0 < P ∧ (∀ S m, binD m .Pow (.int (10 ^ 60)) (.int 12) S = .ok (.p (.int P)) S) := ⟨((10 : Int) ^ 60) ^ 12, by decide, fun S m => by rw [bin_pow, if_pos (by decide)]; rfl⟩
theorem pow18 : ∃ P : Int, (∀ S m, binD m .Pow (.int 10) (.int 18) S = .ok (.p (.int P)) S) := ⟨10 ^ 18, fun S m => by rw [bin_pow, if_pos (by decide)]; rfl⟩
theorem stream {G : List Fn} {cs : List W} {f : Nat} (hf : G[f]? = some streamFn) (n : Nat) (x : W) (ns : List Int) (h : Sc x ns) (hl : ns.length ≤ 63) (k : Nat) (hk : k < 64) (S : Store) :
    ∃ o, callF G cs (n + 1) f [x, .p (.int k)] S = .ok (.ref S.length) (S ++ [o]) ∧ Dr 0 o := by
  rw [call_at hf rfl]
  obtain ⟨P1, hp1, e1⟩ := pow60
  obtain ⟨P2, hp2, e2⟩ := pow720
  obtain ⟨P3, hp3⟩ := pow18
  rw [← e1] at e2
  have fi : ∀ (o : MO), fin S.length (.ref S.length) (S ++ [o]) = .ok (.ref S.length) (S ++ [o]) := fun o => by simp [fin]
  have m7 : Nat.log2 7 + Nat.log2 k < 1000000 := by
    have := lg (small400 (x := (k : Int)) (by omega) (by omega)); have : Nat.log2 7 < 10 := by decide
    simp at *; omega
  have m9 : Nat.log2 977 + Nat.log2 k < 1000000 := by
    have := lg (small400 (x := (k : Int)) (by omega) (by omega)); have : Nat.log2 977 < 10 := by decide
    simp at *; omega
  have l2 : Nat.log2 2 + Nat.log2 1 < 1000000 := by decide
  have l3 : Nat.log2 2 + Nat.log2 0 < 1000000 := by decide
  have key : ∀ c : Int, ∃ a b, finS S.length (exSs (callF G cs n) cs (match streamFn.body with | .cons _ (.cons _ r) => r | _ => .nil) [some x, some (.p (.int k)), some (.p (.int c)), none, none] S) = .ok (.ref S.length) (S ++ [cell a b 0]) ∧ 0 ≤ b ∧ b < 2147483647 := by
    intro c
    obtain ⟨g, hg⟩ : ∃ g, g = (c.natAbs : Int) % P2 := ⟨_, rfl⟩
    have g0 : 0 ≤ g := by rw [hg]; exact Int.emod_nonneg _ (by omega)
    have mg := m48 g g0
    obtain ⟨q, hq⟩ : ∃ q : Int, q = if c < 0 then 1 else 0 := ⟨_, rfl⟩
    have lq : Nat.log2 2 + q.natAbs.log2 < 1000000 := by rw [hq]; split <;> decide
    obtain ⟨b, hb⟩ : ∃ b, b = (g % 2147483629 * 48271 + 977 * (k : Int) + 2 * q + 11) % 2147483647 := ⟨_, rfl⟩
    have hb1 : 0 ≤ b := by rw [hb]; exact Int.emod_nonneg _ (by decide)
    have hb2 : b < 2147483647 := by rw [hb]; exact Int.emod_lt_of_pos _ (by decide)
    refine ⟨max 0 (g - P3), b, ?_, hb1, hb2⟩
    simp [streamFn, e2, hp1, hp2, hp3, mg, m9, ← hg, ← hq, lq, ← hb, fi, cell]
  by_cases hkl : k < ns.length
  · obtain ⟨a, b, hx, h1, h2⟩ := key ns[k]
    refine ⟨_, ?_, ⟨a, b, 0, rfl, h1, h2, Int.le_refl _, Int.le_refl _⟩⟩
    rw [← hx]
    simp [streamFn, m7, sc_len h, sc_at h hkl, hkl, Px.start]
  · obtain ⟨a, b, hx, h1, h2⟩ := key (7 * (k : Int) + 3)
    refine ⟨_, ?_, ⟨a, b, 0, rfl, h1, h2, Int.le_refl _, Int.le_refl _⟩⟩
    rw [← hx]
    simp [streamFn, m7, sc_len h, hkl, Px.start]
theorem at_lt {α : Type} {xs : List α} {k : Int} (h0 : 0 ≤ k) (h : k < xs.length) : ∃ x, L2.atI xs k = some x ∧ x ∈ xs := by
  have hk : k.toNat < xs.length := by omega
  refine ⟨xs[k.toNat], ?_, List.getElem_mem hk⟩
  obtain ⟨m, rfl⟩ : ∃ m : Nat, k = m := ⟨k.toNat, by omega⟩
  have hm : m < xs.length := by omega
  simp [L2.atI, L2.ixN, hm]
theorem pick_l {G : List Fn} {cs : List W} {f d : Nat} (hp : G[f]? = some (pickFn d)) (hf : G[d]? = some drawFn) (n i : Nat) (xs : List PyData) (N : Int) (S : Store) (h : Gs S i N) (ht : 0 < xs.length) (htb : xs.length < 1000) (hN : N < 1000000) :
    ∃ x o, callF G cs (n + 2) f [.ref i, .p (.list xs)] S = .ok (.p x) (S.set i o) ∧ x ∈ xs ∧ Dr (N + 1) o := by
  obtain ⟨k, o, h1, k0, k1, d1⟩ := draw hf (cs := cs) n i xs.length N S h (by omega) (by omega) hN
  obtain ⟨x, hx, hm⟩ := at_lt k0 k1
  refine ⟨x, o, ?_, hm, d1⟩
  rw [call_at hp rfl]
  simp [pickFn, Px.start, h1, hx]
theorem pick_t {G : List Fn} {cs : List W} {f d : Nat} (hp : G[f]? = some (pickFn d)) (hf : G[d]? = some drawFn) (n i : Nat) (xs : List PyData) (N : Int) (S : Store) (h : Gs S i N) (ht : 0 < xs.length) (htb : xs.length < 1000) (hN : N < 1000000) :
    ∃ x o, callF G cs (n + 2) f [.ref i, .p (.tuple xs)] S = .ok (.p x) (S.set i o) ∧ x ∈ xs ∧ Dr (N + 1) o := by
  obtain ⟨k, o, h1, k0, k1, d1⟩ := draw hf (cs := cs) n i xs.length N S h (by omega) (by omega) hN
  obtain ⟨x, hx, hm⟩ := at_lt k0 k1
  refine ⟨x, o, ?_, hm, d1⟩
  rw [call_at hp rfl]
  simp [pickFn, Px.start, h1, hx]
end Px.Dr

set_option Elab.async false
set_option linter.all false
set_option maxRecDepth 100000
/-! PxR3: what repr asks of data, piece by piece. -/
namespace Px.Dr
open PySem Px Px.Rw
def R3 (d : PyData) (c m : Nat) : Prop := d.showable = true ∧ d.hasDict = false ∧ d.depth ≤ m ∧ rc d ≤ c
def R3s (xs : List PyData) (c m : Nat) : Prop := PyData.showableAll xs = true ∧ PyData.hasDictAll xs = false ∧ PyData.depthAll xs ≤ m ∧ rcAll xs ≤ c
theorem R3s.nil {m : Nat} : R3s [] 0 m := ⟨rfl, rfl, Nat.zero_le _, Nat.le_refl _⟩
theorem R3s.cons {x : PyData} {xs : List PyData} {c1 c2 m : Nat} (h : R3 x c1 m) (h' : R3s xs c2 m) : R3s (x :: xs) (c1 + 2 + c2) m := by
  obtain ⟨a1, a2, a3, a4⟩ := h
  obtain ⟨b1, b2, b3, b4⟩ := h'
  refine ⟨by simp [PyData.showableAll, a1, b1], by simp [PyData.hasDictAll, a2, b2], ?_, ?_⟩
  · simp only [PyData.depthAll]; omega
  · simp only [rcAll]; omega
theorem R3s.tup {xs : List PyData} {c m : Nat} (h : R3s xs c m) : R3 (.tuple xs) (c + 3) (m + 1) := by
  obtain ⟨b1, b2, b3, b4⟩ := h
  refine ⟨by simpa [PyData.showable] using b1, by simpa [PyData.hasDict] using b2, ?_, ?_⟩
  · simp only [PyData.depth]; omega
  · simp only [rc]; omega
theorem R3s.lst {xs : List PyData} {c m : Nat} (h : R3s xs c m) : R3 (.list xs) (c + 3) (m + 1) := by
  obtain ⟨b1, b2, b3, b4⟩ := h
  refine ⟨by simpa [PyData.showable] using b1, by simpa [PyData.hasDict] using b2, ?_, ?_⟩
  · simp only [PyData.depth]; omega
  · simp only [rc]; omega
theorem R3.mono {d : PyData} {c c' m m' : Nat} (h : R3 d c m) (hc : c ≤ c') (hm : m ≤ m') : R3 d c' m' := ⟨h.1, h.2.1, Nat.le_trans h.2.2.1 hm, Nat.le_trans h.2.2.2 hc⟩
theorem R3s.mono {d : List PyData} {c c' m m' : Nat} (h : R3s d c m) (hc : c ≤ c') (hm : m ≤ m') : R3s d c' m' := ⟨h.1, h.2.1, Nat.le_trans h.2.2.1 hm, Nat.le_trans h.2.2.2 hc⟩
theorem R3s.map {α : Type} {f : α → PyData} {c m : Nat} : ∀ (l : List α), (∀ x ∈ l, R3 (f x) c m) → R3s (l.map f) (l.length * (c + 2)) m
  | [], _ => R3s.nil.mono (Nat.zero_le _) (Nat.le_refl _)
  | x :: l, h => by
    have := (R3s.map l fun y hy => h y (List.mem_cons_of_mem _ hy))
    rw [List.map_cons]
    refine (R3s.cons (h x (List.mem_cons_self ..)) this).mono ?_ (Nat.le_refl _)
    rw [List.length_cons, Nat.succ_mul]; omega
theorem R3.int {i : Int} {m : Nat} (h0 : 0 ≤ i) (h : i < 2 ^ 64) : R3 (.int i) 40 m := by
  have := lg (small400 h0 h)
  refine ⟨by simp [PyData.showable]; omega, rfl, Nat.zero_le _, ?_⟩
  unfold rc
  rw [if_pos ⟨h0, Int.lt_of_lt_of_le h (by decide)⟩]
  exact Nat.le_refl _
theorem R3.str {x : Str} {c m : Nat} (h : (reprText x).length ≤ c) : R3 (.str x) c m := ⟨rfl, rfl, Nat.zero_le _, h⟩
theorem R3.non {m : Nat} : R3 .none 4 m := ⟨rfl, rfl, Nat.zero_le _, Nat.le_refl _⟩
theorem R3.boo {b : Bool} {m : Nat} : R3 (.bool b) 5 m := ⟨rfl, rfl, Nat.zero_le _, Nat.le_refl _⟩
theorem R3.repr {d : PyData} {c m : Nat} (h : R3 d c m) (hc : c ≤ 1000000) (hm : m ≤ 64) (S : Store) : biW false .repr [.p d] S = .ok (.p (.str d.shown)) S :=
  repr_ok h.1 h.2.1 (Nat.le_trans h.2.2.1 hm) (Nat.le_trans h.2.2.2 hc)
theorem lit (s : String) {c : Nat} (h : (reprText (Str.ofString s)).length ≤ c := by decide +kernel) {m : Nat} : R3 (.str (Str.ofString s)) c m := .str h
end Px.Dr

set_option Elab.async false
set_option maxRecDepth 1000000
set_option linter.all false
set_option maxHeartbeats 4000000
namespace L79
open PySem L2 Px
def top (i : Nat) : Stmt := PySem.Challenge.pw_callsend_k79_expression_texts.main.body.getD i (.Pass ⟨0, 0, 0, 0⟩)
def d0 : Df where
  gn := "is_integer"
  x := "is_integer"
  q := "is_integer"
  st := top 9
  ps := ["value", "low", "high"]
  N := ["value", "low", "high"]
  ir := ⟨3, 3, (.cons (.ifs (.boo .Or (.cons (.un .Not (.isi (.v 0) [.int])) (.cons (.isi (.v 0) [.bool]) .nil))) (.cons (.ret (.som (.k (.bool false)))) .nil) .nil) (.cons (.ret (.som (.boo .And (.cons (.boo .Or (.cons (.cmp .Is (.v 1) (.k .none)) (.cons (.cmp .GtE (.v 0) (.v 1)) .nil))) (.cons (.boo .Or (.cons (.cmp .Is (.v 2) (.k .none)) (.cons (.cmp .LtE (.v 0) (.v 2)) .nil))) .nil))))) .nil))⟩
def d1 : Df where
  gn := "is_name"
  x := "is_name"
  q := "is_name"
  st := top 10
  ps := ["value"]
  N := ["value", "letter"]
  ir := ⟨1, 2, (.cons (.ret (.som (.boo .And (.cons (.isi (.v 0) [.str]) (.cons (.ch (.k (.int 1)) .LtE (.bi false .len (.cons (.v 0) .nil)) .LtE (.g 1)) (.cons (.bi false .all (.cons (.lc false (.cmp .In (.v 1) (.g 2)) (.n 1) (.e (.v 0)) .nil) .nil)) .nil)))))) .nil)⟩
def d2 : Df where
  gn := "is_free_name"
  x := "is_free_name"
  q := "is_free_name"
  st := top 17
  ps := ["value"]
  N := ["value"]
  ir := ⟨1, 1, (.cons (.ret (.som (.boo .And (.cons (.call 1 (.cons (.v 0) .nil)) (.cons (.cmp .NotIn (.v 0) (.g 6)) .nil))))) .nil)⟩
def d3 : Df where
  gn := "children_in"
  x := "children_in"
  q := "children_in"
  st := top 18
  ps := ["expression"]
  N := ["expression"]
  ir := ⟨1, 1, (.cons (.mat (.sub (.v 0) (.k (.int 0))) (.cons (.alt [(.str "param"), (.str "number")]) (.cons (.ret (.som (.tup .nil))) .nil) (.cons (.val (.str "if")) (.cons (.ret (.som (.slc false (.v 0) (.som (.k (.int 2))) .non))) .nil) (.cons (.val (.str "call")) (.cons (.ret (.som (.sub (.v 0) (.k (.int 2))))) .nil) (.cons .any (.cons (.ret (.som (.slc false (.v 0) (.som (.k (.int 1))) .non))) .nil) .nil))))) .nil)⟩
def d4 : Df where
  gn := "has_form"
  x := "has_form"
  q := "has_form"
  st := top 19
  ps := ["arity", "value"]
  N := ["arity", "value"]
  ir := ⟨2, 2, (.cons (.ifs (.boo .Or (.cons (.un .Not (.isi (.v 1) [.tuple])) (.cons (.cmp .Eq (.v 1) (.tup .nil)) (.cons (.un .Not (.isi (.sub (.v 1) (.k (.int 0))) [.str])) .nil)))) (.cons (.ret (.som (.k (.bool false)))) .nil) .nil) (.cons (.ifs (.boo .Or (.cons (.cmp .NotIn (.sub (.v 1) (.k (.int 0))) (.g 7)) (.cons (.cmp .NotEq (.bi false .len (.cons (.v 1) .nil)) (.sub (.g 7) (.sub (.v 1) (.k (.int 0))))) .nil))) (.cons (.ret (.som (.k (.bool false)))) .nil) .nil) (.cons (.mat (.sub (.v 1) (.k (.int 0))) (.cons (.alt [(.str "param"), (.str "if")]) (.cons (.ret (.som (.call 0 (.cons (.sub (.v 1) (.k (.int 1))) (.cons (.k (.int 0)) (.cons (.bin false .Sub (.v 0) (.k (.int 1))) .nil)))))) .nil) (.cons (.val (.str "number")) (.cons (.ret (.som (.call 0 (.cons (.sub (.v 1) (.k (.int 1))) (.cons (.k (.int 0)) (.cons (.g 3) .nil)))))) .nil) (.cons (.val (.str "call")) (.cons (.ret (.som (.boo .And (.cons (.call 2 (.cons (.sub (.v 1) (.k (.int 1))) .nil)) (.cons (.isi (.sub (.v 1) (.k (.int 2))) [.tuple]) (.cons (.cmp .LtE (.bi false .len (.cons (.sub (.v 1) (.k (.int 2))) .nil)) (.g 0)) .nil)))))) .nil) (.cons .any (.cons (.ret (.som (.k (.bool true)))) .nil) .nil))))) .nil)))⟩
def d5 : Df where
  gn := "is_nested"
  x := "is_nested"
  q := "is_nested"
  st := top 20
  ps := ["arity", "value", "levels"]
  N := ["arity", "value", "levels", "child"]
  ir := ⟨3, 4, (.cons (.ifs (.boo .Or (.cons (.cmp .Eq (.v 2) (.k (.int 0))) (.cons (.un .Not (.call 4 (.cons (.v 0) (.cons (.v 1) .nil)))) .nil))) (.cons (.ret (.som (.k (.bool false)))) .nil) .nil) (.cons (.ret (.som (.bi false .all (.cons (.lc false (.call 5 (.cons (.v 0) (.cons (.v 3) (.cons (.bin false .Sub (.v 2) (.k (.int 1))) .nil)))) (.n 3) (.e (.call 3 (.cons (.v 1) .nil))) .nil) .nil)))) .nil))⟩
def d6 : Df where
  gn := "node_count"
  x := "node_count"
  q := "node_count"
  st := top 21
  ps := ["expression"]
  N := ["expression", "child"]
  ir := ⟨1, 2, (.cons (.ret (.som (.bin false .Add (.k (.int 1)) (.bi false .sum (.cons (.lc false (.call 6 (.cons (.v 1) .nil)) (.n 1) (.e (.call 3 (.cons (.v 0) .nil))) .nil) .nil))))) .nil)⟩
def d7 : Df where
  gn := "is_expression_in"
  x := "is_expression_in"
  q := "is_expression_in"
  st := top 22
  ps := ["arity", "value"]
  N := ["arity", "value"]
  ir := ⟨2, 2, (.cons (.ret (.som (.boo .And (.cons (.call 5 (.cons (.v 0) (.cons (.v 1) (.cons (.g 4) .nil)))) (.cons (.cmp .LtE (.call 6 (.cons (.v 1) .nil)) (.g 5)) .nil))))) .nil)⟩
def d8 : Df where
  gn := "require_arity_expressions"
  x := "require_arity"
  q := "require_arity"
  st := top 23
  ps := ["arity"]
  N := ["arity"]
  ir := ⟨1, 1, (.cons (.ifs (.un .Not (.call 0 (.cons (.v 0) (.cons (.k (.int 0)) (.cons (.g 0) .nil))))) (.cons .stk .nil) .nil) .nil)⟩
def d9 : Df where
  gn := "is_expression"
  x := "is_expression"
  q := "is_expression"
  st := top 25
  ps := ["arity", "value"]
  N := ["arity", "value"]
  ir := ⟨2, 2, (.cons (.exp (.call 8 (.cons (.v 0) .nil))) (.cons (.ret (.som (.call 7 (.cons (.v 0) (.cons (.v 1) .nil))))) .nil))⟩
def d10 : Df where
  gn := "expression_text"
  x := "expression_text"
  q := "expression_text"
  st := top 32
  ps := ["expression"]
  N := ["expression", "number", "first", "second", "name", "arguments", "word", "children"]
  ir := ⟨1, 8, (.cons (.mat (.v 0) (.cons (.seq [.inl (.str "param"), .inr 1] none) (.cons (.ret (.som (.fs (.cons (.k (.str "p")) (.cons (.v 1) .nil))))) .nil) (.cons (.seq [.inl (.str "number"), .inr 1] none) (.cons (.ret (.som (.bi false .str (.cons (.v 1) .nil)))) .nil) (.cons (.seq [.inl (.str "if"), .inr 1, .inr 2, .inr 3] none) (.cons (.ret (.som (.fs (.cons (.k (.str "if p")) (.cons (.v 1) (.cons (.k (.str " then ")) (.cons (.call 10 (.cons (.v 2) .nil)) (.cons (.k (.str " else ")) (.cons (.call 10 (.cons (.v 3) .nil)) .nil))))))))) .nil) (.cons (.seq [.inl (.str "call"), .inr 4, .inr 5] none) (.cons (.ret (.som (.call 11 (.cons (.v 4) (.cons (.v 5) .nil))))) .nil) (.cons (.seq [.inr 6] (some 7)) (.cons (.ret (.som (.call 11 (.cons (.v 6) (.cons (.v 7) .nil))))) .nil) .nil)))))) .nil)⟩
def d11 : Df where
  gn := "call_text"
  x := "call_text"
  q := "call_text"
  st := top 33
  ps := ["word", "arguments"]
  N := ["word", "arguments", "inner", "argument"]
  ir := ⟨2, 4, (.cons (.asg (.n 2) (.me .join (.k (.str ", ")) (.cons (.lc false (.call 10 (.cons (.v 3) .nil)) (.n 3) (.e (.v 1)) .nil) .nil))) (.cons (.ret (.som (.fs (.cons (.v 0) (.cons (.k (.str "(")) (.cons (.v 2) (.cons (.k (.str ")")) .nil))))))) .nil))⟩
def d12 : Df where
  gn := "read_number"
  x := "read_number"
  q := "read_number"
  st := top 34
  ps := ["word"]
  N := ["word", "sign"]
  ir := ⟨1, 2, (.cons (.ifs (.boo .Or (.cons (.un .Not (.ch (.k (.int 1)) .LtE (.bi false .len (.cons (.v 0) .nil)) .LtE (.g 11))) (.cons (.un .Not (.bi false .all (.cons (.lc false (.cmp .In (.v 1) (.g 8)) (.n 1) (.e (.v 0)) .nil) .nil))) .nil))) (.cons (.rai 2 .non) .nil) .nil) (.cons (.ifs (.boo .And (.cons (.cmp .Eq (.sub (.v 0) (.k (.int 0))) (.k (.str "0"))) (.cons (.cmp .NotEq (.v 0) (.k (.str "0"))) .nil))) (.cons (.rai 2 .non) .nil) .nil) (.cons (.ret (.som (.bi false .int (.cons (.v 0) .nil)))) .nil)))⟩
def d13 : Df where
  gn := "ExpressionReader.__init__"
  x := "__init__"
  q := "ExpressionReader.__init__"
  st := (C8.clsBody (top 35)).getD 0 (.Pass ⟨0, 0, 0, 0⟩)
  ps := ["self", "text"]
  N := ["self", "text"]
  ir := ⟨2, 2, (.cons (.sat "ExpressionReader" "own_text" (.v 0) (.v 1)) (.cons (.sat "ExpressionReader" "own_place" (.v 0) (.k (.int 0))) .nil))⟩
def d14 : Df where
  gn := "ExpressionReader.does_follow"
  x := "does_follow"
  q := "ExpressionReader.does_follow"
  st := (C8.clsBody (top 35)).getD 1 (.Pass ⟨0, 0, 0, 0⟩)
  ps := ["self", "word"]
  N := ["self", "word"]
  ir := ⟨2, 2, (.cons (.ret (.som (.cmp .Eq (.slc false (.attr "ExpressionReader" "own_text" (.v 0)) (.som (.attr "ExpressionReader" "own_place" (.v 0))) (.som (.bin false .Add (.attr "ExpressionReader" "own_place" (.v 0)) (.bi false .len (.cons (.v 1) .nil))))) (.v 1)))) .nil)⟩
def d15 : Df where
  gn := "ExpressionReader.skip"
  x := "skip"
  q := "ExpressionReader.skip"
  st := (C8.clsBody (top 35)).getD 2 (.Pass ⟨0, 0, 0, 0⟩)
  ps := ["self", "word"]
  N := ["self", "word"]
  ir := ⟨2, 2, (.cons (.ifs (.un .Not (.mc 14 "ExpressionReader" "does_follow" (.v 0) (.cons (.v 1) .nil))) (.cons (.rai 2 (.som (.fs (.cons (.v 1) (.cons (.k (.str " expected")) .nil))))) .nil) .nil) (.cons (.saug "ExpressionReader" "own_place" .Add (.v 0) (.bi false .len (.cons (.v 1) .nil))) .nil))⟩
def d16 : Df where
  gn := "ExpressionReader.run_of"
  x := "run_of"
  q := "ExpressionReader.run_of"
  st := (C8.clsBody (top 35)).getD 3 (.Pass ⟨0, 0, 0, 0⟩)
  ps := ["self", "signs"]
  N := ["self", "signs", "begin"]
  ir := ⟨2, 3, (.cons (.asg (.n 2) (.attr "ExpressionReader" "own_place" (.v 0))) (.cons (.wh 5000 (.boo .And (.cons (.cmp .Lt (.attr "ExpressionReader" "own_place" (.v 0)) (.bi false .len (.cons (.attr "ExpressionReader" "own_text" (.v 0)) .nil))) (.cons (.cmp .In (.sub (.attr "ExpressionReader" "own_text" (.v 0)) (.attr "ExpressionReader" "own_place" (.v 0))) (.v 1)) .nil))) (.cons (.saug "ExpressionReader" "own_place" .Add (.v 0) (.k (.int 1))) .nil)) (.cons (.ret (.som (.slc false (.attr "ExpressionReader" "own_text" (.v 0)) (.som (.v 2)) (.som (.attr "ExpressionReader" "own_place" (.v 0)))))) .nil)))⟩
def d17 : Df where
  gn := "ExpressionReader.read_expression"
  x := "read_expression"
  q := "ExpressionReader.read_expression"
  st := (C8.clsBody (top 35)).getD 4 (.Pass ⟨0, 0, 0, 0⟩)
  ps := ["self", "depth"]
  N := ["self", "depth", "children", "digits", "word"]
  ir := ⟨2, 5, (.cons (.ifs (.cmp .Eq (.v 1) (.k (.int 0))) (.cons (.rai 2 .non) .nil) .nil) (.cons (.par 3 4 (.mc 16 "ExpressionReader" "run_of" (.v 0) (.cons (.g 8) .nil)) (.mc 16 "ExpressionReader" "run_of" (.v 0) (.cons (.g 9) .nil))) (.cons (.ifs (.cmp .NotEq (.v 3) (.k (.str ""))) (.cons (.ret (.som (.tup (.cons (.k (.str "number")) (.cons (.call 12 (.cons (.bin false .Add (.v 3) (.v 4)) .nil)) .nil))))) .nil) .nil) (.cons (.ifs (.cmp .Eq (.v 4) (.k (.str "if"))) (.cons (.ret (.som (.mc 18 "ExpressionReader" "read_choice" (.v 0) (.cons (.v 1) .nil)))) .nil) .nil) (.cons (.ifs (.boo .And (.cons (.cmp .Eq (.v 4) (.k (.str "p"))) (.cons (.un .Not (.mc 14 "ExpressionReader" "does_follow" (.v 0) (.cons (.k (.str "(")) .nil))) .nil))) (.cons (.ret (.som (.tup (.cons (.k (.str "param")) (.cons (.call 12 (.cons (.mc 16 "ExpressionReader" "run_of" (.v 0) (.cons (.g 8) .nil)) .nil)) .nil))))) .nil) .nil) (.cons (.asg (.n 2) (.mc 19 "ExpressionReader" "read_arguments" (.v 0) (.cons (.v 1) .nil))) (.cons (.ifs (.cmp .NotIn (.v 4) (.g 12)) (.cons (.ret (.som (.tup (.cons (.k (.str "call")) (.cons (.v 4) (.cons (.v 2) .nil)))))) .nil) .nil) (.cons (.ifs (.cmp .NotEq (.bi false .len (.cons (.v 2) .nil)) (.sub (.g 12) (.v 4))) (.cons (.rai 2 .non) .nil) .nil) (.cons (.ret (.som (.tup (.cons (.v 4) (.star (.v 2) .nil))))) .nil)))))))))⟩
def d18 : Df where
  gn := "ExpressionReader.read_choice"
  x := "read_choice"
  q := "ExpressionReader.read_choice"
  st := (C8.clsBody (top 35)).getD 5 (.Pass ⟨0, 0, 0, 0⟩)
  ps := ["self", "depth"]
  N := ["self", "depth", "number", "first"]
  ir := ⟨2, 4, (.cons (.exp (.mc 15 "ExpressionReader" "skip" (.v 0) (.cons (.k (.str " p")) .nil))) (.cons (.asg (.n 2) (.call 12 (.cons (.mc 16 "ExpressionReader" "run_of" (.v 0) (.cons (.g 8) .nil)) .nil))) (.cons (.exp (.mc 15 "ExpressionReader" "skip" (.v 0) (.cons (.k (.str " then ")) .nil))) (.cons (.asg (.n 3) (.mc 17 "ExpressionReader" "read_expression" (.v 0) (.cons (.bin false .Sub (.v 1) (.k (.int 1))) .nil))) (.cons (.exp (.mc 15 "ExpressionReader" "skip" (.v 0) (.cons (.k (.str " else ")) .nil))) (.cons (.ret (.som (.tup (.cons (.k (.str "if")) (.cons (.v 2) (.cons (.v 3) (.cons (.mc 17 "ExpressionReader" "read_expression" (.v 0) (.cons (.bin false .Sub (.v 1) (.k (.int 1))) .nil)) .nil))))))) .nil))))))⟩
def d19 : Df where
  gn := "ExpressionReader.read_arguments"
  x := "read_arguments"
  q := "ExpressionReader.read_arguments"
  st := (C8.clsBody (top 35)).getD 6 (.Pass ⟨0, 0, 0, 0⟩)
  ps := ["self", "depth"]
  N := ["self", "depth", "found"]
  ir := ⟨2, 3, (.cons (.exp (.mc 15 "ExpressionReader" "skip" (.v 0) (.cons (.k (.str "(")) .nil))) (.cons (.asg (.n 2) (.lst true .nil)) (.cons (.wh 5000 (.un .Not (.mc 14 "ExpressionReader" "does_follow" (.v 0) (.cons (.k (.str ")")) .nil))) (.cons (.ifs (.cmp .NotEq (.v 2) (.lst false .nil)) (.cons (.exp (.mc 15 "ExpressionReader" "skip" (.v 0) (.cons (.k (.str ", ")) .nil))) .nil) .nil) (.cons (.exp (.me .append (.v 2) (.cons (.mc 17 "ExpressionReader" "read_expression" (.v 0) (.cons (.bin false .Sub (.v 1) (.k (.int 1))) .nil)) .nil))) .nil))) (.cons (.exp (.mc 15 "ExpressionReader" "skip" (.v 0) (.cons (.k (.str ")")) .nil))) (.cons (.ret (.som (.bi false .tuple (.cons (.v 2) .nil)))) .nil)))))⟩
def d20 : Df where
  gn := "ExpressionReader.read_whole"
  x := "read_whole"
  q := "ExpressionReader.read_whole"
  st := (C8.clsBody (top 35)).getD 7 (.Pass ⟨0, 0, 0, 0⟩)
  ps := ["self", "arity"]
  N := ["self", "arity", "found"]
  ir := ⟨2, 3, (.cons (.asg (.n 2) (.mc 17 "ExpressionReader" "read_expression" (.v 0) (.cons (.g 4) .nil))) (.cons (.ifs (.boo .Or (.cons (.cmp .Lt (.attr "ExpressionReader" "own_place" (.v 0)) (.bi false .len (.cons (.attr "ExpressionReader" "own_text" (.v 0)) .nil))) (.cons (.un .Not (.call 9 (.cons (.v 1) (.cons (.v 2) .nil)))) .nil))) (.cons (.rai 2 .non) .nil) .nil) (.cons (.ret (.som (.v 2))) .nil)))⟩
def d21 : Df where
  gn := "require_text"
  x := "require_text"
  q := "require_text"
  st := top 36
  ps := ["text"]
  N := ["text"]
  ir := ⟨1, 1, (.cons (.ifs (.un .Not (.isi (.v 0) [.str])) (.cons (.rai 2 .non) .nil) .nil) .nil)⟩
def d22 : Df where
  gn := "require_arity_formats"
  x := "require_arity"
  q := "require_arity"
  st := top 37
  ps := ["arity"]
  N := ["arity"]
  ir := ⟨1, 1, (.cons (.ifs (.un .Not (.call 0 (.cons (.v 0) (.cons (.k (.int 0)) (.cons (.g 10) .nil))))) (.cons .stk .nil) .nil) .nil)⟩
def d23 : Df where
  gn := "format_expression"
  x := "format_expression"
  q := "format_expression"
  st := top 39
  ps := ["arity", "expression"]
  N := ["arity", "expression"]
  ir := ⟨2, 2, (.cons (.exp (.call 22 (.cons (.v 0) .nil))) (.cons (.ifs (.un .Not (.call 9 (.cons (.v 0) (.cons (.v 1) .nil)))) (.cons (.rai 1 .non) .nil) .nil) (.cons (.ret (.som (.call 10 (.cons (.v 1) .nil)))) .nil)))⟩
def d24 : Df where
  gn := "parse_expression"
  x := "parse_expression"
  q := "parse_expression"
  st := top 40
  ps := ["arity", "text"]
  N := ["arity", "text"]
  ir := ⟨2, 2, (.cons (.exp (.call 22 (.cons (.v 0) .nil))) (.cons (.exp (.call 21 (.cons (.v 1) .nil))) (.cons (.ret (.som (.mc 20 "ExpressionReader" "read_whole" (.mk 13 "ExpressionReader" (.cons (.v 1) .nil)) (.cons (.v 0) .nil)))) .nil)))⟩
def d25 : Df where
  gn := "_law_stream"
  x := "_law_stream"
  q := "_law_stream"
  st := top 42
  ps := ["script", "at"]
  N := ["script", "at", "cell", "great", "mixed"]
  ir := ⟨2, 5, (.cons (.asg (.n 2) (.bin false .Add (.bin false .Mult (.k (.int 7)) (.v 1)) (.k (.int 3)))) (.cons (.ifs (.cmp .Lt (.v 1) (.bi false .len (.cons (.v 0) .nil))) (.cons (.asg (.n 2) (.sub (.v 0) (.v 1))) .nil) .nil) (.cons (.asg (.n 3) (.bin false .Mod (.bi false .abs (.cons (.v 2) .nil)) (.bin false .Pow (.bin false .Pow (.k (.int 10)) (.k (.int 60))) (.k (.int 12))))) (.cons (.asg (.n 4) (.bin false .Mod (.bin false .Add (.bin false .Add (.bin false .Add (.bin false .Mult (.bin false .Mod (.v 3) (.k (.int 2147483629))) (.k (.int 48271))) (.bin false .Mult (.k (.int 977)) (.v 1))) (.bin false .Mult (.k (.int 2)) (.bi false .int (.cons (.cmp .Lt (.v 2) (.k (.int 0))) .nil)))) (.k (.int 11))) (.k (.int 2147483647)))) (.cons (.ret (.som (.lst true (.cons (.bi true .max (.cons (.k (.int 0)) (.cons (.bin true .Sub (.v 3) (.bin true .Pow (.k (.int 10)) (.k (.int 18)))) .nil))) (.cons (.v 4) (.cons (.k (.int 0)) .nil)))))) .nil)))))⟩
def d26 : Df where
  gn := "_law_draw"
  x := "_law_draw"
  q := "_law_draw"
  st := top 43
  ps := ["stream", "total"]
  N := ["stream", "total", "one", "two", "found"]
  ir := ⟨2, 5, (.cons (.ifs (.cmp .Gt (.sub (.v 0) (.k (.int 0))) (.k (.int 0))) (.cons (.asg (.n 4) (.bin false .Mod (.sub (.v 0) (.k (.int 0))) (.v 1))) (.cons (.asg (.s (.v 0) (.k (.int 0))) (.bin false .FloorDiv (.sub (.v 0) (.k (.int 0))) (.v 1))) (.cons (.ret (.som (.v 4))) .nil))) .nil) (.cons (.asg (.s (.v 0) (.k (.int 2))) (.bin false .Add (.sub (.v 0) (.k (.int 2))) (.k (.int 1)))) (.cons (.asg (.n 2) (.bin false .Mod (.bin false .Add (.sub (.v 0) (.k (.int 1))) (.bin false .Mult (.k (.int 1000003)) (.sub (.v 0) (.k (.int 2))))) (.k (.int 2305843009213693951)))) (.cons (.asg (.n 3) (.bin false .Mod (.bin false .Add (.bin false .Mult (.bin false .Mod (.bin false .Mult (.v 2) (.v 2)) (.k (.int 2305843009213693921))) (.v 2)) (.bin false .Mult (.k (.int 8191)) (.sub (.v 0) (.k (.int 2))))) (.k (.int 2305843009213693907)))) (.cons (.ret (.som (.bin false .Mod (.bin false .FloorDiv (.v 3) (.k (.int 4096))) (.v 1)))) .nil)))))⟩
def d27 : Df where
  gn := "_law_pick"
  x := "_law_pick"
  q := "_law_pick"
  st := top 44
  ps := ["stream", "items"]
  N := ["stream", "items"]
  ir := ⟨2, 2, (.cons (.ret (.som (.sub (.v 1) (.call 26 (.cons (.v 0) (.cons (.bi false .len (.cons (.v 1) .nil)) .nil)))))) .nil)⟩
def d28 : Df where
  gn := "_law_names"
  x := "_law_names"
  q := "_law_names"
  st := top 45
  ps := ["stream", "total"]
  N := ["stream", "total", "at", "letters", "found", "word", "turn", "last"]
  ir := ⟨2, 8, (.cons (.par 3 4 (.k (.str "abcdefghijklmnopqrstuvwxyz")) (.lst true .nil)) (.cons (.fo (.n 2) (.r1 (.v 1)) (.cons (.asg (.n 5) (.k (.str ""))) (.cons (.fo (.n 6) (.r1 (.sub (.lst false (.cons (.k (.int 0)) (.cons (.k (.int 0)) (.cons (.k (.int 1)) (.cons (.k (.int 7)) .nil))))) (.call 26 (.cons (.v 0) (.cons (.k (.int 4)) .nil))))) (.cons (.asg (.n 5) (.bin false .Add (.v 5) (.sub (.v 3) (.call 26 (.cons (.v 0) (.cons (.k (.int 26)) .nil)))))) .nil)) (.cons (.asg (.n 7) (.sub (.v 3) (.bin false .Add (.bin false .Mult (.k (.int 3)) (.v 2)) (.call 26 (.cons (.v 0) (.cons (.k (.int 3)) .nil)))))) (.cons (.exp (.me .append (.v 4) (.cons (.ife (.cmp .In (.bin false .Add (.v 5) (.v 7)) (.tup (.cons (.k (.str "dec")) (.cons (.k (.str "else")) (.cons (.k (.str "if")) (.cons (.k (.str "inc")) (.cons (.k (.str "max")) (.cons (.k (.str "min")) (.cons (.k (.str "then")) .nil))))))))) (.v 7) (.bin false .Add (.v 5) (.v 7))) .nil))) .nil))))) (.cons (.ret (.som (.bi false .sorted (.cons (.v 4) .nil)))) .nil)))⟩
def d29 : Df where
  gn := "_law_expression"
  x := "_law_expression"
  q := "_law_expression"
  st := top 46
  ps := ["stream", "header", "arity", "deep"]
  N := ["stream", "header", "arity", "deep", "way", "tested", "one", "other", "name", "total", "turn"]
  ir := ⟨4, 11, (.cons (.asg (.n 4) (.call 26 (.cons (.v 0) (.cons (.k (.int 9)) .nil)))) (.cons (.ifs (.boo .Or (.cons (.cmp .Lt (.v 3) (.k (.int 2))) (.cons (.cmp .Lt (.v 4) (.k (.int 2))) .nil))) (.cons (.ifs (.boo .And (.cons (.cmp .Gt (.v 2) (.k (.int 0))) (.cons (.cmp .Gt (.call 26 (.cons (.v 0) (.cons (.k (.int 5)) .nil))) (.k (.int 0))) .nil))) (.cons (.ret (.som (.tup (.cons (.k (.str "param")) (.cons (.call 26 (.cons (.v 0) (.cons (.v 2) .nil))) .nil))))) .nil) .nil) (.cons (.ret (.som (.tup (.cons (.k (.str "number")) (.cons (.sub (.lst false (.cons (.k (.int 0)) (.cons (.k (.int 0)) (.cons (.k (.int 1)) (.cons (.k (.int 2)) (.cons (.k (.int 7)) .nil)))))) (.call 26 (.cons (.v 0) (.cons (.k (.int 5)) .nil)))) .nil))))) .nil)) .nil) (.cons (.ifs (.cmp .Lt (.v 4) (.k (.int 5))) (.cons (.ret (.som (.tup (.cons (.sub (.lst false (.cons (.k (.str "inc")) (.cons (.k (.str "dec")) (.cons (.k (.str "dec")) .nil)))) (.bin false .Sub (.v 4) (.k (.int 2)))) (.cons (.call 29 (.cons (.v 0) (.cons (.v 1) (.cons (.v 2) (.cons (.bin false .Sub (.v 3) (.k (.int 1))) .nil))))) .nil))))) .nil) .nil) (.cons (.ifs (.boo .And (.cons (.cmp .Eq (.v 4) (.k (.int 7))) (.cons (.cmp .Gt (.v 2) (.k (.int 0))) .nil))) (.cons (.asg (.n 5) (.call 26 (.cons (.v 0) (.cons (.v 2) .nil)))) (.cons (.asg (.t (.cons (.n 6) (.cons (.n 7) .nil))) (.lc false (.call 29 (.cons (.v 0) (.cons (.v 1) (.cons (.v 2) (.cons (.bin false .Sub (.v 3) (.k (.int 1))) .nil))))) (.n 10) (.r1 (.k (.int 2))) .nil)) (.cons (.ret (.som (.tup (.cons (.k (.str "if")) (.cons (.v 5) (.cons (.v 6) (.cons (.v 7) .nil))))))) .nil))) .nil) (.cons (.ifs (.boo .And (.cons (.cmp .Gt (.v 4) (.k (.int 6))) (.cons (.cmp .NotEq (.v 1) (.tup .nil)) .nil))) (.cons (.asg (.t (.cons (.n 8) (.cons (.n 9) .nil))) (.call 27 (.cons (.v 0) (.cons (.v 1) .nil)))) (.cons (.ret (.som (.tup (.cons (.k (.str "call")) (.cons (.v 8) (.cons (.bi false .tuple (.cons (.lc false (.call 29 (.cons (.v 0) (.cons (.v 1) (.cons (.v 2) (.cons (.bin false .Sub (.v 3) (.k (.int 1))) .nil))))) (.n 10) (.r1 (.v 9)) .nil) .nil)) .nil)))))) .nil)) .nil) (.cons (.asg (.t (.cons (.n 6) (.cons (.n 7) .nil))) (.lc false (.call 29 (.cons (.v 0) (.cons (.v 1) (.cons (.v 2) (.cons (.bin false .Sub (.v 3) (.k (.int 1))) .nil))))) (.n 10) (.r1 (.k (.int 2))) .nil)) (.cons (.ret (.som (.tup (.cons (.sub (.lst false (.cons (.k (.str "min")) (.cons (.k (.str "max")) .nil))) (.call 26 (.cons (.v 0) (.cons (.k (.int 2)) .nil)))) (.cons (.v 6) (.cons (.v 7) .nil)))))) .nil)))))))⟩
def d30 : Df where
  gn := "_law_written"
  x := "_law_written"
  q := "_law_written"
  st := top 47
  ps := ["expression"]
  N := ["expression", "kind", "pair", "word", "children", "child"]
  ir := ⟨1, 6, (.cons (.asg (.n 1) (.sub (.v 0) (.k (.int 0)))) (.cons (.ifs (.cmp .Eq (.v 1) (.k (.str "param"))) (.cons (.ret (.som (.bin false .Add (.k (.str "p")) (.bi false .str (.cons (.sub (.v 0) (.k (.int 1))) .nil))))) .nil) .nil) (.cons (.ifs (.cmp .Eq (.v 1) (.k (.str "number"))) (.cons (.ret (.som (.bi false .str (.cons (.sub (.v 0) (.k (.int 1))) .nil)))) .nil) .nil) (.cons (.ifs (.cmp .Eq (.v 1) (.k (.str "if"))) (.cons (.asg (.n 2) (.lc false (.call 30 (.cons (.v 5) .nil)) (.n 5) (.e (.slc false (.v 0) (.som (.k (.int 2))) .non)) .nil)) (.cons (.ret (.som (.bin false .Add (.bin false .Add (.bin false .Add (.bin false .Add (.bin false .Add (.k (.str "if p")) (.bi false .str (.cons (.sub (.v 0) (.k (.int 1))) .nil))) (.k (.str " then "))) (.sub (.v 2) (.k (.int 0)))) (.k (.str " else "))) (.sub (.v 2) (.k (.int 1)))))) .nil)) .nil) (.cons (.asg (.t (.cons (.n 3) (.cons (.n 4) .nil))) (.ife (.cmp .Eq (.v 1) (.k (.str "call"))) (.tup (.cons (.sub (.v 0) (.k (.int 1))) (.cons (.sub (.v 0) (.k (.int 2))) .nil))) (.tup (.cons (.v 1) (.cons (.slc false (.v 0) (.som (.k (.int 1))) .non) .nil))))) (.cons (.ret (.som (.bin false .Add (.bin false .Add (.bin false .Add (.v 3) (.k (.str "("))) (.me .join (.k (.str ", ")) (.cons (.lc false (.call 30 (.cons (.v 5) .nil)) (.n 5) (.e (.v 4)) .nil) .nil))) (.k (.str ")"))))) .nil))))))⟩
def d31 : Df where
  gn := "_law_is_word"
  x := "_law_is_word"
  q := "_law_is_word"
  st := top 48
  ps := ["value"]
  N := ["value", "sign"]
  ir := ⟨1, 2, (.cons (.ifs (.boo .Or (.cons (.un .Not (.isi (.v 0) [.str])) (.cons (.un .Not (.ch (.k (.int 1)) .LtE (.bi false .len (.cons (.v 0) .nil)) .LtE (.k (.int 8)))) .nil))) (.cons (.ret (.som (.k (.bool false)))) .nil) .nil) (.cons (.ifs (.cmp .NotEq (.lc false (.v 1) (.n 1) (.e (.v 0)) (.cons (.cmp .NotIn (.v 1) (.k (.str "abcdefghijklmnopqrstuvwxyz"))) .nil)) (.lst false .nil)) (.cons (.ret (.som (.k (.bool false)))) .nil) .nil) (.cons (.ret (.som (.cmp .NotIn (.v 0) (.lst false (.cons (.k (.str "dec")) (.cons (.k (.str "else")) (.cons (.k (.str "if")) (.cons (.k (.str "inc")) (.cons (.k (.str "max")) (.cons (.k (.str "min")) (.cons (.k (.str "then")) .nil))))))))))) .nil)))⟩
def d32 : Df where
  gn := "_law_is_number"
  x := "_law_is_number"
  q := "_law_is_number"
  st := top 49
  ps := ["value", "low", "high"]
  N := ["value", "low", "high"]
  ir := ⟨3, 3, (.cons (.ret (.som (.boo .And (.cons (.isi (.v 0) [.int]) (.cons (.un .Not (.isi (.v 0) [.bool])) (.cons (.ch (.v 1) .LtE (.v 0) .LtE (.v 2)) .nil)))))) .nil)⟩
def d33 : Df where
  gn := "_law_size"
  x := "_law_size"
  q := "_law_size"
  st := top 50
  ps := ["value", "arity", "deep"]
  N := ["value", "arity", "deep", "kind", "children", "form", "child"]
  ir := ⟨3, 7, (.cons (.ifs (.boo .Or (.cons (.cmp .Eq (.v 2) (.k (.int 0))) (.cons (.un .Not (.isi (.v 0) [.tuple])) (.cons (.cmp .Lt (.bi false .len (.cons (.v 0) .nil)) (.k (.int 2))) (.cons (.un .Not (.isi (.sub (.v 0) (.k (.int 0))) [.str])) .nil))))) (.cons (.ret (.som (.k (.int 1000)))) .nil) .nil) (.cons (.par3 3 4 5 (.sub (.v 0) (.k (.int 0))) (.tup .nil) (.k (.bool false))) (.cons (.ifs (.cmp .In (.v 3) (.tup (.cons (.k (.str "param")) (.cons (.k (.str "number")) .nil)))) (.cons (.asg (.n 5) (.boo .And (.cons (.cmp .Eq (.bi false .len (.cons (.v 0) .nil)) (.k (.int 2))) (.cons (.call 32 (.cons (.sub (.v 0) (.k (.int 1))) (.cons (.k (.int 0)) (.cons (.ife (.cmp .Eq (.v 3) (.k (.str "param"))) (.bin false .Sub (.v 1) (.k (.int 1))) (.k (.int 1000))) .nil)))) .nil)))) .nil) (.cons (.ifs (.cmp .In (.v 3) (.tup (.cons (.k (.str "inc")) (.cons (.k (.str "dec")) (.cons (.k (.str "min")) (.cons (.k (.str "max")) .nil)))))) (.cons (.par 5 4 (.cmp .Eq (.bi false .len (.cons (.v 0) .nil)) (.bin false .Add (.k (.int 2)) (.bi false .int (.cons (.cmp .In (.v 3) (.tup (.cons (.k (.str "min")) (.cons (.k (.str "max")) .nil)))) .nil)))) (.slc false (.v 0) (.som (.k (.int 1))) .non)) .nil) (.cons (.ifs (.boo .And (.cons (.cmp .Eq (.v 3) (.k (.str "if"))) (.cons (.cmp .Eq (.bi false .len (.cons (.v 0) .nil)) (.k (.int 4))) .nil))) (.cons (.par 5 4 (.call 32 (.cons (.sub (.v 0) (.k (.int 1))) (.cons (.k (.int 0)) (.cons (.bin false .Sub (.v 1) (.k (.int 1))) .nil)))) (.slc false (.v 0) (.som (.k (.int 2))) .non)) .nil) (.cons (.ifs (.boo .And (.cons (.cmp .Eq (.v 3) (.k (.str "call"))) (.cons (.cmp .Eq (.bi false .len (.cons (.v 0) .nil)) (.k (.int 3))) (.cons (.isi (.sub (.v 0) (.k (.int 2))) [.tuple]) .nil)))) (.cons (.par 5 4 (.boo .And (.cons (.call 31 (.cons (.sub (.v 0) (.k (.int 1))) .nil)) (.cons (.cmp .Lt (.bi false .len (.cons (.sub (.v 0) (.k (.int 2))) .nil)) (.k (.int 5))) .nil))) (.sub (.v 0) (.k (.int 2)))) .nil) .nil) .nil)) .nil)) .nil)) (.cons (.ret (.som (.ife (.v 5) (.bin false .Add (.k (.int 1)) (.bi false .sum (.cons (.lc false (.call 33 (.cons (.v 6) (.cons (.v 1) (.cons (.bin false .Sub (.v 2) (.k (.int 1))) .nil)))) (.n 6) (.e (.v 4)) .nil) .nil))) (.k (.int 1000))))) .nil))))⟩
def d34 : Df where
  gn := "_law_is_expression"
  x := "_law_is_expression"
  q := "_law_is_expression"
  st := top 51
  ps := ["value", "arity"]
  N := ["value", "arity"]
  ir := ⟨2, 2, (.cons (.ret (.som (.cmp .Lt (.call 33 (.cons (.v 0) (.cons (.v 1) (.cons (.k (.int 6)) .nil)))) (.k (.int 41))))) .nil)⟩
def d35 : Df where
  gn := "_law_drawn_expression"
  x := "_law_drawn_expression"
  q := "_law_drawn_expression"
  st := top 52
  ps := ["stream", "arity"]
  N := ["stream", "arity", "header", "found", "name"]
  ir := ⟨2, 5, (.cons (.asg (.n 2) (.bi false .tuple (.cons (.lc false (.tup (.cons (.v 4) (.cons (.call 26 (.cons (.v 0) (.cons (.k (.int 5)) .nil))) .nil))) (.n 4) (.e (.call 28 (.cons (.v 0) (.cons (.bin false .Add (.k (.int 1)) (.call 26 (.cons (.v 0) (.cons (.k (.int 6)) .nil)))) .nil)))) .nil) .nil))) (.cons (.asg (.n 3) (.call 29 (.cons (.v 0) (.cons (.v 2) (.cons (.v 1) (.cons (.bin false .Add (.k (.int 1)) (.call 26 (.cons (.v 0) (.cons (.k (.int 6)) .nil)))) .nil)))))) (.cons (.ifs (.cmp .Eq (.call 26 (.cons (.v 0) (.cons (.k (.int 9)) .nil))) (.k (.int 0))) (.cons (.asg (.n 3) (.tup (.cons (.k (.str "number")) (.cons (.sub (.lst false (.cons (.k (.int 9)) (.cons (.k (.int 10)) (.cons (.k (.int 99)) (.cons (.k (.int 100)) (.cons (.k (.int 999)) (.cons (.k (.int 1000)) .nil))))))) (.call 26 (.cons (.v 0) (.cons (.k (.int 6)) .nil)))) .nil)))) .nil) .nil) (.cons (.ret (.som (.ife (.call 34 (.cons (.v 3) (.cons (.v 1) .nil))) (.v 3) (.tup (.cons (.k (.str "call")) (.cons (.sub (.sub (.v 2) (.k (.int 0))) (.k (.int 0))) (.cons (.tup (.cons (.tup (.cons (.k (.str "number")) (.cons (.k (.int 0)) .nil))) .nil)) .nil))))))) .nil))))⟩
def d36 : Df where
  gn := "_law_bent_text"
  x := "_law_bent_text"
  q := "_law_bent_text"
  st := top 53
  ps := ["stream", "text"]
  N := ["stream", "text", "signs", "olds", "old", "news", "at", "way", "left", "found", "right"]
  ir := ⟨2, 11, (.cons (.par 6 7 (.call 26 (.cons (.v 0) (.cons (.bin false .Add (.bi false .len (.cons (.v 1) .nil)) (.k (.int 1))) .nil))) (.call 26 (.cons (.v 0) (.cons (.k (.int 10)) .nil)))) (.cons (.asg (.n 2) (.lst false (.cons (.k (.str " ")) (.cons (.k (.str "0")) (.cons (.k (.str "1")) (.cons (.k (.str "p")) (.cons (.k (.str "(")) (.cons (.k (.str ")")) (.cons (.k (.str ",")) (.cons (.k (.str ", ")) (.cons (.k (.str "A")) (.cons (.k (.str "-")) (.cons (.k (.str "+")) (.cons (.k (.str "_")) (.cons (.k (.str ".")) (.cons (.k (.str ">")) (.cons (.k (.str "=")) (.cons (.k (.str "/")) (.cons (.k (.str ":")) (.cons (.k (.str "f")) (.cons (.k (.str "\n")) (.cons (.k (.str "dec")) .nil)))))))))))))))))))))) (.cons (.ifs (.cmp .Lt (.v 7) (.k (.int 4))) (.cons (.ret (.som (.bin false .Add (.bin false .Add (.slc false (.v 1) .non (.som (.v 6))) (.call 27 (.cons (.v 0) (.cons (.v 2) .nil)))) (.slc false (.v 1) (.som (.v 6)) .non)))) .nil) .nil) (.cons (.ifs (.cmp .Lt (.v 7) (.k (.int 6))) (.cons (.ret (.som (.bin false .Add (.slc false (.v 1) .non (.som (.v 6))) (.slc false (.v 1) (.som (.bin false .Add (.v 6) (.k (.int 1)))) .non)))) .nil) .nil) (.cons (.ifs (.cmp .Eq (.v 7) (.k (.int 6))) (.cons (.ret (.som (.bin false .Add (.bin false .Add (.slc false (.v 1) .non (.som (.v 6))) (.me .upper (.slc false (.v 1) (.som (.v 6)) (.som (.bin false .Add (.v 6) (.k (.int 1))))) .nil)) (.slc false (.v 1) (.som (.bin false .Add (.v 6) (.k (.int 1)))) .non)))) .nil) .nil) (.cons (.asg (.n 3) (.lst false (.cons (.k (.str ", ")) (.cons (.k (.str " then ")) (.cons (.k (.str " else ")) (.cons (.k (.str "if ")) (.cons (.k (.str "(")) (.cons (.k (.str ")")) (.cons (.k (.str "p0")) (.cons (.k (.str "dec")) (.cons (.k (.str "1")) (.cons (.k (.str " = ")) (.cons (.k (.str "/")) (.cons (.k (.str " -> ")) (.cons (.k (.str ": ")) (.cons (.k (.str ">=")) (.cons (.k (.str "functions ")) .nil))))))))))))))))) (.cons (.asg (.n 4) (.call 27 (.cons (.v 0) (.cons (.v 3) .nil)))) (.cons (.asg (.n 5) (.lst false (.cons (.k (.str "")) (.cons (.k (.str ",")) (.cons (.k (.str " ")) (.cons (.k (.str "  ")) (.cons (.k (.str "then")) (.cons (.k (.str "(")) (.cons (.k (.str "inc")) (.cons (.k (.str "min")) (.cons (.k (.str "p1")) (.cons (.k (.str "p4")) (.cons (.k (.str "01")) (.cons (.k (.str "=")) (.cons (.k (.str ">")) (.cons (.k (.str "-")) (.cons (.k (.str "0")) .nil))))))))))))))))) (.cons (.ifs (.cmp .Eq (.v 7) (.k (.int 7))) (.cons (.asg (.t (.cons (.n 8) (.cons (.n 9) (.cons (.n 10) .nil)))) (.me .partition (.v 1) (.cons (.v 4) .nil))) (.cons (.ret (.som (.bin false .Add (.bin false .Add (.v 8) (.call 27 (.cons (.v 0) (.cons (.v 5) .nil)))) (.v 10)))) .nil)) .nil) (.cons (.ret (.som (.sub (.lst false (.cons (.bin false .Add (.v 1) (.v 1)) (.cons (.bin false .Add (.k (.str " ")) (.v 1)) (.cons (.bin false .Add (.v 1) (.k (.str " "))) (.cons (.rev (.v 1)) (.cons (.bin false .Add (.v 1) (.k (.str "\n"))) (.cons (.bin false .Add (.k (.str "\n")) (.v 1)) .nil))))))) (.call 26 (.cons (.v 0) (.cons (.k (.int 6)) .nil)))))) .nil))))))))))⟩
def d37 : Df where
  gn := "_law_read"
  x := "_law_read"
  q := "_law_read"
  st := top 54
  ps := ["method", "first", "text"]
  N := ["method", "first", "text"]
  ir := ⟨3, 3, (.cons (.tr (.cons (.ret (.som (.ife (.cmp .IsNot (.v 1) (.k .none)) (.cv 0 24 "parse_expression" (.cons (.v 1) (.cons (.v 2) .nil))) (.cv 0 24 "parse_expression" (.cons (.v 2) .nil))))) .nil) 2 [false, false, true] none (.cons (.ret (.som (.k (.str "parse")))) .nil)) .nil)⟩
def d38 : Df where
  gn := "_law_sound"
  x := "_law_sound"
  q := "_law_sound"
  st := top 55
  ps := ["arity", "text"]
  N := ["arity", "text", "told"]
  ir := ⟨2, 3, (.cons (.asg (.n 2) (.call 37 (.cons (.fv "parse_expression") (.cons (.v 0) (.cons (.v 1) .nil))))) (.cons (.ret (.som (.boo .Or (.cons (.cmp .Eq (.v 2) (.k (.str "parse"))) (.cons (.boo .And (.cons (.call 34 (.cons (.v 2) (.cons (.v 0) .nil))) (.cons (.cmp .Eq (.call 30 (.cons (.v 2) .nil)) (.v 1)) .nil))) .nil))))) .nil))⟩
def d39 : Df where
  gn := "_law_expression_right"
  x := "_law_expression_right"
  q := "_law_expression_right"
  st := top 56
  ps := ["stream", "arity"]
  N := ["stream", "arity", "made", "other", "turn", "kept", "text", "due"]
  ir := ⟨2, 8, (.cons (.asg (.n 2) (.call 35 (.cons (.v 0) (.cons (.v 1) .nil)))) (.cons (.par 5 6 (.bi false .repr (.cons (.v 2) .nil)) (.call 30 (.cons (.v 2) .nil))) (.cons (.ifs (.cmp .NotEq (.lst false (.cons (.call 23 (.cons (.v 1) (.cons (.v 2) .nil))) (.cons (.call 23 (.cons (.v 1) (.cons (.v 2) .nil))) .nil))) (.lst false (.cons (.v 6) (.cons (.v 6) .nil)))) (.cons (.ret (.som (.k (.bool false)))) .nil) .nil) (.cons (.ifs (.cmp .NotEq (.bi false .repr (.cons (.v 2) .nil)) (.v 5)) (.cons (.ret (.som (.k (.bool false)))) .nil) .nil) (.cons (.fo (.n 3) (.r1 (.k (.int 5))) (.cons (.asg (.n 7) (.ife (.call 34 (.cons (.v 2) (.cons (.v 3) .nil))) (.v 2) (.k (.str "parse")))) (.cons (.ifs (.cmp .NotEq (.bi false .repr (.cons (.call 37 (.cons (.fv "parse_expression") (.cons (.v 3) (.cons (.v 6) .nil)))) .nil)) (.bi false .repr (.cons (.v 7) .nil))) (.cons (.ret (.som (.k (.bool false)))) .nil) .nil) .nil))) (.cons (.fo (.n 4) (.r1 (.k (.int 5))) (.cons (.ifs (.un .Not (.call 38 (.cons (.v 1) (.cons (.call 36 (.cons (.v 0) (.cons (.v 6) .nil))) .nil)))) (.cons (.ret (.som (.k (.bool false)))) .nil) .nil) .nil)) (.cons (.ret (.som (.k (.bool true)))) .nil)))))))⟩
def d40 : Df where
  gn := "_law_wide"
  x := "_law_wide"
  q := "_law_wide"
  st := top 57
  ps := ["part"]
  N := ["part", "chain"]
  ir := ⟨1, 2, (.cons (.asg (.n 1) (.k (.str "min(2, min(3, min(4, 5)))"))) (.cons (.ret (.som (.bin false .Add (.bin false .Add (.k (.str "f(")) (.me .join (.k (.str ", ")) (.cons (.bin false .Add (.bin false .Mult (.lst false (.cons (.bin false .Add (.bin false .Add (.k (.str "min(1, ")) (.v 1)) (.k (.str ")"))) .nil)) (.k (.int 3))) (.lst false (.cons (.bin false .Add (.bin false .Add (.bin false .Add (.bin false .Add (.k (.str "min(")) (.v 0)) (.k (.str ", "))) (.v 1)) (.k (.str ")"))) .nil))) .nil))) (.k (.str ")"))))) .nil))⟩
def d41 : Df where
  gn := "_law_bad_texts"
  x := "_law_bad_texts"
  q := "_law_bad_texts"
  st := top 58
  ps := []
  N := ["found"]
  ir := ⟨0, 1, (.cons (.asg (.n 0) (.lst false (.cons (.k (.str "1001")) (.cons (.k (.str "00")) (.cons (.k (.str "01")) (.cons (.k (.str "p4")) (.cons (.k (.str "p01")) (.cons (.k (.str "p")) (.cons (.k (.str "p-1")) (.cons (.k (.str "-1")) (.cons (.k (.str "f")) (.cons (.k (.str "if(1, 2)")) (.cons (.k (.str "then()")) (.cons (.k (.str "else(1)")) (.cons (.k (.str "inc()")) .nil))))))))))))))) (.cons (.asg (.n 0) (.bin false .Add (.v 0) (.lst false (.cons (.k (.str "inc(1, 2)")) (.cons (.k (.str "min(1)")) (.cons (.k (.str "max(1, 2, 3)")) (.cons (.k (.str "f(1,2)")) (.cons (.k (.str "f(1,  2)")) (.cons (.k (.str "f( 1)")) (.cons (.k (.str "f(1 )")) (.cons (.k (.str "f (1)")) (.cons (.k (.str "f(1))")) .nil)))))))))))) (.cons (.asg (.n 0) (.bin false .Add (.v 0) (.lst false (.cons (.k (.str "f(1")) (.cons (.k (.str "")) (.cons (.k (.str " ")) (.cons (.k (.str "dec(p0, 1)")) (.cons (.k (.str "dec p0")) (.cons (.k (.str "p0()")) (.cons (.k (.str "1_0")) (.cons (.k (.str "1_000")) (.cons (.k (.str "p0_0")) (.cons (.k (.str "+1")) (.cons (.k (.str "pp0")) (.cons (.k (.str "p 0")) (.cons (.k (.str "pp")) .nil)))))))))))))))) (.cons (.asg (.n 0) (.bin false .Add (.v 0) (.lst false (.cons (.k (.str "f(1, 2, 3, 4, 5)")) (.cons (.k (.str "f(1, )")) (.cons (.k (.str "f(, 1)")) (.cons (.k (.str "if p0 then 1")) (.cons (.k (.str "if p0 then 1 else")) (.cons (.k (.str "F()")) (.cons (.k (.str "()")) (.cons (.k (.str "p0 p1")) .nil))))))))))) (.cons (.asg (.n 0) (.bin false .Add (.v 0) (.lst false (.cons (.k (.str "abcdefghi()")) (.cons (.k (.str "1 + 2")) (.cons (.bin false .Mult (.k (.str "dec(")) (.k (.int 800))) (.cons (.bin false .Mult (.k (.str "(")) (.k (.int 900))) (.cons (.bin false .Mult (.k (.str "9")) (.k (.int 700))) (.cons (.bin false .Add (.bin false .Mult (.k (.str "f(")) (.k (.int 400))) (.bin false .Mult (.k (.str ")")) (.k (.int 400)))) (.cons (.k (.str "f(1)\n")) .nil)))))))))) (.cons (.asg (.n 0) (.bin false .Add (.v 0) (.lst false (.cons (.k (.str "if 0 then 1 else 2")) (.cons (.k (.str "p0p")) (.cons (.k (.str "inc(p0)1")) (.cons (.k (.str "if p0 then 1 else 2 ")) (.cons (.k (.str "1p0")) .nil)))))))) (.cons (.asg (.n 0) (.bin false .Add (.v 0) (.lst false (.cons (.k (.str "if p0 then 1 else 2 else 3")) .nil)))) (.cons (.asg (.n 0) (.bin false .Add (.v 0) (.lst false (.cons (.k (.str "if p0  then 1 else 2")) (.cons (.k (.str "if p0 then 1  else 2")) (.cons (.k (.str "if p4 then 1 else 2")) (.cons (.k (.str "if p0 then 1 else 2, 3")) .nil))))))) (.cons (.ret (.som (.bin false .Add (.v 0) (.lst false (.cons (.bin false .Add (.bin false .Add (.bin false .Mult (.k (.str "inc(")) (.k (.int 6))) (.k (.str "p0"))) (.bin false .Mult (.k (.str ")")) (.k (.int 6)))) (.cons (.call 40 (.cons (.k (.str "inc(inc(min(1, 1)))")) .nil)) (.cons (.call 40 (.cons (.k (.str "inc(inc(inc(inc(1))))")) .nil)) .nil))))))) .nil)))))))))⟩
def d42 : Df where
  gn := "_law_known_right"
  x := "_law_known_right"
  q := "_law_known_right"
  st := top 59
  ps := []
  N := ["good", "text", "told"]
  ir := ⟨0, 3, (.cons (.asg (.n 0) (.lst false (.cons (.bin false .Add (.bin false .Add (.bin false .Mult (.k (.str "inc(")) (.k (.int 5))) (.k (.str "p0"))) (.bin false .Mult (.k (.str ")")) (.k (.int 5)))) (.cons (.k (.str "1000")) (.cons (.k (.str "0")) (.cons (.k (.str "p3")) (.cons (.k (.str "p()")) (.cons (.k (.str "p(p0)")) (.cons (.k (.str "pa(p1, p2)")) (.cons (.k (.str "iff(1, 2, 3, 4)")) .nil)))))))))) (.cons (.asg (.n 0) (.bin false .Add (.v 0) (.lst false (.cons (.k (.str "if p0 then if p1 then 1 else 2 else 3")) (.cons (.k (.str "dec(if p3 then f() else g(if p0 then 0 else 1, 2))")) .nil))))) (.cons (.asg (.n 0) (.bin false .Add (.v 0) (.lst false (.cons (.k (.str "pp(p0, pp())")) (.cons (.k (.str "p(p(p0), ppp(p3))")) .nil))))) (.cons (.asg (.n 0) (.bin false .Add (.v 0) (.lst false (.cons (.k (.str "thens(elses())")) (.cons (.call 40 (.cons (.k (.str "1")) .nil)) (.cons (.call 40 (.cons (.k (.str "inc(inc(inc(1)))")) .nil)) (.cons (.k (.str "min(if p0 then 1 else p1, p(p2))")) .nil))))))) (.cons (.fo (.n 1) (.e (.v 0)) (.cons (.asg (.n 2) (.call 37 (.cons (.fv "parse_expression") (.cons (.k (.int 4)) (.cons (.v 1) .nil))))) (.cons (.ifs (.boo .Or (.cons (.cmp .Eq (.v 2) (.k (.str "parse"))) (.cons (.un .Not (.call 34 (.cons (.v 2) (.cons (.k (.int 4)) .nil)))) (.cons (.cmp .NotEq (.call 30 (.cons (.v 2) .nil)) (.v 1)) .nil)))) (.cons (.ret (.som (.k (.bool false)))) .nil) .nil) (.cons (.ifs (.cmp .NotEq (.call 23 (.cons (.k (.int 4)) (.cons (.v 2) .nil))) (.v 1)) (.cons (.ret (.som (.k (.bool false)))) .nil) .nil) .nil)))) (.cons (.ret (.som (.cmp .Eq (.lc false (.v 1) (.n 1) (.e (.call 41 .nil)) (.cons (.cmp .NotEq (.call 37 (.cons (.fv "parse_expression") (.cons (.k (.int 4)) (.cons (.v 1) .nil)))) (.k (.str "parse"))) .nil)) (.lst false .nil)))) .nil))))))⟩
def d43 : Df where
  gn := "law"
  x := "law"
  q := "law"
  st := top 60
  ps := ["script"]
  N := ["script", "k", "stream", "arity", "turn"]
  ir := ⟨1, 5, (.cons (.ifs (.un .Not (.call 42 .nil)) (.cons (.ret (.som (.k (.bool false)))) .nil) .nil) (.cons (.fo (.n 1) (.r1 (.bi false .max (.cons (.k (.int 1)) (.cons (.bi false .min (.cons (.k (.int 8)) (.cons (.bi false .len (.cons (.v 0) .nil)) .nil))) .nil)))) (.cons (.asg (.n 2) (.call 25 (.cons (.v 0) (.cons (.v 1) .nil)))) (.cons (.asg (.n 3) (.call 26 (.cons (.v 2) (.cons (.k (.int 5)) .nil)))) (.cons (.fo (.n 4) (.r1 (.k (.int 4))) (.cons (.ifs (.un .Not (.call 39 (.cons (.v 2) (.cons (.v 3) .nil)))) (.cons (.ret (.som (.k (.bool false)))) .nil) .nil) .nil)) .nil)))) (.cons (.ret (.som (.k (.bool true)))) .nil)))⟩
def ds : List Df := [d0, d1, d2, d3, d4, d5, d6, d7, d8, d9, d10, d11, d12, d13, d14, d15, d16, d17, d18, d19, d20, d21, d22, d23, d24, d25, d26, d27, d28, d29, d30, d31, d32, d33, d34, d35, d36, d37, d38, d39, d40, d41, d42, d43]
def gd : Gd where
  fn := ds.map (·.gn)
  cn := ["MAX_PARAMETERS", "MAX_NAME", "LETTERS_graphs", "MAX_NUMBER", "MAX_DEPTH", "MAX_NODES", "RESERVED", "LENGTHS", "DIGITS", "LETTERS_formats", "MAX_ARITY", "MOST_DIGITS", "SIZES"]
  xn := ["CallsError", "InvalidProgram", "ParseError"]
  rp := true
  kw := []
  ko := [13, 14, 15, 16, 17, 18, 19, 20]
  xf := [none, none, none]
  xt := [[true, true, true], [false, true, false], [false, false, true]]
  oc := [("ExpressionReader", ["own_text", "own_place"])]
  mt := [(14, "ExpressionReader", "does_follow"), (15, "ExpressionReader", "skip"), (16, "ExpressionReader", "run_of"), (17, "ExpressionReader", "read_expression"), (18, "ExpressionReader", "read_choice"), (19, "ExpressionReader", "read_arguments"), (20, "ExpressionReader", "read_whole")]
  mi := [(13, "ExpressionReader")]
  fv := ["parse_expression"]
-- constants: MAX_PARAMETERS = 4; MAX_NAME = 8; LETTERS_graphs = 'abcdefghijklmnopqrstuvwxyz'; MAX_NUMBER = 1000; MAX_DEPTH = 6; MAX_NODES = 40; RESERVED = ('dec', 'else', 'if', 'inc', 'max', 'min', 'then'); LENGTHS = {'param': 2, 'number': 2, 'inc': 2, 'dec': 2, 'min': 3, 'max': 3, 'if': 4, 'call': 3}; DIGITS = '0123456789'; LETTERS_formats = 'abcdefghijklmnopqrstuvwxyz'; MAX_ARITY = 4; MOST_DIGITS = 4; SIZES = {'inc': 1, 'dec': 1, 'min': 2, 'max': 2}
theorem chk : ds.all (chkD gd) = true := by decide +kernel
def cs : List W := [(.p (.int 4)), (.p (.int 8)), (.p (.str "abcdefghijklmnopqrstuvwxyz")), (.p (.int 1000)), (.p (.int 6)), (.p (.int 40)), (.p (.tuple [(.str "dec"), (.str "else"), (.str "if"), (.str "inc"), (.str "max"), (.str "min"), (.str "then")])), (.kd [("param", (.int 2)), ("number", (.int 2)), ("inc", (.int 2)), ("dec", (.int 2)), ("min", (.int 3)), ("max", (.int 3)), ("if", (.int 4)), ("call", (.int 3))]), (.p (.str "0123456789")), (.p (.str "abcdefghijklmnopqrstuvwxyz")), (.p (.int 4)), (.p (.int 4)), (.kd [("inc", (.int 1)), ("dec", (.int 1)), ("min", (.int 2)), ("max", (.int 2))])]
@[simp] theorem cs0 : cs[0]? = some (.p (.int 4)) := rfl
@[simp] theorem cs1 : cs[1]? = some (.p (.int 8)) := rfl
@[simp] theorem cs2 : cs[2]? = some (.p (.str "abcdefghijklmnopqrstuvwxyz")) := rfl
@[simp] theorem cs3 : cs[3]? = some (.p (.int 1000)) := rfl
@[simp] theorem cs4 : cs[4]? = some (.p (.int 6)) := rfl
@[simp] theorem cs5 : cs[5]? = some (.p (.int 40)) := rfl
@[simp] theorem cs6 : cs[6]? = some (.p (.tuple [(.str "dec"), (.str "else"), (.str "if"), (.str "inc"), (.str "max"), (.str "min"), (.str "then")])) := rfl
@[simp] theorem cs7 : cs[7]? = some (.kd [("param", (.int 2)), ("number", (.int 2)), ("inc", (.int 2)), ("dec", (.int 2)), ("min", (.int 3)), ("max", (.int 3)), ("if", (.int 4)), ("call", (.int 3))]) := rfl
@[simp] theorem cs8 : cs[8]? = some (.p (.str "0123456789")) := rfl
@[simp] theorem cs9 : cs[9]? = some (.p (.str "abcdefghijklmnopqrstuvwxyz")) := rfl
@[simp] theorem cs10 : cs[10]? = some (.p (.int 4)) := rfl
@[simp] theorem cs11 : cs[11]? = some (.p (.int 4)) := rfl
@[simp] theorem cs12 : cs[12]? = some (.kd [("inc", (.int 1)), ("dec", (.int 1)), ("min", (.int 2)), ("max", (.int 2))]) := rfl
end L79

set_option Elab.async false
set_option maxRecDepth 1000000
set_option linter.all false
set_option maxHeartbeats 4000000
namespace L79
open PySem L2 Px
theorem b0 {K : PySem.W.Frag} {f : Addr} {fd : FuncData} (F : Fun K d0.x d0.q d0.st f fd) : Binds K fd d0.ps [] := F.binds (ps := d0.ps) fun _ _ _ _ _ _ us hl => match us, hl with | [_, _, _], _ => rfl
theorem b1 {K : PySem.W.Frag} {f : Addr} {fd : FuncData} (F : Fun K d1.x d1.q d1.st f fd) : Binds K fd d1.ps [] := F.binds (ps := d1.ps) fun _ _ _ _ _ _ us hl => match us, hl with | [_], _ => rfl
theorem b2 {K : PySem.W.Frag} {f : Addr} {fd : FuncData} (F : Fun K d2.x d2.q d2.st f fd) : Binds K fd d2.ps [] := F.binds (ps := d2.ps) fun _ _ _ _ _ _ us hl => match us, hl with | [_], _ => rfl
theorem b3 {K : PySem.W.Frag} {f : Addr} {fd : FuncData} (F : Fun K d3.x d3.q d3.st f fd) : Binds K fd d3.ps [] := F.binds (ps := d3.ps) fun _ _ _ _ _ _ us hl => match us, hl with | [_], _ => rfl
theorem b4 {K : PySem.W.Frag} {f : Addr} {fd : FuncData} (F : Fun K d4.x d4.q d4.st f fd) : Binds K fd d4.ps [] := F.binds (ps := d4.ps) fun _ _ _ _ _ _ us hl => match us, hl with | [_, _], _ => rfl
theorem b5 {K : PySem.W.Frag} {f : Addr} {fd : FuncData} (F : Fun K d5.x d5.q d5.st f fd) : Binds K fd d5.ps [] := F.binds (ps := d5.ps) fun _ _ _ _ _ _ us hl => match us, hl with | [_, _, _], _ => rfl
theorem b6 {K : PySem.W.Frag} {f : Addr} {fd : FuncData} (F : Fun K d6.x d6.q d6.st f fd) : Binds K fd d6.ps [] := F.binds (ps := d6.ps) fun _ _ _ _ _ _ us hl => match us, hl with | [_], _ => rfl
theorem b7 {K : PySem.W.Frag} {f : Addr} {fd : FuncData} (F : Fun K d7.x d7.q d7.st f fd) : Binds K fd d7.ps [] := F.binds (ps := d7.ps) fun _ _ _ _ _ _ us hl => match us, hl with | [_, _], _ => rfl
theorem b8 {K : PySem.W.Frag} {f : Addr} {fd : FuncData} (F : Fun K d8.x d8.q d8.st f fd) : Binds K fd d8.ps [] := F.binds (ps := d8.ps) fun _ _ _ _ _ _ us hl => match us, hl with | [_], _ => rfl
theorem b9 {K : PySem.W.Frag} {f : Addr} {fd : FuncData} (F : Fun K d9.x d9.q d9.st f fd) : Binds K fd d9.ps [] := F.binds (ps := d9.ps) fun _ _ _ _ _ _ us hl => match us, hl with | [_, _], _ => rfl
theorem b10 {K : PySem.W.Frag} {f : Addr} {fd : FuncData} (F : Fun K d10.x d10.q d10.st f fd) : Binds K fd d10.ps [] := F.binds (ps := d10.ps) fun _ _ _ _ _ _ us hl => match us, hl with | [_], _ => rfl
theorem b11 {K : PySem.W.Frag} {f : Addr} {fd : FuncData} (F : Fun K d11.x d11.q d11.st f fd) : Binds K fd d11.ps [] := F.binds (ps := d11.ps) fun _ _ _ _ _ _ us hl => match us, hl with | [_, _], _ => rfl
theorem b12 {K : PySem.W.Frag} {f : Addr} {fd : FuncData} (F : Fun K d12.x d12.q d12.st f fd) : Binds K fd d12.ps [] := F.binds (ps := d12.ps) fun _ _ _ _ _ _ us hl => match us, hl with | [_], _ => rfl
theorem b13 {K : PySem.W.Frag} {f : Addr} {fd : FuncData} (F : Fun K d13.x d13.q d13.st f fd) : Binds K fd d13.ps [] := F.binds (ps := d13.ps) fun _ _ _ _ _ _ us hl => match us, hl with | [_, _], _ => rfl
theorem b14 {K : PySem.W.Frag} {f : Addr} {fd : FuncData} (F : Fun K d14.x d14.q d14.st f fd) : Binds K fd d14.ps [] := F.binds (ps := d14.ps) fun _ _ _ _ _ _ us hl => match us, hl with | [_, _], _ => rfl
theorem b15 {K : PySem.W.Frag} {f : Addr} {fd : FuncData} (F : Fun K d15.x d15.q d15.st f fd) : Binds K fd d15.ps [] := F.binds (ps := d15.ps) fun _ _ _ _ _ _ us hl => match us, hl with | [_, _], _ => rfl
theorem b16 {K : PySem.W.Frag} {f : Addr} {fd : FuncData} (F : Fun K d16.x d16.q d16.st f fd) : Binds K fd d16.ps [] := F.binds (ps := d16.ps) fun _ _ _ _ _ _ us hl => match us, hl with | [_, _], _ => rfl
theorem b17 {K : PySem.W.Frag} {f : Addr} {fd : FuncData} (F : Fun K d17.x d17.q d17.st f fd) : Binds K fd d17.ps [] := F.binds (ps := d17.ps) fun _ _ _ _ _ _ us hl => match us, hl with | [_, _], _ => rfl
theorem b18 {K : PySem.W.Frag} {f : Addr} {fd : FuncData} (F : Fun K d18.x d18.q d18.st f fd) : Binds K fd d18.ps [] := F.binds (ps := d18.ps) fun _ _ _ _ _ _ us hl => match us, hl with | [_, _], _ => rfl
theorem b19 {K : PySem.W.Frag} {f : Addr} {fd : FuncData} (F : Fun K d19.x d19.q d19.st f fd) : Binds K fd d19.ps [] := F.binds (ps := d19.ps) fun _ _ _ _ _ _ us hl => match us, hl with | [_, _], _ => rfl
theorem b20 {K : PySem.W.Frag} {f : Addr} {fd : FuncData} (F : Fun K d20.x d20.q d20.st f fd) : Binds K fd d20.ps [] := F.binds (ps := d20.ps) fun _ _ _ _ _ _ us hl => match us, hl with | [_, _], _ => rfl
theorem b21 {K : PySem.W.Frag} {f : Addr} {fd : FuncData} (F : Fun K d21.x d21.q d21.st f fd) : Binds K fd d21.ps [] := F.binds (ps := d21.ps) fun _ _ _ _ _ _ us hl => match us, hl with | [_], _ => rfl
theorem b22 {K : PySem.W.Frag} {f : Addr} {fd : FuncData} (F : Fun K d22.x d22.q d22.st f fd) : Binds K fd d22.ps [] := F.binds (ps := d22.ps) fun _ _ _ _ _ _ us hl => match us, hl with | [_], _ => rfl
theorem b23 {K : PySem.W.Frag} {f : Addr} {fd : FuncData} (F : Fun K d23.x d23.q d23.st f fd) : Binds K fd d23.ps [] := F.binds (ps := d23.ps) fun _ _ _ _ _ _ us hl => match us, hl with | [_, _], _ => rfl
theorem b24 {K : PySem.W.Frag} {f : Addr} {fd : FuncData} (F : Fun K d24.x d24.q d24.st f fd) : Binds K fd d24.ps [] := F.binds (ps := d24.ps) fun _ _ _ _ _ _ us hl => match us, hl with | [_, _], _ => rfl
theorem b25 {K : PySem.W.Frag} {f : Addr} {fd : FuncData} (F : Fun K d25.x d25.q d25.st f fd) : Binds K fd d25.ps [] := F.binds (ps := d25.ps) fun _ _ _ _ _ _ us hl => match us, hl with | [_, _], _ => rfl
theorem b26 {K : PySem.W.Frag} {f : Addr} {fd : FuncData} (F : Fun K d26.x d26.q d26.st f fd) : Binds K fd d26.ps [] := F.binds (ps := d26.ps) fun _ _ _ _ _ _ us hl => match us, hl with | [_, _], _ => rfl
theorem b27 {K : PySem.W.Frag} {f : Addr} {fd : FuncData} (F : Fun K d27.x d27.q d27.st f fd) : Binds K fd d27.ps [] := F.binds (ps := d27.ps) fun _ _ _ _ _ _ us hl => match us, hl with | [_, _], _ => rfl
theorem b28 {K : PySem.W.Frag} {f : Addr} {fd : FuncData} (F : Fun K d28.x d28.q d28.st f fd) : Binds K fd d28.ps [] := F.binds (ps := d28.ps) fun _ _ _ _ _ _ us hl => match us, hl with | [_, _], _ => rfl
theorem b29 {K : PySem.W.Frag} {f : Addr} {fd : FuncData} (F : Fun K d29.x d29.q d29.st f fd) : Binds K fd d29.ps [] := F.binds (ps := d29.ps) fun _ _ _ _ _ _ us hl => match us, hl with | [_, _, _, _], _ => rfl
theorem b30 {K : PySem.W.Frag} {f : Addr} {fd : FuncData} (F : Fun K d30.x d30.q d30.st f fd) : Binds K fd d30.ps [] := F.binds (ps := d30.ps) fun _ _ _ _ _ _ us hl => match us, hl with | [_], _ => rfl
theorem b31 {K : PySem.W.Frag} {f : Addr} {fd : FuncData} (F : Fun K d31.x d31.q d31.st f fd) : Binds K fd d31.ps [] := F.binds (ps := d31.ps) fun _ _ _ _ _ _ us hl => match us, hl with | [_], _ => rfl
theorem b32 {K : PySem.W.Frag} {f : Addr} {fd : FuncData} (F : Fun K d32.x d32.q d32.st f fd) : Binds K fd d32.ps [] := F.binds (ps := d32.ps) fun _ _ _ _ _ _ us hl => match us, hl with | [_, _, _], _ => rfl
theorem b33 {K : PySem.W.Frag} {f : Addr} {fd : FuncData} (F : Fun K d33.x d33.q d33.st f fd) : Binds K fd d33.ps [] := F.binds (ps := d33.ps) fun _ _ _ _ _ _ us hl => match us, hl with | [_, _, _], _ => rfl
theorem b34 {K : PySem.W.Frag} {f : Addr} {fd : FuncData} (F : Fun K d34.x d34.q d34.st f fd) : Binds K fd d34.ps [] := F.binds (ps := d34.ps) fun _ _ _ _ _ _ us hl => match us, hl with | [_, _], _ => rfl
theorem b35 {K : PySem.W.Frag} {f : Addr} {fd : FuncData} (F : Fun K d35.x d35.q d35.st f fd) : Binds K fd d35.ps [] := F.binds (ps := d35.ps) fun _ _ _ _ _ _ us hl => match us, hl with | [_, _], _ => rfl
theorem b36 {K : PySem.W.Frag} {f : Addr} {fd : FuncData} (F : Fun K d36.x d36.q d36.st f fd) : Binds K fd d36.ps [] := F.binds (ps := d36.ps) fun _ _ _ _ _ _ us hl => match us, hl with | [_, _], _ => rfl
theorem b37 {K : PySem.W.Frag} {f : Addr} {fd : FuncData} (F : Fun K d37.x d37.q d37.st f fd) : Binds K fd d37.ps [] := F.binds (ps := d37.ps) fun _ _ _ _ _ _ us hl => match us, hl with | [_, _, _], _ => rfl
theorem b38 {K : PySem.W.Frag} {f : Addr} {fd : FuncData} (F : Fun K d38.x d38.q d38.st f fd) : Binds K fd d38.ps [] := F.binds (ps := d38.ps) fun _ _ _ _ _ _ us hl => match us, hl with | [_, _], _ => rfl
theorem b39 {K : PySem.W.Frag} {f : Addr} {fd : FuncData} (F : Fun K d39.x d39.q d39.st f fd) : Binds K fd d39.ps [] := F.binds (ps := d39.ps) fun _ _ _ _ _ _ us hl => match us, hl with | [_, _], _ => rfl
theorem b40 {K : PySem.W.Frag} {f : Addr} {fd : FuncData} (F : Fun K d40.x d40.q d40.st f fd) : Binds K fd d40.ps [] := F.binds (ps := d40.ps) fun _ _ _ _ _ _ us hl => match us, hl with | [_], _ => rfl
theorem b41 {K : PySem.W.Frag} {f : Addr} {fd : FuncData} (F : Fun K d41.x d41.q d41.st f fd) : Binds K fd d41.ps [] := F.binds (ps := d41.ps) fun _ _ _ _ _ _ us hl => match us, hl with | [], _ => rfl
theorem b42 {K : PySem.W.Frag} {f : Addr} {fd : FuncData} (F : Fun K d42.x d42.q d42.st f fd) : Binds K fd d42.ps [] := F.binds (ps := d42.ps) fun _ _ _ _ _ _ us hl => match us, hl with | [], _ => rfl
theorem b43 {K : PySem.W.Frag} {f : Addr} {fd : FuncData} (F : Fun K d43.x d43.q d43.st f fd) : Binds K fd d43.ps [] := F.binds (ps := d43.ps) fun _ _ _ _ _ _ us hl => match us, hl with | [_], _ => rfl
theorem bnd {K : PySem.W.Frag} : ∀ (f : Nat) (d : Df) (fa : Addr) (fd : FuncData), ds[f]? = some d → (gd.ko.contains f = false ∨ isMe gd f = true) → Fun K d.x d.q d.st fa fd → Binds K fd d.ps []
  | 0, _, _, _, h, _, F => by cases h; exact b0 F
  | 1, _, _, _, h, _, F => by cases h; exact b1 F
  | 2, _, _, _, h, _, F => by cases h; exact b2 F
  | 3, _, _, _, h, _, F => by cases h; exact b3 F
  | 4, _, _, _, h, _, F => by cases h; exact b4 F
  | 5, _, _, _, h, _, F => by cases h; exact b5 F
  | 6, _, _, _, h, _, F => by cases h; exact b6 F
  | 7, _, _, _, h, _, F => by cases h; exact b7 F
  | 8, _, _, _, h, _, F => by cases h; exact b8 F
  | 9, _, _, _, h, _, F => by cases h; exact b9 F
  | 10, _, _, _, h, _, F => by cases h; exact b10 F
  | 11, _, _, _, h, _, F => by cases h; exact b11 F
  | 12, _, _, _, h, _, F => by cases h; exact b12 F
  | 13, _, _, _, h, _, F => by cases h; exact b13 F
  | 14, _, _, _, h, _, F => by cases h; exact b14 F
  | 15, _, _, _, h, _, F => by cases h; exact b15 F
  | 16, _, _, _, h, _, F => by cases h; exact b16 F
  | 17, _, _, _, h, _, F => by cases h; exact b17 F
  | 18, _, _, _, h, _, F => by cases h; exact b18 F
  | 19, _, _, _, h, _, F => by cases h; exact b19 F
  | 20, _, _, _, h, _, F => by cases h; exact b20 F
  | 21, _, _, _, h, _, F => by cases h; exact b21 F
  | 22, _, _, _, h, _, F => by cases h; exact b22 F
  | 23, _, _, _, h, _, F => by cases h; exact b23 F
  | 24, _, _, _, h, _, F => by cases h; exact b24 F
  | 25, _, _, _, h, _, F => by cases h; exact b25 F
  | 26, _, _, _, h, _, F => by cases h; exact b26 F
  | 27, _, _, _, h, _, F => by cases h; exact b27 F
  | 28, _, _, _, h, _, F => by cases h; exact b28 F
  | 29, _, _, _, h, _, F => by cases h; exact b29 F
  | 30, _, _, _, h, _, F => by cases h; exact b30 F
  | 31, _, _, _, h, _, F => by cases h; exact b31 F
  | 32, _, _, _, h, _, F => by cases h; exact b32 F
  | 33, _, _, _, h, _, F => by cases h; exact b33 F
  | 34, _, _, _, h, _, F => by cases h; exact b34 F
  | 35, _, _, _, h, _, F => by cases h; exact b35 F
  | 36, _, _, _, h, _, F => by cases h; exact b36 F
  | 37, _, _, _, h, _, F => by cases h; exact b37 F
  | 38, _, _, _, h, _, F => by cases h; exact b38 F
  | 39, _, _, _, h, _, F => by cases h; exact b39 F
  | 40, _, _, _, h, _, F => by cases h; exact b40 F
  | 41, _, _, _, h, _, F => by cases h; exact b41 F
  | 42, _, _, _, h, _, F => by cases h; exact b42 F
  | 43, _, _, _, h, _, F => by cases h; exact b43 F
  | f + 44, _, _, _, h, _, _ => by cases h
theorem fns {K : PySem.W.Frag} {mg : Str → Option Value} (x0 : DefAt K mg d0) (x1 : DefAt K mg d1) (x2 : DefAt K mg d2) (x3 : DefAt K mg d3) (x4 : DefAt K mg d4) (x5 : DefAt K mg d5) (x6 : DefAt K mg d6) (x7 : DefAt K mg d7) (x8 : DefAt K mg d8) (x9 : DefAt K mg d9) (x10 : DefAt K mg d10) (x11 : DefAt K mg d11) (x12 : DefAt K mg d12) (x21 : DefAt K mg d21) (x22 : DefAt K mg d22) (x23 : DefAt K mg d23) (x24 : DefAt K mg d24) (x25 : DefAt K mg d25) (x26 : DefAt K mg d26) (x27 : DefAt K mg d27) (x28 : DefAt K mg d28) (x29 : DefAt K mg d29) (x30 : DefAt K mg d30) (x31 : DefAt K mg d31) (x32 : DefAt K mg d32) (x33 : DefAt K mg d33) (x34 : DefAt K mg d34) (x35 : DefAt K mg d35) (x36 : DefAt K mg d36) (x37 : DefAt K mg d37) (x38 : DefAt K mg d38) (x39 : DefAt K mg d39) (x40 : DefAt K mg d40) (x41 : DefAt K mg d41) (x42 : DefAt K mg d42) (x43 : DefAt K mg d43) : ∀ (f : Nat) (d : Df), ds[f]? = some d → isMe gd f = false → ∃ (fa : Addr) (fd : FuncData), mg d.gn = some (.ref fa) ∧ Fun K d.x d.q d.st fa fd
  | 0, _, h, _ => by cases h; exact x0
  | 1, _, h, _ => by cases h; exact x1
  | 2, _, h, _ => by cases h; exact x2
  | 3, _, h, _ => by cases h; exact x3
  | 4, _, h, _ => by cases h; exact x4
  | 5, _, h, _ => by cases h; exact x5
  | 6, _, h, _ => by cases h; exact x6
  | 7, _, h, _ => by cases h; exact x7
  | 8, _, h, _ => by cases h; exact x8
  | 9, _, h, _ => by cases h; exact x9
  | 10, _, h, _ => by cases h; exact x10
  | 11, _, h, _ => by cases h; exact x11
  | 12, _, h, _ => by cases h; exact x12
  | 13, _, _, hk => absurd hk (by decide +kernel)
  | 14, _, _, hk => absurd hk (by decide +kernel)
  | 15, _, _, hk => absurd hk (by decide +kernel)
  | 16, _, _, hk => absurd hk (by decide +kernel)
  | 17, _, _, hk => absurd hk (by decide +kernel)
  | 18, _, _, hk => absurd hk (by decide +kernel)
  | 19, _, _, hk => absurd hk (by decide +kernel)
  | 20, _, _, hk => absurd hk (by decide +kernel)
  | 21, _, h, _ => by cases h; exact x21
  | 22, _, h, _ => by cases h; exact x22
  | 23, _, h, _ => by cases h; exact x23
  | 24, _, h, _ => by cases h; exact x24
  | 25, _, h, _ => by cases h; exact x25
  | 26, _, h, _ => by cases h; exact x26
  | 27, _, h, _ => by cases h; exact x27
  | 28, _, h, _ => by cases h; exact x28
  | 29, _, h, _ => by cases h; exact x29
  | 30, _, h, _ => by cases h; exact x30
  | 31, _, h, _ => by cases h; exact x31
  | 32, _, h, _ => by cases h; exact x32
  | 33, _, h, _ => by cases h; exact x33
  | 34, _, h, _ => by cases h; exact x34
  | 35, _, h, _ => by cases h; exact x35
  | 36, _, h, _ => by cases h; exact x36
  | 37, _, h, _ => by cases h; exact x37
  | 38, _, h, _ => by cases h; exact x38
  | 39, _, h, _ => by cases h; exact x39
  | 40, _, h, _ => by cases h; exact x40
  | 41, _, h, _ => by cases h; exact x41
  | 42, _, h, _ => by cases h; exact x42
  | 43, _, h, _ => by cases h; exact x43
  | f + 44, _, h, _ => by cases h
theorem mts {K : PySem.W.Frag} (x14 : MtAt K "ExpressionReader" "does_follow" d14) (x15 : MtAt K "ExpressionReader" "skip" d15) (x16 : MtAt K "ExpressionReader" "run_of" d16) (x17 : MtAt K "ExpressionReader" "read_expression" d17) (x18 : MtAt K "ExpressionReader" "read_choice" d18) (x19 : MtAt K "ExpressionReader" "read_arguments" d19) (x20 : MtAt K "ExpressionReader" "read_whole" d20) : ∀ (f : Nat) (x m : Str), (f, x, m) ∈ gd.mt → ∃ (d : Df) (Ca fa : Addr) (fd : FuncData), ds[f]? = some d ∧ PySem.W.nsIn K mainGlobals x = some (some (.ref Ca)) ∧ Meth K Ca m fa ∧ Fun K d.x d.q d.st fa fd := by
  intro f x m h
  simp only [gd, List.mem_cons, List.not_mem_nil, or_false, Prod.mk.injEq] at h
  rcases h with ⟨rfl, rfl, rfl⟩ | ⟨rfl, rfl, rfl⟩ | ⟨rfl, rfl, rfl⟩ | ⟨rfl, rfl, rfl⟩ | ⟨rfl, rfl, rfl⟩ | ⟨rfl, rfl, rfl⟩ | ⟨rfl, rfl, rfl⟩
  · obtain ⟨Ca, fa, fd, h1, h2, h3⟩ := x14; exact ⟨d14, Ca, fa, fd, rfl, h1, h2, h3⟩
  · obtain ⟨Ca, fa, fd, h1, h2, h3⟩ := x15; exact ⟨d15, Ca, fa, fd, rfl, h1, h2, h3⟩
  · obtain ⟨Ca, fa, fd, h1, h2, h3⟩ := x16; exact ⟨d16, Ca, fa, fd, rfl, h1, h2, h3⟩
  · obtain ⟨Ca, fa, fd, h1, h2, h3⟩ := x17; exact ⟨d17, Ca, fa, fd, rfl, h1, h2, h3⟩
  · obtain ⟨Ca, fa, fd, h1, h2, h3⟩ := x18; exact ⟨d18, Ca, fa, fd, rfl, h1, h2, h3⟩
  · obtain ⟨Ca, fa, fd, h1, h2, h3⟩ := x19; exact ⟨d19, Ca, fa, fd, rfl, h1, h2, h3⟩
  · obtain ⟨Ca, fa, fd, h1, h2, h3⟩ := x20; exact ⟨d20, Ca, fa, fd, rfl, h1, h2, h3⟩
theorem mis {K : PySem.W.Frag} (x13 : MiAt K "ExpressionReader" d13) : ∀ (f : Nat) (x : Str), (f, x) ∈ gd.mi → ∃ (d : Df) (Ca fa : Addr) (fd : FuncData), ds[f]? = some d ∧ PySem.W.nsIn K mainGlobals x = some (some (.ref Ca)) ∧ Mk K Ca fa ∧ Fun K d.x d.q d.st fa fd := by
  intro f x h
  simp only [gd, List.mem_cons, List.not_mem_nil, or_false, Prod.mk.injEq] at h
  rcases h with ⟨rfl, rfl⟩
  · obtain ⟨Ca, fa, fd, h1, h2, h3⟩ := x13; exact ⟨d13, Ca, fa, fd, rfl, h1, h2, h3⟩
theorem oc {K : PySem.W.Frag} {mg : Str → Option Value} {C0 : Addr} (o0 : OcAt K mg "ExpressionReader" ["own_text", "own_place"] C0) : ∀ (x : Str) (fs : List Str), gd.oc.lookup x = some fs → ∃ Ca, ObOk K x fs Ca ∧ mg x = some (.ref Ca) := by
  intro x fs h
  unfold gd at h
  simp only [List.lookup] at h
  split at h
  · rename_i hx; have hx := eq_of_beq hx; subst hx; cases h; exact ⟨C0, o0.ob, o0.m⟩
  all_goals cases h
theorem fvs {K : PySem.W.Frag} {mg : Str → Option Value} (v0 : FvAt K mg "parse_expression") : ∀ (x : Str), gd.fv.contains x = true → ∃ fa, mg x = some (.ref fa) ∧ PySem.W.nsIn K mainGlobals x = some (some (.ref fa)) := by
  intro x h
  simp only [gd, List.contains_cons, List.contains_nil, Bool.or_false, Bool.or_eq_true, beq_iff_eq] at h
  rcases h with rfl
  · exact v0
theorem kws {K : PySem.W.Frag} {w : World} {mg : Str → Option Value}  :
    ∀ (f : Nat) (d : Df) (m : Nat) (kn : List Str) (mp : List (Sum Nat PyData)) (fa : Addr) (fd : FuncData), ds[f]? = some d → (f, m, kn, mp) ∈ gd.kw → mg d.gn = some (.ref fa) → Fun K d.x d.q d.st fa fd → ∃ (gg : List Value → List Value → List Value) (gV : List V → List V → List V),
      KBn K fd d.ps m kn gg gV ∧ ∀ gx ι H vs ws zs xs us, vs.length = m → zs.length = kn.length → RWs K (u0 gx w) ι H vs ws → RWs K (u0 gx w) ι H zs xs → pickK (ws ++ xs) mp = some us → RWs K (u0 gx w) ι H (gV vs zs) us := by
  intro f d m kn mp fa fd hd hm he F
  unfold gd at hm
  simp only [List.mem_cons, List.not_mem_nil, or_false, Prod.mk.injEq] at hm
  all_goals exact hm.elim
theorem cst {K : PySem.W.Frag} {w : World} {mg : Str → Option Value} (c0 : ConstAt K w mg "MAX_PARAMETERS" (.p (.int 4))) (c1 : ConstAt K w mg "MAX_NAME" (.p (.int 8))) (c2 : ConstAt K w mg "LETTERS_graphs" (.p (.str "abcdefghijklmnopqrstuvwxyz"))) (c3 : ConstAt K w mg "MAX_NUMBER" (.p (.int 1000))) (c4 : ConstAt K w mg "MAX_DEPTH" (.p (.int 6))) (c5 : ConstAt K w mg "MAX_NODES" (.p (.int 40))) (c6 : ConstAt K w mg "RESERVED" (.p (.tuple [(.str "dec"), (.str "else"), (.str "if"), (.str "inc"), (.str "max"), (.str "min"), (.str "then")]))) (c7 : ConstAt K w mg "LENGTHS" (.kd [("param", (.int 2)), ("number", (.int 2)), ("inc", (.int 2)), ("dec", (.int 2)), ("min", (.int 3)), ("max", (.int 3)), ("if", (.int 4)), ("call", (.int 3))])) (c8 : ConstAt K w mg "DIGITS" (.p (.str "0123456789"))) (c9 : ConstAt K w mg "LETTERS_formats" (.p (.str "abcdefghijklmnopqrstuvwxyz"))) (c10 : ConstAt K w mg "MAX_ARITY" (.p (.int 4))) (c11 : ConstAt K w mg "MOST_DIGITS" (.p (.int 4))) (c12 : ConstAt K w mg "SIZES" (.kd [("inc", (.int 1)), ("dec", (.int 1)), ("min", (.int 2)), ("max", (.int 2))])) :
    ∀ (j : Nat) (x : Str) (w' : W), gd.cn[j]? = some x → cs[j]? = some w' → ∃ u v, mg x = some u ∧ RelV v u ∧ ∀ xp gx ι H, RW K ⟨w, xp, gx⟩ ι H v w'
  | 0, _, _, h1, h2 => by cases h1; cases h2; exact c0
  | 1, _, _, h1, h2 => by cases h1; cases h2; exact c1
  | 2, _, _, h1, h2 => by cases h1; cases h2; exact c2
  | 3, _, _, h1, h2 => by cases h1; cases h2; exact c3
  | 4, _, _, h1, h2 => by cases h1; cases h2; exact c4
  | 5, _, _, h1, h2 => by cases h1; cases h2; exact c5
  | 6, _, _, h1, h2 => by cases h1; cases h2; exact c6
  | 7, _, _, h1, h2 => by cases h1; cases h2; exact c7
  | 8, _, _, h1, h2 => by cases h1; cases h2; exact c8
  | 9, _, _, h1, h2 => by cases h1; cases h2; exact c9
  | 10, _, _, h1, h2 => by cases h1; cases h2; exact c10
  | 11, _, _, h1, h2 => by cases h1; cases h2; exact c11
  | 12, _, _, h1, h2 => by cases h1; cases h2; exact c12
  | j + 13, _, _, h1, _ => by cases h1
end L79

set_option linter.all false
/-! the plain law of k79: what is written is read, what is read was written -/
namespace L79
open PySem
abbrev T := List Nat
def isD (c : Nat) : Bool := decide (48 ≤ c ∧ c ≤ 57)
def isL (c : Nat) : Bool := decide (97 ≤ c ∧ c ≤ 122)
/-- an expression; a word with arguments is an operation or a call -/
inductive Ex where
  | num (n : Nat)
  | par (k : Nat)
  | ite (k : Nat) (a b : Ex)
  | app (w : T) (as : List Ex)
theorem Ex.ind {P : Ex → Prop} (hn : ∀ n, P (.num n)) (hp : ∀ k, P (.par k)) (hi : ∀ k a b, P a → P b → P (.ite k a b))
    (ha : ∀ w as, (∀ e ∈ as, P e) → P (.app w as)) : ∀ e, P e := by
  intro e
  refine Ex.rec (motive_1 := P) (motive_2 := fun as => ∀ e ∈ as, P e) hn hp (fun k a b ia ib => hi k a b ia ib) (fun w as h => ha w as h) ?_ ?_ e
  · intro e h; cases h
  · intro a r h1 h2 e h
    rcases List.mem_cons.mp h with rfl | h
    · exact h1
    · exact h2 e h
def wInc : T := [105, 110, 99]
def wDec : T := [100, 101, 99]
def wMin : T := [109, 105, 110]
def wMax : T := [109, 97, 120]
def wIf : T := [105, 102]
def cP : T := [32, 112]
def cThen : T := [32, 116, 104, 101, 110, 32]
def cElse : T := [32, 101, 108, 115, 101, 32]
def op (w : T) : Option Nat := if w = wInc ∨ w = wDec then some 1 else if w = wMin ∨ w = wMax then some 2 else none
def dig (n : Nat) : T :=
  if n < 10 then [48 + n] else if n < 100 then [48 + n / 10, 48 + n % 10]
  else if n < 1000 then [48 + n / 100, 48 + n / 10 % 10, 48 + n % 10] else [48 + n / 1000, 48 + n / 100 % 10, 48 + n / 10 % 10, 48 + n % 10]
mutual
def Ex.pr : Ex → T
  | .num n => dig n
  | .par k => 112 :: dig k
  | .ite k a b => wIf ++ (cP ++ (dig k ++ (cThen ++ (a.pr ++ (cElse ++ b.pr)))))
  | .app w as => w ++ (40 :: (prA true as ++ [41]))
def prA : Bool → List Ex → T
  | _, [] => []
  | f, e :: r => (if f then [] else [44, 32]) ++ (e.pr ++ prA false r)
end
mutual
def Ex.deep : Ex → Nat
  | .num _ => 1
  | .par _ => 1
  | .ite _ a b => max a.deep b.deep + 1
  | .app _ as => deeps as + 1
def deeps : List Ex → Nat
  | [] => 0
  | e :: r => max e.deep (deeps r)
end
mutual
def Ex.nodes : Ex → Nat
  | .num _ => 1
  | .par _ => 1
  | .ite _ a b => a.nodes + b.nodes + 1
  | .app _ as => nodess as + 1
def nodess : List Ex → Nat
  | [] => 0
  | e :: r => e.nodes + nodess r
end
mutual
/-- what a reader may give -/
def Ex.raw : Ex → Prop
  | .num n => n < 10000
  | .par k => k < 10000
  | .ite k a b => k < 10000 ∧ a.raw ∧ b.raw
  | .app w as => (∀ c ∈ w, isL c = true) ∧ w ≠ wIf ∧ (∀ n, op w = some n → as.length = n) ∧ raws as
def raws : List Ex → Prop
  | [] => True
  | e :: r => e.raw ∧ raws r
end
theorem raws_iff {l : List Ex} : raws l ↔ ∀ e ∈ l, e.raw := by
  induction l with
  | nil => simp [raws]
  | cons a l ih => simp [raws, ih]
theorem deeps_le {l : List Ex} {n : Nat} : deeps l ≤ n ↔ ∀ e ∈ l, e.deep ≤ n := by
  induction l with
  | nil => simp [deeps]
  | cons a l ih => simp only [deeps, List.mem_cons, forall_eq_or_imp, ← ih]; omega
theorem Ex.deep_pos (e : Ex) : 1 ≤ e.deep := by cases e <;> simp [Ex.deep]
/-! ### numbers -/
def val (w : T) : Nat := w.foldl (fun a c => a * 10 + (c - 48)) 0
def numOk (w : T) : Bool := decide (1 ≤ w.length ∧ w.length ≤ 4) && w.all isD && !(decide (w.head? = some 48) && decide (w ≠ [48]))
def rdNum (w : T) : Option Nat := if numOk w = true then some (val w) else none
theorem num_sound {w : T} {n : Nat} (h : rdNum w = some n) : w = dig n ∧ n < 10000 := by
  unfold rdNum at h
  split at h
  case isFalse => cases h
  case isTrue hc =>
    cases h
    simp only [numOk, Bool.and_eq_true, decide_eq_true_eq, List.all_eq_true, Bool.not_eq_true', Bool.and_eq_false_iff, decide_eq_false_iff_not] at hc
    obtain ⟨⟨⟨h1, h2⟩, h3⟩, h4⟩ := hc
    match w, h1, h2, h3, h4 with
    | [a], _, _, h3, _ =>
      have ha : isD a = true := h3 a (by simp)
      simp only [isD, decide_eq_true_eq] at ha
      have hv : val [a] = a - 48 := by simp [val]
      generalize val [a] = n at hv ⊢
      refine ⟨?_, by omega⟩
      rw [dig, if_pos (by omega)]; congr 1; omega
    | [a, b], _, _, h3, h4 =>
      have ha : isD a = true := h3 a (by simp)
      have hb : isD b = true := h3 b (by simp)
      simp only [isD, decide_eq_true_eq] at ha hb
      have h0 : a ≠ 48 := by rcases h4 with h4 | h4 <;> simp at h4; exact h4
      have hv : val [a, b] = (a - 48) * 10 + (b - 48) := by simp [val]
      generalize val [a, b] = n at hv ⊢
      refine ⟨?_, by omega⟩
      rw [dig, if_neg (by omega), if_pos (by omega)]
      simp only [List.cons.injEq, and_true]; omega
    | [a, b, c], _, _, h3, h4 =>
      have ha : isD a = true := h3 a (by simp)
      have hb : isD b = true := h3 b (by simp)
      have hc : isD c = true := h3 c (by simp)
      simp only [isD, decide_eq_true_eq] at ha hb hc
      have h0 : a ≠ 48 := by rcases h4 with h4 | h4 <;> simp at h4; exact h4
      have hv : val [a, b, c] = ((a - 48) * 10 + (b - 48)) * 10 + (c - 48) := by simp [val]
      generalize val [a, b, c] = n at hv ⊢
      refine ⟨?_, by omega⟩
      rw [dig, if_neg (by omega), if_neg (by omega), if_pos (by omega)]
      simp only [List.cons.injEq, and_true]; omega
    | [a, b, c, d], _, _, h3, h4 =>
      have ha : isD a = true := h3 a (by simp)
      have hb : isD b = true := h3 b (by simp)
      have hc : isD c = true := h3 c (by simp)
      have hd : isD d = true := h3 d (by simp)
      simp only [isD, decide_eq_true_eq] at ha hb hc hd
      have h0 : a ≠ 48 := by rcases h4 with h4 | h4 <;> simp at h4; exact h4
      have hv : val [a, b, c, d] = (((a - 48) * 10 + (b - 48)) * 10 + (c - 48)) * 10 + (d - 48) := by simp [val]
      generalize val [a, b, c, d] = n at hv ⊢
      refine ⟨?_, by omega⟩
      rw [dig, if_neg (by omega), if_neg (by omega), if_neg (by omega)]
      simp only [List.cons.injEq, and_true]; omega
    | _ :: _ :: _ :: _ :: _ :: _, _, h2, _, _ => simp at h2
theorem dig_all (n : Nat) (h : n < 10000) : ∀ c ∈ dig n, isD c = true := by
  unfold dig
  split
  · intro c hc; simp at hc; subst hc; simp only [isD, decide_eq_true_eq]; omega
  split
  · intro c hc; simp at hc; rcases hc with rfl | rfl <;> simp only [isD, decide_eq_true_eq] <;> omega
  split
  · intro c hc; simp at hc; rcases hc with rfl | rfl | rfl <;> simp only [isD, decide_eq_true_eq] <;> omega
  · intro c hc; simp at hc; rcases hc with rfl | rfl | rfl | rfl <;> simp only [isD, decide_eq_true_eq] <;> omega
theorem dig_c {P : T → Prop} (n : Nat) (h1 : n < 10 → P [48 + n]) (h2 : ¬ n < 10 → n < 100 → P [48 + n / 10, 48 + n % 10]) (h3 : ¬ n < 100 → n < 1000 → P [48 + n / 100, 48 + n / 10 % 10, 48 + n % 10])
    (h4 : ¬ n < 1000 → P [48 + n / 1000, 48 + n / 100 % 10, 48 + n / 10 % 10, 48 + n % 10]) : P (dig n) := by
  unfold dig
  by_cases a : n < 10
  · rw [if_pos a]; exact h1 a
  rw [if_neg a]
  by_cases b : n < 100
  · rw [if_pos b]; exact h2 a b
  rw [if_neg b]
  by_cases c : n < 1000
  · rw [if_pos c]; exact h3 b c
  rw [if_neg c]; exact h4 c
theorem dig_ne (n : Nat) : dig n ≠ [] := dig_c (P := fun l => l ≠ []) n (by simp) (by simp) (by simp) (by simp)
theorem dig_len (n : Nat) : (dig n).length ≤ 4 := dig_c (P := fun l => l.length ≤ 4) n (by simp) (by simp) (by simp) (by simp)
theorem num_complete {n : Nat} (h : n < 10000) : rdNum (dig n) = some n := by
  have ha := dig_all n h
  have hn : numOk (dig n) = true := by
    have h1 : (dig n).all isD = true := List.all_eq_true.mpr ha
    have h2 := dig_len n
    have h3 : 1 ≤ (dig n).length := by
      have := dig_ne n
      cases hd : dig n with
      | nil => exact absurd hd this
      | cons a r => simp
    have h4 : ¬ ((dig n).head? = some 48 ∧ dig n ≠ [48]) := by
      refine dig_c (P := fun l => ¬ (l.head? = some 48 ∧ l ≠ [48])) n ?_ ?_ ?_ ?_
      all_goals simp
      all_goals try omega
    have h4 : (!(decide ((dig n).head? = some 48) && decide (dig n ≠ [48]))) = true := by
      rw [← Bool.decide_and, decide_eq_false h4]; rfl
    simp only [numOk, h1, h4, h2, h3, and_self, decide_true, Bool.and_self]
  rw [rdNum, if_pos hn]
  congr 1
  refine dig_c (P := fun l => val l = n) n ?_ ?_ ?_ ?_
  all_goals intros
  all_goals simp only [val, List.foldl]
  all_goals omega
/-! ### the reader -/
def skip (w z : T) : Option T := if w.isPrefixOf z then some (z.drop w.length) else none
theorem skip_iff {w z r : T} : skip w z = some r ↔ z = w ++ r := by
  unfold skip
  constructor
  · intro h
    split at h
    case isTrue hp =>
      obtain ⟨t, rfl⟩ := List.isPrefixOf_iff_prefix.mp hp
      cases h; simp
    case isFalse => cases h
  · rintro rfl
    rw [if_pos (List.isPrefixOf_iff_prefix.mpr ⟨r, rfl⟩)]; simp
@[simp] theorem skip_app {w r : T} : skip w (w ++ r) = some r := skip_iff.mpr rfl
def rdA (g : T → Option (Ex × T)) : Nat → Bool → T → Option (List Ex × T)
  | 0, _, _ => none
  | n + 1, f, z => if [41].isPrefixOf z then some ([], z) else
    (if f then some z else skip [44, 32] z).bind fun z1 => (g z1).bind fun p => (rdA g n false p.2).bind fun q => some (p.1 :: q.1, q.2)
def opOk (w : T) (n : Nat) : Bool := match op w with | some k => decide (n = k) | none => true
def rdIte (g : T → Option (Ex × T)) (z : T) : Option (Ex × T) := (skip cP z).bind fun z1 => (rdNum (z1.takeWhile isD)).bind fun k =>
  (skip cThen (z1.dropWhile isD)).bind fun z2 => (g z2).bind fun p => (skip cElse p.2).bind fun z3 => (g z3).bind fun q => some (.ite k p.1 q.1, q.2)
def args (g : T → Option (Ex × T)) (z : T) : Option (List Ex × T) := (skip [40] z).bind fun z1 => (rdA g 5000 true z1).bind fun p => (skip [41] p.2).bind fun z2 => some (p.1, z2)
def rdApp (w : T) (o : Option (List Ex × T)) : Option (Ex × T) := o.bind fun x => if opOk w x.1.length = true then some (.app w x.1, x.2) else none
def rd : Nat → T → Option (Ex × T)
  | 0, _ => none
  | d + 1, z =>
    if z.takeWhile isD ≠ [] then (rdNum (z.takeWhile isD ++ (z.dropWhile isD).takeWhile isL)).bind fun n => some (.num n, (z.dropWhile isD).dropWhile isL)
    else if z.takeWhile isL = wIf then rdIte (rd d) (z.dropWhile isL)
    else if z.takeWhile isL = [112] ∧ [40].isPrefixOf (z.dropWhile isL) = false then (rdNum ((z.dropWhile isL).takeWhile isD)).bind fun k => some (.par k, (z.dropWhile isL).dropWhile isD)
    else rdApp (z.takeWhile isL) (args (rd d) (z.dropWhile isL))
def bdry (z : T) : Prop := match z with | [] => True | c :: _ => isD c = false ∧ isL c = false ∧ c ≠ 40
theorem tw_all {p : Nat → Bool} {z : T} : ∀ c ∈ z.takeWhile p, p c = true := fun c h => by
  induction z with
  | nil => cases h
  | cons a z ih =>
    rw [List.takeWhile_cons] at h
    split at h
    case isTrue ha => rcases List.mem_cons.mp h with rfl | h; exact ha; exact ih h
    case isFalse => cases h
theorem tw_app {p : Nat → Bool} {w z : T} (hw : ∀ c ∈ w, p c = true) (hz : ∀ c, z.head? = some c → p c = false) : (w ++ z).takeWhile p = w ∧ (w ++ z).dropWhile p = z := by
  induction w with
  | nil =>
    cases z with
    | nil => exact ⟨rfl, rfl⟩
    | cons a z => simp [hz a rfl]
  | cons a w ih =>
    have ha := hw a (by simp)
    obtain ⟨h1, h2⟩ := ih fun c hc => hw c (by simp [hc])
    simp [ha, h1, h2]
theorem rdA_sound {g : T → Option (Ex × T)} {d : Nat} (hg : ∀ z e r, g z = some (e, r) → z = e.pr ++ r ∧ e.raw ∧ e.deep ≤ d) :
    ∀ (n : Nat) (f : Bool) (z : T) (es : List Ex) (r : T), rdA g n f z = some (es, r) → z = prA f es ++ r ∧ raws es ∧ deeps es ≤ d
  | 0, _, _, _, _, h => by cases h
  | n + 1, f, z, es, r, h => by
    rw [rdA] at h
    split at h
    · cases h; exact ⟨rfl, trivial, Nat.zero_le _⟩
    · obtain ⟨z1, h1, h⟩ := Option.bind_eq_some_iff.mp h
      obtain ⟨⟨e, z2⟩, h2, h⟩ := Option.bind_eq_some_iff.mp h
      obtain ⟨⟨l, z3⟩, h3, h⟩ := Option.bind_eq_some_iff.mp h
      simp only [Option.some.injEq, Prod.mk.injEq] at h
      obtain ⟨rfl, rfl⟩ := h
      simp only at h2 h3
      obtain ⟨a1, a2, a3⟩ := hg _ _ _ h2
      obtain ⟨b1, b2, b3⟩ := rdA_sound hg n false z2 l _ h3
      refine ⟨?_, ⟨a2, b2⟩, by simp only [deeps]; omega⟩
      subst a1
      subst b1
      cases f
      · have := skip_iff.mp h1
        rw [this]; simp [prA, List.append_assoc]
      · simp only [if_true, Option.some.injEq] at h1
        rw [h1]; simp [prA, List.append_assoc]
theorem rd_sound : ∀ (d : Nat) (z : T) (e : Ex) (r : T), rd d z = some (e, r) → z = e.pr ++ r ∧ e.raw ∧ e.deep ≤ d
  | 0, _, _, _, h => by cases h
  | d + 1, z, e, r, h => by
    rw [rd] at h
    have t1 := List.takeWhile_append_dropWhile (p := isD) (l := z)
    have t2 := List.takeWhile_append_dropWhile (p := isL) (l := z)
    split at h
    · obtain ⟨n, h1, h⟩ := Option.bind_eq_some_iff.mp h
      cases h
      obtain ⟨h1, h2⟩ := num_sound h1
      refine ⟨?_, h2, by simp [Ex.deep]⟩
      rw [Ex.pr, ← h1, List.append_assoc, List.takeWhile_append_dropWhile, t1]
    split at h
    case isTrue hw =>
      rw [hw] at t2
      unfold rdIte at h
      obtain ⟨z1, h1, h⟩ := Option.bind_eq_some_iff.mp h
      obtain ⟨k, h2, h⟩ := Option.bind_eq_some_iff.mp h
      obtain ⟨z2, h3, h⟩ := Option.bind_eq_some_iff.mp h
      obtain ⟨⟨a, z3⟩, h4, h⟩ := Option.bind_eq_some_iff.mp h
      obtain ⟨z4, h5, h⟩ := Option.bind_eq_some_iff.mp h
      obtain ⟨⟨b, z5⟩, h6, h⟩ := Option.bind_eq_some_iff.mp h
      simp only [Option.some.injEq, Prod.mk.injEq] at h
      obtain ⟨rfl, rfl⟩ := h
      simp only at h4 h5 h6
      obtain ⟨h2, k1⟩ := num_sound h2
      obtain ⟨a1, a2, a3⟩ := rd_sound d _ _ _ h4
      obtain ⟨b1, b2, b3⟩ := rd_sound d _ _ _ h6
      have h1 := skip_iff.mp h1
      have h3 := skip_iff.mp h3
      have h5 := skip_iff.mp h5
      have t3 := List.takeWhile_append_dropWhile (p := isD) (l := z1)
      refine ⟨?_, ⟨k1, a2, b2⟩, by simp only [Ex.deep]; omega⟩
      rw [← t2, h1, ← t3, h2, h3, a1, h5, b1]
      simp [Ex.pr, List.append_assoc]
    split at h
    case isTrue hw =>
      obtain ⟨k, h1, h⟩ := Option.bind_eq_some_iff.mp h
      cases h
      obtain ⟨h1, h2⟩ := num_sound h1
      refine ⟨?_, h2, by simp [Ex.deep]⟩
      rw [hw.1] at t2
      rw [Ex.pr, ← h1, List.cons_append, List.takeWhile_append_dropWhile]
      exact t2.symm
    case isFalse hi _ =>
      unfold rdApp at h
      obtain ⟨⟨es, z3⟩, h0, h⟩ := Option.bind_eq_some_iff.mp h
      unfold args at h0
      obtain ⟨z1, h1, h0⟩ := Option.bind_eq_some_iff.mp h0
      obtain ⟨⟨es', z2⟩, h2, h0⟩ := Option.bind_eq_some_iff.mp h0
      obtain ⟨z3', h3, h0⟩ := Option.bind_eq_some_iff.mp h0
      simp only [Option.some.injEq, Prod.mk.injEq] at h0
      obtain ⟨rfl, rfl⟩ := h0
      by_cases ho : opOk (z.takeWhile isL) es'.length = true
      case neg => rw [if_neg ho] at h; cases h
      case pos =>
        rw [if_pos ho] at h
        simp only [Option.some.injEq, Prod.mk.injEq] at h
        obtain ⟨rfl, rfl⟩ := h
        simp only at h2 h3 ho
        obtain ⟨a1, a2, a3⟩ := rdA_sound (rd_sound d) _ _ _ _ _ h2
        have h1 := skip_iff.mp h1
        have h3 := skip_iff.mp h3
        refine ⟨?_, ⟨tw_all, hi, ?_, a2⟩, by simp only [Ex.deep]; omega⟩
        · rw [Ex.pr]
          simp only [List.append_assoc, List.cons_append, List.nil_append]
          rw [show (41 :: z3' : T) = [41] ++ z3' from rfl, ← h3, ← a1, show (40 :: z1 : T) = [40] ++ z1 from rfl, ← h1, t2]
        · intro n hn
          unfold opOk at ho
          rw [hn] at ho
          simpa using ho
theorem pr_head (e : Ex) (hr : e.raw) : ∃ c r, e.pr = c :: r ∧ c ≠ 41 := by
  cases e with
  | num n =>
    have := dig_ne n
    cases hd : dig n with
    | nil => exact absurd hd this
    | cons c r =>
      refine ⟨c, r, hd, ?_⟩
      have := dig_all n hr c (by rw [hd]; simp)
      simp only [isD, decide_eq_true_eq] at this; omega
  | par k => exact ⟨112, _, rfl, by decide⟩
  | ite k a b => exact ⟨105, _, rfl, by decide⟩
  | app w as =>
    cases w with
    | nil => exact ⟨40, _, rfl, by decide⟩
    | cons c w =>
      refine ⟨c, _, rfl, ?_⟩
      have := hr.1 c (by simp)
      simp only [isL, decide_eq_true_eq] at this; omega
theorem prA_head (f : Bool) (as : List Ex) (hr : raws as) (z : T) : ∃ c r, prA f as ++ 41 :: z = c :: r := by
  cases as with
  | nil => exact ⟨41, z, rfl⟩
  | cons a as =>
    obtain ⟨c, r, h, _⟩ := pr_head a hr.1
    cases f <;> simp [prA, h]
theorem rdA_complete {g : T → Option (Ex × T)} : ∀ (as : List Ex) (n : Nat) (f : Bool) (z : T), raws as → as.length < n →
    (∀ e ∈ as, ∀ z, bdry z → g (e.pr ++ z) = some (e, z)) → rdA g n f (prA f as ++ 41 :: z) = some (as, 41 :: z)
  | [], n + 1, f, z, _, _, _ => by rw [rdA, if_pos (by simp [prA])]; rfl
  | a :: as, n + 1, f, z, hr, hn, hg => by
    obtain ⟨c, r, hc, hc1⟩ := pr_head a hr.1
    have hnp : ¬ ([41] : T).isPrefixOf (prA f (a :: as) ++ 41 :: z) = true := by
      cases f <;> simp [prA, hc, List.isPrefixOf]
      exact fun h => hc1 h.symm
    rw [rdA, if_neg hnp]
    have hb : bdry (prA false as ++ 41 :: z) := by
      cases as with
      | nil => exact ⟨by decide, by decide, by decide⟩
      | cons b bs => exact ⟨by decide, by decide, by decide⟩
    have h1 := hg a (by simp) _ hb
    have h2 := rdA_complete as n false z hr.2 (by simp at hn; omega) fun e he => hg e (by simp [he])
    cases f
    · have : prA false (a :: as) ++ 41 :: z = [44, 32] ++ (a.pr ++ (prA false as ++ 41 :: z)) := by simp [prA, List.append_assoc]
      rw [this]
      simp only [Bool.false_eq_true, if_false, skip_app, Option.bind_some, h1, h2]
    · have : prA true (a :: as) ++ 41 :: z = (a.pr ++ (prA false as ++ 41 :: z)) := by simp [prA, List.append_assoc]
      rw [this]
      simp only [if_true, Option.bind_some, h1, h2]
  | [], 0, _, _, _, h, _ => by simp at h
  | _ :: _, 0, _, _, _, h, _ => by simp at h
theorem not_digit {c : Nat} (h : isL c = true) : isD c = false := by simp only [isL, isD, decide_eq_true_eq, decide_eq_false_iff_not] at *; omega
theorem len_prA : ∀ (as : List Ex) (f : Bool), raws as → as.length ≤ (prA f as).length
  | [], _, _ => Nat.le_refl _
  | a :: as, f, h => by
    obtain ⟨c, r, hc, _⟩ := pr_head a h.1
    have := len_prA as false h.2
    simp only [prA, hc, List.length_append, List.length_cons]; omega
theorem rd_complete : ∀ (e : Ex), e.raw → ∀ (d : Nat) (z : T), e.deep ≤ d → bdry z → (e.pr ++ z).length < 5000 → rd d (e.pr ++ z) = some (e, z) := by
  have hh : ∀ z : T, bdry z → ∀ c, z.head? = some c → isD c = false ∧ isL c = false ∧ c ≠ 40 := by
    intro z hz c hc
    cases z with
    | nil => cases hc
    | cons a z => cases hc; exact hz
  have hlow : ∀ (w z : T), (∀ c ∈ w, isL c = true) → (∀ c, z.head? = some c → isD c = false ∧ isL c = false) → (w ++ z).takeWhile isD = [] ∧ (w ++ z).takeWhile isL = w ∧ (w ++ z).dropWhile isL = z := by
    intro w z hw hz
    refine ⟨?_, (tw_app hw fun c hc => (hz c hc).2).1, (tw_app hw fun c hc => (hz c hc).2).2⟩
    cases w with
    | nil =>
      cases z with
      | nil => rfl
      | cons a z => simp [(hz a rfl).1]
    | cons a w => simp [not_digit (hw a (by simp))]
  intro e
  induction e using Ex.ind with
  | hn n =>
    intro hr d z hd hz hl
    obtain ⟨d, rfl⟩ : ∃ m, d = m + 1 := ⟨d - 1, by simp [Ex.deep] at hd; omega⟩
    obtain ⟨h1, h2⟩ := tw_app (dig_all n hr) fun c hc => (hh z hz c hc).1
    obtain ⟨h3, h4⟩ := tw_app (p := isL) (w := []) (z := z) (by simp) fun c hc => (hh z hz c hc).2.1
    simp only [List.nil_append] at h3 h4
    rw [Ex.pr, rd, h1, h2, if_pos (dig_ne n), h3, h4, List.append_nil, num_complete hr]; rfl
  | hp k =>
    intro hr d z hd hz hl
    obtain ⟨d, rfl⟩ : ∃ m, d = m + 1 := ⟨d - 1, by simp [Ex.deep] at hd; omega⟩
    have hdg : ∀ c, (dig k ++ z).head? = some c → isD c = true := by
      intro c hc
      have := dig_ne k
      cases hk : dig k with
      | nil => exact absurd hk this
      | cons a r => rw [hk] at hc; cases hc; exact dig_all k hr _ (by rw [hk]; simp)
    have hp : ([40] : T).isPrefixOf (dig k ++ z) = false := by
      cases hk : dig k ++ z with
      | nil => rfl
      | cons a r =>
        have := hdg a (by rw [hk]; rfl)
        simp only [isD, decide_eq_true_eq] at this
        simp [List.isPrefixOf]; omega
    have hnl : ∀ c, isD c = true → isL c = false := fun c h => by simp only [isL, isD, decide_eq_true_eq, decide_eq_false_iff_not] at *; omega
    obtain ⟨a2, a3⟩ := tw_app (p := isL) (w := [112]) (z := dig k ++ z) (by simp [isL]) fun c hc => hnl c (hdg c hc)
    have a1 : ([112] ++ (dig k ++ z)).takeWhile isD = [] := by simp [isD]
    obtain ⟨h1, h2⟩ := tw_app (dig_all k hr) fun c hc => (hh z hz c hc).1
    rw [show (Ex.par k).pr ++ z = [112] ++ (dig k ++ z) from rfl, rd, a1, if_neg (by simp), a2, a3, if_neg (by decide), if_pos ⟨rfl, hp⟩, h1, h2, num_complete hr]
    rfl
  | hi k a b ia ib =>
    intro hr d z hd hz hl
    obtain ⟨d, rfl⟩ : ∃ m, d = m + 1 := ⟨d - 1, by simp [Ex.deep] at hd; omega⟩
    simp only [Ex.deep] at hd
    obtain ⟨k1, ra, rb⟩ := hr
    have e1 : (Ex.ite k a b).pr ++ z = wIf ++ (cP ++ (dig k ++ (cThen ++ (a.pr ++ (cElse ++ (b.pr ++ z)))))) := by simp [Ex.pr, List.append_assoc]
    rw [e1] at hl ⊢
    obtain ⟨t1, t2, t3⟩ := hlow wIf (cP ++ (dig k ++ (cThen ++ (a.pr ++ (cElse ++ (b.pr ++ z)))))) (by decide) (by intro c hc; cases hc; decide)
    obtain ⟨h1, h2⟩ := tw_app (w := dig k) (z := cThen ++ (a.pr ++ (cElse ++ (b.pr ++ z)))) (dig_all k k1) (by intro c hc; cases hc; decide)
    have ha := ia ra d (cElse ++ (b.pr ++ z)) (by omega) ⟨by decide, by decide, by decide⟩ (by simp only [List.length_append] at hl ⊢; omega)
    have hb := ib rb d z (by omega) hz (by simp only [List.length_append] at hl ⊢; omega)
    rw [rd, t1, if_neg (by simp), t2, if_pos rfl, t3]
    simp only [rdIte, skip_app, Option.bind_some, h1, h2, num_complete k1, ha, hb]
  | ha w as ih =>
    intro hr d z hd hz hl
    obtain ⟨d, rfl⟩ : ∃ m, d = m + 1 := ⟨d - 1, by simp [Ex.deep] at hd; omega⟩
    simp only [Ex.deep] at hd
    obtain ⟨r1, r2, r3, r4⟩ := hr
    have e1 : (Ex.app w as).pr ++ z = w ++ ([40] ++ (prA true as ++ 41 :: z)) := by simp [Ex.pr, List.append_assoc]
    rw [e1] at hl ⊢
    obtain ⟨t1, t2, t3⟩ := hlow w ([40] ++ (prA true as ++ 41 :: z)) r1 (by intro c hc; cases hc; decide)
    have hl2 : as.length < 5000 := by
      have := len_prA as true r4
      simp only [List.length_append, List.length_cons] at hl; omega
    have hsub : ∀ (l : List Ex) (f : Bool), ∀ e ∈ l, e.pr.length ≤ (prA f l).length := by
      intro l
      induction l with
      | nil => intro f e he; cases he
      | cons b l ihl =>
        intro f e he
        simp only [prA, List.length_append]
        rcases List.mem_cons.mp he with rfl | he
        · omega
        · have := ihl false e he; omega
    have hargs : ∀ (bs : List Ex) (f : Bool), (∀ e ∈ bs, e ∈ as) → raws bs → ∀ n, bs.length < n → (prA f bs ++ 41 :: z).length < 5000 → rdA (rd d) n f (prA f bs ++ 41 :: z) = some (bs, 41 :: z) := by
      intro bs
      induction bs with
      | nil => intro f _ _ n hn _; obtain ⟨m, rfl⟩ : ∃ m, n = m + 1 := ⟨n - 1, by simp at hn; omega⟩
               rw [rdA, if_pos (by simp [prA])]; rfl
      | cons a bs ihb =>
        intro f hm hrw n hn hlen
        obtain ⟨m, rfl⟩ : ∃ m, n = m + 1 := ⟨n - 1, by simp at hn; omega⟩
        obtain ⟨c, r, hc, hc1⟩ := pr_head a hrw.1
        have hnp : ¬ ([41] : T).isPrefixOf (prA f (a :: bs) ++ 41 :: z) = true := by
          cases f <;> simp [prA, hc, List.isPrefixOf]
          exact fun h => hc1 h.symm
        rw [rdA, if_neg hnp]
        have hb : bdry (prA false bs ++ 41 :: z) := by
          cases bs with
          | nil => exact ⟨by decide, by decide, by decide⟩
          | cons b bs => exact ⟨by decide, by decide, by decide⟩
        have hlen' : (a.pr ++ (prA false bs ++ 41 :: z)).length < 5000 := by simp only [prA, List.length_append, List.length_cons] at hlen ⊢; omega
        have h1 := ih a (hm a (by simp)) hrw.1 d _ (deeps_le.mp (show deeps as ≤ d by omega) a (hm a (by simp))) hb hlen'
        have h2 := ihb false (fun e he => hm e (by simp [he])) hrw.2 m (by simp at hn; omega) (by simp only [List.length_append] at hlen' ⊢; omega)
        cases f
        · have : prA false (a :: bs) ++ 41 :: z = [44, 32] ++ (a.pr ++ (prA false bs ++ 41 :: z)) := by simp [prA, List.append_assoc]
          rw [this]
          simp only [Bool.false_eq_true, if_false, skip_app, Option.bind_some, h1, h2]
        · have : prA true (a :: bs) ++ 41 :: z = (a.pr ++ (prA false bs ++ 41 :: z)) := by simp [prA, List.append_assoc]
          rw [this]
          simp only [if_true, Option.bind_some, h1, h2]
    have h5 := hargs as true (fun e he => he) r4 5000 hl2 (by simp only [List.length_append, List.length_cons] at hl ⊢; omega)
    rw [rd, t1, if_neg (by simp), t2, if_neg r2, t3, if_neg (by rintro ⟨_, h⟩; simp [List.isPrefixOf] at h)]
    simp only [rdApp, args, skip_app, Option.bind_some, h5]
    rw [show (41 :: z : T) = [41] ++ z from rfl, skip_app, Option.bind_some, Option.bind_some, if_pos]
    unfold opOk
    cases ho : op w with
    | none => rfl
    | some n => simp [r3 n ho]
end L79

set_option linter.all false
/-! forms, sizes, lengths -/
namespace L79
open PySem
def resv : List T := [[100, 101, 99], [101, 108, 115, 101], [105, 102], [105, 110, 99], [109, 97, 120], [109, 105, 110], [116, 104, 101, 110]]
def free (w : T) : Bool := decide (1 ≤ w.length ∧ w.length ≤ 8) && !decide (w ∈ resv)
def Ex.ks : Ex → List Ex
  | .num _ => []
  | .par _ => []
  | .ite _ a b => [a, b]
  | .app _ as => as
def Ex.form (a : Nat) : Ex → Bool
  | .num n => decide (n ≤ 1000)
  | .par k => decide (k < a)
  | .ite k _ _ => decide (k < a)
  | .app w as => (op w).isSome || (free w && decide (as.length ≤ 4))
def nst (a : Nat) : Nat → Ex → Bool
  | 0, _ => false
  | L + 1, e => e.form a && e.ks.all (nst a L)
def isE (a : Nat) (e : Ex) : Bool := nst a 6 e && decide (e.nodes ≤ 40)
def lsz (a : Nat) : Nat → Ex → Nat
  | 0, _ => 1000
  | L + 1, e => if e.form a then 1 + (e.ks.map (lsz a L)).sum else 1000
theorem nodess_sum (l : List Ex) : nodess l = (l.map Ex.nodes).sum := by
  induction l with
  | nil => rfl
  | cons a l ih => simp [nodess, ih]
theorem Ex.ks_nodes (e : Ex) : e.nodes = 1 + (e.ks.map Ex.nodes).sum := by
  cases e <;> simp [Ex.ks, Ex.nodes, nodess_sum] <;> omega
theorem Ex.ks_deep {e c : Ex} (h : c ∈ e.ks) : c.deep + 1 ≤ e.deep := by
  cases e with
  | num n => cases h
  | par n => cases h
  | ite k a b => simp only [Ex.ks, List.mem_cons, List.not_mem_nil, or_false] at h; simp only [Ex.deep]; rcases h with rfl | rfl <;> omega
  | app w as => have := deeps_le.mp (Nat.le_refl (deeps as)) c h; simp only [Ex.deep]; omega
theorem Ex.ks_raw {e c : Ex} (w : e.raw) (h : c ∈ e.ks) : c.raw := by
  cases e with
  | num n => cases h
  | par n => cases h
  | ite k a b => simp only [Ex.ks, List.mem_cons, List.not_mem_nil, or_false] at h; rcases h with rfl | rfl; exact w.2.1; exact w.2.2
  | app w' as => exact raws_iff.mp w.2.2.2 c h
theorem nst_lsz (a : Nat) : ∀ (L : Nat) (e : Ex), (nst a L e = true → lsz a L e = e.nodes) ∧ (nst a L e = false → 1000 ≤ lsz a L e)
  | 0, e => ⟨fun h => by simp [nst] at h, fun _ => Nat.le_refl _⟩
  | L + 1, e => by
    have ih := nst_lsz a L
    have sum_eq : ∀ l : List Ex, l.all (nst a L) = true → (l.map (lsz a L)).sum = (l.map Ex.nodes).sum := by
      intro l
      induction l with
      | nil => intro _; rfl
      | cons x l ihl => intro h; simp only [List.all_cons, Bool.and_eq_true] at h; simp [(ih x).1 h.1, ihl h.2]
    have sum_ge : ∀ l : List Ex, l.all (nst a L) = false → 1000 ≤ (l.map (lsz a L)).sum := by
      intro l
      induction l with
      | nil => intro h; simp at h
      | cons x l ihl =>
        intro h
        simp only [List.all_cons, Bool.and_eq_false_iff] at h
        simp only [List.map_cons, List.sum_cons]
        rcases h with h | h
        · have := (ih x).2 h; omega
        · have := ihl h; omega
    constructor
    · intro h
      simp only [nst, Bool.and_eq_true] at h
      rw [lsz, if_pos h.1, sum_eq _ h.2, ← Ex.ks_nodes]
    · intro h
      simp only [nst, Bool.and_eq_false_iff] at h
      rw [lsz]
      by_cases hf : e.form a = true
      · rw [if_pos hf]
        have := sum_ge e.ks (by rcases h with h | h; rw [hf] at h; cases h; exact h)
        omega
      · rw [if_neg hf]; exact Nat.le_refl _
theorem isE_lsz (a : Nat) (e : Ex) : decide (lsz a 6 e < 41) = isE a e := by
  unfold isE
  cases h : nst a 6 e
  · have := (nst_lsz a 6 e).2 h
    simp; omega
  · have := (nst_lsz a 6 e).1 h
    rw [this]; simp; omega
theorem nst_deep (a : Nat) : ∀ (L : Nat) (e : Ex), nst a L e = true → e.deep ≤ L
  | 0, e, h => by simp [nst] at h
  | L + 1, e, h => by
    simp only [nst, Bool.and_eq_true, List.all_eq_true] at h
    have ih := fun c hc => nst_deep a L c (h.2 c hc)
    cases e with
    | num n => simp [Ex.deep]
    | par n => simp [Ex.deep]
    | ite k x y => have h1 := ih x (by simp [Ex.ks]); have h2 := ih y (by simp [Ex.ks]); simp only [Ex.deep]; omega
    | app w as => have : deeps as ≤ L := deeps_le.mpr fun e he => ih e he; simp only [Ex.deep]; omega
theorem isE_deep {a : Nat} {e : Ex} (h : isE a e = true) : e.deep ≤ 6 ∧ e.nodes ≤ 40 := by
  simp only [isE, Bool.and_eq_true, decide_eq_true_eq] at h
  exact ⟨nst_deep a 6 e h.1, h.2⟩
theorem op_len {w : T} (h : (op w).isSome = true) : w.length = 3 := by
  unfold op at h
  split at h
  case isTrue hc => rcases hc with rfl | rfl <;> rfl
  case isFalse =>
    split at h
    case isTrue hc => rcases hc with rfl | rfl <;> rfl
    case isFalse => cases h
theorem op_cases {w : T} (h : (op w).isSome = true) : w = wInc ∨ w = wDec ∨ w = wMin ∨ w = wMax := by
  unfold op at h
  split at h
  case isTrue hc => rcases hc with rfl | rfl <;> simp
  case isFalse =>
    split at h
    case isTrue hc => rcases hc with rfl | rfl <;> simp
    case isFalse => cases h
theorem form_len {a : Nat} {w : T} {as : List Ex} (h : (Ex.app w as).form a = true) : w.length ≤ 8 := by
  simp only [Ex.form, Bool.or_eq_true, Bool.and_eq_true, free, decide_eq_true_eq] at h
  rcases h with h | h
  · have := op_len h; omega
  · exact h.1.1.2
theorem nst_len (a : Nat) : ∀ (L : Nat) (e : Ex), nst a L e = true → e.pr.length + 2 ≤ 30 * e.nodes
  | 0, e, h => by simp [nst] at h
  | L + 1, e, h => by
    simp only [nst, Bool.and_eq_true, List.all_eq_true] at h
    have ih := fun c hc => nst_len a L c (h.2 c hc)
    cases e with
    | num n => have := dig_len n; simp only [Ex.pr, Ex.nodes]; omega
    | par n => have := dig_len n; simp only [Ex.pr, Ex.nodes, List.length_cons]; omega
    | ite k x y =>
      have h1 := ih x (by simp [Ex.ks]); have h2 := ih y (by simp [Ex.ks]); have := dig_len k
      simp only [Ex.pr, Ex.nodes, List.length_append, wIf, cP, cThen, cElse, List.length_cons, List.length_nil]; omega
    | app w as =>
      have hw := form_len h.1
      have : ∀ (l : List Ex) (f : Bool), (∀ c ∈ l, c.pr.length + 2 ≤ 30 * c.nodes) → (prA f l).length ≤ 30 * nodess l := by
        intro l
        induction l with
        | nil => intro f _; simp [prA]
        | cons x l ihl =>
          intro f hl
          have h1 := hl x (by simp)
          have h2 := ihl false fun c hc => hl c (by simp [hc])
          cases f <;> simp only [prA, nodess, List.length_append, if_true, Bool.false_eq_true, if_false, List.length_cons, List.length_nil] <;> omega
      have := this as true ih
      simp only [Ex.pr, Ex.nodes, List.length_append, List.length_cons, List.length_nil]; omega
theorem isE_len {a : Nat} {e : Ex} (h : isE a e = true) : e.pr.length ≤ 1200 := by
  simp only [isE, Bool.and_eq_true, decide_eq_true_eq] at h
  have := nst_len a 6 e h.1; omega
/-- parsing -/
def parse (a : Nat) (z : T) : Option Ex := (rd 6 z).bind fun p => if p.2 = [] ∧ isE a p.1 = true then some p.1 else none
theorem parse_sound {a : Nat} {z : T} {e : Ex} (h : parse a z = some e) : z = e.pr ∧ e.raw ∧ isE a e = true := by
  obtain ⟨⟨e', r⟩, h1, h⟩ := Option.bind_eq_some_iff.mp h
  by_cases hc : r = [] ∧ isE a e' = true
  · rw [if_pos hc] at h
    cases h
    obtain ⟨h1, h2, h3⟩ := rd_sound 6 z _ _ h1
    refine ⟨by rw [h1, hc.1]; simp, h2, hc.2⟩
  · rw [if_neg hc] at h; cases h
theorem parse_pr {b : Nat} {e : Ex} (hr : e.raw) (hd : e.deep ≤ 6) (hl : e.pr.length < 5000) : parse b e.pr = if isE b e = true then some e else none := by
  have := rd_complete e hr 6 [] hd trivial (by simpa using hl)
  rw [List.append_nil] at this
  rw [parse, this]
  simp
end L79

set_option maxRecDepth 1000000
set_option maxHeartbeats 1000000
set_option linter.all false
namespace L79
open PySem Px Px.Rw Px.Dr
abbrev GG : List Fn := ds.map (·.ir)
abbrev cF (n : Nat) := callF GG cs n
theorem cF_at {n f : Nat} {F : Fn} {ws : List W} {S : Store} (h : GG[f]? = some F) (hl : ws.length = F.ps) : cF (n + 1) f ws S = finS S.length (exSs (cF n) cs F.body (Px.start F ws) S) := call_at h hl
/-! ### texts -/
abbrev tx (w : T) : Str := ⟨w.toArray⟩
@[simp] theorem tx_len {w : T} : (Str.length ⟨w.toArray⟩) = w.length := by simp [Str.length]
theorem tx_cps {w : T} : (tx w).cps.toList = w := by simp
theorem tx_inj {v w : T} : (tx v = tx w) = (v = w) := by simp
def cp (s : String) : T := (Str.ofString s).cps.toList
theorem lit_tx (s : String) : Str.ofString s = tx (cp s) := by simp [cp, tx]
mutual
def Ex.enc : Ex → PyData
  | .num n => .tuple [.str "number", .int n]
  | .par k => .tuple [.str "param", .int k]
  | .ite k a b => .tuple [.str "if", .int k, a.enc, b.enc]
  | .app w as => if (op w).isSome then .tuple (.str (tx w) :: encs as) else .tuple [.str "call", .str (tx w), .tuple (encs as)]
def encs : List Ex → List PyData
  | [] => []
  | e :: r => e.enc :: encs r
end
theorem encs_map (l : List Ex) : encs l = l.map Ex.enc := by
  induction l with
  | nil => rfl
  | cons a l ih => simp [encs, ih]
theorem op_enc {w : T} (h : (op w).isSome = true) (as : List Ex) : (∃ s, s ∈ ["inc", "dec", "min", "max"] ∧ (Ex.app w as).enc = .tuple (.str (Str.ofString s) :: as.map Ex.enc) ∧ tx w = Str.ofString s) := by
  have e : (Ex.app w as).enc = .tuple (.str (tx w) :: as.map Ex.enc) := by simp [Ex.enc, h, encs_map]
  rcases op_cases h with rfl | rfl | rfl | rfl
  · exact ⟨"inc", by simp, by rw [e]; rfl, rfl⟩
  · exact ⟨"dec", by simp, by rw [e]; rfl, rfl⟩
  · exact ⟨"min", by simp, by rw [e]; rfl, rfl⟩
  · exact ⟨"max", by simp, by rw [e]; rfl, rfl⟩
theorem enc_inc (as : List Ex) : (Ex.app wInc as).enc = .tuple (.str (Str.ofString "inc") :: as.map Ex.enc) := by simp [Ex.enc, op, encs_map]; rfl
theorem enc_dec (as : List Ex) : (Ex.app wDec as).enc = .tuple (.str (Str.ofString "dec") :: as.map Ex.enc) := by simp [Ex.enc, op, encs_map]; rfl
theorem enc_min (as : List Ex) : (Ex.app wMin as).enc = .tuple (.str (Str.ofString "min") :: as.map Ex.enc) := by rw [Ex.enc, if_pos (by decide), encs_map]; rfl
theorem enc_max (as : List Ex) : (Ex.app wMax as).enc = .tuple (.str (Str.ofString "max") :: as.map Ex.enc) := by rw [Ex.enc, if_pos (by decide), encs_map]; rfl
theorem call_enc {w : T} (h : ¬ (op w).isSome = true) (as : List Ex) : (Ex.app w as).enc = .tuple [.str "call", .str (tx w), .tuple (as.map Ex.enc)] := by
  simp only [Ex.enc, if_neg h, encs_map]
/-- an int between, no bool -/
def isIntB (v : PyData) (lo hi : Int) : Bool := match v with | .int i => decide (lo ≤ i) && decide (i ≤ hi) | _ => false
theorem f0 (n : Nat) (v : PyData) (lo hi : Int) (S : Store) : cF (n + 1) 0 [.p v, .p (.int lo), .p (.int hi)] S = .ok (.p (.bool (isIntB v lo hi))) S := by
  rw [cF_at (F := d0.ir) rfl rfl]
  cases v
  case int i => by_cases h : lo ≤ i <;> simp [d0, isIntB, h]
  all_goals simp [d0, isIntB]
theorem bools_true {α : Type} (l : List α) : boolsOf (l.map fun _ => PyData.bool true) = some (l.map fun _ => true) := by
  induction l with
  | nil => rfl
  | cons a l ih => simp only [List.map_cons, bools_cons, ih]; rfl
theorem bools_of {α : Type} (f : α → Bool) (l : List α) : boolsOf (l.map fun x => PyData.bool (f x)) = some (l.map f) := by
  induction l with
  | nil => rfl
  | cons a l ih => simp only [List.map_cons, bools_cons, ih]; rfl
theorem ints_of {α : Type} (f : α → Int) (l : List α) : intsOf (l.map fun x => PyData.int (f x)) = some (l.map f) := by
  induction l with
  | nil => rfl
  | cons a l ih => simp only [List.map_cons, ints_cons, ih]; rfl
/-- a sign is among others -/
theorem in_one (a : Str) (c : Nat) {S : Store} : cmpW .In (.p (.str ⟨#[c]⟩)) (.p (.str a)) S = some (decide (c ∈ a.cps.toList)) := by
  show some (!(Builtin.Str.occurrences a ⟨#[c]⟩ 0 a.length 1).isEmpty) = _
  rw [StrLaws.found_one]
theorem letters_cps : (Str.ofString "abcdefghijklmnopqrstuvwxyz").cps.toList = (List.range' 97 26) := by decide +kernel
theorem digits_cps : (Str.ofString "0123456789").cps.toList = (List.range' 48 10) := by decide +kernel
theorem in_let (c : Nat) {S : Store} : cmpW .In (.p (.str ⟨#[c]⟩)) (.p (.str (Str.ofString "abcdefghijklmnopqrstuvwxyz"))) S = some (isL c) := by
  rw [in_one, letters_cps, isL]
  congr 1
  exact decide_eq_decide.mpr (by rw [List.mem_range'_1]; omega)
theorem in_dig (c : Nat) {S : Store} : cmpW .In (.p (.str ⟨#[c]⟩)) (.p (.str (Str.ofString "0123456789"))) S = some (isD c) := by
  rw [in_one, digits_cps, isD]
  congr 1
  exact decide_eq_decide.mpr (by rw [List.mem_range'_1]; omega)
theorem len_le {α : Type} {l : List α} {k : Nat} (h : l.length ≤ k) (hk : k ≤ 16777216) : l.length ≤ sizeLine := Nat.le_trans h (Nat.le_trans hk (by decide))
theorem all_id (l : List Bool) : l.all id = l.all fun b => b := rfl
theorem f1 (n : Nat) (w : T) (h : ∀ c ∈ w, isL c = true) (S : Store) : cF (n + 1) 1 [.p (.str (tx w))] S = .ok (.p (.bool (decide (1 ≤ w.length ∧ w.length ≤ 8)))) S := by
  rw [cF_at (F := d1.ir) rfl rfl]
  have hl : lcF (lcStep (cF n) cs (.cmp .In (.v 1) (.g 2)) (.n 1) .nil [some (.p (.str (tx w))), none]) (w.map fun c => .str ⟨#[c]⟩) S = .ok (w.map fun _ => .bool true) S :=
    lcF_map' fun c hc => by simp [in_let, h c hc]
  by_cases h1 : 1 ≤ w.length
  · by_cases h2 : w.length ≤ 8
    · have e1 : (1 : Int) ≤ w.length := by omega
      have e2 : (w.length : Int) ≤ 8 := by omega
      have e3 := len_le h2 (by decide)
      simp [d1, e1, e2, hl, e3, bools_true, h1, h2]
    · have e1 : (1 : Int) ≤ w.length := by omega
      have e2 : ¬ (w.length : Int) ≤ 8 := by omega
      simp [d1, e1, e2, h1, h2]
  · have e1 : ¬ (1 : Int) ≤ w.length := by omega
    simp [d1, e1, h1]
theorem resv_in (w : T) : inp (.str (tx w)) [.str "dec", .str "else", .str "if", .str "inc", .str "max", .str "min", .str "then"] = some (decide (w ∈ resv)) := by
  have e : ([PyData.str "dec", .str "else", .str "if", .str "inc", .str "max", .str "min", .str "then"] : List PyData) = resv.map fun v => .str (tx v) := rfl
  rw [e]
  unfold inp
  rw [if_pos (by simp)]
  congr 1
  generalize resv = l
  induction l with
  | nil => simp
  | cons a l ih =>
    rw [List.map_cons, List.any_cons, ih, eqp_ss]
    by_cases h : a = w
    · subst h; simp
    · have h' : ¬ w = a := fun e => h e.symm
      simp [h, h']
theorem f2 (n : Nat) (w : T) (h : ∀ c ∈ w, isL c = true) (S : Store) : cF (n + 2) 2 [.p (.str (tx w))] S = .ok (.p (.bool (free w))) S := by
  rw [cF_at (F := d2.ir) rfl rfl]
  have h1 := f1 n w h S
  have h2 := resv_in w
  by_cases hc : 1 ≤ w.length ∧ w.length ≤ 8
  · rw [decide_eq_true hc] at h1
    simp [d2, h1, h2, free, hc, -inp_c1]
  · rw [decide_eq_false hc] at h1
    simp [d2, h1, free, hc]
theorem f3 (n : Nat) (e : Ex) (S : Store) : cF (n + 1) 3 [.p e.enc] S = .ok (.p (.tuple (e.ks.map Ex.enc))) S := by
  rw [cF_at (F := d3.ir) rfl rfl]
  cases e with
  | app w as =>
    by_cases h : (op w).isSome = true
    · obtain ⟨s, hs, e, _⟩ := op_enc h as
      simp only [List.mem_cons, List.not_mem_nil, or_false] at hs
      rw [e]
      rcases hs with rfl | rfl | rfl | rfl <;> simp [d3, Ex.ks]
    · rw [call_enc h]; simp [d3, Ex.ks]
  | num k => simp [d3, Ex.enc, Ex.ks]
  | par k => simp [d3, Ex.enc, Ex.ks]
  | ite k a b => simp [d3, Ex.enc, Ex.ks]
theorem f4 (n : Nat) (a : Nat) (e : Ex) (w : e.raw) (S : Store) : cF (n + 3) 4 [.p (.int a), .p e.enc] S = .ok (.p (.bool (e.form a))) S := by
  rw [cF_at (F := d4.ir) rfl rfl]
  have f : ∀ {i hi : Int}, cF (n + 2) 0 [.p (.int i), .p (.int 0), .p (.int hi)] S = .ok (.p (.bool (isIntB (.int i) 0 hi))) S := f0 _ _ _ _ _
  have hk : ∀ k : Nat, isIntB (.int k) 0 ((a : Int) - 1) = decide (k < a) := fun k => by
    have : (0 : Int) ≤ k := by omega
    simp only [isIntB, this, decide_true, Bool.true_and]
    congr 1; apply propext; omega
  have hn : ∀ k : Nat, isIntB (.int k) 0 1000 = decide (k ≤ 1000) := fun k => by
    have : (0 : Int) ≤ k := by omega
    simp only [isIntB, this, decide_true, Bool.true_and]
    congr 1; apply propext; omega
  cases e with
  | num k => simp [d4, Ex.enc, f, hn, Ex.form]
  | par k => simp [d4, Ex.enc, f, hk, Ex.form]
  | ite k x y => simp [d4, Ex.enc, f, hk, Ex.form]
  | app v as =>
    by_cases h : (op v).isSome = true
    · have hl := w.2.2.1
      rcases op_cases h with rfl | rfl | rfl | rfl
      · have hl := hl 1 rfl
        simp [d4, enc_inc, Ex.form, hl, show (op wInc).isSome = true from rfl]
      · have hl := hl 1 rfl
        simp [d4, enc_dec, Ex.form, hl, show (op wDec).isSome = true from rfl]
      · have hl := hl 2 rfl
        simp [d4, enc_min, Ex.form, hl, show (op wMin).isSome = true from rfl]
      · have hl := hl 2 rfl
        simp [d4, enc_max, Ex.form, hl, show (op wMax).isSome = true from rfl]
    · have h2 := f2 n v w.1 S
      have h3 : (op v).isSome = false := by simpa using h
      rw [call_enc h]
      cases hf : free v
      · rw [hf] at h2; simp [d4, h2, Ex.form, h3, hf]
      · rw [hf] at h2
        by_cases h4 : as.length ≤ 4
        · have h5 : (as.length : Int) ≤ 4 := by omega
          simp [d4, h2, Ex.form, h3, hf, h4, h5]
        · have h5 : ¬ (as.length : Int) ≤ 4 := by omega
          simp [d4, h2, Ex.form, h3, hf, h4, h5]
end L79

set_option maxRecDepth 1000000
set_option maxHeartbeats 1000000
set_option linter.all false
namespace L79
open PySem Px Px.Rw Px.Dr
@[simp] theorem finS_ex {n : Nat} {e : EV} {ρ : Px.Env} {S : Store} : finS n (.ex e ρ S) = .exc e (S.take n) := rfl
/-- a list that is not too long -/
def Shrt (e : Ex) : Prop := e.pr.length < 60000
theorem ks_len {e : Ex} (w : e.raw) : e.ks.length ≤ e.pr.length := by
  cases e with
  | num n => simp [Ex.ks]
  | par k => simp [Ex.ks]
  | ite k a b => simp [Ex.ks, Ex.pr, wIf, cP]
  | app v as => have := len_prA as true w.2.2.2; simp only [Ex.ks, Ex.pr, List.length_append, List.length_cons]; omega
theorem sub_len : ∀ (l : List Ex) (f : Bool), ∀ e ∈ l, e.pr.length ≤ (prA f l).length := by
  intro l
  induction l with
  | nil => intro f e he; cases he
  | cons b l ihl =>
    intro f e he
    simp only [prA, List.length_append]
    rcases List.mem_cons.mp he with rfl | he
    · omega
    · have := ihl false e he; omega
theorem Shrt.ks {e c : Ex} (h : Shrt e) (hc : c ∈ e.ks) : Shrt c := by
  unfold Shrt at *
  cases e with
  | num n => cases hc
  | par k => cases hc
  | ite k a b =>
    simp only [Ex.ks, List.mem_cons, List.not_mem_nil, or_false] at hc
    simp only [Ex.pr, List.length_append] at h
    rcases hc with rfl | rfl <;> omega
  | app v as => have := sub_len as true c hc; simp only [Ex.pr, List.length_append, List.length_cons] at h; omega
theorem Shrt.len {e : Ex} (h : Shrt e) (w : e.raw) : e.ks.length ≤ sizeLine := len_le (Nat.le_trans (ks_len w) (Nat.le_of_lt h)) (by decide)
theorem f5 (a : Nat) : ∀ (L : Nat) (n : Nat) (e : Ex) (S : Store), e.raw → Shrt e → L + 4 ≤ n → cF n 5 [.p (.int a), .p e.enc, .p (.int L)] S = .ok (.p (.bool (nst a L e))) S
  | 0, n, e, S, w, hs, hn => by
    obtain ⟨m, rfl⟩ : ∃ m, n = m + 4 := ⟨n - 4, by omega⟩
    rw [cF_at (F := d5.ir) rfl rfl]
    simp [d5, nst]
  | L + 1, n, e, S, w, hs, hn => by
    obtain ⟨m, rfl⟩ : ∃ m, n = m + 5 := ⟨n - 5, by omega⟩
    have h0 : ¬ ((L : Int) + 1 = 0) := by omega
    have h4 := f4 (m + 1) a e w S
    have h3 := f3 (m + 3) e S
    have hl : lcF (lcStep (cF (m + 4)) cs (E.call 5 (Es.cons (E.v 0) (Es.cons (E.v 3) (Es.cons (E.bin false Operator.Sub (E.v 2) (E.k (PyData.int 1))) Es.nil)))) (Tg.n 3) Es.nil
        [some (W.p (PyData.int a)), some (W.p e.enc), some (W.p (PyData.int ((L : Int) + 1))), none]) (e.ks.map Ex.enc) S = .ok (e.ks.map fun c => .bool (nst a L c)) S :=
      lcF_map' fun c hc => by
        have i1 := f5 a L (m + 4) c S (Ex.ks_raw w hc) (hs.ks hc) (by omega)
        have e1 : (L : Int) + 1 - 1 = L := by omega
        simp [e1, i1]
    rw [cF_at (F := d5.ir) rfl rfl]
    have hsz := hs.len w
    cases hf : e.form a
    · rw [hf] at h4; simp [d5, h0, h4, nst, hf]
    · rw [hf] at h4
      have ha : (e.ks.map fun c => nst a L c).all id = e.ks.all (nst a L) := by simp
      simp [d5, h0, h4, nst, hf, h3, hl, hsz, bools_of]
theorem f6 (e : Ex) : ∀ (n : Nat) (S : Store), e.raw → Shrt e → e.deep + 1 ≤ n → cF n 6 [.p e.enc] S = .ok (.p (.int e.nodes)) S := by
  induction hd : e.deep using Nat.strongRecOn generalizing e with
  | ind d ih =>
    intro n S w hs hn
    subst hd
    have := e.deep_pos
    obtain ⟨m, rfl⟩ : ∃ m, n = m + 2 := ⟨n - 2, by omega⟩
    have hl : lcF (lcStep (cF (m + 1)) cs (.call 6 (.cons (.v 1) .nil)) (.n 1) .nil
        [some (W.p e.enc), none]) (e.ks.map Ex.enc) S = .ok (e.ks.map fun c => .int (c.nodes : Int)) S :=
      lcF_map' fun c hc => by
        have := Ex.ks_deep hc
        have i1 := ih c.deep (by omega) c rfl (m + 1) S (Ex.ks_raw w hc) (hs.ks hc) (by omega)
        simp [i1]
    have hsum : 1 + (List.map (fun c => (Ex.nodes c : Int)) e.ks).sum = (e.nodes : Int) := by
      rw [Ex.ks_nodes e]
      generalize e.ks = l
      induction l with
      | nil => rfl
      | cons a l ih => simp only [List.map_cons, List.sum_cons]; omega
    rw [cF_at (F := d6.ir) rfl rfl]
    simp [d6, f3, hl, hs.len w, ints_of, hsum]
theorem f7 (n a : Nat) (e : Ex) (w : e.raw) (hs : Shrt e) (S : Store) : cF (n + 11) 7 [.p (.int a), .p e.enc] S = .ok (.p (.bool (isE a e))) S := by
  rw [cF_at (F := d7.ir) rfl rfl]
  have h5 := f5 a 6 (n + 10) e S w hs (by omega)
  have h5 : cF (n + 10) 5 [.p (.int a), .p e.enc, .p (.int 6)] S = .ok (.p (.bool (nst a 6 e))) S := h5
  cases hn : nst a 6 e
  · rw [hn] at h5; simp [d7, h5, isE, hn]
  · rw [hn] at h5
    have hd := nst_deep a 6 e hn
    have h6 := f6 e (n + 10) S w hs (by omega)
    simp [d7, h5, h6, isE, hn]
    by_cases h : e.nodes ≤ 40
    · have : (e.nodes : Int) ≤ 40 := by omega
      simp [h, this]
    · have : ¬ (e.nodes : Int) ≤ 40 := by omega
      simp [h, this]
theorem ar_ok {a : Nat} (h : a ≤ 4) : isIntB (.int a) 0 4 = true := by simp [isIntB]; omega
theorem f8 (n a : Nat) (h : a ≤ 4) (S : Store) : cF (n + 2) 8 [.p (.int a)] S = .ok (.p .none) S := by
  rw [cF_at (F := d8.ir) rfl rfl]
  simp [d8, f0, ar_ok h]
theorem f22 (n a : Nat) (h : a ≤ 4) (S : Store) : cF (n + 2) 22 [.p (.int a)] S = .ok (.p .none) S := by
  rw [cF_at (F := d22.ir) rfl rfl]
  simp [d22, f0, ar_ok h]
theorem f9 (n a : Nat) (h : a ≤ 4) (e : Ex) (w : e.raw) (hs : Shrt e) (S : Store) : cF (n + 12) 9 [.p (.int a), .p e.enc] S = .ok (.p (.bool (isE a e))) S := by
  rw [cF_at (F := d9.ir) rfl rfl]
  simp [d9, f7 n a e w hs, f8 (n + 9) a h]
/-! ### texts of numbers -/
theorem dgc : ∀ d, d < 10 → (Nat.digitChar d).toNat = 48 + d := by
  have : ∀ d < 10, (Nat.digitChar d).toNat = 48 + d := by decide
  exact this
theorem dig_digits (n : Nat) (h : n < 10000) : (Nat.toDigits 10 n).map Char.toNat = dig n := by
  have e := @Nat.toDigits_eq_if 10
  refine dig_c (P := fun l => (Nat.toDigits 10 n).map Char.toNat = l) n ?_ ?_ ?_ ?_
  · intro h1
    rw [e (by decide), if_pos h1]
    simp only [List.map_cons, List.map_nil, dgc n h1]
  · intro h1 h2
    rw [e (by decide), if_neg h1, e (by decide), if_pos (by omega)]
    simp only [List.map_append, List.map_cons, List.map_nil, dgc (n / 10) (by omega), dgc (n % 10) (by omega)]; rfl
  · intro h1 h2
    rw [e (by decide), if_neg (by omega), e (by decide), if_neg (by omega), e (by decide), if_pos (by omega)]
    have : n / 10 / 10 = n / 100 := by omega
    simp only [List.map_append, List.map_cons, List.map_nil, this, dgc (n / 100) (by omega), dgc (n / 10 % 10) (by omega), dgc (n % 10) (by omega)]; rfl
  · intro h1
    rw [e (by decide), if_neg (by omega), e (by decide), if_neg (by omega), e (by decide), if_neg (by omega), e (by decide), if_pos (by omega)]
    have : n / 10 / 10 = n / 100 := by omega
    have h3 : n / 10 / 10 / 10 = n / 1000 := by omega
    have h4 : n / 100 / 10 = n / 1000 := by omega
    simp only [List.map_append, List.map_cons, List.map_nil, h3, this, h4, dgc (n / 1000) (by omega), dgc (n / 100 % 10) (by omega), dgc (n / 10 % 10) (by omega), dgc (n % 10) (by omega)]; rfl
theorem dig_str (n : Nat) (hn : n < 10000) : Str.ofString (toString (n : Int)) = tx (dig n) := by
  have e : toString (n : Int) = String.ofList (Nat.toDigits 10 n) := rfl
  rw [e, Str.ofString_eq_toList, String.toList_ofList, dig_digits n hn]
theorem txt_int {n : Nat} (h : n < 10000) : txtW (.p (.int n)) = some (tx (dig n)) := by
  have : (n : Int).natAbs.log2 < 1920 := Nat.lt_trans (lg (small400 (by omega) (by omega))) (by decide)
  show (if (n : Int).natAbs.log2 < 1920 then some (Str.ofString (toString (n : Int))) else none) = _
  rw [if_pos this, dig_str n h]
theorem str_int {n : Nat} (h : n < 10000) : strD (.int n) = some (tx (dig n)) := txt_int h
@[simp] theorem txt_str {y : Str} : txtW (.p (.str y)) = some y := rfl
@[simp] theorem emp_app {y : Str} : Str.empty ++ y = y := by
  show Str.append Str.empty y = y
  simp [Str.append, Str.empty]
theorem app_tx {v w : T} : (tx v ++ tx w : Str) = tx (v ++ w) := by
  show Str.append _ _ = _
  simp [Str.append]
theorem fs_lens {v : T} (h : v.length < 100000) : (tx v).length ≤ sizeLine := by rw [tx_len]; exact len_le (Nat.le_of_lt h) (by decide)
end L79

set_option maxRecDepth 1000000
set_option maxHeartbeats 1000000
set_option linter.all false
namespace L79
open PySem Px Px.Rw Px.Dr
/-- ", ".join of the arguments' texts -/
theorem join_prA (l : List Ex) : Txt.join (Str.ofString ", ") (l.map fun e => tx e.pr) = tx (prA true l) := by
  show Builtin.Str.glued (Str.ofString ", ") (l.map fun e => tx e.pr) = _
  rw [StrLaws.glued_eq_join]
  have hs : Str.ofString ", " = tx [44, 32] := rfl
  rw [hs]
  cases l with
  | nil => rfl
  | cons a l =>
    have : ∀ (l : List Ex) (a : Ex), Str.join (tx [44, 32]) ((a :: l).map fun e => tx e.pr) = tx (a.pr ++ prA false l) := by
      intro l
      induction l with
      | nil => intro a; simp [Str.join, prA]
      | cons b l ih =>
        intro a
        have := ih b
        simp only [List.map_cons] at this ⊢
        rw [Str.join, this, app_tx, app_tx]
        · simp [prA, List.append_assoc]
        · simp
    rw [this]; simp [prA]
theorem strs_map (l : List Ex) : strsOf (l.map fun e => PyData.str (tx e.pr)) = some (l.map fun e => tx e.pr) := by
  induction l with
  | nil => rfl
  | cons a l ih => simp only [List.map_cons, strsOf, ih]; rfl
theorem join_len : ∀ (l : List Ex), ((l.map fun e => tx e.pr).map (·.length)).sum ≤ (prA false l).length := by
  intro l
  induction l with
  | nil => simp
  | cons a l ih => simp only [List.map_cons, List.sum_cons, tx_len, prA, List.length_append]; simp only [List.map_map] at ih ⊢; omega
theorem prA_ft (l : List Ex) : (prA false l).length ≤ (prA true l).length + 2 := by cases l <;> simp [prA]
theorem meW_join (l : List Ex) (S : Store) (h : raws l) (hl : (prA true l).length < 60000) : meW .join (.p (.str (Str.ofString ", "))) [.p (.list (l.map fun e => PyData.str (tx e.pr)))] S = .ok (.p (.str (tx (prA true l)))) S := by
  have h1 := join_len l
  have h2 := prA_ft l
  have h3 := len_prA l true h
  have e1 : (Str.ofString ", ").length = 2 := by decide
  simp only [meW, strs_map, join_prA]
  rw [if_pos]
  · rfl
  · rw [e1, List.length_map]; omega
@[simp] theorem meT_join {y : Str} {S : Store} : meT .join (.p (.str y)) S = true := rfl
theorem two_of {α : Type} {l : List α} (h : l.length = 2) : ∃ a b, l = [a, b] := by match l, h with | [a, b], _ => exact ⟨a, b, rfl⟩
theorem fs2 {cl : Cl} {ρ : Px.Env} {S : Store} (w a : T) (ha : ρ[0]? = some (some (.p (.str (tx w))))) (hb : ρ[2]? = some (some (.p (.str (tx a))))) (h : w.length + a.length < 90000) :
    evFs cl cs (.cons (.v 0) (.cons (.k (.str "(")) (.cons (.v 2) (.cons (.k (.str ")")) .nil)))) Str.empty ρ S = .ok (.p (.str (tx (w ++ 40 :: (a ++ [41]))))) S := by
  have e1 : Str.ofString "(" = tx [40] := rfl
  have e2 : Str.ofString ")" = tx [41] := rfl
  have l1 := fs_lens (v := w) (by omega)
  have l2 := fs_lens (v := w ++ [40]) (by simp; omega)
  have l3 := fs_lens (v := w ++ [40] ++ a) (by simp; omega)
  have l4 := fs_lens (v := w ++ [40] ++ a ++ [41]) (by simp; omega)
  rw [evFs_cons, ev_v]
  simp only [loc, ha, tst_false, R.bind_ok, txt_str, emp_app, l1, if_true, evFs_cons, ev_k, e1, app_tx, l2, ev_v, hb, l3, e2, l4, evFs_nil, okP_def]
  simp
theorem txt_spec (e : Ex) : ∀ (n : Nat) (S : Store), e.raw → Shrt e → 2 * e.deep + 1 ≤ n → cF n 10 [.p e.enc] S = .ok (.p (.str (tx e.pr))) S := by
  induction e using Ex.ind with
  | hn k =>
    intro n S w hs hn
    obtain ⟨m, rfl⟩ : ∃ m, n = m + 1 := ⟨n - 1, by omega⟩
    rw [cF_at (F := d10.ir) rfl rfl]
    simp [d10, Ex.enc, seqM, seqJ, str_int w, Ex.pr]
  | hp k =>
    intro n S w hs hn
    obtain ⟨m, rfl⟩ : ∃ m, n = m + 1 := ⟨n - 1, by omega⟩
    rw [cF_at (F := d10.ir) rfl rfl]
    have e1 : Str.ofString "p" = tx [112] := rfl
    have l1 := fs_lens (v := [112]) (by decide)
    have l2 := fs_lens (v := [112] ++ dig k) (by have := dig_len k; simp; omega)
    simp only [tx_len] at l1 l2
    have l3 : (dig k).length + 1 ≤ sizeLine := by simpa using l2
    simp [d10, Ex.enc, seqM, seqJ, txt_int w, Ex.pr, e1, l1, l3, app_tx]
  | hi k a b ia ib =>
    intro n S w hs hn
    obtain ⟨w1, wa, wb⟩ := w
    simp only [Ex.deep] at hn
    obtain ⟨m, rfl⟩ : ∃ m, n = m + 1 := ⟨n - 1, by omega⟩
    have sa : Shrt a := hs.ks (by simp [Ex.ks])
    have sb : Shrt b := hs.ks (by simp [Ex.ks])
    have fa := ia m S wa sa (by omega)
    have fb := ib m S wb sb (by omega)
    rw [cF_at (F := d10.ir) rfl rfl]
    have e1 : Str.ofString "if p" = tx (wIf ++ cP) := rfl
    have e2 : Str.ofString " then " = tx cThen := rfl
    have e3 : Str.ofString " else " = tx cElse := rfl
    have hl : (wIf ++ cP ++ dig k ++ cThen ++ a.pr ++ cElse ++ b.pr).length < 60000 := by have : Shrt (.ite k a b) := hs; unfold Shrt at this; simpa [Ex.pr, List.append_assoc] using this
    have l1 := fs_lens (v := wIf ++ cP) (by decide)
    have l2 := fs_lens (v := wIf ++ cP ++ dig k) (by simp only [List.length_append] at hl ⊢; omega)
    have l3 := fs_lens (v := wIf ++ cP ++ dig k ++ cThen) (by simp only [List.length_append] at hl ⊢; omega)
    have l4 := fs_lens (v := wIf ++ cP ++ dig k ++ cThen ++ a.pr) (by simp only [List.length_append] at hl ⊢; omega)
    have l5 := fs_lens (v := wIf ++ cP ++ dig k ++ cThen ++ a.pr ++ cElse) (by simp only [List.length_append] at hl ⊢; omega)
    have l6 := fs_lens (v := wIf ++ cP ++ dig k ++ cThen ++ a.pr ++ cElse ++ b.pr) (by simp only [List.length_append] at hl ⊢; omega)
    have hfs : ∀ (x4 x5 x6 x7 : Option W), evFs (cF m) cs (.cons (.k (.str "if p")) (.cons (.v 1) (.cons (.k (.str " then ")) (.cons (.call 10 (.cons (.v 2) .nil)) (.cons (.k (.str " else ")) (.cons (.call 10 (.cons (.v 3) .nil)) .nil)))))) Str.empty
        [some (.p (Ex.ite k a b).enc), some (.p (.int k)), some (.p a.enc), some (.p b.enc), x4, x5, x6, x7] S = .ok (.p (.str (tx (wIf ++ cP ++ dig k ++ cThen ++ a.pr ++ cElse ++ b.pr)))) S := by
      intro x4 x5 x6 x7
      simp only [evFs_cons, ev_k, tst_false, R.bind_ok, txt_str, emp_app, e1, l1, if_true, ev_v, loc1, txt_int w1, app_tx, l2, e2, l3, ev_call, evEs_cons, evEs_nil, loc2, loc3, fa, fb, l4, e3, l5, l6, evFs_nil, okP_def]
    have hp : (Ex.ite k a b).pr = wIf ++ cP ++ dig k ++ cThen ++ a.pr ++ cElse ++ b.pr := by simp [Ex.pr, List.append_assoc]
    rw [Ex.enc] at hfs
    rw [hp]
    simp [d10, Ex.enc, seqM, seqJ, -evFs_cons, hfs]
  | ha v as ih =>
    intro n S w hs hn
    simp only [Ex.deep] at hn
    obtain ⟨m, rfl⟩ : ∃ m, n = m + 2 := ⟨n - 2, by omega⟩
    have hl : (v ++ (40 :: (prA true as ++ [41]))).length < 60000 := by have : Shrt (.app v as) := hs; unfold Shrt at this; simpa [Ex.pr, List.append_assoc] using this
    simp only [List.length_append, List.length_cons] at hl
    have hsz : as.length ≤ sizeLine := len_le (Nat.le_trans (len_prA as true w.2.2.2) (by omega : _ ≤ 60000)) (by decide)
    have lc : ∀ (x0 x1 x2 x3 : Option W), lcF (lcStep (cF m) cs (.call 10 (.cons (.v 3) .nil)) (.n 3) .nil [x0, x1, x2, x3]) (as.map Ex.enc) S = .ok (as.map fun e => .str (tx e.pr)) S := by
      intro x0 x1 x2 x3
      refine lcF_map' fun c hc => ?_
      have hd := deeps_le.mp (Nat.le_refl (deeps as)) c hc
      have := ih c hc m S (raws_iff.mp w.2.2.2 c hc) (hs.ks hc) (by omega)
      simp [this]
    have hj := meW_join as S w.2.2.2 (by omega)
    have call : ∀ (X : W), X = .p (.tuple (as.map Ex.enc)) ∨ X = .p (.list (as.map Ex.enc)) → cF (m + 1) 11 [.p (.str (tx v)), X] S = .ok (.p (.str (tx (Ex.app v as).pr))) S := by
      intro X hX
      rw [cF_at (F := d11.ir) rfl rfl]
      have hf := fun (x1 x3 : Option W) => fs2 (cl := cF m) (ρ := [some (.p (.str (tx v))), x1, some (.p (.str (tx (prA true as)))), x3]) (S := S) v (prA true as) rfl rfl (by omega)
      rcases hX with rfl | rfl <;> simp [d11, lc, hsz, hj, -evFs_cons, hf, Ex.pr]
    rw [cF_at (F := d10.ir) rfl rfl]
    by_cases ho : (op v).isSome = true
    · have hl := w.2.2.1
      rcases op_cases ho with rfl | rfl | rfl | rfl
      · have hl := hl 1 rfl
        have call := call _ (.inr rfl)
        rw [show tx wInc = Str.ofString "inc" from rfl] at call
        obtain ⟨a, rfl⟩ := List.length_eq_one_iff.mp hl
        simp only [List.map_cons, List.map_nil] at call; simp [d10, enc_inc, seqM, seqJ, call]
      · have hl := hl 1 rfl
        have call := call _ (.inr rfl)
        rw [show tx wDec = Str.ofString "dec" from rfl] at call
        obtain ⟨a, rfl⟩ := List.length_eq_one_iff.mp hl
        simp only [List.map_cons, List.map_nil] at call; simp [d10, enc_dec, seqM, seqJ, call]
      · have hl := hl 2 rfl
        have call := call _ (.inr rfl)
        rw [show tx wMin = Str.ofString "min" from rfl] at call
        obtain ⟨a, b, rfl⟩ := two_of hl
        simp only [List.map_cons, List.map_nil] at call; simp [d10, enc_min, seqM, seqJ, call]
      · have hl := hl 2 rfl
        have call := call _ (.inr rfl)
        rw [show tx wMax = Str.ofString "max" from rfl] at call
        obtain ⟨a, b, rfl⟩ := two_of hl
        simp only [List.map_cons, List.map_nil] at call; simp [d10, enc_max, seqM, seqJ, call]
    · rw [call_enc ho]
      have call := call _ (.inl rfl)
      simp [d10, seqM, seqJ, call]
/-! ### the law's own writer -/
theorem f30 (e : Ex) : ∀ (n : Nat) (S : Store), e.raw → Shrt e → e.deep ≤ n → cF n 30 [.p e.enc] S = .ok (.p (.str (tx e.pr))) S := by
  induction e using Ex.ind with
  | hn k =>
    intro n S w hs hn
    obtain ⟨m, rfl⟩ : ∃ m, n = m + 1 := ⟨n - 1, by simp [Ex.deep] at hn; omega⟩
    rw [cF_at (F := d30.ir) rfl rfl]
    simp [d30, Ex.enc, str_int w, Ex.pr]
  | hp k =>
    intro n S w hs hn
    obtain ⟨m, rfl⟩ : ∃ m, n = m + 1 := ⟨n - 1, by simp [Ex.deep] at hn; omega⟩
    rw [cF_at (F := d30.ir) rfl rfl]
    have e1 : Str.ofString "p" = tx [112] := rfl
    have l2 := fs_lens (v := [112] ++ dig k) (by have := dig_len k; simp; omega)
    simp only [tx_len] at l2
    have l3 : 1 + (dig k).length ≤ sizeLine := by have := l2; simp at this; omega
    simp [d30, Ex.enc, str_int w, Ex.pr, e1, l3, app_tx]
  | hi k a b ia ib =>
    intro n S w hs hn
    obtain ⟨w1, wa, wb⟩ := w
    simp only [Ex.deep] at hn
    obtain ⟨m, rfl⟩ : ∃ m, n = m + 1 := ⟨n - 1, by omega⟩
    have sa : Shrt a := hs.ks (by simp [Ex.ks])
    have sb : Shrt b := hs.ks (by simp [Ex.ks])
    have fa := ia m S wa sa (by omega)
    have fb := ib m S wb sb (by omega)
    rw [cF_at (F := d30.ir) rfl rfl]
    have e1 : Str.ofString "if p" = tx (wIf ++ cP) := rfl
    have e2 : Str.ofString " then " = tx cThen := rfl
    have e3 : Str.ofString " else " = tx cElse := rfl
    have hl : (wIf ++ cP ++ dig k ++ cThen ++ a.pr ++ cElse ++ b.pr).length < 60000 := by have : Shrt (.ite k a b) := hs; unfold Shrt at this; simpa [Ex.pr, List.append_assoc] using this
    have hh : ∀ v w : T, v.length + w.length < 100000 → v.length + w.length ≤ sizeLine := fun v w h => by have := fs_lens (v := v ++ w) (by simpa using h); simpa using this
    have l1 := hh (wIf ++ cP) (dig k) (by simp only [List.length_append] at hl ⊢; omega)
    have l2 := hh (wIf ++ cP ++ dig k) cThen (by simp only [List.length_append] at hl ⊢; omega)
    have l3 := hh (wIf ++ cP ++ dig k ++ cThen) a.pr (by simp only [List.length_append] at hl ⊢; omega)
    have l4 := hh (wIf ++ cP ++ dig k ++ cThen ++ a.pr) cElse (by simp only [List.length_append] at hl ⊢; omega)
    have l5 := hh (wIf ++ cP ++ dig k ++ cThen ++ a.pr ++ cElse) b.pr (by simp only [List.length_append] at hl ⊢; omega)
    have hp : (Ex.ite k a b).pr = wIf ++ cP ++ dig k ++ cThen ++ a.pr ++ cElse ++ b.pr := by simp [Ex.pr, List.append_assoc]
    rw [hp]
    have a0 : ∀ m S, binD m .Add (.str (tx (wIf ++ cP))) (.str (tx (dig k))) S = .ok (.p (.str (tx (wIf ++ cP ++ dig k)))) S := fun m S => by rw [bin_adds, tx_len, tx_len, if_pos l1, app_tx]
    have a1 : ∀ m S, binD m .Add (.str (tx (wIf ++ cP ++ dig k))) (.str (tx cThen)) S = .ok (.p (.str (tx (wIf ++ cP ++ dig k ++ cThen)))) S := fun m S => by rw [bin_adds, tx_len, tx_len, if_pos l2, app_tx]
    have a2 : ∀ m S, binD m .Add (.str (tx (wIf ++ cP ++ dig k ++ cThen))) (.str (tx a.pr)) S = .ok (.p (.str (tx (wIf ++ cP ++ dig k ++ cThen ++ a.pr)))) S := fun m S => by rw [bin_adds, tx_len, tx_len, if_pos l3, app_tx]
    have a3 : ∀ m S, binD m .Add (.str (tx (wIf ++ cP ++ dig k ++ cThen ++ a.pr))) (.str (tx cElse)) S = .ok (.p (.str (tx (wIf ++ cP ++ dig k ++ cThen ++ a.pr ++ cElse)))) S := fun m S => by rw [bin_adds, tx_len, tx_len, if_pos l4, app_tx]
    have a4 : ∀ m S, binD m .Add (.str (tx (wIf ++ cP ++ dig k ++ cThen ++ a.pr ++ cElse))) (.str (tx b.pr)) S = .ok (.p (.str (tx (wIf ++ cP ++ dig k ++ cThen ++ a.pr ++ cElse ++ b.pr)))) S := fun m S => by rw [bin_adds, tx_len, tx_len, if_pos l5, app_tx]
    generalize wIf ++ cP ++ dig k ++ cThen ++ a.pr ++ cElse ++ b.pr = p5 at *
    generalize wIf ++ cP ++ dig k ++ cThen ++ a.pr ++ cElse = p4 at *
    generalize wIf ++ cP ++ dig k ++ cThen ++ a.pr = p3 at *
    generalize wIf ++ cP ++ dig k ++ cThen = p2 at *
    generalize wIf ++ cP ++ dig k = p1 at *
    generalize wIf ++ cP = p0 at *
    simp [d30, Ex.enc, str_int w1, fa, fb, e1, e2, e3, a0, a1, a2, a3, a4, -bin_adds]
  | ha v as ih =>
    intro n S w hs hn
    simp only [Ex.deep] at hn
    obtain ⟨m, rfl⟩ : ∃ m, n = m + 1 := ⟨n - 1, by omega⟩
    have hl : (v ++ (40 :: (prA true as ++ [41]))).length < 60000 := by have : Shrt (.app v as) := hs; unfold Shrt at this; simpa [Ex.pr, List.append_assoc] using this
    simp only [List.length_append, List.length_cons] at hl
    have hsz : as.length ≤ sizeLine := len_le (Nat.le_trans (len_prA as true w.2.2.2) (by omega : _ ≤ 60000)) (by decide)
    have lc : ∀ (x0 x1 x2 x3 x4 x5 : Option W), lcF (lcStep (cF m) cs (.call 30 (.cons (.v 5) .nil)) (.n 5) .nil [x0, x1, x2, x3, x4, x5]) (as.map Ex.enc) S = .ok (as.map fun e => .str (tx e.pr)) S := by
      intro x0 x1 x2 x3 x4 x5
      refine lcF_map' fun c hc => ?_
      have hd := deeps_le.mp (Nat.le_refl (deeps as)) c hc
      have := ih c hc m S (raws_iff.mp w.2.2.2 c hc) (hs.ks hc) (by omega)
      simp [this]
    have hj := meW_join as S w.2.2.2 (by omega)
    have e1 : Str.ofString "(" = tx [40] := rfl
    have e2 : Str.ofString ")" = tx [41] := rfl
    have hh : ∀ v w : T, v.length + w.length < 100000 → v.length + w.length ≤ sizeLine := fun v w h => by have := fs_lens (v := v ++ w) (by simpa using h); simpa using this
    have a0 : ∀ m S, binD m .Add (.str (tx v)) (.str (tx [40])) S = .ok (.p (.str (tx (v ++ [40])))) S := fun m S => by rw [bin_adds, tx_len, tx_len, if_pos (hh _ _ (by simp; omega)), app_tx]
    have a1 : ∀ m S, binD m .Add (.str (tx (v ++ [40]))) (.str (tx (prA true as))) S = .ok (.p (.str (tx (v ++ [40] ++ prA true as)))) S := fun m S => by rw [bin_adds, tx_len, tx_len, if_pos (hh _ _ (by simp; omega)), app_tx]
    have a2 : ∀ m S, binD m .Add (.str (tx (v ++ [40] ++ prA true as))) (.str (tx [41])) S = .ok (.p (.str (tx (v ++ [40] ++ prA true as ++ [41])))) S := fun m S => by rw [bin_adds, tx_len, tx_len, if_pos (hh _ _ (by simp; omega)), app_tx]
    have hp : (Ex.app v as).pr = v ++ [40] ++ prA true as ++ [41] := by simp [Ex.pr, List.append_assoc]
    rw [hp]
    generalize v ++ [40] ++ prA true as ++ [41] = p2 at *
    generalize v ++ [40] ++ prA true as = p1 at *
    generalize v ++ [40] = p0 at *
    rw [cF_at (F := d30.ir) rfl rfl]
    by_cases ho : (op v).isSome = true
    · rcases op_cases ho with rfl | rfl | rfl | rfl
      · rw [show tx wInc = Str.ofString "inc" from rfl] at a0
        simp [d30, enc_inc, lc, hsz, hj, e1, e2, a0, a1, a2, -bin_adds]
      · rw [show tx wDec = Str.ofString "dec" from rfl] at a0
        simp [d30, enc_dec, lc, hsz, hj, e1, e2, a0, a1, a2, -bin_adds]
      · rw [show tx wMin = Str.ofString "min" from rfl] at a0
        simp [d30, enc_min, lc, hsz, hj, e1, e2, a0, a1, a2, -bin_adds]
      · rw [show tx wMax = Str.ofString "max" from rfl] at a0
        simp [d30, enc_max, lc, hsz, hj, e1, e2, a0, a1, a2, -bin_adds]
    · rw [call_enc ho]
      simp [d30, lc, hsz, hj, e1, e2, a0, a1, a2, -bin_adds]
/-! ### reading numbers -/
def toR (S : Store) : Option Nat → R W
  | some k => .ok (.p (.int k)) S
  | none => .exc ⟨2, .none⟩ S
theorem int_dig {k : Nat} (h : k < 10000) : PySem.intText? (tx (dig k)) = some (k : Int) := by
  rw [← dig_str k h]; exact PySem.W.KIN.num_reads (by omega) (by omega)
theorem cps0 {c : Nat} {w : T} {S : Store} : subW (.p (.str (tx (c :: w)))) (.p (.int 0)) S = .ok (.p (.str ⟨#[c]⟩)) S := by
  simp [subW, subD]
@[simp] theorem bi_int_s {m : Bool} {x : Str} {S : Store} : biW m .int [.p (.str x)] S = if x.length ≤ 640 then (match PySem.intText? x with | some n => .ok (.p (.int n)) S | none => .stuck) else .stuck := rfl
theorem f12 (n : Nat) (w : T) (hl : w.length < 100000) (S : Store) : cF (n + 1) 12 [.p (.str (tx w))] S = toR S (rdNum w) := by
  rw [cF_at (F := d12.ir) rfl rfl]
  have lc : lcF (lcStep (cF n) cs (.cmp .In (.v 1) (.g 8)) (.n 1) .nil [some (.p (.str (tx w))), none]) (w.map fun c => .str ⟨#[c]⟩) S = .ok (w.map fun c => .bool (isD c)) S :=
    lcF_map' fun c hc => by simp [in_dig]
  have hsz := len_le (Nat.le_of_lt hl) (by decide)
  by_cases h1 : 1 ≤ w.length
  case neg =>
    have e1 : ¬ (1 : Int) ≤ w.length := by omega
    have : numOk w = false := by simp [numOk]; omega
    simp [d12, e1, rdNum, this, toR]
  have e1 : (1 : Int) ≤ w.length := by omega
  by_cases h2 : w.length ≤ 4
  case neg =>
    have e2 : ¬ (w.length : Int) ≤ 4 := by omega
    have : numOk w = false := by simp [numOk]; omega
    simp [d12, e1, e2, rdNum, this, toR]
  have e2 : (w.length : Int) ≤ 4 := by omega
  by_cases h3 : w.all isD = true
  case neg =>
    have h3 : w.all isD = false := by simpa using h3
    have : numOk w = false := by simp only [numOk, h3, Bool.and_false, Bool.false_and]
    have h4 : (w.map isD).all id = false := by rw [← h3]; simp [List.all_map]
    simp [d12, e1, e2, lc, hsz, bools_of, h4, rdNum, this, toR]
  have h4 : (w.map isD).all id = true := by rw [← h3]; simp [List.all_map]
  have z0 : Str.ofString "0" = tx [48] := rfl
  obtain ⟨c, r, hw⟩ : ∃ c r, w = c :: r := by cases w with | nil => simp at h1 | cons c r => exact ⟨c, r, rfl⟩
  have c0 : subW (.p (.str (tx w))) (.p (.int 0)) S = .ok (.p (.str ⟨#[c]⟩)) S := by rw [hw]; exact cps0
  have q0 : (tx w = tx [48]) = (w = [48]) := tx_inj
  have q1 : ((⟨#[c]⟩ : Str) = tx [48]) = (c = 48) := by simp
  by_cases hc : c = 48
  · by_cases hr : w = [48]
    · have hn : numOk w = true := by rw [hr]; decide
      have hi : PySem.intText? (tx w) = some ((val w : Nat) : Int) := by rw [hr]; exact int_dig (k := 0) (by decide)
      have q2 : decide (w = [48]) = true := decide_eq_true hr
      have h640 : w.length ≤ 640 := by omega
      simp [h640, d12, e1, e2, lc, hsz, bools_of, h4, rdNum, hn, c0, z0, toR, q0, q1, hc, q2, hi]
    · have hd : w.head? = some 48 := by rw [hw, hc]; rfl
      have hn : numOk w = false := by simp only [numOk, hd, hr, ne_eq, not_false_eq_true, decide_true, Bool.and_self, Bool.not_true, Bool.and_false]
      simp [d12, e1, e2, lc, hsz, bools_of, h4, rdNum, hn, c0, z0, toR, q0, q1, hc, hr]
  · have hn : numOk w = true := by
      have : ¬ (w.head? = some 48 ∧ w ≠ [48]) := by simp [hw, hc]
      have h5 : (!(decide (w.head? = some 48) && decide (w ≠ [48]))) = true := by rw [← Bool.decide_and, decide_eq_false this]; rfl
      simp only [numOk, h3, h5, h2, h1, and_self, decide_true, Bool.and_self]
    have hd := num_sound (w := w) (n := val w) (by rw [rdNum, if_pos hn])
    have hi := int_dig hd.2
    rw [← hd.1] at hi
    have h640 : w.length ≤ 640 := by omega
    simp [d12, e1, e2, lc, hsz, bools_of, h4, rdNum, hn, c0, z0, toR, q1, hc, hi, h640]
end L79

set_option maxRecDepth 1000000
set_option maxHeartbeats 1000000
set_option linter.all false
namespace L79
open PySem Px Px.Rw Px.Dr
/-- the reader -/
def ob (z : T) (p : Nat) : MO := .obj "ExpressionReader" [("own_text", .str (tx z)), ("own_place", .int p)]
section
variable {S : Store} {i : Nat} {z : T} {p : Nat}
theorem at_text (h : S[i]? = some (ob z p)) : attrW "ExpressionReader" "own_text" (.ref i) S = some (.str (tx z)) := by simp [attrW, h, ob]
theorem at_place (h : S[i]? = some (ob z p)) : attrW "ExpressionReader" "own_place" (.ref i) S = some (.int p) := by simp [attrW, h, ob]
theorem is_ob (h : S[i]? = some (ob z p)) (m : String) (h1 : m ≠ "own_text") (h2 : m ≠ "own_place") : isObj "ExpressionReader" (Str.ofString m) (.ref i) S = true := by simp [isObj, h, ob, h1, h2]
theorem set_place (h : S[i]? = some (ob z p)) (q : Nat) : setA "ExpressionReader" "own_place" (.ref i) (.int q) S = some (S.set i (ob z q)) := by
  simp [setA, h, ob, putA]
theorem ob_lt (h : S[i]? = some (ob z p)) : i < S.length := (List.getElem?_eq_some_iff.mp h).1
theorem ob_set (h : S[i]? = some (ob z p)) (q : Nat) : (S.set i (ob z q))[i]? = some (ob z q) := by rw [List.getElem?_set]; simp [ob_lt h]
theorem set_self (h : S[i]? = some (ob z p)) : S.set i (ob z p) = S := by
  refine List.ext_getElem? fun j => ?_
  rw [List.getElem?_set]
  by_cases hj : i = j
  · subst hj; rw [if_pos rfl, if_pos (ob_lt h), h]
  · simp [hj]
end
@[simp] theorem take_set {S : Store} {i : Nat} {o : MO} : (S.set i o).take S.length = S.set i o := List.take_of_length_le (by simp)
theorem cut_place (z : T) (p k : Nat) (h : p ≤ z.length) : L2.cutS (tx z) (some (p : Int)) (some ((p : Int) + k)) = tx ((z.drop p).take k) := by
  have h1 : min (p : Int) z.length = p := by omega
  have e : L2.cutS (tx z) (some (p : Int)) (some ((p : Int) + k)) = tx ((z.drop p).take (min (p + k) z.length - p)) := by
    unfold L2.cutS
    congr 2
    have a1 : HT.sIx (tx z).length 0 (some (p : Int)) = p := by simp only [HT.sIx, tx_len]; rw [if_neg (by omega)]; omega
    have a2 : HT.sIx (tx z).length (tx z).length (some ((p : Int) + k)) = min (p + k) z.length := by simp only [HT.sIx, tx_len]; rw [if_neg (by omega)]; omega
    rw [a1, a2, tx_cps]
  rw [e]
  have e2 : (z.drop p).take (min (p + k) z.length - p) = (z.drop p).take k := by
    by_cases hk : p + k ≤ z.length
    · congr 1; omega
    · rw [List.take_of_length_le (by simp; omega), List.take_of_length_le (by simp; omega)]
  rw [e2]
theorem pre_take (w l : T) : decide (l.take w.length = w) = w.isPrefixOf l := by
  by_cases h : w <+: l
  · rw [List.isPrefixOf_iff_prefix.mpr h, decide_eq_true]
    exact (List.prefix_iff_eq_take.mp h).symm
  · have : w.isPrefixOf l = false := by
      cases hb : w.isPrefixOf l
      · rfl
      · exact absurd (List.isPrefixOf_iff_prefix.mp hb) h
    rw [this, decide_eq_false]
    exact fun e => h (List.prefix_iff_eq_take.mpr e.symm)
theorem slc_s {m : Bool} {x : Str} {lo hi : Option Int} {S : Store} : slcW m (.p (.str x)) lo hi S = .ok (.p (.str (L2.cutS x lo hi))) S := rfl
theorem f14 (n : Nat) {S : Store} {i : Nat} {z : T} {p : Nat} (h : S[i]? = some (ob z p)) (hp : p ≤ z.length) (w : T) : cF (n + 1) 14 [.ref i, .p (.str (tx w))] S = .ok (.p (.bool (w.isPrefixOf (z.drop p)))) S := by
  rw [cF_at (F := d14.ir) rfl rfl]
  have hc := cut_place z p w.length hp
  have hq : eqp (.str (tx ((z.drop p).take w.length))) (.str (tx w)) = some (w.isPrefixOf (z.drop p)) := by rw [eqp_ss, ← pre_take]; congr 1; simp
  generalize tx ((z.drop p).take w.length) = c at hc hq
  simp [d14, at_text h, at_place h, slc_s, hc, hq, -eqp_ss]
theorem f15 (n : Nat) {S : Store} {i : Nat} {z : T} {p : Nat} (h : S[i]? = some (ob z p)) (hp : p ≤ z.length) (w : T) (hw : w.length < 1000) :
    (∀ r, skip w (z.drop p) = some r → cF (n + 2) 15 [.ref i, .p (.str (tx w))] S = .ok (.p .none) (S.set i (ob z (p + w.length))) ∧ p + w.length ≤ z.length ∧ z.drop (p + w.length) = r) ∧
    (skip w (z.drop p) = none → cF (n + 2) 15 [.ref i, .p (.str (tx w))] S = .exc ⟨2, .none⟩ S) := by
  have h14 := f14 n h hp w
  have h1 := is_ob h "does_follow" (by decide) (by decide)
  have hs : setA "ExpressionReader" "own_place" (.ref i) (.int ((p : Int) + w.length)) S = some (S.set i (ob z (p + w.length))) := by
    rw [show (p : Int) + w.length = ((p + w.length : Nat) : Int) by omega]; exact set_place h _
  constructor
  · intro r hr
    have hz := skip_iff.mp hr
    have hb : w.isPrefixOf (z.drop p) = true := by rw [hz]; exact List.isPrefixOf_iff_prefix.mpr ⟨r, rfl⟩
    rw [hb] at h14
    refine ⟨?_, ?_, ?_⟩
    · rw [cF_at (F := d15.ir) rfl rfl]
      simp [d15, h1, h14, at_place h, hs]
    · have := congrArg List.length hz
      simp only [List.length_drop, List.length_append] at this; omega
    · rw [← List.drop_drop, hz]; simp
  · intro hn
    have hb : w.isPrefixOf (z.drop p) = false := by
      cases hb : w.isPrefixOf (z.drop p)
      · rfl
      · rw [skip, if_pos hb] at hn; cases hn
    rw [hb] at h14
    have e1 : Str.ofString " expected" = tx (cp " expected") := lit_tx _
    have l0 : (cp " expected").length = 9 := by decide +kernel
    have l1 := fs_lens (v := w) (by omega)
    have l2 := fs_lens (v := w ++ cp " expected") (by simp [l0]; omega)
    have hf : ∀ (ρ : Px.Env) (S : Store), ρ[1]? = some (some (.p (.str (tx w)))) → evFs (cF (n + 1)) cs (.cons (.v 1) (.cons (.k (.str " expected")) .nil)) Str.empty ρ S = .ok (.p (.str (tx (w ++ cp " expected")))) S := by
      intro ρ S hρ
      simp only [evFs_cons, ev_v, loc, hρ, tst_false, R.bind_ok, txt_str, emp_app, l1, if_true, ev_k, e1, app_tx, l2, evFs_nil, okP_def]
    rw [cF_at (F := d15.ir) rfl rfl]
    simp [d15, h1, h14, -evFs_cons, hf]
theorem tw_len {P : Nat → Bool} (l : T) : (l.takeWhile P).length ≤ l.length := by
  induction l with
  | nil => simp
  | cons a l ih => rw [List.takeWhile_cons]; split <;> simp <;> omega
theorem drop_tw {P : Nat → Bool} (l : T) : l.drop (l.takeWhile P).length = l.dropWhile P := by
  induction l with
  | nil => rfl
  | cons a l ih => rw [List.takeWhile_cons, List.dropWhile_cons]; split <;> simp [ih]
theorem loop16 (n : Nat) {z : T} {i : Nat} {P : Nat → Bool} {sg : Str} (hP : ∀ c (S : Store), cmpW .In (.p (.str ⟨#[c]⟩)) (.p (.str sg)) S = some (P c)) (x2 : Option W) : ∀ (k p : Nat) (S : Store), S[i]? = some (ob z p) → p ≤ z.length → z.length - p < k →
    whL (cF n) cs (.boo .And (.cons (.cmp .Lt (.attr "ExpressionReader" "own_place" (.v 0)) (.bi false .len (.cons (.attr "ExpressionReader" "own_text" (.v 0)) .nil))) (.cons (.cmp .In (.sub (.attr "ExpressionReader" "own_text" (.v 0)) (.attr "ExpressionReader" "own_place" (.v 0))) (.v 1)) .nil)))
      (.cons (.saug "ExpressionReader" "own_place" .Add (.v 0) (.k (.int 1))) .nil) k [some (.ref i), some (.p (.str sg)), x2] S
      = .nx [some (.ref i), some (.p (.str sg)), x2] (S.set i (ob z (p + ((z.drop p).takeWhile P).length)))
  | 0, p, S, h, hp, hk => by omega
  | k + 1, p, S, h, hp, hk => by
    rw [whL_succ]
    by_cases hl : p < z.length
    · have hi : (p : Int) < z.length := by omega
      obtain ⟨c, r, hz⟩ : ∃ c r, z.drop p = c :: r := by cases hd : z.drop p with | nil => simp at hd; omega | cons c r => exact ⟨c, r, rfl⟩
      have hzc : z[p]? = some c := by have := congrArg List.head? hz; simpa [List.head?_drop] using this
      have hsub : subW (.p (.str (tx z))) (.p (.int p)) S = .ok (.p (.str ⟨#[c]⟩)) S := by
        simp [subW, subD, L2.atI, L2.ixN, hl]
        have := (List.getElem?_eq_some_iff.mp hzc).2
        exact this
      cases hc : P c
      · have hp0 := hP c S
        rw [hc] at hp0
        rw [hz, List.takeWhile_cons, hc]
        simp [at_place h, at_text h, hi, hsub, hp0, set_self h]
      · have hp0 := hP c S
        rw [hc] at hp0
        have ih := loop16 n hP x2 k (p + 1) (S.set i (ob z (p + 1))) (ob_set h _) (by omega) (by omega)
        have hs : setA "ExpressionReader" "own_place" (.ref i) (.int ((p : Int) + 1)) S = some (S.set i (ob z (p + 1))) := by
          rw [show (p : Int) + 1 = ((p + 1 : Nat) : Int) by omega]; exact set_place h _
        have hz1 : z.drop (p + 1) = r := by rw [← List.drop_drop, hz]; rfl
        rw [hz1] at ih
        rw [hz, List.takeWhile_cons, hc]
        simp only [if_true, List.length_cons]
        rw [show p + ((r.takeWhile P).length + 1) = p + 1 + (r.takeWhile P).length by omega]
        rw [List.set_set] at ih
        simp [at_place h, at_text h, hi, hsub, hp0, hs, ih]
    · have hi : ¬ (p : Int) < z.length := by omega
      have hz : z.drop p = [] := List.drop_eq_nil_of_le (by omega)
      rw [hz]
      simp [at_place h, at_text h, hi, set_self h]
theorem f16 (n : Nat) {S : Store} {z : T} {i p : Nat} {P : Nat → Bool} {sg : Str} (hP : ∀ c (S : Store), cmpW .In (.p (.str ⟨#[c]⟩)) (.p (.str sg)) S = some (P c)) (h : S[i]? = some (ob z p)) (hp : p ≤ z.length) (hz : z.length < 5000) :
    cF (n + 1) 16 [.ref i, .p (.str sg)] S = .ok (.p (.str (tx ((z.drop p).takeWhile P)))) (S.set i (ob z (p + ((z.drop p).takeWhile P).length))) := by
  have hl := loop16 n hP (some (.p (.int p))) 5000 p S h hp (by omega)
  rw [← exS_whL] at hl
  have hlen := tw_len (P := P) (z.drop p)
  simp only [List.length_drop] at hlen
  have h' := ob_set h (p + ((z.drop p).takeWhile P).length)
  have hc := cut_place z p ((z.drop p).takeWhile P).length hp
  have ht : (z.drop p).take ((z.drop p).takeWhile P).length = (z.drop p).takeWhile P := (List.prefix_iff_eq_take.mp (List.takeWhile_prefix P)).symm
  rw [ht] at hc
  have sp : (p : Int) + ((z.drop p).takeWhile P).length = ((p + ((z.drop p).takeWhile P).length : Nat) : Int) := by omega
  rw [sp] at hc
  generalize p + ((z.drop p).takeWhile P).length = q at *
  generalize (z.drop p).takeWhile P = w at *
  rw [cF_at (F := d16.ir) rfl rfl]
  simp [d16, at_place h, hl, at_text h', at_place h', slc_s, hc, -exS_wh]
end L79

set_option maxRecDepth 1000000
set_option maxHeartbeats 1000000
set_option linter.all false
namespace L79
open PySem Px Px.Rw Px.Dr
/-- what a method of the reader gives: a value and the place behind, or the error -/
def Rs (S : Store) (i : Nat) (z : T) (o : Option (PyData × T)) (r : R W) : Prop :=
  match o with
  | some x => ∃ q, q ≤ z.length ∧ z.drop q = x.2 ∧ r = .ok (.p x.1) (S.set i (ob z q))
  | none => ∃ q, q ≤ z.length ∧ r = .exc ⟨2, .none⟩ (S.set i (ob z q))
@[simp] def eo (x : Ex × T) : PyData × T := (x.1.enc, x.2)
def F17 (d : Nat) : Prop := ∀ (n : Nat) (S : Store) (i : Nat) (z : T) (p : Nat), S[i]? = some (ob z p) → p ≤ z.length → z.length < 5000 → 3 * d + 4 ≤ n →
  Rs S i z ((rd d (z.drop p)).map eo) (cF n 17 [.ref i, .p (.int d)] S)
theorem put1 {S : Store} {i : Nat} {a b : MO} : (S.set i a).set i b = S.set i b := List.set_set ..
theorem F18 {d : Nat} (ih : F17 d) (n : Nat) (S : Store) (i : Nat) (z : T) (p : Nat) (h : S[i]? = some (ob z p)) (hp : p ≤ z.length) (hz : z.length < 5000) (hn : 3 * d + 4 ≤ n) :
    Rs S i z ((rdIte (rd d) (z.drop p)).map eo) (cF (n + 1) 18 [.ref i, .p (.int ((d : Int) + 1))] S) := by
  obtain ⟨n, rfl⟩ : ∃ m, n = m + 2 := ⟨n - 2, by omega⟩
  have i1 := fun {S : Store} {q : Nat} (h : S[i]? = some (ob z q)) => is_ob h "skip" (by decide) (by decide)
  have i2 := fun {S : Store} {q : Nat} (h : S[i]? = some (ob z q)) => is_ob h "run_of" (by decide) (by decide)
  have i3 := fun {S : Store} {q : Nat} (h : S[i]? = some (ob z q)) => is_ob h "read_expression" (by decide) (by decide)
  have eP : Str.ofString " p" = tx cP := rfl
  have eT : Str.ofString " then " = tx cThen := rfl
  have eE : Str.ofString " else " = tx cElse := rfl
  rw [cF_at (F := d18.ir) rfl rfl]
  unfold rdIte
  obtain ⟨a1, b1⟩ := f15 n h hp cP (by decide)
  cases h1 : skip cP (z.drop p) with
  | none =>
    refine ⟨p, hp, ?_⟩
    have b1 := b1 h1
    rw [set_self h]
    simp [d18, i1 h, eP, b1]
  | some z1 =>
    obtain ⟨c1, l1, e1⟩ := a1 z1 h1
    rw [Option.bind_some]
    have h' := ob_set h (p + cP.length)
    generalize p + cP.length = p1 at *
    have r2 := f16 (n + 1) (P := isD) (sg := "0123456789") (fun c S => in_dig c) h' l1 hz
    rw [e1] at r2
    have l2 : p1 + (z1.takeWhile isD).length ≤ z.length := by
      have := tw_len (P := isD) z1
      have h2 := congrArg List.length e1
      simp only [List.length_drop] at h2; omega
    have e2 : z.drop (p1 + (z1.takeWhile isD).length) = z1.dropWhile isD := by rw [← List.drop_drop, e1, drop_tw]
    have hw : (z1.takeWhile isD).length < 100000 := by
      have := tw_len (P := isD) z1
      have h2 := congrArg List.length e1
      simp only [List.length_drop] at h2; omega
    generalize p1 + (z1.takeWhile isD).length = p2 at *
    rw [put1] at r2
    have h'' := ob_set h p2
    have r3 := f12 (n + 1) (z1.takeWhile isD) hw (S.set i (ob z p2))
    generalize z1.takeWhile isD = w at *
    cases hk : rdNum w with
    | none =>
      rw [hk] at r3
      refine ⟨p2, l2, ?_⟩
      simp only [toR] at r3
      simp [d18, i1 h, i2 h', eP, c1, r2, r3]
    | some k =>
      rw [hk] at r3
      simp only [toR] at r3
      rw [Option.bind_some]
      obtain ⟨a4, b4⟩ := f15 n h'' l2 cThen (by decide)
      rw [e2] at a4 b4
      cases h4 : skip cThen (z1.dropWhile isD) with
      | none =>
        refine ⟨p2, l2, ?_⟩
        have b4 := b4 h4
        simp [d18, i1 h, i2 h', i1 h'', eP, c1, r2, r3, eT, b4]
      | some z2 =>
        obtain ⟨c4, l4, e4⟩ := a4 z2 h4
        rw [Option.bind_some]
        rw [put1] at c4
        generalize p2 + cThen.length = p4 at *
        have h4' := ob_set h p4
        have r5 := ih (n + 2) _ i z p4 h4' l4 hz hn
        rw [e4] at r5
        cases h5 : rd d z2 with
        | none =>
          rw [h5] at r5
          obtain ⟨q, hq, r5⟩ := r5
          refine ⟨q, hq, ?_⟩
          rw [put1] at r5
          simp [d18, i1 h, i2 h', i1 h'', i3 h4', eP, c1, r2, r3, eT, c4, r5]
        | some x =>
          obtain ⟨a, z3⟩ := x
          rw [h5] at r5
          obtain ⟨p5, l5, e5, r5⟩ := r5
          rw [put1] at r5
          simp only [eo] at e5 r5
          rw [Option.bind_some]
          have h5' := ob_set h p5
          obtain ⟨a6, b6⟩ := f15 n h5' l5 cElse (by decide)
          rw [e5] at a6 b6
          simp only
          cases h6 : skip cElse z3 with
          | none =>
            refine ⟨p5, l5, ?_⟩
            have b6 := b6 h6
            simp [d18, i1 h, i2 h', i1 h'', i3 h4', i1 h5', eP, c1, r2, r3, eT, c4, r5, eE, b6]
          | some z4 =>
            obtain ⟨c6, l6, e6⟩ := a6 z4 h6
            rw [Option.bind_some]
            rw [put1] at c6
            generalize p5 + cElse.length = p6 at *
            have h6' := ob_set h p6
            have r7 := ih (n + 2) _ i z p6 h6' l6 hz hn
            rw [e6] at r7
            cases h7 : rd d z4 with
            | none =>
              rw [h7] at r7
              obtain ⟨q, hq, r7⟩ := r7
              refine ⟨q, hq, ?_⟩
              rw [put1] at r7
              simp [d18, i1 h, i2 h', i1 h'', i3 h4', i1 h5', i3 h6', eP, c1, r2, r3, eT, c4, r5, eE, c6, r7, eo, Ex.enc]
            | some x =>
              obtain ⟨b, z5⟩ := x
              rw [h7] at r7
              obtain ⟨p7, l7, e7, r7⟩ := r7
              rw [put1] at r7
              simp only [eo] at e7 r7
              refine ⟨p7, l7, e7, ?_⟩
              simp [d18, i1 h, i2 h', i1 h'', i3 h4', i1 h5', i3 h6', eP, c1, r2, r3, eT, c4, r5, eE, c6, r7, eo, Ex.enc]
end L79

set_option maxRecDepth 1000000
set_option maxHeartbeats 1000000
set_option linter.all false
namespace L79
open PySem Px Px.Rw Px.Dr
def body19 : Ss := .cons (.ifs (.cmp .NotEq (.v 2) (.lst false .nil)) (.cons (.exp (.mc 15 "ExpressionReader" "skip" (.v 0) (.cons (.k (.str ", ")) .nil))) .nil) .nil) (.cons (.exp (.me .append (.v 2) (.cons (.mc 17 "ExpressionReader" "read_expression" (.v 0) (.cons (.bin false .Sub (.v 1) (.k (.int 1))) .nil)) .nil))) .nil)
def test19 : E := .un .Not (.mc 14 "ExpressionReader" "does_follow" (.v 0) (.cons (.k (.str ")")) .nil))
@[simp] theorem last_at {α : Type} {S : List α} {x : α} : (S ++ [x])[S.length]? = some x := by simp
@[simp] theorem set_last {α : Type} {S : List α} {x y : α} : (S ++ [x]).set S.length y = S ++ [y] := by simp
/-- the reader's store: the reader, at the end the list -/
def St (S : Store) (i : Nat) (z : T) (p : Nat) (l : List PyData) : Store := S.set i (ob z p) ++ [.lst l]
section
variable {S : Store} {i : Nat} {z : T} {p q : Nat} {l : List PyData}
theorem St.ob (h : i < S.length) : (St S i z p l)[i]? = some (ob z p) := by
  unfold St
  rw [List.getElem?_append_left (by simpa using h), List.getElem?_set]; simp [h]
theorem St.set (h : i < S.length) : (St S i z p l).set i (L79.ob z q) = St S i z q l := by
  unfold St
  rw [List.set_append_left _ _ (by simpa using h), List.set_set]
theorem St.lst : (St S i z p l)[S.length]? = some (.lst l) := by
  unfold St
  rw [List.getElem?_append_right (by simp)]; simp
theorem St.put {m : List PyData} : (St S i z p l).set S.length (.lst m) = St S i z p m := by
  unfold St
  rw [List.set_append_right _ _ (by simp)]; simp
theorem St.len : (St S i z p l).length = S.length + 1 := by simp [St]
theorem St.take : (St S i z p l).take S.length = S.set i (L79.ob z p) := by unfold St; rw [show S.length = (S.set i (L79.ob z p)).length by simp, List.take_left']; simp
theorem St.self : (St S i z p l).take (S.length + 1) = St S i z p l := List.take_of_length_le (by simp [St])
end
theorem eqp_nil (l : List PyData) : eqp (.list l) (.list []) = some (decide (l = [])) := by
  cases l with
  | nil => simp [eqp, eqn, eqs]
  | cons a l => simp [eqp, eqn]
theorem loop19 {d : Nat} (ih : F17 d) (n : Nat) (hn : 3 * d + 4 ≤ n) (S : Store) (i : Nat) (hi : i < S.length) (z : T) (hz : z.length < 5000) :
    ∀ (k p : Nat) (acc : List Ex), p ≤ z.length → z.length - p < k → acc.length + k ≤ 10000 →
    match rdA (rd d) k acc.isEmpty (z.drop p) with
    | some x => ∃ q, q ≤ z.length ∧ z.drop q = x.2 ∧ whL (cF n) cs test19 body19 k [some (.ref i), some (.p (.int ((d : Int) + 1))), some (.ref S.length)] (St S i z p (acc.map Ex.enc)) =
        .nx [some (.ref i), some (.p (.int ((d : Int) + 1))), some (.ref S.length)] (St S i z q ((acc ++ x.1).map Ex.enc))
    | none => ∃ q l, q ≤ z.length ∧ whL (cF n) cs test19 body19 k [some (.ref i), some (.p (.int ((d : Int) + 1))), some (.ref S.length)] (St S i z p (acc.map Ex.enc)) =
        .ex ⟨2, .none⟩ [some (.ref i), some (.p (.int ((d : Int) + 1))), some (.ref S.length)] (St S i z q l)
  | 0, p, acc, hp, hk, _ => by omega
  | k + 1, p, acc, hp, hk, ha => by
    obtain ⟨n, rfl⟩ : ∃ m, n = m + 2 := ⟨n - 2, by omega⟩
    have i0 := fun {q : Nat} {l : List PyData} => is_ob (St.ob (S := S) (z := z) (p := q) (l := l) hi) "does_follow" (by decide) (by decide)
    have i1 := fun {q : Nat} {l : List PyData} => is_ob (St.ob (S := S) (z := z) (p := q) (l := l) hi) "skip" (by decide) (by decide)
    have i3 := fun {q : Nat} {l : List PyData} => is_ob (St.ob (S := S) (z := z) (p := q) (l := l) hi) "read_expression" (by decide) (by decide)
    have eR : Str.ofString ")" = tx [41] := rfl
    have eC : Str.ofString ", " = tx [44, 32] := rfl
    rw [rdA, whL_succ]
    have h14 := f14 (n + 1) (St.ob (S := S) (l := acc.map Ex.enc) hi) hp [41]
    cases hb : ([41] : T).isPrefixOf (z.drop p)
    case true =>
      rw [hb] at h14
      refine ⟨p, hp, rfl, ?_⟩
      simp [test19, i0, eR, h14]
    case false =>
      rw [hb] at h14
      have ne : cmpW .NotEq (.ref S.length) (.p (.list [])) (St S i z p (acc.map Ex.enc)) = some (!acc.isEmpty) := by
        simp only [cmpW, view, St.lst, cmpD, eqp_nil]
        cases acc <;> simp
      have happ : ∀ (q : Nat) (l : List PyData), meT .append (.ref S.length) (St S i z q l) = true := fun q l => by simp [meT, view, St.lst]
      have hlen : (acc.map Ex.enc).length < sizeLine := Nat.lt_of_le_of_lt (show _ ≤ 10000 by simp; omega) (by decide)
      have hap : ∀ (q : Nat) (e : PyData), meW .append (.ref S.length) [.p e] (St S i z q (acc.map Ex.enc)) = .ok (.p .none) (St S i z q (acc.map Ex.enc ++ [e])) := fun q e => by
        simp only [meW, St.lst, hlen, if_true, St.put]
      -- the rest, from the place behind the comma
      have rest : ∀ (p1 : Nat), p1 ≤ z.length → p ≤ p1 →
          match ((rd d (z.drop p1)).bind fun x => (rdA (rd d) k false x.2).bind fun y => some (x.1 :: y.1, y.2)) with
          | some x => ∃ q, q ≤ z.length ∧ z.drop q = x.2 ∧ (match (ev (cF (n + 2)) cs (.me .append (.v 2) (.cons (.mc 17 "ExpressionReader" "read_expression" (.v 0) (.cons (.bin false .Sub (.v 1) (.k (.int 1))) .nil)) .nil)) false [some (.ref i), some (.p (.int ((d : Int) + 1))), some (.ref S.length)] (St S i z p1 (acc.map Ex.enc))).st [some (.ref i), some (.p (.int ((d : Int) + 1))), some (.ref S.length)] (fun _ S1 => .nx [some (.ref i), some (.p (.int ((d : Int) + 1))), some (.ref S.length)] S1) with
              | .nx ρ' S' => whL (cF (n + 2)) cs test19 body19 k ρ' S' | .ct ρ' S' => whL (cF (n + 2)) cs test19 body19 k ρ' S' | .bk ρ' S' => .nx ρ' S' | o => o) =
                .nx [some (.ref i), some (.p (.int ((d : Int) + 1))), some (.ref S.length)] (St S i z q ((acc ++ x.1).map Ex.enc))
          | none => ∃ q l, q ≤ z.length ∧ (match (ev (cF (n + 2)) cs (.me .append (.v 2) (.cons (.mc 17 "ExpressionReader" "read_expression" (.v 0) (.cons (.bin false .Sub (.v 1) (.k (.int 1))) .nil)) .nil)) false [some (.ref i), some (.p (.int ((d : Int) + 1))), some (.ref S.length)] (St S i z p1 (acc.map Ex.enc))).st [some (.ref i), some (.p (.int ((d : Int) + 1))), some (.ref S.length)] (fun _ S1 => .nx [some (.ref i), some (.p (.int ((d : Int) + 1))), some (.ref S.length)] S1) with
              | .nx ρ' S' => whL (cF (n + 2)) cs test19 body19 k ρ' S' | .ct ρ' S' => whL (cF (n + 2)) cs test19 body19 k ρ' S' | .bk ρ' S' => .nx ρ' S' | o => o) =
                .ex ⟨2, .none⟩ [some (.ref i), some (.p (.int ((d : Int) + 1))), some (.ref S.length)] (St S i z q l) := by
        intro p1 l1 hpp
        have r1 := ih (n + 2) _ i z p1 (St.ob (S := S) (l := acc.map Ex.enc) hi) l1 hz hn
        cases h1 : rd d (z.drop p1) with
        | none =>
          rw [h1] at r1
          obtain ⟨q, hq, r1⟩ := r1
          rw [St.set hi] at r1
          exact ⟨q, acc.map Ex.enc, hq, by simp [happ, i3, r1]⟩
        | some x =>
          obtain ⟨e, z2⟩ := x
          rw [h1] at r1
          obtain ⟨q, hq, eq, r1⟩ := r1
          rw [St.set hi] at r1
          simp only [eo] at eq r1
          obtain ⟨s1, s2, s3⟩ := rd_sound d _ _ _ h1
          obtain ⟨c, r, hc, _⟩ := pr_head e s2
          have hlt : z.length - q < z.length - p1 := by
            have := congrArg List.length s1
            rw [hc, ← eq] at this
            simp only [List.length_drop, List.length_append, List.length_cons] at this; omega
          have hrec := loop19 ih (n + 2) hn S i hi z hz k q (acc ++ [e]) hq (by omega) (by simp; omega)
          rw [show (acc ++ [e]).isEmpty = false by simp, eq] at hrec
          simp only [Option.bind_some]
          cases h2 : rdA (rd d) k false z2 with
          | none =>
            rw [h2] at hrec
            obtain ⟨q', l, hq', hrec⟩ := hrec
            refine ⟨q', l, hq', ?_⟩
            rw [List.map_append, List.map_cons, List.map_nil] at hrec
            simp [happ, i3, r1, hap, hrec]
          | some y =>
            rw [h2] at hrec
            obtain ⟨q', hq', eq', hrec⟩ := hrec
            refine ⟨q', hq', eq', ?_⟩
            rw [List.map_append, List.map_cons, List.map_nil] at hrec
            simp [happ, i3, r1, hap, hrec]
      cases hf : acc.isEmpty
      case true =>
        rw [hf] at ne
        have := rest p hp (Nat.le_refl _)
        simp only [Bool.false_eq_true, if_false, if_true, Option.bind_some]
        have hev : ∀ (R : RS), ((ev (cF (n + 2)) cs test19 true [some (.ref i), some (.p (.int ((d : Int) + 1))), some (.ref S.length)] (St S i z p (acc.map Ex.enc)))) = .ok (.p (.bool true)) (St S i z p (acc.map Ex.enc)) := fun _ => by
          simp [test19, i0, eR, h14]
        have hbody : exSs (cF (n + 2)) cs body19 [some (.ref i), some (.p (.int ((d : Int) + 1))), some (.ref S.length)] (St S i z p (acc.map Ex.enc)) = (ev (cF (n + 2)) cs (.me .append (.v 2) (.cons (.mc 17 "ExpressionReader" "read_expression" (.v 0) (.cons (.bin false .Sub (.v 1) (.k (.int 1))) .nil)) .nil)) false [some (.ref i), some (.p (.int ((d : Int) + 1))), some (.ref S.length)] (St S i z p (acc.map Ex.enc))).st [some (.ref i), some (.p (.int ((d : Int) + 1))), some (.ref S.length)] (fun _ S1 => .nx [some (.ref i), some (.p (.int ((d : Int) + 1))), some (.ref S.length)] S1) := by
          unfold body19
          simp only [exSs_cons, exS_ifs, ev_cmp, ev_v, loc2, tst_false, R.bind_ok, ev_lst, evEs_nil, pureWs, List.length_nil, Nat.zero_le, if_true, mkL_f, ne, optB_some, R.st_ok, Bool.not_true, exSs_nil, at_nx, exS_exp]
          generalize (ev (cF (n + 2)) cs (.me .append (.v 2) (.cons (.mc 17 "ExpressionReader" "read_expression" (.v 0) (.cons (.bin false .Sub (.v 1) (.k (.int 1))) .nil)) .nil)) false [some (.ref i), some (.p (.int ((d : Int) + 1))), some (.ref S.length)] (St S i z p (acc.map Ex.enc))) = rr
          cases rr <;> rfl
        rw [hev .stuck, R.st_ok]
        simp only [hbody]
        exact this
      case false =>
        rw [hf] at ne
        simp only [Bool.false_eq_true, if_false]
        have hev : ((ev (cF (n + 2)) cs test19 true [some (.ref i), some (.p (.int ((d : Int) + 1))), some (.ref S.length)] (St S i z p (acc.map Ex.enc)))) = .ok (.p (.bool true)) (St S i z p (acc.map Ex.enc)) := by
          simp [test19, i0, eR, h14]
        rw [hev, R.st_ok]
        obtain ⟨a1, b1⟩ := f15 n (St.ob (S := S) (l := acc.map Ex.enc) hi) hp [44, 32] (by decide)
        cases h1 : skip [44, 32] (z.drop p) with
        | none =>
          have b1 := b1 h1
          refine ⟨p, acc.map Ex.enc, hp, ?_⟩
          simp [body19, ne, i1, eC, b1]
        | some z1 =>
          obtain ⟨c1, l1, e1⟩ := a1 z1 h1
          rw [St.set hi] at c1
          have := rest _ l1 (Nat.le_add_right _ _)
          rw [e1] at this
          simp only [Option.bind_some]
          have hbody : exSs (cF (n + 2)) cs body19 [some (.ref i), some (.p (.int ((d : Int) + 1))), some (.ref S.length)] (St S i z p (acc.map Ex.enc)) = (ev (cF (n + 2)) cs (.me .append (.v 2) (.cons (.mc 17 "ExpressionReader" "read_expression" (.v 0) (.cons (.bin false .Sub (.v 1) (.k (.int 1))) .nil)) .nil)) false [some (.ref i), some (.p (.int ((d : Int) + 1))), some (.ref S.length)] (St S i z (p + ([44, 32] : T).length) (acc.map Ex.enc))).st [some (.ref i), some (.p (.int ((d : Int) + 1))), some (.ref S.length)] (fun _ S1 => .nx [some (.ref i), some (.p (.int ((d : Int) + 1))), some (.ref S.length)] S1) := by
            unfold body19
            simp only [exSs_cons, exS_ifs, ev_cmp, ev_v, loc2, loc0, tst_false, R.bind_ok, ev_lst, evEs_nil, evEs_cons, pureWs, List.length_nil, Nat.zero_le, if_true, mkL_f, ne, optB_some, R.st_ok, Bool.not_false, exSs_nil, at_nx, exS_exp, ev_mc, i1, ev_k, eC, c1]
            generalize (ev (cF (n + 2)) cs (.me .append (.v 2) (.cons (.mc 17 "ExpressionReader" "read_expression" (.v 0) (.cons (.bin false .Sub (.v 1) (.k (.int 1))) .nil)) .nil)) false [some (.ref i), some (.p (.int ((d : Int) + 1))), some (.ref S.length)] (St S i z (p + ([44, 32] : T).length) (acc.map Ex.enc))) = rr
            cases rr <;> rfl
          simp only [hbody]
          exact this
@[simp] def ta (x : List Ex × T) : PyData × T := (.tuple (x.1.map Ex.enc), x.2)
theorem F19 {d : Nat} (ih : F17 d) (n : Nat) (S : Store) (i : Nat) (z : T) (p : Nat) (h : S[i]? = some (ob z p)) (hp : p ≤ z.length) (hz : z.length < 5000) (hn : 3 * d + 4 ≤ n) :
    Rs S i z ((args (rd d) (z.drop p)).map ta) (cF (n + 1) 19 [.ref i, .p (.int ((d : Int) + 1))] S) := by
  obtain ⟨n, rfl⟩ : ∃ m, n = m + 2 := ⟨n - 2, by omega⟩
  have i1 := fun {S : Store} {q : Nat} (h : S[i]? = some (ob z q)) => is_ob h "skip" (by decide) (by decide)
  have eL : Str.ofString "(" = tx [40] := rfl
  have eR : Str.ofString ")" = tx [41] := rfl
  have hi := ob_lt h
  have hd : d19.ir.body = .cons (.exp (.mc 15 "ExpressionReader" "skip" (.v 0) (.cons (.k (.str "(")) .nil))) (.cons (.asg (.n 2) (.lst true .nil)) (.cons (.wh 5000 test19 body19) (.cons (.exp (.mc 15 "ExpressionReader" "skip" (.v 0) (.cons (.k (.str ")")) .nil))) (.cons (.ret (.som (.bi false .tuple (.cons (.v 2) .nil)))) .nil)))) := rfl
  rw [cF_at (F := d19.ir) rfl rfl, hd]
  unfold args
  obtain ⟨a1, b1⟩ := f15 n h hp [40] (by decide)
  cases h1 : skip [40] (z.drop p) with
  | none =>
    refine ⟨p, hp, ?_⟩
    have b1 := b1 h1
    rw [set_self h]
    simp [d19, i1 h, eL, b1]
  | some z1 =>
    obtain ⟨c1, l1, e1⟩ := a1 z1 h1
    rw [Option.bind_some]
    generalize p + ([40] : T).length = p1 at *
    have hl := loop19 ih (n + 2) hn S i hi z hz 5000 p1 [] l1 (by omega) (by simp)
    rw [e1] at hl
    have mk : (S.set i (ob z p1) ++ [.lst []]) = St S i z p1 [] := rfl
    have ml : (S.set i (ob z p1)).length = S.length := by simp
    rw [show ([] : List Ex).isEmpty = true from rfl] at hl
    cases h2 : rdA (rd d) 5000 true z1 with
    | none =>
      rw [h2] at hl
      obtain ⟨q, l, hq, hl⟩ := hl
      refine ⟨q, hq, ?_⟩
      rw [List.map_nil, ← exS_whL] at hl
      simp [d19, i1 h, eL, c1, mk, hl, -exS_wh, St.take]
    | some x =>
      obtain ⟨es, z2⟩ := x
      rw [h2] at hl
      obtain ⟨q, hq, eq, hl⟩ := hl
      simp only at eq hl
      rw [List.map_nil, ← exS_whL, List.nil_append] at hl
      rw [Option.bind_some]
      obtain ⟨a3, b3⟩ := f15 n (St.ob (S := S) (z := z) (p := q) (l := es.map Ex.enc) hi) hq [41] (by decide)
      rw [eq] at a3 b3
      have i3 := i1 (St.ob (S := S) (z := z) (p := q) (l := es.map Ex.enc) hi)
      simp only
      cases h3 : skip [41] z2 with
      | none =>
        refine ⟨q, hq, ?_⟩
        have b3 := b3 h3
        simp [d19, i1 h, eL, c1, mk, hl, -exS_wh, i3, eR, b3, St.take]
      | some z3 =>
        obtain ⟨c3, l3, e3⟩ := a3 z3 h3
        rw [St.set hi] at c3
        refine ⟨_, l3, e3, ?_⟩
        have ht : ∀ q, biW false .tuple [.ref S.length] (St S i z q (es.map Ex.enc)) = .ok (.p (.tuple (es.map Ex.enc))) (St S i z q (es.map Ex.enc)) := fun q => by
          simp [biW, lenK, views, view, St.lst, biD]
        have hf : ∀ q (d : PyData), fin S.length (.p d) (St S i z q (es.map Ex.enc)) = .ok (.p d) (S.set i (ob z q)) := fun q d => by
          rw [fin_p (by rw [St.len]; omega), St.take]
        simp [d19, i1 h, eL, c1, mk, hl, -exS_wh, i3, eR, c3, ht, hf]
@[simp] theorem meq_some {α β : Type} {a : α} {f : α → β} : (match some a with | some x => some (f x) | none => none) = some (f a) := rfl
theorem F17_all : ∀ d, F17 d
  | 0 => by
    intro n S i z p h hp hz hn
    obtain ⟨n, rfl⟩ : ∃ m, n = m + 1 := ⟨n - 1, by omega⟩
    refine ⟨p, hp, ?_⟩
    rw [cF_at (F := d17.ir) rfl rfl, set_self h]
    simp [d17]
  | d + 1 => by
    have ih := F17_all d
    intro n S i z p h hp hz hn
    obtain ⟨n, rfl⟩ : ∃ m, n = m + 6 := ⟨n - 6, by omega⟩
    have i0 := fun {S : Store} {q : Nat} (h : S[i]? = some (ob z q)) => is_ob h "does_follow" (by decide) (by decide)
    have i2 := fun {S : Store} {q : Nat} (h : S[i]? = some (ob z q)) => is_ob h "run_of" (by decide) (by decide)
    have i3 := fun {S : Store} {q : Nat} (h : S[i]? = some (ob z q)) => is_ob h "read_choice" (by decide) (by decide)
    have i4 := fun {S : Store} {q : Nat} (h : S[i]? = some (ob z q)) => is_ob h "read_arguments" (by decide) (by decide)
    have eL : Str.ofString "(" = tx [40] := rfl
    have e0 : Str.ofString "" = tx [] := rfl
    have eI : Str.ofString "if" = tx wIf := rfl
    have eP : Str.ofString "p" = tx [112] := rfl
    have d0 : ¬ ((d : Int) + 1 = 0) := by omega
    rw [cF_at (F := d17.ir) rfl rfl, rd]
    obtain ⟨z0, hz0⟩ : ∃ z0, z0 = z.drop p := ⟨_, rfl⟩
    have len0 : z0.length ≤ z.length := by rw [hz0]; simp
    have r1 := f16 (n + 4) (P := isD) (sg := "0123456789") (fun c S => in_dig c) h hp hz
    have t1 := tw_len (P := isD) z0
    have l1 : p + (z0.takeWhile isD).length ≤ z.length := by
      have h2 := congrArg List.length hz0
      simp only [List.length_drop] at h2; omega
    have e1 : z.drop (p + (z0.takeWhile isD).length) = z0.dropWhile isD := by rw [← List.drop_drop, ← hz0, drop_tw]
    rw [← hz0] at r1 ⊢
    obtain ⟨p1, hp1⟩ : ∃ p1, p1 = p + (z0.takeWhile isD).length := ⟨_, rfl⟩
    rw [← hp1] at r1 l1 e1
    have h' := ob_set h p1
    have r2 := f16 (n + 4) (P := isL) (sg := "abcdefghijklmnopqrstuvwxyz") (fun c S => in_let c) h' l1 hz
    rw [e1] at r2
    have t2 := tw_len (P := isL) (z0.dropWhile isD)
    have tl : (z0.dropWhile isD).length ≤ z0.length := by
      have := congrArg List.length e1
      simp only [List.length_drop] at this
      have h2 := congrArg List.length hz0
      simp only [List.length_drop] at h2; omega
    have l2 : p1 + ((z0.dropWhile isD).takeWhile isL).length ≤ z.length := by
      have := congrArg List.length e1
      simp only [List.length_drop] at this; omega
    have e2 : z.drop (p1 + ((z0.dropWhile isD).takeWhile isL).length) = (z0.dropWhile isD).dropWhile isL := by rw [← List.drop_drop, e1, drop_tw]
    rw [put1] at r2
    obtain ⟨p2, hp2⟩ : ∃ p2, p2 = p1 + ((z0.dropWhile isD).takeWhile isL).length := ⟨_, rfl⟩
    rw [← hp2] at r2 l2 e2
    have h'' := ob_set h p2
    by_cases hd : z0.takeWhile isD ≠ []
    · rw [if_pos hd]
      have r3 := f12 (n + 4) (z0.takeWhile isD ++ (z0.dropWhile isD).takeWhile isL) (by rw [List.length_append]; omega) (S.set i (ob z p2))
      have ad : ∀ m S, binD m .Add (.str (tx (z0.takeWhile isD))) (.str (tx ((z0.dropWhile isD).takeWhile isL))) S = .ok (.p (.str (tx (z0.takeWhile isD ++ (z0.dropWhile isD).takeWhile isL)))) S := fun m S => by
        rw [bin_adds, tx_len, tx_len, if_pos (Nat.le_trans (by omega : _ ≤ 10000) (by decide)), app_tx]
      generalize z0.takeWhile isD ++ (z0.dropWhile isD).takeWhile isL = u at *
      cases hk : rdNum u with
      | none =>
        rw [hk] at r3
        refine ⟨p2, l2, ?_⟩
        simp only [toR] at r3
        simp [d17, d0, i2 h, r1, i2 h', r2, e0, hd, r3, ad, -bin_adds]
      | some k =>
        rw [hk] at r3
        refine ⟨p2, l2, e2, ?_⟩
        simp only [toR] at r3
        simp [d17, d0, i2 h, r1, i2 h', r2, e0, hd, r3, Ex.enc, ad, -bin_adds]
    rw [if_neg hd]
    have hd : z0.takeWhile isD = [] := by simpa using hd
    have hdw : z0.dropWhile isD = z0 := by have := List.takeWhile_append_dropWhile (p := isD) (l := z0); rw [hd] at this; exact this
    rw [hdw] at r2 t2 e2 hp2 e1
    rw [hd] at r1
    by_cases hi : z0.takeWhile isL = wIf
    · rw [if_pos hi]
      have r3 := F18 ih (n + 4) _ i z p2 h'' l2 hz (by omega)
      rw [e2] at r3
      rw [hi] at r2
      cases hc : rdIte (rd d) (z0.dropWhile isL) with
      | none =>
        rw [hc] at r3
        obtain ⟨q, hq, r3⟩ := r3
        rw [put1] at r3
        exact ⟨q, hq, by simp [d17, d0, i2 h, r1, i2 h', r2, e0, eI, i3 h'', r3]⟩
      | some x =>
        rw [hc] at r3
        obtain ⟨q, hq, eq, r3⟩ := r3
        rw [put1] at r3
        exact ⟨q, hq, eq, by simp [d17, d0, i2 h, r1, i2 h', r2, e0, eI, i3 h'', r3]⟩
    rw [if_neg hi]
    have r4 := f14 (n + 4) h'' l2 [40]
    rw [e2] at r4
    have r5 := F19 ih (n + 4) _ i z p2 h'' l2 hz (by omega)
    rw [e2] at r5
    obtain ⟨w, hw⟩ : ∃ w, w = z0.takeWhile isL := ⟨_, rfl⟩
    have hwl : ∀ c ∈ w, isL c = true := by rw [hw]; exact tw_all
    rw [← hw] at r2 hi ⊢
    by_cases hp : w = [112] ∧ ([40] : T).isPrefixOf (z0.dropWhile isL) = false
    · rw [if_pos hp]
      obtain ⟨hp, hb⟩ := hp
      rw [hb] at r4
      rw [hp] at r2
      have r6 := f16 (n + 4) (P := isD) (sg := "0123456789") (fun c S => in_dig c) h'' l2 hz
      rw [e2, put1] at r6
      have t3 := tw_len (P := isD) (z0.dropWhile isL)
      have le2 := congrArg List.length e2
      simp only [List.length_drop] at le2
      have l3 : p2 + ((z0.dropWhile isL).takeWhile isD).length ≤ z.length := by omega
      have e3 : z.drop (p2 + ((z0.dropWhile isL).takeWhile isD).length) = (z0.dropWhile isL).dropWhile isD := by rw [← List.drop_drop, e2, drop_tw]
      obtain ⟨p3, hp3⟩ : ∃ p3, p3 = p2 + ((z0.dropWhile isL).takeWhile isD).length := ⟨_, rfl⟩
      rw [← hp3] at r6 l3 e3
      have r7 := f12 (n + 4) ((z0.dropWhile isL).takeWhile isD) (by omega) (S.set i (ob z p3))
      have ni : ¬ ([112] : T) = wIf := by decide
      cases hk : rdNum ((z0.dropWhile isL).takeWhile isD) with
      | none =>
        rw [hk] at r7
        simp only [toR] at r7
        refine ⟨p3, l3, ?_⟩
        simp [d17, d0, i2 h, r1, i2 h', r2, e0, eI, ni, eP, eL, i0 h'', r4, i2 h'', r6, r7]
      | some k =>
        rw [hk] at r7
        simp only [toR] at r7
        refine ⟨p3, l3, e3, ?_⟩
        simp [d17, d0, i2 h, r1, i2 h', r2, e0, eI, ni, eP, eL, i0 h'', r4, i2 h'', r6, r7, Ex.enc]
    rw [if_neg hp]
    have r45 : ∀ (cl : Cl) (x2 : Option W) (hcl : cl = cF (n + 5)), ev cl cs (.boo .And (.cons (.cmp .Eq (.v 4) (.k (.str "p"))) (.cons (.un .Not (.mc 14 "ExpressionReader" "does_follow" (.v 0) (.cons (.k (.str "(")) .nil))) .nil))) true [some (.ref i), some (.p (.int ((d : Int) + 1))), x2, some (.p (.str (tx []))), some (.p (.str (tx w)))] (S.set i (ob z p2)) = .ok (.p (.bool false)) (S.set i (ob z p2)) := by
      intro cl x2 hcl
      subst hcl
      by_cases hw1 : w = [112]
      · have hb : ([40] : T).isPrefixOf (z0.dropWhile isL) = true := by
          cases hb : ([40] : T).isPrefixOf (z0.dropWhile isL)
          · exact absurd ⟨hw1, hb⟩ hp
          · rfl
        rw [hb] at r4
        simp [eP, hw1, i0 h'', eL, r4]
      · simp [eP, hw1]
    have r45 := fun x2 => r45 (cF (n + 5)) x2 rfl
    unfold rdApp
    cases ha : args (rd d) (z0.dropWhile isL) with
    | none =>
      rw [ha] at r5
      obtain ⟨q, hq, r5⟩ := r5
      rw [put1] at r5
      refine ⟨q, hq, ?_⟩
      simp [d17, d0, i2 h, r1, i2 h', r2, e0, eI, hi, -evBo_and, -ev_boo, r45, i4 h'', r5]
    | some x =>
      obtain ⟨as, z3⟩ := x
      rw [ha] at r5
      obtain ⟨q, hq, eq, r5⟩ := r5
      rw [put1] at r5
      simp only [ta] at eq r5
      have las : as.length + 2 ≤ sizeLine := by
        unfold args at ha
        obtain ⟨z1, g1, ha⟩ := Option.bind_eq_some_iff.mp ha
        obtain ⟨y, g2, ha⟩ := Option.bind_eq_some_iff.mp ha
        obtain ⟨z2, g3, ha⟩ := Option.bind_eq_some_iff.mp ha
        simp only [Option.some.injEq, Prod.mk.injEq] at ha
        obtain ⟨rfl, rfl⟩ := ha
        obtain ⟨s1, s2, s3⟩ := rdA_sound (rd_sound d) 5000 true z1 y.1 y.2 g2
        have g1 := skip_iff.mp g1
        have := len_prA y.1 true s2
        have k1 := congrArg List.length g1
        have k2 := congrArg List.length s1
        have k3 := congrArg List.length e2
        simp only [List.length_append, List.length_drop] at k1 k2 k3
        exact Nat.le_trans (by omega : _ ≤ 10000) (by decide)
      simp only [Option.bind_some]
      by_cases ho : (op w).isSome = true
      · have key : ∀ (s : String) (k : Nat), tx w = Str.ofString s → (s == "inc" || s == "dec" || s == "min" || s == "max") = true → op w = some k → List.lookup (Str.ofString s) [((Str.ofString "inc" : Str), PyData.int 1), ("dec", .int 1), ("min", .int 2), ("max", .int 2)] = some (.int k) →
            Rs S i z (Option.map eo (if opOk w as.length = true then some (Ex.app w as, z3) else none)) (finS S.length (exSs (cF (n + 5)) cs d17.ir.body (Px.start d17.ir [.ref i, .p (.int ((d : Int) + 1))]) S)) := by
          intro s k hs hs1 hk hlk
          have c1 : ∀ S, cmpW .NotIn (.p (.str (tx w))) (.kd [("inc", .int 1), ("dec", .int 1), ("min", .int 2), ("max", .int 2)]) S = some false := fun S => by
            rw [hs]; simp only [cmpW, hlk]; rfl
          have c2 : ∀ S, subW (.kd [("inc", .int 1), ("dec", .int 1), ("min", .int 2), ("max", .int 2)]) (.p (.str (tx w))) S = .ok (.p (.int k)) S := fun S => by
            rw [hs]; simp only [subW, hlk]; rfl
          have hen : (Ex.app w as).enc = .tuple (.str (tx w) :: as.map Ex.enc) := by rw [Ex.enc, if_pos ho, encs_map]
          have hk : opOk w as.length = decide (as.length = k) := by unfold opOk; rw [hk]
          rw [hk]
          have las1 : (as.map Ex.enc).length + 1 ≤ sizeLine := by simp; omega
          have pw : pureWs (.p (.str (tx w)) :: ((as.map Ex.enc).map W.p ++ [])) = some (.str (tx w) :: as.map Ex.enc) := by
            rw [List.append_nil, pureWs]; simp only [pureW, pureWs_p, Option.map_some]
          by_cases hl : as.length = k
          · simp only [hl, decide_true, if_true]
            refine ⟨q, hq, eq, ?_⟩
            have las2 : k + 1 ≤ sizeLine := by simpa [hl] using las1
            simp only [eo, hen]
            simp [d17, d0, i2 h, r1, i2 h', r2, e0, eI, hi, -evBo_and, -ev_boo, r45, i4 h'', r5, c1, c2, hl, -cmpW_ninkd, -pure_cons, -List.append_nil, -List.map_map, pw, las2]
          · simp only [hl, decide_false, Bool.false_eq_true, if_false]
            refine ⟨q, hq, ?_⟩
            have hl' : decide ((as.length : Int) = k) = false := decide_eq_false (by omega)
            simp [d17, d0, i2 h, r1, i2 h', r2, e0, eI, hi, -evBo_and, -ev_boo, r45, i4 h'', r5, c1, c2, hl, hl', -cmpW_ninkd]
        rcases op_cases ho with hw0 | hw0 | hw0 | hw0
        · exact key "inc" 1 (by rw [hw0]; rfl) rfl (by rw [hw0]; rfl) (by simp)
        · exact key "dec" 1 (by rw [hw0]; rfl) rfl (by rw [hw0]; rfl) (by simp)
        · exact key "min" 2 (by rw [hw0]; rfl) rfl (by rw [hw0]; rfl) (by simp)
        · exact key "max" 2 (by rw [hw0]; rfl) rfl (by rw [hw0]; rfl) (by simp)
      · have ho' : op w = none := by cases hx : op w with | none => rfl | some k => rw [hx] at ho; simp at ho
        have ho' : opOk w as.length = true := by unfold opOk; rw [ho']
        rw [ho']
        simp only [if_true]
        refine ⟨q, hq, eq, ?_⟩
        simp only [eo]
        have nw : w ≠ wInc ∧ w ≠ wDec ∧ w ≠ wMin ∧ w ≠ wMax := by
          refine ⟨?_, ?_, ?_, ?_⟩ <;> (rintro rfl; exact ho rfl)
        have c1 : ∀ S, cmpW .NotIn (.p (.str (tx w))) (.kd [("inc", .int 1), ("dec", .int 1), ("min", .int 2), ("max", .int 2)]) S = some true := fun S => by
          have l0 : List.lookup (tx w) [((Str.ofString "inc" : Str), PyData.int 1), ("dec", .int 1), ("min", .int 2), ("max", .int 2)] = none := by
            have b : ∀ v : T, w ≠ v → (tx w == tx v) = false := fun v hv => by simp [hv]
            have x1 : (tx w == Str.ofString "inc") = false := b _ nw.1
            have x2 : (tx w == Str.ofString "dec") = false := b _ nw.2.1
            have x3 : (tx w == Str.ofString "min") = false := b _ nw.2.2.1
            have x4 : (tx w == Str.ofString "max") = false := b _ nw.2.2.2
            simp only [List.lookup_cons, x1, x2, x3, x4, List.lookup_nil]
          simp only [cmpW, l0]; rfl
        rw [call_enc ho]
        simp [d17, d0, i2 h, r1, i2 h', r2, e0, eI, hi, -evBo_and, -ev_boo, r45, i4 h'', r5, c1, -cmpW_ninkd]
end L79

set_option maxRecDepth 1000000
set_option maxHeartbeats 1000000
set_option linter.all false
namespace L79
open PySem Px Px.Rw Px.Dr
theorem f20 (n a : Nat) (ha : a ≤ 4) (S : Store) (i : Nat) (z : T) (h : S[i]? = some (ob z 0)) (hz : z.length < 5000) :
    match parse a z with
    | some e => ∃ q, cF (n + 23) 20 [.ref i, .p (.int a)] S = .ok (.p e.enc) (S.set i (ob z q))
    | none => ∃ q, cF (n + 23) 20 [.ref i, .p (.int a)] S = .exc ⟨2, .none⟩ (S.set i (ob z q)) := by
  have r1 := F17_all 6 (n + 22) S i z 0 h (Nat.zero_le _) hz (by omega)
  have i3 := is_ob h "read_expression" (by decide) (by decide)
  rw [cF_at (F := d20.ir) rfl rfl]
  rw [List.drop_zero] at r1
  have r1 : Rs S i z ((rd 6 z).map eo) (cF (n + 22) 17 [.ref i, .p (.int 6)] S) := r1
  unfold parse
  cases hr : rd 6 z with
  | none =>
    rw [hr] at r1
    obtain ⟨q, hq, r1⟩ := r1
    exact ⟨q, by simp [d20, i3, r1]⟩
  | some x =>
    obtain ⟨e, r⟩ := x
    rw [hr] at r1
    obtain ⟨q, hq, eq, r1⟩ := r1
    simp only [eo] at eq r1
    obtain ⟨s1, s2, s3⟩ := rd_sound 6 _ _ _ hr
    have hs : Shrt e := by
      have := congrArg List.length s1
      simp only [List.length_append] at this
      unfold Shrt; omega
    have h' := ob_set h q
    rw [Option.bind_some]
    have h9 := f9 (n + 10) a ha e s2 hs (S.set i (ob z q))
    have lr : z.length - q = r.length := by have := congrArg List.length eq; simpa using this
    by_cases hre : r = []
    · have nl : ¬ (q : Int) < z.length := by rw [hre] at lr; simp at lr; omega
      cases hE : isE a e
      · rw [hE] at h9
        rw [if_neg (by simp)]
        exact ⟨q, by simp [d20, i3, r1, at_place h', at_text h', nl, h9]⟩
      · rw [hE] at h9
        rw [if_pos ⟨hre, rfl⟩]
        exact ⟨q, by simp [d20, i3, r1, at_place h', at_text h', nl, h9]⟩
    · have hlt : (q : Int) < z.length := by
        have : 0 < r.length := List.length_pos_iff.mpr hre
        omega
      rw [if_neg (fun c => hre c.1)]
      exact ⟨q, by simp [d20, i3, r1, at_place h', at_text h', hlt]⟩
theorem f13 (n : Nat) (S : Store) (z : T) : cF (n + 1) 13 [.ref S.length, .p (.str (tx z))] (S ++ [.obj "ExpressionReader" []]) = .ok (.p .none) (S ++ [ob z 0]) := by
  rw [cF_at (F := d13.ir) rfl rfl]
  have s1 : setA "ExpressionReader" "own_text" (.ref S.length) (.str (tx z)) (S ++ [.obj "ExpressionReader" []]) = some (S ++ [.obj "ExpressionReader" [("own_text", .str (tx z))]]) := by
    simp [setA, putA]
  have s2 : setA "ExpressionReader" "own_place" (.ref S.length) (.int 0) (S ++ [.obj "ExpressionReader" [("own_text", .str (tx z))]]) = some (S ++ [ob z 0]) := by
    simp [setA, putA, ob]
  have hf : fin (S.length + 1) (.p .none) (S ++ [ob z 0]) = .ok (.p .none) (S ++ [ob z 0]) := by unfold fin; rw [if_pos (by simp)]
  simp [d13, s1, s2, hf]
theorem f21 (n : Nat) (S : Store) (z : Str) : cF (n + 1) 21 [.p (.str z)] S = .ok (.p .none) S := by
  rw [cF_at (F := d21.ir) rfl rfl]
  simp [d21]
theorem f24 (n a : Nat) (ha : a ≤ 4) (S : Store) (z : T) (hz : z.length < 5000) :
    cF (n + 24) 24 [.p (.int a), .p (.str (tx z))] S = match parse a z with | some e => .ok (.p e.enc) S | none => .exc ⟨2, .none⟩ S := by
  rw [cF_at (F := d24.ir) rfl rfl]
  have h22 := f22 (n + 21) a ha S
  have h21 := f21 (n + 22) S (tx z)
  have h13 := f13 (n + 22) S z
  have hob : (S ++ [ob z 0])[S.length]? = some (ob z 0) := by simp
  have h20 := f20 n a ha (S ++ [ob z 0]) S.length z hob hz
  have i3 := is_ob hob "read_whole" (by decide) (by decide)
  have st : ∀ q, (S ++ [ob z 0]).set S.length (ob z q) = S ++ [ob z q] := fun q => by simp
  cases hp : parse a z with
  | none =>
    rw [hp] at h20
    obtain ⟨q, h20⟩ := h20
    rw [st] at h20
    simp [d24, h22, h21, h13, i3, h20]
  | some e =>
    rw [hp] at h20
    obtain ⟨q, h20⟩ := h20
    rw [st] at h20
    simp [d24, h22, h21, h13, i3, h20, fin_ap]
theorem f23 (n a : Nat) (ha : a ≤ 4) (e : Ex) (w : e.raw) (hs : Shrt e) (hE : isE a e = true) (S : Store) : cF (n + 14) 23 [.p (.int a), .p e.enc] S = .ok (.p (.str (tx e.pr))) S := by
  rw [cF_at (F := d23.ir) rfl rfl]
  have h22 := f22 (n + 11) a ha S
  have h9 := f9 (n + 1) a ha e w hs S
  rw [hE] at h9
  have hd := (isE_deep hE).1
  have h10 := txt_spec e (n + 13) S w hs (by omega)
  simp [d23, h22, h9, h10]
def resD (a : Nat) (z : T) : PyData := match parse a z with | some e => e.enc | none => .str "parse"
theorem f37 (n a : Nat) (ha : a ≤ 4) (S : Store) (z : T) (hz : z.length < 5000) : cF (n + 25) 37 [.fn "parse_expression", .p (.int a), .p (.str (tx z))] S = .ok (.p (resD a z)) S := by
  rw [cF_at (F := d37.ir) rfl rfl]
  have h24 := f24 n a ha S z hz
  unfold resD
  cases hp : parse a z with
  | none =>
    rw [hp] at h24
    simp only at h24
    simp [d37, h24, offS, offE]
  | some e =>
    rw [hp] at h24
    simp only at h24
    simp [d37, h24]
theorem f32 (n : Nat) (v : PyData) (lo hi : Int) (S : Store) : cF (n + 1) 32 [.p v, .p (.int lo), .p (.int hi)] S = .ok (.p (.bool (isIntB v lo hi))) S := by
  rw [cF_at (F := d32.ir) rfl rfl]
  cases v
  case int i => by_cases h : lo ≤ i <;> simp [d32, isIntB, h]
  all_goals simp [d32, isIntB]
theorem lcF_none {step : PyData → Store → R (Option PyData)} {α : Type} {f : α → PyData} {S : Store} : ∀ {xs : List α}, (∀ x ∈ xs, step (f x) S = .ok none S) → lcF step (xs.map f) S = .ok [] S
  | [], _ => rfl
  | x :: xs, h => by
    have ih := lcF_none (fun y hy => h y (List.mem_cons_of_mem _ hy))
    rw [List.map_cons, lcF, h x (List.mem_cons_self ..)]
    simp only [ih]
theorem cmpW_nin {c : Nat} {S : Store} : cmpW .NotIn (.p (.str ⟨#[c]⟩)) (.p (.str (Str.ofString "abcdefghijklmnopqrstuvwxyz"))) S = some (!isL c) := by
  have := in_let c (S := S)
  have h : cmpW .In (.p (.str ⟨#[c]⟩)) (.p (.str (Str.ofString "abcdefghijklmnopqrstuvwxyz"))) S = some (!(Builtin.Str.occurrences (Str.ofString "abcdefghijklmnopqrstuvwxyz") ⟨#[c]⟩ 0 (Str.ofString "abcdefghijklmnopqrstuvwxyz").length 1).isEmpty) := rfl
  rw [h] at this
  simp only [Option.some.injEq] at this
  show some (!!(Builtin.Str.occurrences (Str.ofString "abcdefghijklmnopqrstuvwxyz") ⟨#[c]⟩ 0 (Str.ofString "abcdefghijklmnopqrstuvwxyz").length 1).isEmpty) = _
  rw [this]
theorem eqp_nn' : eqp (.list []) (.list []) = some true := by simp [eqp_nil]
theorem f31 (n : Nat) (w : T) (h : ∀ c ∈ w, isL c = true) (S : Store) : cF (n + 1) 31 [.p (.str (tx w))] S = .ok (.p (.bool (free w))) S := by
  rw [cF_at (F := d31.ir) rfl rfl]
  have hl : lcF (lcStep (cF n) cs (.v 1) (.n 1) (.cons (.cmp .NotIn (.v 1) (.k (.str "abcdefghijklmnopqrstuvwxyz"))) .nil) [some (.p (.str (tx w))), none]) (w.map fun c => .str ⟨#[c]⟩) S = .ok [] S :=
    lcF_none fun c hc => by simp [cmpW_nin, h c hc]
  have h2 := resv_in w
  unfold free
  by_cases h1 : 1 ≤ w.length
  · have e1 : (1 : Int) ≤ w.length := by omega
    by_cases h8 : w.length ≤ 8
    · have e2 : (w.length : Int) ≤ 8 := by omega
      simp [d31, e1, e2, hl, eqp_nn', h2, h1, h8, -inp_c1]
    · have e2 : ¬ (w.length : Int) ≤ 8 := by omega
      simp [d31, e1, e2, h1, h8]
  · have e1 : ¬ (1 : Int) ≤ w.length := by omega
    simp [d31, e1, h1]
theorem f33 (a : Nat) : ∀ (L : Nat) (n : Nat) (e : Ex) (S : Store), e.raw → Shrt e → L + 3 ≤ n → cF n 33 [.p e.enc, .p (.int a), .p (.int L)] S = .ok (.p (.int (lsz a L e))) S
  | 0, n, e, S, w, hs, hn => by
    obtain ⟨m, rfl⟩ : ∃ m, n = m + 3 := ⟨n - 3, by omega⟩
    rw [cF_at (F := d33.ir) rfl rfl]
    simp [d33, lsz]
  | L + 1, n, e, S, w, hs, hn => by
    obtain ⟨m, rfl⟩ : ∃ m, n = m + 4 := ⟨n - 4, by omega⟩
    have h0 : ¬ ((L : Int) + 1 = 0) := by omega
    have hsz := hs.len w
    have e1 : (L : Int) + 1 - 1 = L := by omega
    have hl : ∀ (x0 x3 x4 x5 x6 : Option W), lcF (lcStep (cF (m + 3)) cs (.call 33 (.cons (.v 6) (.cons (.v 1) (.cons (.bin false .Sub (.v 2) (.k (.int 1))) .nil)))) (.n 6) .nil
        [x0, some (W.p (PyData.int a)), some (W.p (PyData.int ((L : Int) + 1))), x3, x4, x5, x6]) (e.ks.map Ex.enc) S = .ok (e.ks.map fun c => .int (lsz a L c : Int)) S := fun x0 x3 x4 x5 x6 =>
      lcF_map' fun c hc => by
        have i1 := f33 a L (m + 3) c S (Ex.ks_raw w hc) (hs.ks hc) (by omega)
        simp [e1, i1]
    have hsum : 1 + (List.map (fun c => (lsz a L c : Int)) e.ks).sum = ((1 + (e.ks.map (lsz a L)).sum : Nat) : Int) := by
      generalize e.ks = l
      induction l with
      | nil => rfl
      | cons a l ih => simp only [List.map_cons, List.sum_cons]; omega
    have f : ∀ {i hi : Int}, cF (m + 3) 32 [.p (.int i), .p (.int 0), .p (.int hi)] S = .ok (.p (.bool (isIntB (.int i) 0 hi))) S := f32 _ _ _ _ _
    have hk : ∀ k : Nat, isIntB (.int k) 0 ((a : Int) - 1) = decide (k < a) := fun k => by
      have : (0 : Int) ≤ k := by omega
      simp only [isIntB, this, decide_true, Bool.true_and]
      congr 1; apply propext; omega
    have hn : ∀ k : Nat, isIntB (.int k) 0 1000 = decide (k ≤ 1000) := fun k => by
      have : (0 : Int) ≤ k := by omega
      simp only [isIntB, this, decide_true, Bool.true_and]
      congr 1; apply propext; omega
    rw [cF_at (F := d33.ir) rfl rfl, lsz]
    cases hf : e.form a with
    | false =>
      rw [if_neg (by simp)]
      cases e with
      | num k => simp only [Ex.form] at hf; simp [d33, Ex.enc, h0, f, hn, hf]
      | par k => simp only [Ex.form] at hf; simp [d33, Ex.enc, h0, f, hk, hf]
      | ite k x y => simp only [Ex.form] at hf; simp [d33, Ex.enc, h0, f, hk, hf]
      | app v as =>
        simp only [Ex.form, Bool.or_eq_false_iff] at hf
        have ho : ¬ (op v).isSome = true := by rw [hf.1]; simp
        have h31 := f31 (m + 2) v w.1 S
        rw [call_enc ho]
        cases hfr : free v
        · rw [hfr] at h31; simp [d33, h0, h31]
        · rw [hfr] at h31 hf
          have h4 : ¬ as.length ≤ 4 := by simpa using hf.2
          have h5 : ¬ (as.length : Int) < 5 := by omega
          simp [d33, h0, h31, h5]
    | true =>
      rw [if_pos rfl, ← hsum]
      cases e with
      | num k => simp only [Ex.form] at hf; simp [d33, Ex.enc, h0, f, hn, hf, Ex.ks]
      | par k => simp only [Ex.form] at hf; simp [d33, Ex.enc, h0, f, hk, hf, Ex.ks]
      | ite k x y =>
        simp only [Ex.form] at hf
        simp only [Ex.ks, List.map_cons, List.map_nil] at hl hsum ⊢
        simp [d33, Ex.enc, h0, f, hk, hf, hl, -lcF_cons]
      | app v as =>
        simp only [Ex.ks] at hl hsum hsz ⊢
        by_cases ho : (op v).isSome = true
        · have hl' := w.2.2.1
          rcases op_cases ho with rfl | rfl | rfl | rfl
          · have hl' := hl' 1 rfl
            simp [d33, enc_inc, h0, hl', hl, hsz, ints_of]
          · have hl' := hl' 1 rfl
            simp [d33, enc_dec, h0, hl', hl, hsz, ints_of]
          · have hl' := hl' 2 rfl
            simp [d33, enc_min, h0, hl', hl, hsz, ints_of]
          · have hl' := hl' 2 rfl
            simp [d33, enc_max, h0, hl', hl, hsz, ints_of]
        · have ho' : (op v).isSome = false := by simpa using ho
          simp only [Ex.form, ho', Bool.false_or, Bool.and_eq_true, decide_eq_true_eq] at hf
          have h31 := f31 (m + 2) v w.1 S
          rw [hf.1] at h31
          have h5 : (as.length : Int) < 5 := by omega
          rw [call_enc ho]
          simp [d33, h0, h31, h5, hl, hsz, ints_of]
theorem f34 (n a : Nat) (e : Ex) (w : e.raw) (hs : Shrt e) (S : Store) : cF (n + 10) 34 [.p e.enc, .p (.int a)] S = .ok (.p (.bool (isE a e))) S := by
  rw [cF_at (F := d34.ir) rfl rfl]
  have h33 := f33 a 6 (n + 9) e S w hs (by omega)
  have h33 : cF (n + 9) 33 [.p e.enc, .p (.int a), .p (.int 6)] S = .ok (.p (.int (lsz a 6 e))) S := h33
  have hd : decide ((lsz a 6 e : Int) < 41) = isE a e := by rw [← isE_lsz]; exact decide_eq_decide.mpr (by omega)
  simp [d34, h33, hd]
theorem enc_tup (e : Ex) : ∃ x xs, e.enc = .tuple (x :: xs) := by
  cases e with
  | num k => exact ⟨_, _, rfl⟩
  | par k => exact ⟨_, _, rfl⟩
  | ite k a b => exact ⟨_, _, rfl⟩
  | app v as => by_cases ho : (op v).isSome = true; exact ⟨_, _, by rw [Ex.enc, if_pos ho]⟩; exact ⟨_, _, by rw [Ex.enc, if_neg ho]⟩
theorem enc_ne (e : Ex) (s : Str) : eqp e.enc (.str s) = some false := by
  obtain ⟨x, xs, h⟩ := enc_tup e
  rw [h]; simp [eqp, eqn, PyData.eqv]
theorem f38 (n a : Nat) (ha : a ≤ 4) (S : Store) (z : T) (hz : z.length < 5000) : cF (n + 26) 38 [.p (.int a), .p (.str (tx z))] S = .ok (.p (.bool true)) S := by
  rw [cF_at (F := d38.ir) rfl rfl]
  have h37 := f37 n a ha S z hz
  cases hp : parse a z with
  | none =>
    rw [resD, hp] at h37
    simp only at h37
    simp [d38, h37]
  | some e =>
    rw [resD, hp] at h37
    simp only at h37
    obtain ⟨s1, s2, s3⟩ := parse_sound hp
    have hs : Shrt e := by unfold Shrt; rw [← s1]; omega
    have h34 := f34 (n + 15) a e s2 hs S
    rw [s3] at h34
    have h30 := f30 e (n + 25) S s2 hs (by have := (isE_deep s3).1; omega)
    rw [← s1] at h30
    simp [d38, h37, enc_ne, h34, h30]
end L79

set_option maxRecDepth 1000000
set_option maxHeartbeats 1000000
set_option linter.all false
namespace L79
open PySem Px Px.Rw Px.Dr
theorem hdraw : GG[26]? = some drawFn := rfl
theorem hpick : GG[27]? = some (pickFn 26) := rfl
theorem hstream : GG[25]? = some streamFn := rfl
theorem drawE (n i : Nat) (total N : Int) (S : Store) (h : Gs S i N) (ht : 0 < total) (htb : total < 1000000) (hN : N < 1000000) :
    ∃ k o, cF (n + 1) 26 [.ref i, .p (.int total)] S = .ok (.p (.int k)) (S.set i o) ∧ 0 ≤ k ∧ k < total ∧ Dr (N + 1) o := draw hdraw n i total N S h ht htb hN
/-- the letters, by number -/
theorem let_at {k : Int} (h0 : 0 ≤ k) (h : k < 26) (S : Store) : ∃ c, subW (.p (.str (Str.ofString "abcdefghijklmnopqrstuvwxyz"))) (.p (.int k)) S = .ok (.p (.str (tx [c]))) S ∧ isL c = true := by
  obtain ⟨m, rfl⟩ : ∃ m : Nat, k = m := ⟨k.toNat, by omega⟩
  have hm : m < 26 := by omega
  refine ⟨97 + m, ?_, by simp only [isL, decide_eq_true_eq]; omega⟩
  have h1 : L2.atI (List.range' 97 26) (m : Int) = some (97 + m) := by
    simp only [L2.atI, L2.ixN, List.length_range']
    rw [if_pos (by omega), if_pos (by omega)]
    show (List.range' 97 26)[(m : Int).toNat]? = _
    rw [Int.toNat_natCast, List.getElem?_range' hm, Nat.one_mul]
  simp only [subW, view_p', subD, letters_cps, h1]
  rfl
/-- a name under way -/
def Nm (w : T) (k : Nat) : Prop := (∀ c ∈ w, isL c = true) ∧ w.length ≤ k
/-- a name -/
def NmOk (w : T) : Prop := (∀ c ∈ w, isL c = true) ∧ free w = true
def st28 (S : Store) (i : Nat) (o : MO) (l : List PyData) : Store := S.set i o ++ [.lst l]
theorem gsSt {S : Store} {i : Nat} {N M : Int} (h : Gs S i N) {o : MO} (d : Dr M o) (l : List PyData) : Gs (st28 S i o l) i M := (h.set d).snoc _
theorem st_set {S : Store} {i : Nat} (h : i < S.length) {o o' : MO} {l : List PyData} : (st28 S i o l).set i o' = st28 S i o' l := by
  unfold st28; rw [List.set_append_left _ _ (by simpa using h), List.set_set]
theorem inner28 (n i : Nat) (S : Store) (N0 : Int) (hS : Gs S i N0) (l : List PyData) (x1 x2 x7 : Option W) (L : W) : ∀ (k j : Nat) (w : T) (x6 : Option W) (o : MO) (N : Int) (q : Nat), Nm w q → q + k ≤ 100 → Dr N o → N + k < 1000000 →
    ∃ w' y6 o', forL (foStep (cF (n + 1)) cs (.n 6) (.cons (.asg (.n 5) (.bin false .Add (.v 5) (.sub (.v 3) (.call 26 (.cons (.v 0) (.cons (.k (.int 26)) .nil)))))) .nil)) (rangeL (j : Int) k) [some (.ref i), x1, x2, some (.p (.str (Str.ofString "abcdefghijklmnopqrstuvwxyz"))), some L, some (.p (.str (tx w))), x6, x7] (st28 S i o l) =
      .nx [some (.ref i), x1, x2, some (.p (.str (Str.ofString "abcdefghijklmnopqrstuvwxyz"))), some L, some (.p (.str (tx w'))), y6, x7] (st28 S i o' l) ∧ Nm w' (q + k) ∧ Dr (N + k) o'
  | 0, j, w, x6, o, N, q, hw, hq, hd, hN => ⟨w, x6, o, rfl, hw, by simpa using hd⟩
  | k + 1, j, w, x6, o, N, q, hw, hq, hd, hN => by
    obtain ⟨m, o1, h1, m0, m1, d1⟩ := drawE n i 26 N (st28 S i o l) (gsSt hS hd l) (by decide) (by decide) (by omega)
    rw [st_set hS.lt] at h1
    obtain ⟨c, hc, lc⟩ := let_at m0 m1 (st28 S i o1 l)
    have hw' : Nm (w ++ [c]) (q + 1) := ⟨by intro x hx; rcases List.mem_append.mp hx with hx | hx; exact hw.1 x hx; simp at hx; subst hx; exact lc, by have := hw.2; simp; omega⟩
    obtain ⟨w', y6, o', h2, h3, h4⟩ := inner28 n i S N0 hS l x1 x2 x7 L k (j + 1) (w ++ [c]) (some (.p (.int j))) o1 (N + 1) (q + 1) hw' (by omega) d1 (by omega)
    refine ⟨w', y6, o', ?_, by rw [show q + (k + 1) = q + 1 + k by omega]; exact h3, by rw [show N + ((k + 1 : Nat) : Int) = N + 1 + k by omega]; exact h4⟩
    have hl : w.length + ([c] : T).length ≤ sizeLine := Nat.le_trans (by have := hw.2; simp; omega : _ ≤ 1000) (by decide)
    have ad : ∀ m S, binD m .Add (.str (tx w)) (.str (tx [c])) S = .ok (.p (.str (tx (w ++ [c])))) S := fun m S => by rw [bin_adds, tx_len, tx_len, if_pos hl, app_tx]
    have hs : foStep (cF (n + 1)) cs (.n 6) (.cons (.asg (.n 5) (.bin false .Add (.v 5) (.sub (.v 3) (.call 26 (.cons (.v 0) (.cons (.k (.int 26)) .nil)))))) .nil) (.int j) [some (.ref i), x1, x2, some (.p (.str (Str.ofString "abcdefghijklmnopqrstuvwxyz"))), some L, some (.p (.str (tx w))), x6, x7] (st28 S i o l) =
        .nx [some (.ref i), x1, x2, some (.p (.str (Str.ofString "abcdefghijklmnopqrstuvwxyz"))), some L, some (.p (.str (tx (w ++ [c])))), some (.p (.int j)), x7] (st28 S i o1 l) := by
      simp [h1, hc, ad, -bin_adds]
    have : rangeL (j : Int) (k + 1) = .int j :: rangeL ((j + 1 : Nat) : Int) k := rfl
    rw [this, forL_cons, hs]
    exact h2
theorem resv_len {w : T} (h : w ∈ resv) : 2 ≤ w.length := by
  have : ∀ w ∈ resv, 2 ≤ w.length := by decide
  exact this w h
theorem name_one {c : Nat} (h : isL c = true) : NmOk [c] := by
  refine ⟨by intro x hx; simp at hx; subst hx; exact h, ?_⟩
  have : ¬ ([c] : T) ∈ resv := fun hm => by have := resv_len hm; simp at this
  simp [free, this]
theorem name_more {w : T} {c : Nat} (h : Nm w 7) (hc : isL c = true) (hr : ¬ (w ++ [c]) ∈ resv) : NmOk (w ++ [c]) := by
  refine ⟨by intro x hx; rcases List.mem_append.mp hx with hx | hx; exact h.1 x hx; simp at hx; subst hx; exact hc, ?_⟩
  have := h.2
  simp [free, hr]; omega
def body28 : Ss := match d28.ir.body with | .cons _ (.cons (.fo _ _ b) _) => b | _ => .nil
theorem at4 {k : Int} (h0 : 0 ≤ k) (h : k < 4) : ∃ v : Int, L2.atI [PyData.int 0, .int 0, .int 1, .int 7] k = some (.int v) ∧ 0 ≤ v ∧ v ≤ 7 := by
  have : k = 0 ∨ k = 1 ∨ k = 2 ∨ k = 3 := by omega
  rcases this with rfl | rfl | rfl | rfl
  · exact ⟨0, by simp, by decide, by decide⟩
  · exact ⟨0, by simp, by decide, by decide⟩
  · exact ⟨1, by simp, by decide, by decide⟩
  · exact ⟨7, by simp, by decide, by decide⟩
def encN (w : T) : PyData := .str (tx w)
theorem turn28 (n i : Nat) (S : Store) (N0 : Int) (hS : Gs S i N0) (l : List T) (hl : l.length ≤ 100) (x1 x2 x5 x6 x7 : Option W) (o : MO) (N : Int) (hd : Dr N o) (hN : N + 100 < 1000000) (j : Nat) (hj : j ≤ 7) :
    ∃ w y5 y6 y7 o', foStep (cF (n + 1)) cs (.n 2) body28 (.int j) [some (.ref i), x1, x2, some (.p (.str (Str.ofString "abcdefghijklmnopqrstuvwxyz"))), some (.ref S.length), x5, x6, x7] (st28 S i o (l.map encN)) =
      .nx [some (.ref i), x1, some (.p (.int j)), some (.p (.str (Str.ofString "abcdefghijklmnopqrstuvwxyz"))), some (.ref S.length), y5, y6, y7] (st28 S i o' ((l ++ [w]).map encN)) ∧ NmOk w ∧ Dr (N + 9) o' := by
  obtain ⟨m, o1, h1, m0, m1, d1⟩ := drawE n i 4 N (st28 S i o (l.map encN)) (gsSt hS hd _) (by decide) (by decide) (by omega)
  rw [st_set hS.lt] at h1
  obtain ⟨v, hv, v0, v7⟩ := at4 m0 m1
  obtain ⟨w, y6, o2, h2, nw, d2⟩ := inner28 n i S N0 hS (l.map encN) x1 (some (.p (.int j))) x7 (.ref S.length) v.toNat 0 [] x6 o1 (N + 1) 0 ⟨by simp, by simp⟩ (by omega) d1 (by omega)
  obtain ⟨m', o3, h3, m0', m1', d3⟩ := drawE n i 3 (N + 1 + v.toNat) (st28 S i o2 (l.map encN)) (gsSt hS d2 _) (by decide) (by decide) (by omega)
  rw [st_set hS.lt] at h3
  obtain ⟨c, hc, lc⟩ := let_at (k := 3 * (j : Int) + m') (by omega) (by omega) (st28 S i o3 (l.map encN))
  have nw7 : Nm w 7 := ⟨nw.1, by have := nw.2; omega⟩
  have lg3 : Nat.log2 3 + Nat.log2 j < 1000000 := by
    have h := lg (small400 (x := (j : Int)) (by omega) (by omega))
    have h3 : Nat.log2 3 < 10 := by decide
    simp at h; omega
  have hlen : w.length + ([c] : T).length ≤ sizeLine := Nat.le_trans (by have := nw7.2; simp; omega : _ ≤ 1000) (by decide)
  have ad : ∀ m S, binD m .Add (.str (tx w)) (.str (tx [c])) S = .ok (.p (.str (tx (w ++ [c])))) S := fun m S => by rw [bin_adds, tx_len, tx_len, if_pos hlen, app_tx]
  have hin := resv_in (w ++ [c])
  have happ : meT .append (.ref S.length) (st28 S i o3 (l.map encN)) = true := by simp [meT, view, st28]
  have hsz : (l.map encN).length < sizeLine := Nat.lt_of_le_of_lt (show _ ≤ 100 by simpa using hl) (by decide)
  have hap : ∀ (e : PyData), meW .append (.ref S.length) [.p e] (st28 S i o3 (l.map encN)) = .ok (.p .none) (st28 S i o3 (l.map encN ++ [e])) := fun e => by
    have a1 : (st28 S i o3 (l.map encN))[S.length]? = some (.lst (l.map encN)) := by unfold st28; rw [List.getElem?_append_right (by simp)]; simp
    have a2 : ∀ m, (st28 S i o3 (l.map encN)).set S.length (.lst m) = st28 S i o3 m := fun m => by unfold st28; rw [List.set_append_right _ _ (by simp)]; simp
    simp only [meW, a1, hsz, if_true, a2]
  rw [show ((0 : Nat) : Int) = 0 from rfl] at h2
  have e0 : Str.ofString "" = tx [] := rfl
  have dm : Dr (N + 9) o3 := d3.mono (by omega)
  have hb1 : -4611686018427387904 ≤ v := by omega
  have hb2 : v < 4611686018427387904 := by omega
  by_cases hm : (w ++ [c]) ∈ resv
  · refine ⟨[c], some (.p (.str (tx w))), y6, some (.p (.str (tx [c]))), o3, ?_, name_one lc, dm⟩
    rw [decide_eq_true hm] at hin
    rw [List.map_append, List.map_cons, List.map_nil]
    simp [body28, d28, e0, h1, hv, hb1, hb2, h2, h3, lg3, hc, ad, -bin_adds, hin, -inp_c1, happ, hap, encN]
  · refine ⟨w ++ [c], some (.p (.str (tx w))), y6, some (.p (.str (tx [c]))), o3, ?_, name_more nw7 lc hm, dm⟩
    rw [decide_eq_false hm] at hin
    rw [List.map_append, List.map_cons, List.map_nil]
    simp [body28, d28, e0, h1, hv, hb1, hb2, h2, h3, lg3, hc, ad, -bin_adds, hin, -inp_c1, happ, hap, encN]
end L79

set_option maxRecDepth 1000000
set_option maxHeartbeats 300000
set_option linter.all false
namespace L79
open PySem Px Px.Rw Px.Dr
theorem loop28 (n i : Nat) (S : Store) (N0 : Int) (hS : Gs S i N0) (x1 : Option W) : ∀ (k j : Nat) (l : List T) (x2 x5 x6 x7 : Option W) (o : MO) (N : Int), Dr N o → N + 100 * (k + 1) < 1000000 → j + k ≤ 8 → l.length ≤ j → (∀ w ∈ l, NmOk w) →
    ∃ (l' : List T) (y2 y5 y6 y7 : Option W) (o' : MO), forL (foStep (cF (n + 1)) cs (.n 2) body28) (rangeL (j : Int) k) [some (.ref i), x1, x2, some (.p (.str (Str.ofString "abcdefghijklmnopqrstuvwxyz"))), some (.ref S.length), x5, x6, x7] (st28 S i o (l.map encN)) =
      .nx [some (.ref i), x1, y2, some (.p (.str (Str.ofString "abcdefghijklmnopqrstuvwxyz"))), some (.ref S.length), y5, y6, y7] (st28 S i o' (l'.map encN)) ∧ (∀ w ∈ l', NmOk w) ∧ l'.length = l.length + k ∧ Dr (N + 9 * k) o'
  | 0, j, l, x2, x5, x6, x7, o, N, hd, hN, hj, hl, hw => ⟨l, x2, x5, x6, x7, o, rfl, hw, rfl, by simpa using hd⟩
  | k + 1, j, l, x2, x5, x6, x7, o, N, hd, hN, hj, hl, hw => by
    obtain ⟨w, y5, y6, y7, o1, h1, nw, d1⟩ := turn28 n i S N0 hS l (by omega) x1 x2 x5 x6 x7 o N hd (by omega) j (by omega)
    obtain ⟨l', y2', y5', y6', y7', o', h2, h3, h4, h5⟩ := loop28 n i S N0 hS x1 k (j + 1) (l ++ [w]) (some (.p (.int j))) y5 y6 y7 o1 (N + 9) d1 (by omega) (by omega) (by simp; omega) (by
      intro x hx; rcases List.mem_append.mp hx with hx | hx
      · exact hw x hx
      · simp at hx; subst hx; exact nw)
    refine ⟨l', y2', y5', y6', y7', o', ?_, h3, by rw [h4]; simp; omega, by rw [show N + 9 * ((k + 1 : Nat) : Int) = N + 9 + 9 * k by omega]; exact h5⟩
    have : rangeL (j : Int) (k + 1) = .int j :: rangeL ((j + 1 : Nat) : Int) k := rfl
    rw [this, forL_cons, h1]
    exact h2
theorem insB_map (w : T) : ∀ (l : List T), ∃ l' : List T, insB leD (encN w) (l.map encN) = l'.map encN ∧ l'.length = l.length + 1 ∧ ∀ v ∈ l', v = w ∨ v ∈ l
  | [] => ⟨[w], rfl, rfl, by simp⟩
  | a :: l => by
    obtain ⟨l', h1, h2, h3⟩ := insB_map w l
    rw [List.map_cons, insB]
    by_cases hc : leD (encN w) (encN a) = true
    · rw [if_pos hc]
      exact ⟨w :: a :: l, rfl, rfl, by simp⟩
    · rw [if_neg hc]
      refine ⟨a :: l', by rw [h1]; rfl, by simp [h2], ?_⟩
      intro v hv
      rcases List.mem_cons.mp hv with rfl | hv
      · simp
      · rcases h3 v hv with h | h
        · exact .inl h
        · exact .inr (List.mem_cons_of_mem _ h)
theorem sortB_map : ∀ (l : List T), ∃ l' : List T, sortB leD (l.map encN) = l'.map encN ∧ l'.length = l.length ∧ ∀ v ∈ l', v ∈ l
  | [] => ⟨[], rfl, rfl, by simp⟩
  | a :: l => by
    obtain ⟨l1, h1, h2, h3⟩ := sortB_map l
    obtain ⟨l2, g1, g2, g3⟩ := insB_map a l1
    refine ⟨l2, by rw [List.map_cons, sortB, h1, g1], by rw [g2, h2]; rfl, ?_⟩
    intro v hv
    rcases g3 v hv with rfl | h
    · simp
    · exact List.mem_cons_of_mem _ (h3 v h)
theorem bi_sorted_ref {S : Store} {c : Nat} {xs : List PyData} (h : S[c]? = some (.lst xs)) : biW false .sorted [.ref c] S = biW false .sorted [.p (.list xs)] S := by
  simp [biW, lenK, views, view, h]
theorem sorted_ok (l : List T) (S : Store) : ∃ l' : List T, biW false .sorted [.p (.list (l.map encN))] S = .ok (.p (.list (l'.map encN))) S ∧ l'.length = l.length ∧ ∀ v ∈ l', v ∈ l := by
  obtain ⟨l', h1, h2, h3⟩ := sortB_map l
  refine ⟨l', ?_, h2, h3⟩
  have a1 : alikes (l.map encN) = true := by
    unfold alikes
    simp only [List.all_map, List.all_eq_true, Function.comp]
    intro x _ y _; rfl
  have a2 : sortable (l.map encN) = true := by
    unfold sortable
    rw [Bool.or_eq_true]; right
    simp only [List.all_map, List.all_eq_true, Function.comp]
    intro x _; rfl
  have a3 : (l.map encN).all (fun x => decide (x.depth ≤ 64)) = true := by
    simp only [List.all_map, List.all_eq_true, Function.comp]
    intro x _; rfl
  rw [bi_sorted, a1, a2, a3, h1]; rfl
theorem f28 (n i : Nat) (S : Store) (N : Int) (hS : Gs S i N) (k : Int) (h0 : 1 ≤ k) (h6 : k ≤ 6) (hN : N + 2000 < 1000000) :
    ∃ (l : List T) (o : MO), cF (n + 2) 28 [.ref i, .p (.int k)] S = .ok (.p (.list (l.map encN))) (S.set i o) ∧ (∀ w ∈ l, NmOk w) ∧ (l.length : Int) = k ∧ Dr (N + 60) o := by
  obtain ⟨o0, ho, d0⟩ := hS
  have hS : Gs S i N := ⟨o0, ho, d0⟩
  obtain ⟨l, y2, y5, y6, y7, o, h1, hw, hl, hd⟩ := loop28 n i S N hS (some (.p (.int k))) k.toNat 0 [] none none none none o0 N d0 (by omega) (by omega) (by simp) (by simp)
  rw [show ((0 : Nat) : Int) = 0 from rfl] at h1
  obtain ⟨l', h2, h3, h4⟩ := sorted_ok l (st28 S i o (l.map encN))
  refine ⟨l', o, ?_, fun w hw' => hw w (h4 w hw'), by rw [h3, hl]; simp; omega, hd.mono (by omega)⟩
  have hsr : biW false .sorted [.ref S.length] (st28 S i o (l.map encN)) = .ok (.p (.list (l'.map encN))) (st28 S i o (l.map encN)) := by
    rw [bi_sorted_ref (xs := l.map encN) (by unfold st28; rw [List.getElem?_append_right (by simp)]; simp), h2]
  have s0 : S ++ [.lst []] = st28 S i o0 [] := by
    unfold st28
    congr 1
    refine List.ext_getElem? fun j => ?_
    rw [List.getElem?_set]
    by_cases hj : i = j
    · subst hj; rw [if_pos rfl, if_pos hS.lt, ho]
    · rw [if_neg hj]
  have hf : fin S.length (.p (.list (l'.map encN))) (st28 S i o (l.map encN)) = .ok (.p (.list (l'.map encN))) (S.set i o) := fin_sap
  have hb : d28.ir.body = .cons (.par 3 4 (.k (.str "abcdefghijklmnopqrstuvwxyz")) (.lst true .nil)) (.cons (.fo (.n 2) (.r1 (.v 1)) body28) (.cons (.ret (.som (.bi false .sorted (.cons (.v 4) .nil)))) .nil)) := rfl
  have hb1 : -4611686018427387904 ≤ k := by omega
  have hb2 : k < 4611686018427387904 := by omega
  rw [List.map_nil] at h1
  rw [cF_at (F := d28.ir) rfl rfl, hb]
  simp [d28, s0, hb1, hb2, h1, hsr, hf, -bi_sorted]
/-! ### expressions -/
def dc : Nat → Int
  | 0 => 3
  | d + 1 => 4 + 4 * dc d
theorem dc_ge (d : Nat) : 3 ≤ dc d := by induction d <;> simp only [dc] <;> omega
def bl : Nat → Nat
  | 0 => 10
  | d + 1 => 30 + 4 * bl d
theorem bl_ge (d : Nat) : 10 ≤ bl d := by induction d <;> simp only [bl] <;> omega
/-- what is drawn -/
structure Dn (a : Nat) (d : Nat) (e : Ex) : Prop where
  raw : e.raw
  deep : e.deep ≤ d + 1
  len : e.pr.length ≤ bl d
theorem Dn.mono {a d : Nat} {e : Ex} (h : Dn a d e) : Dn a (d + 1) e := ⟨h.raw, by have := h.deep; omega, by have := h.len; simp only [bl]; omega⟩
theorem at5 {k : Int} (h0 : 0 ≤ k) (h : k < 5) : ∃ v : Nat, L2.atI [PyData.int 0, .int 0, .int 1, .int 2, .int 7] k = some (.int v) ∧ v < 10 := by
  have : k = 0 ∨ k = 1 ∨ k = 2 ∨ k = 3 ∨ k = 4 := by omega
  rcases this with rfl | rfl | rfl | rfl | rfl
  · exact ⟨0, by simp, by decide⟩
  · exact ⟨0, by simp, by decide⟩
  · exact ⟨1, by simp, by decide⟩
  · exact ⟨2, by simp, by decide⟩
  · exact ⟨7, by simp, by decide⟩
/-- the functions that may be called -/
def Hd (h : List (T × Nat)) : Prop := (∀ x ∈ h, NmOk x.1 ∧ x.2 < 5) ∧ 1 ≤ h.length ∧ h.length ≤ 6
def encH (x : T × Nat) : PyData := .tuple [.str (tx x.1), .int x.2]
abbrev hdr (h : List (T × Nat)) : W := .p (.tuple (h.map encH))
theorem setset {S : Store} {i : Nat} {a b : MO} : (S.set i a).set i b = S.set i b := List.set_set ..
theorem leaf (n i : Nat) (S : Store) (N D : Int) (a : Nat) (ha : a ≤ 4) (H : List (T × Nat)) (hG : Gs S i N) (hN : N + 3 < 1000000) (o1 : MO) (way : Int) (hw : cF (n + 1) 26 [.ref i, .p (.int 9)] S = .ok (.p (.int way)) (S.set i o1)) (hg : Dr (N + 1) o1)
    (hc : D < 2 ∨ way < 2) : ∃ e o, cF (n + 2) 29 [.ref i, hdr H, .p (.int a), .p (.int D)] S = .ok (.p (Ex.enc e)) (S.set i o) ∧ Dn a 0 e ∧ Dr (N + 3) o := by
  obtain ⟨v, o2, h2, v0, v1, g2⟩ := drawE n i 5 (N + 1) (S.set i o1) (hG.set hg) (by decide) (by decide) (by omega)
  rw [setset] at h2
  obtain ⟨k5, o5, h5, k50, k51, g5⟩ := drawE n i 5 (N + 1) (S.set i o1) (hG.set hg) (by decide) (by decide) (by omega)
  rw [setset] at h5
  have hor : (decide (D < 2) || decide (way < 2)) = true := by simpa using hc
  have numc : ∀ (k : Int) (o : MO) (S1 : Store), cF (n + 1) 26 [.ref i, .p (.int 5)] S1 = .ok (.p (.int k)) (S.set i o) → 0 ≤ k → k < 5 → ∃ e, (∃ q : Nat, L2.atI [PyData.int 0, .int 0, .int 1, .int 2, .int 7] k = some (.int q) ∧ e = Ex.num q) ∧ Dn a 0 e := by
    intro k o S1 _ k0 k1
    obtain ⟨q, hq, q1⟩ := at5 k0 k1
    exact ⟨.num q, ⟨q, hq, rfl⟩, ⟨show q < 10000 by omega, by simp [Ex.deep], by have := dig_len q; simp only [Ex.pr, bl]; omega⟩⟩
  by_cases h0 : a = 0
  · subst h0
    obtain ⟨e, ⟨q, hq, rfl⟩, de⟩ := numc k5 o5 _ h5 k50 k51
    refine ⟨.num q, o5, ?_, de, g5.mono (by omega)⟩
    rw [cF_at (F := d29.ir) rfl rfl]
    by_cases hD : D < 2
    · simp [d29, hw, hD, h5, hq, Ex.enc]
    · have hw2 : way < 2 := by omega
      simp [d29, hw, hD, hw2, h5, hq, Ex.enc]
  have ha0 : 0 < a := by omega
  by_cases hv : 0 < v
  · obtain ⟨k, o3, h3, k0, k1, g3⟩ := drawE n i a (N + 1 + 1) (S.set i o2) (hG.set g2) (by omega) (by omega) (by omega)
    rw [setset] at h3
    obtain ⟨m, rfl⟩ : ∃ m : Nat, k = m := ⟨k.toNat, by omega⟩
    refine ⟨.par m, o3, ?_, ⟨show m < 10000 by omega, by simp [Ex.deep], by have := dig_len m; simp only [Ex.pr, List.length_cons, bl]; omega⟩, g3.mono (by omega)⟩
    rw [cF_at (F := d29.ir) rfl rfl]
    by_cases hD : D < 2
    · simp [d29, hw, hD, ha0, h2, hv, h3, Ex.enc]
    · have hw2 : way < 2 := by omega
      simp [d29, hw, hD, hw2, ha0, h2, hv, h3, Ex.enc]
  · obtain ⟨k, o3, h3, k0, k1, g3⟩ := drawE n i 5 (N + 1 + 1) (S.set i o2) (hG.set g2) (by decide) (by decide) (by omega)
    rw [setset] at h3
    obtain ⟨e, ⟨q, hq, rfl⟩, de⟩ := numc k o3 _ h3 k0 k1
    refine ⟨.num q, o3, ?_, de, g3.mono (by omega)⟩
    rw [cF_at (F := d29.ir) rfl rfl]
    by_cases hD : D < 2
    · simp [d29, hw, hD, ha0, h2, hv, h3, hq, Ex.enc]
    · have hw2 : way < 2 := by omega
      simp [d29, hw, hD, hw2, ha0, h2, hv, h3, hq, Ex.enc]
def F29 (d : Nat) : Prop := ∀ (n i : Nat) (S : Store) (N D : Int) (a : Nat) (H : List (T × Nat)), a ≤ 4 → Hd H → D = (d : Int) + 1 → d + 3 ≤ n → Gs S i N → N + dc d < 1000000 →
    ∃ e o, cF n 29 [.ref i, hdr H, .p (.int a), .p (.int D)] S = .ok (.p (Ex.enc e)) (S.set i o) ∧ Dn a d e ∧ Dr (N + dc d) o
/-- the arguments of a call -/
theorem lc29 {d : Nat} (ih : F29 d) (n i : Nat) (D : Int) (a : Nat) (H : List (T × Nat)) (ha : a ≤ 4) (hH : Hd H) (hD : D = (d : Int) + 1 + 1) (hn : d + 3 ≤ n) (S : Store) (N0 : Int) (hS : Gs S i N0) (x4 x5 x6 x7 x8 x9 x10 : Option W) : ∀ (k j : Nat) (o : MO) (N : Int), Dr N o → N + k * dc d < 1000000 →
    ∃ (es : List Ex) (o' : MO), lcF (lcStep (cF n) cs (.call 29 (.cons (.v 0) (.cons (.v 1) (.cons (.v 2) (.cons (.bin false .Sub (.v 3) (.k (.int 1))) .nil))))) (.n 10) .nil [some (.ref i), some (hdr H), some (.p (.int a)), some (.p (.int D)), x4, x5, x6, x7, x8, x9, x10]) (rangeL (j : Int) k) (S.set i o) =
      .ok (es.map Ex.enc) (S.set i o') ∧ es.length = k ∧ (∀ e ∈ es, Dn a d e) ∧ Dr (N + k * dc d) o'
  | 0, j, o, N, hd, hN => ⟨[], o, rfl, rfl, by simp, by simpa using hd⟩
  | k + 1, j, o, N, hd, hN => by
    have hge := dc_ge d
    have e0 : ((k + 1 : Nat) : Int) * dc d = k * dc d + dc d := by rw [Int.natCast_add, Int.add_mul]; simp
    have hk : 0 ≤ (k : Int) * dc d := Int.mul_nonneg (by omega) (by omega)
    obtain ⟨e, o1, h1, de, d1⟩ := ih n i (S.set i o) N (D - 1) a H ha hH (by omega) hn (hS.set hd) (by omega)
    rw [setset] at h1
    obtain ⟨es, o', h2, h3, h4, h5⟩ := lc29 ih n i D a H ha hH hD hn S N0 hS x4 x5 x6 x7 x8 x9 x10 k (j + 1) o1 (N + dc d) d1 (by omega)
    refine ⟨e :: es, o', ?_, by simp [h3], by intro x hx; rcases List.mem_cons.mp hx with rfl | hx; exact de; exact h4 x hx, by rw [e0, show N + (k * dc d + dc d) = N + dc d + k * dc d by omega]; exact h5⟩
    have hs : lcStep (cF n) cs (.call 29 (.cons (.v 0) (.cons (.v 1) (.cons (.v 2) (.cons (.bin false .Sub (.v 3) (.k (.int 1))) .nil))))) (.n 10) .nil [some (.ref i), some (hdr H), some (.p (.int a)), some (.p (.int D)), x4, x5, x6, x7, x8, x9, x10] (.int j) (S.set i o) = .ok (some e.enc) (S.set i o1) := by
      simp [h1]
    have : rangeL (j : Int) (k + 1) = .int j :: rangeL ((j + 1 : Nat) : Int) k := rfl
    rw [this, lcF_cons, hs, List.map_cons]
    simp only [h2]
theorem free_op {w : T} (h : free w = true) : op w = none ∧ w ≠ wIf := by
  simp only [free, Bool.and_eq_true, Bool.not_eq_true', decide_eq_false_iff_not] at h
  have hr := h.2
  refine ⟨?_, fun e => hr (by rw [e]; decide)⟩
  unfold op
  rw [if_neg (by rintro (e | e) <;> exact hr (by rw [e]; decide)), if_neg (by rintro (e | e) <;> exact hr (by rw [e]; decide))]
theorem pr_le2 {d : Nat} {x y : Ex} {k : Nat} (hx : x.pr.length ≤ bl d) (hy : y.pr.length ≤ bl d) : (Ex.ite k x y).pr.length ≤ bl (d + 1) := by
  have := dig_len k
  simp only [Ex.pr, List.length_append, wIf, cP, cThen, cElse, List.length_cons, List.length_nil, bl]; omega
theorem prA_le {d : Nat} : ∀ (es : List Ex) (f : Bool), (∀ e ∈ es, e.pr.length ≤ bl d) → (prA f es).length ≤ es.length * (bl d + 2)
  | [], _, _ => by simp [prA]
  | e :: es, f, h => by
    have h1 := h e (by simp)
    have h2 := prA_le es false fun x hx => h x (by simp [hx])
    rw [List.length_cons, Nat.succ_mul]
    cases f <;> simp only [prA, List.length_append, if_true, Bool.false_eq_true, if_false, List.length_cons, List.length_nil] <;> omega
theorem app_le {d : Nat} {w : T} {es : List Ex} (hw : w.length ≤ 8) (hl : es.length ≤ 4) (h : ∀ e ∈ es, e.pr.length ≤ bl d) : (Ex.app w es).pr.length ≤ bl (d + 1) := by
  have h1 := prA_le es true h
  have h2 : es.length * (bl d + 2) ≤ 4 * (bl d + 2) := Nat.mul_le_mul_right _ hl
  simp only [Ex.pr, List.length_append, List.length_cons, List.length_nil, bl]; omega
theorem app_dn {a d : Nat} {w : T} {es : List Ex} (hw : ∀ c ∈ w, isL c = true) (hw8 : w.length ≤ 8) (hi : w ≠ wIf) (ho : ∀ n, op w = some n → es.length = n) (hl : es.length ≤ 4) (h : ∀ e ∈ es, Dn a d e) : Dn a (d + 1) (.app w es) :=
  ⟨⟨hw, hi, ho, raws_iff.mpr fun e he => (h e he).raw⟩, by
    have : deeps es ≤ d + 1 := deeps_le.mpr fun e he => (h e he).deep
    simp only [Ex.deep]; omega, app_le hw8 hl fun e he => (h e he).len⟩
theorem f27h (n i : Nat) (S : Store) (N : Int) (H : List (T × Nat)) (hH : Hd H) (hG : Gs S i N) (hN : N < 1000000) : ∃ x o, cF (n + 2) 27 [.ref i, hdr H] S = .ok (.p (encH x)) (S.set i o) ∧ x ∈ H ∧ Dr (N + 1) o := by
  obtain ⟨x, o, h1, h2, h3⟩ := pick_t (cs := cs) hpick hdraw n i (H.map encH) N S hG (by simp; have := hH.2.1; omega) (by simp; have := hH.2.2; omega) hN
  obtain ⟨y, hy, rfl⟩ := List.mem_map.mp h2
  exact ⟨y, o, h1, hy, h3⟩
theorem F29_all : ∀ d, F29 d
  | 0 => by
    intro n i S N D a H ha hH hD hn hG hN
    obtain ⟨m, rfl⟩ : ∃ m, n = m + 2 := ⟨n - 2, by omega⟩
    simp only [dc] at hN ⊢
    obtain ⟨w, o1, h1, w0, w1, g1⟩ := drawE m i 9 N S hG (by decide) (by decide) (by omega)
    exact leaf m i S N D a ha H hG hN o1 w h1 g1 (.inl (by omega))
  | d + 1 => by
    intro n i S N D a H ha hH hD hn hG hN
    have ih := F29_all d
    obtain ⟨m, rfl⟩ : ∃ m, n = m + 3 := ⟨n - 3, by omega⟩
    have hge := dc_ge d
    simp only [dc] at hN ⊢
    obtain ⟨w, o1, h1, w0, w1, g1⟩ := drawE (m + 1) i 9 N S hG (by decide) (by decide) (by omega)
    by_cases hw : w < 2
    · obtain ⟨e, o, h, de, dr⟩ := leaf (m + 1) i S N D a ha H hG (by omega) o1 w h1 g1 (.inr hw)
      have up : ∀ d, Dn a 0 e → Dn a d e := by
        intro d
        induction d with
        | zero => exact id
        | succ d ih => exact fun h => (ih h).mono
      exact ⟨e, o, h, up _ de, dr.mono (by omega)⟩
    have hD2 : ¬ D < 2 := by omega
    have two : ∀ (o : MO) (M : Int), Dr M o → M + 2 * dc d < 1000000 → ∃ x y o2 o3, cF (m + 2) 29 [.ref i, hdr H, .p (.int a), .p (.int (D - 1))] (S.set i o) = .ok (.p (Ex.enc x)) (S.set i o2) ∧
        cF (m + 2) 29 [.ref i, hdr H, .p (.int a), .p (.int (D - 1))] (S.set i o2) = .ok (.p (Ex.enc y)) (S.set i o3) ∧ Dn a d x ∧ Dn a d y ∧ Dr (M + 2 * dc d) o3 := by
      intro o M dM hM
      obtain ⟨x, o2, h2, dx, g2⟩ := ih (m + 2) i (S.set i o) M (D - 1) a H ha hH (by omega) (by omega) (hG.set dM) (by omega)
      rw [setset] at h2
      obtain ⟨y, o3, h3, dy, g3⟩ := ih (m + 2) i (S.set i o2) (M + dc d) (D - 1) a H ha hH (by omega) (by omega) (hG.set g2) (by omega)
      rw [setset] at h3
      exact ⟨x, y, o2, o3, h2, h3, dx, dy, g3.mono (by omega)⟩
    by_cases h5 : w < 5
    · obtain ⟨e, o2, h2, de, g2⟩ := ih (m + 2) i (S.set i o1) (N + 1) (D - 1) a H ha hH (by omega) (by omega) (hG.set g1) (by omega)
      rw [setset] at h2
      have one : ∀ v : T, v.length = 3 → op v = some 1 → (∀ c ∈ v, isL c = true) → v ≠ wIf → Dn a (d + 1) (.app v [e]) := fun v hv ho hc hi =>
        app_dn hc (by omega) hi (by intro n hn; rw [ho] at hn; cases hn; rfl) (by simp) (by intro x hx; simp at hx; subst hx; exact de)
      have hww : w = 2 ∨ w = 3 ∨ w = 4 := by omega
      rcases hww with rfl | rfl | rfl
      · refine ⟨.app wInc [e], o2, ?_, one _ rfl rfl (by decide) (by decide), g2.mono (by omega)⟩
        rw [cF_at (F := d29.ir) rfl rfl]
        simp [d29, h1, hD2, h2, enc_inc]
      · refine ⟨.app wDec [e], o2, ?_, one _ rfl rfl (by decide) (by decide), g2.mono (by omega)⟩
        rw [cF_at (F := d29.ir) rfl rfl]
        simp [d29, h1, hD2, h2, enc_dec]
      · refine ⟨.app wDec [e], o2, ?_, one _ rfl rfl (by decide) (by decide), g2.mono (by omega)⟩
        rw [cF_at (F := d29.ir) rfl rfl]
        simp [d29, h1, hD2, h2, enc_dec]
    by_cases h7 : w = 7 ∧ 0 < a
    · obtain ⟨rfl, ha0⟩ := h7
      obtain ⟨k, o2, h2, k0, k1, g2⟩ := drawE (m + 1) i a (N + 1) (S.set i o1) (hG.set g1) (by omega) (by omega) (by omega)
      rw [setset] at h2
      obtain ⟨q, rfl⟩ : ∃ q : Nat, k = q := ⟨k.toNat, by omega⟩
      obtain ⟨x, y, o3, o4, h3, h4, dx, dy, g4⟩ := two o2 (N + 1 + 1) g2 (by omega)
      refine ⟨.ite q x y, o4, ?_, ⟨⟨by omega, dx.raw, dy.raw⟩, by have := dx.deep; have := dy.deep; simp only [Ex.deep]; omega, pr_le2 dx.len dy.len⟩, g4.mono (by omega)⟩
      rw [cF_at (F := d29.ir) rfl rfl]
      simp [d29, h1, hD2, ha0, h2, h3, h4, Ex.enc]
    have h7' : (decide (w = 7) && decide ((0 : Int) < a)) = false := by
      rw [← Bool.decide_and]; exact decide_eq_false fun ⟨h, h'⟩ => h7 ⟨h, by omega⟩
    by_cases h6 : 6 < w
    · obtain ⟨x, o2, h2, hx, g2⟩ := f27h m i (S.set i o1) (N + 1) H hH (hG.set g1) (by omega)
      rw [setset] at h2
      obtain ⟨nx, lx⟩ := hH.1 x hx
      have hxm : (x.2 : Int) * dc d ≤ 4 * dc d := Int.mul_le_mul_of_nonneg_right (by omega) (by omega)
      obtain ⟨es, o3, h3, l3, d3, g3⟩ := lc29 ih (m + 2) i D a H ha hH (by omega) (by omega) S N hG (some (.p (.int w))) none none none (some (.p (.str (tx x.1)))) (some (.p (.int x.2))) none x.2 0 o2 (N + 1 + 1) g2 (by omega)
      rw [show ((0 : Nat) : Int) = 0 from rfl] at h3
      have hfo := free_op nx.2
      have w8 : x.1.length ≤ 8 := by have := nx.2; simp only [free, Bool.and_eq_true, decide_eq_true_eq] at this; exact this.1.2
      refine ⟨.app x.1 es, o3, ?_, app_dn nx.1 w8 hfo.2 (by rw [hfo.1]; simp) (by omega) d3, g3.mono (by omega)⟩
      have hen : (Ex.app x.1 es).enc = .tuple [.str "call", .str (tx x.1), .tuple (es.map Ex.enc)] := call_enc (by rw [hfo.1]; simp) es
      have hsz : es.length ≤ sizeLine := len_le (show es.length ≤ 10 by omega) (by decide)
      have hne : eqp (.tuple (H.map encH)) (.tuple []) = some false := by
        have := hH.2.1
        cases hx : H with
        | nil => rw [hx] at this; simp at this
        | cons y ys => simp
      obtain ⟨z, hz⟩ : ∃ z : Int, z = (x.2 : Int) := ⟨_, rfl⟩
      have z1 : -4611686018427387904 ≤ z := by omega
      have z2 : z < 4611686018427387904 := by omega
      have zn : x.2 = z.toNat := by omega
      rw [← hz] at h3
      rw [zn] at h3
      have ex : encH x = .tuple [.str (tx x.1), .int z] := by rw [encH, hz]
      rw [ex] at h2
      rw [cF_at (F := d29.ir) rfl rfl, hen]
      by_cases hw7 : w = 7
      · have a0 : ¬ 0 < a := fun h => h7 ⟨hw7, h⟩
        subst hw7
        simp [d29, h1, hD2, a0, hne, h2, z1, z2, h3, hsz]
      · simp [d29, h1, hD2, hw, h5, hw7, h6, hne, h2, z1, z2, h3, hsz]
    · obtain ⟨x, y, o3, o4, h3, h4, dx, dy, g4⟩ := two o1 (N + 1) g1 (by omega)
      obtain ⟨k, o5, h5', k0, k1, g5⟩ := drawE (m + 1) i 2 (N + 1 + 2 * dc d) (S.set i o4) (hG.set g4) (by decide) (by decide) (by omega)
      rw [setset] at h5'
      have hw7 : ¬ w = 7 := by omega
      have dnn : ∀ v : T, v.length = 3 → op v = some 2 → (∀ c ∈ v, isL c = true) → v ≠ wIf → Dn a (d + 1) (.app v [x, y]) := fun v hv ho hc hi =>
        app_dn hc (by omega) hi (by intro n hn; rw [ho] at hn; cases hn; rfl) (by simp) (by intro u hu; simp at hu; rcases hu with rfl | rfl; exact dx; exact dy)
      have hk : k = 0 ∨ k = 1 := by omega
      rcases hk with rfl | rfl
      · refine ⟨.app wMin [x, y], o5, ?_, dnn _ rfl rfl (by decide) (by decide), g5.mono (by omega)⟩
        rw [cF_at (F := d29.ir) rfl rfl]
        simp [d29, h1, hD2, hw, h5, hw7, h6, h3, h4, h5', enc_min]
      · refine ⟨.app wMax [x, y], o5, ?_, dnn _ rfl rfl (by decide) (by decide), g5.mono (by omega)⟩
        rw [cF_at (F := d29.ir) rfl rfl]
        simp [d29, h1, hD2, hw, h5, hw7, h6, h3, h4, h5', enc_max]
end L79

set_option maxRecDepth 1000000
set_option maxHeartbeats 400000
set_option linter.all false
namespace L79
open PySem Px Px.Rw Px.Dr
theorem lc35 (n i : Nat) (S : Store) (N0 : Int) (hS : Gs S i N0) (x1 x2 x3 x4 : Option W) : ∀ (l : List T) (o : MO) (N : Int), Dr N o → N + l.length < 1000000 → (∀ w ∈ l, NmOk w) →
    ∃ (H : List (T × Nat)) (o' : MO), lcF (lcStep (cF (n + 1)) cs (.tup (.cons (.v 4) (.cons (.call 26 (.cons (.v 0) (.cons (.k (.int 5)) .nil))) .nil))) (.n 4) .nil [some (.ref i), x1, x2, x3, x4]) (l.map encN) (S.set i o) = .ok (H.map encH) (S.set i o') ∧
      H.length = l.length ∧ (∀ x ∈ H, NmOk x.1 ∧ x.2 < 5) ∧ Dr (N + l.length) o'
  | [], o, N, hd, hN, hw => ⟨[], o, rfl, rfl, by simp, by simpa using hd⟩
  | w :: l, o, N, hd, hN, hw => by
    simp only [List.length_cons] at hN
    obtain ⟨k, o1, h1, k0, k1, d1⟩ := drawE n i 5 N (S.set i o) (hS.set hd) (by decide) (by decide) (by omega)
    rw [setset] at h1
    obtain ⟨m, rfl⟩ : ∃ m : Nat, k = m := ⟨k.toNat, by omega⟩
    obtain ⟨H, o', h2, h3, h4, h5⟩ := lc35 n i S N0 hS x1 x2 x3 x4 l o1 (N + 1) d1 (by omega) fun v hv => hw v (by simp [hv])
    refine ⟨(w, m) :: H, o', ?_, by simp [h3], by intro x hx; rcases List.mem_cons.mp hx with rfl | hx; exact ⟨hw w (by simp), by omega⟩; exact h4 x hx, h5.mono (by simp only [List.length_cons]; omega)⟩
    have hs : lcStep (cF (n + 1)) cs (.tup (.cons (.v 4) (.cons (.call 26 (.cons (.v 0) (.cons (.k (.int 5)) .nil))) .nil))) (.n 4) .nil [some (.ref i), x1, x2, x3, x4] (encN w) (S.set i o) = .ok (some (encH (w, m))) (S.set i o1) := by
      simp [h1, encN, encH]
    rw [List.map_cons, lcF_cons, hs, List.map_cons]
    simp only [h2]
theorem at6 {k : Int} (h0 : 0 ≤ k) (h : k < 6) : ∃ v : Nat, L2.atI [PyData.int 9, .int 10, .int 99, .int 100, .int 999, .int 1000] k = some (.int v) ∧ v ≤ 1000 := by
  have : k = 0 ∨ k = 1 ∨ k = 2 ∨ k = 3 ∨ k = 4 ∨ k = 5 := by omega
  rcases this with rfl | rfl | rfl | rfl | rfl | rfl
  · exact ⟨9, by simp, by decide⟩
  · exact ⟨10, by simp, by decide⟩
  · exact ⟨99, by simp, by decide⟩
  · exact ⟨100, by simp, by decide⟩
  · exact ⟨999, by simp, by decide⟩
  · exact ⟨1000, by simp, by decide⟩
theorem f35 (n i : Nat) (S : Store) (N : Int) (hG : Gs S i N) (a : Nat) (ha : a ≤ 4) (hN : N + 10000 < 1000000) :
    ∃ e o, cF (n + 12) 35 [.ref i, .p (.int a)] S = .ok (.p (Ex.enc e)) (S.set i o) ∧ e.raw ∧ isE a e = true ∧ Dr (N + 6000) o := by
  obtain ⟨k1, o1, h1, k10, k11, d1⟩ := drawE (n + 10) i 6 N S hG (by decide) (by decide) (by omega)
  obtain ⟨l, o2, h2, nl, ll, d2⟩ := f28 (n + 9) i (S.set i o1) (N + 1) (hG.set d1) (1 + k1) (by omega) (by omega) (by omega)
  rw [setset] at h2
  obtain ⟨H, o3, h3, lH, nH, d3⟩ := lc35 (n + 10) i S N hG (some (.p (.int a))) none none none l o2 (N + 1 + 60) d2 (by omega) nl
  have hH : Hd H := ⟨nH, by omega, by omega⟩
  obtain ⟨k4, o4, h4, k40, k41, d4⟩ := drawE (n + 10) i 6 (N + 1 + 60 + l.length) (S.set i o3) (hG.set d3) (by decide) (by decide) (by omega)
  rw [setset] at h4
  obtain ⟨d, rfl⟩ : ∃ d : Nat, k4 = d := ⟨k4.toNat, by omega⟩
  have hdc : dc d ≤ 4436 ∧ bl d ≤ 20470 := by
    have : d = 0 ∨ d = 1 ∨ d = 2 ∨ d = 3 ∨ d = 4 ∨ d = 5 := by omega
    rcases this with rfl | rfl | rfl | rfl | rfl | rfl <;> decide
  obtain ⟨e, o5, h5, de, d5⟩ := F29_all d (n + 11) i (S.set i o4) (N + 1 + 60 + l.length + 1) (1 + d) a H ha hH (by omega) (by omega) (hG.set d4) (by omega)
  rw [setset] at h5
  obtain ⟨k6, o6, h6, k60, k61, d6⟩ := drawE (n + 10) i 9 (N + 1 + 60 + l.length + 1 + dc d) (S.set i o5) (hG.set d5) (by decide) (by decide) (by omega)
  rw [setset] at h6
  obtain ⟨x, y, r, hx, nx⟩ : ∃ x y r, H = (x, y) :: r ∧ NmOk x := by
    cases hH' : H with
    | nil => have := hH.2.1; rw [hH'] at this; simp at this
    | cons z r => exact ⟨z.1, z.2, r, rfl, (nH z (by rw [hH']; simp)).1⟩
  have hsz : H.length ≤ sizeLine := len_le (show H.length ≤ 10 by omega) (by decide)
  have lsz2 : l.length ≤ sizeLine := len_le (show l.length ≤ 10 by omega) (by decide)
  have hh0 : ∀ S, subW (.p (.tuple (H.map encH))) (.p (.int 0)) S = .ok (.p (encH (x, y))) S := by
    intro S; rw [hx]; simp
  -- the law's choice
  obtain ⟨fb, hfb⟩ : ∃ fb : Ex, fb = .app x [.num 0] := ⟨_, rfl⟩
  have fo := free_op nx.2
  have fenc : fb.enc = .tuple [.str "call", .str (tx x), .tuple [.tuple [.str "number", .int 0]]] := by rw [hfb, call_enc (by rw [fo.1]; simp)]; rfl
  have fraw : fb.raw := by rw [hfb]; exact ⟨nx.1, fo.2, by rw [fo.1]; simp, by simp [raws, Ex.raw]⟩
  have fE : isE a fb = true := by
    have f1 : (Ex.app x [.num 0]).form a = true := by simp [Ex.form, nx.2]
    have f2 : (Ex.num 0).form a = true := by simp [Ex.form]
    rw [hfb]; simp [isE, nst, f1, f2, Ex.ks, Ex.nodes, nodess]
  have pick : ∀ (g : Ex) (o : MO), g.raw → Shrt g → ∃ e', (ev (cF (n + 11)) cs (.ife (.call 34 (.cons (.v 3) (.cons (.v 1) .nil))) (.v 3) (.tup (.cons (.k (.str "call")) (.cons (.sub (.sub (.v 2) (.k (.int 0))) (.k (.int 0))) (.cons (.tup (.cons (.tup (.cons (.k (.str "number")) (.cons (.k (.int 0)) .nil))) .nil)) .nil))))) false
      [some (.ref i), some (.p (.int a)), some (hdr H), some (.p g.enc), none] (S.set i o)) = .ok (.p e'.enc) (S.set i o) ∧ e'.raw ∧ isE a e' = true := by
    intro g o wg sg
    have h34 := f34 (n + 1) a g wg sg (S.set i o)
    cases hE : isE a g
    · rw [hE] at h34
      refine ⟨fb, ?_, fraw, fE⟩
      rw [fenc]
      simp [h34, hh0, encH]
    · rw [hE] at h34
      exact ⟨g, by simp [h34], wg, hE⟩
  have hb : d35.ir.body = .cons (.asg (.n 2) (.bi false .tuple (.cons (.lc false (.tup (.cons (.v 4) (.cons (.call 26 (.cons (.v 0) (.cons (.k (.int 5)) .nil))) .nil))) (.n 4) (.e (.call 28 (.cons (.v 0) (.cons (.bin false .Add (.k (.int 1)) (.call 26 (.cons (.v 0) (.cons (.k (.int 6)) .nil)))) .nil)))) .nil) .nil))) (.cons (.asg (.n 3) (.call 29 (.cons (.v 0) (.cons (.v 2) (.cons (.v 1) (.cons (.bin false .Add (.k (.int 1)) (.call 26 (.cons (.v 0) (.cons (.k (.int 6)) .nil)))) .nil)))))) (.cons (.ifs (.cmp .Eq (.call 26 (.cons (.v 0) (.cons (.k (.int 9)) .nil))) (.k (.int 0))) (.cons (.asg (.n 3) (.tup (.cons (.k (.str "number")) (.cons (.sub (.lst false (.cons (.k (.int 9)) (.cons (.k (.int 10)) (.cons (.k (.int 99)) (.cons (.k (.int 100)) (.cons (.k (.int 999)) (.cons (.k (.int 1000)) .nil))))))) (.call 26 (.cons (.v 0) (.cons (.k (.int 6)) .nil)))) .nil)))) .nil) .nil) (.cons (.ret (.som (.ife (.call 34 (.cons (.v 3) (.cons (.v 1) .nil))) (.v 3) (.tup (.cons (.k (.str "call")) (.cons (.sub (.sub (.v 2) (.k (.int 0))) (.k (.int 0))) (.cons (.tup (.cons (.tup (.cons (.k (.str "number")) (.cons (.k (.int 0)) .nil))) .nil)) .nil))))))) .nil))) := rfl
  by_cases hk : k6 = 0
  · obtain ⟨k7, o7, h7, k70, k71, d7⟩ := drawE (n + 10) i 6 (N + 1 + 60 + l.length + 1 + dc d + 1) (S.set i o6) (hG.set d6) (by decide) (by decide) (by omega)
    rw [setset] at h7
    obtain ⟨v, hv, v1⟩ := at6 k70 k71
    obtain ⟨e', hp, re, ie⟩ := pick (.num v) o7 (show v < 10000 by omega) (by unfold Shrt; have := dig_len v; simp only [Ex.pr]; omega)
    refine ⟨e', o7, ?_, re, ie, d7.mono (by omega)⟩
    rw [Ex.enc] at hp
    rw [cF_at (F := d35.ir) rfl rfl, hb]
    simp [d35, h1, h2, h3, lsz2, hsz, lH, h4, h5, h6, hk, h7, hv, -ev_ife, hp]
  · obtain ⟨e', hp, re, ie⟩ := pick e o6 de.raw (by unfold Shrt; have := de.len; omega)
    refine ⟨e', o6, ?_, re, ie, d6.mono (by omega)⟩
    rw [cF_at (F := d35.ir) rfl rfl, hb]
    simp [d35, h1, h2, h3, lsz2, hsz, lH, h4, h5, h6, hk, -ev_ife, hp]
/-! ### bent texts -/
def shortS (k : Nat) : PyData → Bool
  | .str s => decide (s.length ≤ k)
  | _ => false
theorem shortS_of {k : Nat} {d : PyData} (h : shortS k d = true) : ∃ s : Str, d = .str s ∧ s.length ≤ k := by
  cases d <;> simp only [shortS, Bool.false_eq_true] at h
  exact ⟨_, rfl, by simpa using h⟩
theorem add_s {m : Bool} {a b : Str} {S : Store} (h : a.length + b.length ≤ 100000) : binD m .Add (.str a) (.str b) S = .ok (.p (.str (a ++ b))) S := by
  rw [bin_adds, if_pos (Nat.le_trans h (by decide))]
theorem len_app (a b : Str) : (a ++ b).length = a.length + b.length := by
  show (Str.append a b).length = _
  simp [Str.append, Str.length]
def signs : List PyData := [(.str " "), (.str "0"), (.str "1"), (.str "p"), (.str "("), (.str ")"), (.str ","), (.str ", "), (.str "A"), (.str "-"), (.str "+"), (.str "_"), (.str "."), (.str ">"), (.str "="), (.str "/"), (.str ":"), (.str "f"), (.str "\n"), (.str "dec")]
def olds : List PyData := [(.str ", "), (.str " then "), (.str " else "), (.str "if "), (.str "("), (.str ")"), (.str "p0"), (.str "dec"), (.str "1"), (.str " = "), (.str "/"), (.str " -> "), (.str ": "), (.str ">="), (.str "functions ")]
def news : List PyData := [(.str ""), (.str ","), (.str " "), (.str "  "), (.str "then"), (.str "("), (.str "inc"), (.str "min"), (.str "p1"), (.str "p4"), (.str "01"), (.str "="), (.str ">"), (.str "-"), (.str "0")]
def nempS : PyData → Bool
  | .str s => decide (s.length ≠ 0)
  | _ => false
theorem pickS (n i : Nat) (S : Store) (N : Int) (l : List PyData) (h1 : l.all (shortS 12) = true) (h2 : 0 < l.length) (h3 : l.length < 100) (hG : Gs S i N) (hN : N < 1000000) :
    ∃ (s : Str) (o : MO), cF (n + 2) 27 [.ref i, .p (.list l)] S = .ok (.p (.str s)) (S.set i o) ∧ s.length ≤ 12 ∧ .str s ∈ l ∧ Dr (N + 1) o := by
  obtain ⟨x, o, h, hm, d⟩ := pick_l (cs := cs) hpick hdraw n i l N S hG h2 (by omega) hN
  obtain ⟨s, rfl, hs⟩ := shortS_of (List.all_eq_true.mp h1 x hm)
  exact ⟨s, o, h, hs, hm, d⟩
theorem slc_str {m : Bool} {x : Str} {lo hi : Option Int} {S : Store} : slcW m (.p (.str x)) lo hi S = .ok (.p (.str (L2.cutS x lo hi))) S := rfl
theorem tx_of (s : Str) : s = tx s.cps.toList := by cases s; simp
theorem f36 (n i : Nat) (S : Store) (N : Int) (hG : Gs S i N) (z : T) (hz : z.length ≤ 1200) (hN : N + 100 < 1000000) :
    ∃ (z' : T) (o : MO), cF (n + 3) 36 [.ref i, .p (.str (tx z))] S = .ok (.p (.str (tx z'))) (S.set i o) ∧ z'.length < 5000 ∧ Dr (N + 10) o := by
  suffices h : ∃ (s : Str) (o : MO), cF (n + 3) 36 [.ref i, .p (.str (tx z))] S = .ok (.p (.str s)) (S.set i o) ∧ s.length < 5000 ∧ Dr (N + 10) o by
    obtain ⟨s, o, h1, h2, h3⟩ := h
    exact ⟨s.cps.toList, o, by rw [h1, ← tx_of], by simpa [Str.length] using h2, h3⟩
  obtain ⟨at', o1, h1, a0, a1, d1⟩ := drawE (n + 1) i (z.length + 1) N S hG (by omega) (by omega) (by omega)
  obtain ⟨way, o2, h2, w0, w1, d2⟩ := drawE (n + 1) i 10 (N + 1) (S.set i o1) (hG.set d1) (by decide) (by decide) (by omega)
  rw [setset] at h2
  have hG2 := hG.set d2
  have l0 : (tx z).length = z.length := tx_len
  have cl : ∀ lo hi, (L2.cutS (tx z) lo hi).length ≤ z.length := fun lo hi => by rw [← l0]; exact L2.cutS_length _ _ _
  have sg : (.list signs : PyData) = .list [(.str " "), (.str "0"), (.str "1"), (.str "p"), (.str "("), (.str ")"), (.str ","), (.str ", "), (.str "A"), (.str "-"), (.str "+"), (.str "_"), (.str "."), (.str ">"), (.str "="), (.str "/"), (.str ":"), (.str "f"), (.str "\n"), (.str "dec")] := rfl
  have og : (.list olds : PyData) = .list [(.str ", "), (.str " then "), (.str " else "), (.str "if "), (.str "("), (.str ")"), (.str "p0"), (.str "dec"), (.str "1"), (.str " = "), (.str "/"), (.str " -> "), (.str ": "), (.str ">="), (.str "functions ")] := rfl
  have ng : (.list news : PyData) = .list [(.str ""), (.str ","), (.str " "), (.str "  "), (.str "then"), (.str "("), (.str "inc"), (.str "min"), (.str "p1"), (.str "p4"), (.str "01"), (.str "="), (.str ">"), (.str "-"), (.str "0")] := rfl
  by_cases c4 : way < 4
  · obtain ⟨s, o3, h3, ls, _, d3⟩ := pickS n i (S.set i o2) (N + 1 + 1) signs (by decide +kernel) (by decide) (by decide) hG2 (by omega)
    rw [setset, sg] at h3
    have e1 := cl none (some at')
    have e2 := cl (some at') none
    have b1 : ∀ m S, binD m .Add (.str (L2.cutS (tx z) none (some at'))) (.str s) S = .ok (.p (.str (L2.cutS (tx z) none (some at') ++ s))) S := fun m S => add_s (by omega)
    have b2 : ∀ m S, binD m .Add (.str (L2.cutS (tx z) none (some at') ++ s)) (.str (L2.cutS (tx z) (some at') none)) S = .ok (.p (.str (L2.cutS (tx z) none (some at') ++ s ++ L2.cutS (tx z) (some at') none))) S := fun m S => add_s (by rw [len_app]; omega)
    refine ⟨_, o3, ?_, show (L2.cutS (tx z) none (some at') ++ s ++ L2.cutS (tx z) (some at') none).length < 5000 by rw [len_app, len_app]; omega, d3.mono (by omega)⟩
    rw [cF_at (F := d36.ir) rfl rfl]
    simp [d36, h1, h2, c4, slc_str, h3, b1, b2, -bin_adds]
  by_cases c6 : way < 6
  · have e1 := cl none (some at')
    have e2 := cl (some (at' + 1)) none
    have b1 : ∀ m S, binD m .Add (.str (L2.cutS (tx z) none (some at'))) (.str (L2.cutS (tx z) (some (at' + 1)) none)) S = .ok (.p (.str (L2.cutS (tx z) none (some at') ++ L2.cutS (tx z) (some (at' + 1)) none))) S := fun m S => add_s (by omega)
    refine ⟨_, o2, ?_, show (L2.cutS (tx z) none (some at') ++ L2.cutS (tx z) (some (at' + 1)) none).length < 5000 by rw [len_app]; omega, d2.mono (by omega)⟩
    rw [cF_at (F := d36.ir) rfl rfl]
    simp [d36, h1, h2, c4, c6, slc_str, b1, -bin_adds]
  by_cases c66 : way = 6
  · subst c66
    have e1 := cl none (some at')
    have e2 := cl (some (at' + 1)) none
    have e3 : (L2.cutS (tx z) (some at') (some (at' + 1))).length ≤ 1 := by
      obtain ⟨p, rfl⟩ : ∃ p : Nat, at' = p := ⟨at'.toNat, by omega⟩
      have := cut_place z p 1 (by omega)
      rw [show ((1 : Nat) : Int) = 1 from rfl] at this
      rw [this, tx_len, List.length_take]; omega
    have e4 := PyProof.Rows.len_upper (L2.cutS (tx z) (some at') (some (at' + 1)))
    obtain ⟨u, hu⟩ : ∃ u, u = L2.cutS (tx z) (some at') (some (at' + 1)) := ⟨_, rfl⟩
    rw [← hu] at e3 e4
    have mt : ∀ S, meT .upper (.p (.str u)) S = true := fun S => rfl
    have mw : ∀ S, meW .upper (.p (.str u)) [] S = .ok (.p (.str (Txt.upper u))) S := fun S => by simp only [meW]; rw [if_pos (by omega)]; rfl
    have b1 : ∀ m S, binD m .Add (.str (L2.cutS (tx z) none (some at'))) (.str (Txt.upper u)) S = .ok (.p (.str (L2.cutS (tx z) none (some at') ++ Txt.upper u))) S := fun m S => add_s (by omega)
    have b2 : ∀ m S, binD m .Add (.str (L2.cutS (tx z) none (some at') ++ Txt.upper u)) (.str (L2.cutS (tx z) (some (at' + 1)) none)) S = .ok (.p (.str (L2.cutS (tx z) none (some at') ++ Txt.upper u ++ L2.cutS (tx z) (some (at' + 1)) none))) S := fun m S => add_s (by rw [len_app]; omega)
    refine ⟨_, o2, ?_, show (L2.cutS (tx z) none (some at') ++ Txt.upper u ++ L2.cutS (tx z) (some (at' + 1)) none).length < 5000 by rw [len_app, len_app]; omega, d2.mono (by omega)⟩
    rw [cF_at (F := d36.ir) rfl rfl]
    simp [d36, h1, h2, slc_str, ← hu, mt, mw, b1, b2, -bin_adds]
  obtain ⟨s, o3, h3, ls, ms, d3⟩ := pickS n i (S.set i o2) (N + 1 + 1) olds (by decide +kernel) (by decide) (by decide) hG2 (by omega)
  rw [setset, og] at h3
  have ns : s.length ≠ 0 := by
    have : olds.all nempS = true := by decide +kernel
    have := List.all_eq_true.mp this _ ms
    simpa [nempS] using this
  by_cases c7 : way = 7
  · subst c7
    obtain ⟨s', o4, h4, ls', _, d4⟩ := pickS n i (S.set i o3) (N + 1 + 1 + 1) news (by decide +kernel) (by decide) (by decide) (hG.set d3) (by omega)
    rw [setset, ng] at h4
    obtain ⟨p1, p2, p3⟩ := PyProof.Rows.fact_partition (tx z) s
    have mt : ∀ S, meT .partition (.p (.str (tx z))) S = true := fun S => rfl
    have mw : ∀ S, meW .partition (.p (.str (tx z))) [.p (.str s)] S = .ok (.p (.tuple [.str (Txt.partition (tx z) s).1, .str (Txt.partition (tx z) s).2.1, .str (Txt.partition (tx z) s).2.2])) S := fun S => by
      simp only [meW]; rw [if_pos ⟨ns, by rw [l0]; exact len_le hz (by decide)⟩]; rfl
    obtain ⟨P, hP⟩ : ∃ P, P = Txt.partition (tx z) s := ⟨_, rfl⟩
    rw [← hP] at p1 p2 p3
    simp only [← hP] at mw
    have b1 : ∀ m S, binD m .Add (.str P.1) (.str s') S = .ok (.p (.str (P.1 ++ s'))) S := fun m S => add_s (by omega)
    have b2 : ∀ m S, binD m .Add (.str (P.1 ++ s')) (.str P.2.2) S = .ok (.p (.str (P.1 ++ s' ++ P.2.2))) S := fun m S => add_s (by rw [len_app]; omega)
    refine ⟨_, o4, ?_, show (P.1 ++ s' ++ P.2.2).length < 5000 by rw [len_app, len_app]; omega, d4.mono (by omega)⟩
    rw [cF_at (F := d36.ir) rfl rfl]
    simp [d36, h1, h2, h3, mt, mw, h4, b1, b2, -bin_adds]
  · obtain ⟨k, o4, h4, k0, k1, d4⟩ := drawE (n + 1) i 6 (N + 1 + 1 + 1) (S.set i o3) (hG.set d3) (by decide) (by decide) (by omega)
    rw [setset] at h4
    have r1 := Txt.sliceBy_le (tx z) none none (-1, 0) (by decide)
    have x1 : (Str.ofString " ").length = 1 := by decide
    have x2 : (Str.ofString "\n").length = 1 := by decide
    have b1 : ∀ m S, binD m .Add (.str (tx z)) (.str (tx z)) S = .ok (.p (.str (tx z ++ tx z))) S := fun m S => add_s (by omega)
    have b2 : ∀ m S, binD m .Add (.str (Str.ofString " ")) (.str (tx z)) S = .ok (.p (.str (Str.ofString " " ++ tx z))) S := fun m S => add_s (by omega)
    have b3 : ∀ m S, binD m .Add (.str (tx z)) (.str (Str.ofString " ")) S = .ok (.p (.str (tx z ++ Str.ofString " "))) S := fun m S => add_s (by omega)
    have b4 : ∀ m S, binD m .Add (.str (tx z)) (.str (Str.ofString "\n")) S = .ok (.p (.str (tx z ++ Str.ofString "\n"))) S := fun m S => add_s (by omega)
    have b5 : ∀ m S, binD m .Add (.str (Str.ofString "\n")) (.str (tx z)) S = .ok (.p (.str (Str.ofString "\n" ++ tx z))) S := fun m S => add_s (by omega)
    have rv : ∀ S, revW (.p (.str (tx z))) S = .ok (.p (.str (Txt.sliceBy (tx z) none none (-1, 0)))) S := fun S => rfl
    have lZ : (tx z).length ≤ 1200 := by rw [l0]; exact hz
    have hsub : ∃ s : Str, L2.atI [PyData.str ((tx z) ++ (tx z)), .str (Str.ofString " " ++ (tx z)), .str ((tx z) ++ Str.ofString " "), .str (Txt.sliceBy (tx z) none none (-1, 0)), .str ((tx z) ++ Str.ofString "\n"), .str (Str.ofString "\n" ++ (tx z))] k = some (.str s) ∧ s.length < 5000 := by
      have : k = 0 ∨ k = 1 ∨ k = 2 ∨ k = 3 ∨ k = 4 ∨ k = 5 := by omega
      rcases this with rfl | rfl | rfl | rfl | rfl | rfl
      · exact ⟨(tx z) ++ (tx z), by simp, by rw [len_app]; omega⟩
      · exact ⟨Str.ofString " " ++ (tx z), by simp, by rw [len_app]; omega⟩
      · exact ⟨(tx z) ++ Str.ofString " ", by simp, by rw [len_app]; omega⟩
      · exact ⟨Txt.sliceBy (tx z) none none (-1, 0), by simp, by omega⟩
      · exact ⟨(tx z) ++ Str.ofString "\n", by simp, by rw [len_app]; omega⟩
      · exact ⟨Str.ofString "\n" ++ (tx z), by simp, by rw [len_app]; omega⟩
    obtain ⟨r, hr, lr⟩ := hsub
    refine ⟨r, o4, ?_, lr, d4.mono (by omega)⟩
    rw [cF_at (F := d36.ir) rfl rfl]
    simp [d36, h1, h2, c4, c6, c66, c7, h3, h4, b1, b2, b3, b4, b5, rv, hr, -bin_adds]
end L79

set_option maxRecDepth 1000000
set_option maxHeartbeats 400000
set_option linter.all false
namespace L79
open PySem Px Px.Rw Px.Dr
theorem name_r3 {w : T} (h : ∀ c ∈ w, isL c = true) (h8 : w.length ≤ 8) {m : Nat} : R3 (.str (tx w)) 82 m := by
  refine .str (Nat.le_trans (StrLaws.reprText_len (tx w) ?_) (by simp; omega))
  intro c hc
  rw [tx_cps] at hc
  have := h c hc
  simp only [isL, decide_eq_true_eq] at this
  exact Nat.lt_of_le_of_lt this.2 (by decide)
theorem all_map_r3 (a L : Nat) (as : List Ex) (h : ∀ e ∈ as, R3 e.enc (200 * e.nodes) (2 * L)) : R3s (as.map Ex.enc) (202 * nodess as) (2 * L) := by
  induction as with
  | nil => exact R3s.nil.mono (Nat.zero_le _) (Nat.le_refl _)
  | cons e as ih =>
    have h1 := h e (by simp)
    have h2 := ih fun x hx => h x (by simp [hx])
    have np : 1 ≤ e.nodes := by cases e <;> simp [Ex.nodes]
    rw [List.map_cons]
    exact (R3s.cons h1 h2).mono (by simp only [nodess]; omega) (Nat.le_refl _)
theorem enc_r3 (a : Nat) : ∀ (L : Nat) (e : Ex), e.raw → nst a L e = true → R3 e.enc (210 * e.nodes) (2 * L)
  | 0, e, _, h => by simp [nst] at h
  | L + 1, e, w, h => by
    simp only [nst, Bool.and_eq_true, List.all_eq_true] at h
    have ih := fun c hc => enc_r3 a L c (Ex.ks_raw w hc) (h.2 c hc)
    have hf := h.1
    cases e with
    | num n =>
      have : n < 10000 := w
      exact (R3s.cons (lit "number" (c := 10)) (R3s.cons (.int (by omega) (by omega)) R3s.nil)).tup.mono (by simp only [Ex.nodes]; omega) (by omega : (1 + 1 : Nat) ≤ _)
    | par n =>
      have : n < 10000 := w
      exact (R3s.cons (lit "param" (c := 10)) (R3s.cons (.int (by omega) (by omega)) R3s.nil)).tup.mono (by simp only [Ex.nodes]; omega) (by omega : (1 + 1 : Nat) ≤ _)
    | ite k x y =>
      have hk : k < 10000 := w.1
      have ix := ih x (by simp [Ex.ks])
      have iy := ih y (by simp [Ex.ks])
      exact (R3s.cons (lit "if" (c := 10)) (R3s.cons (.int (by omega) (by omega)) (R3s.cons ix (R3s.cons iy R3s.nil)))).tup.mono (by simp only [Ex.nodes]; omega) (by omega)
    | app v as =>
      have h8 := form_len hf
      have hn := name_r3 w.1 h8 (m := 2 * L)
      have hall : ∀ (l : List Ex), (∀ e ∈ l, R3 e.enc (210 * e.nodes) (2 * L)) → R3s (l.map Ex.enc) (210 * nodess l + 2 * l.length) (2 * L) := by
        intro l
        induction l with
        | nil => intro _; exact R3s.nil.mono (Nat.zero_le _) (Nat.le_refl _)
        | cons e l ihl =>
          intro hl
          rw [List.map_cons]
          exact (R3s.cons (hl e (by simp)) (ihl fun x hx => hl x (by simp [hx]))).mono (by simp only [nodess, List.length_cons]; omega) (Nat.le_refl _)
      have ha := hall as ih
      have hlen : as.length ≤ 4 := by
        simp only [Ex.form, Bool.or_eq_true, Bool.and_eq_true, decide_eq_true_eq] at hf
        rcases hf with hf | hf
        · have hl := w.2.2.1
          rcases op_cases hf with rfl | rfl | rfl | rfl
          · have := hl 1 rfl; omega
          · have := hl 1 rfl; omega
          · have := hl 2 rfl; omega
          · have := hl 2 rfl; omega
        · exact hf.2
      by_cases ho : (op v).isSome = true
      · rw [Ex.enc, if_pos ho, encs_map]
        exact (R3s.cons hn ha).tup.mono (by simp only [Ex.nodes]; omega) (by omega)
      · rw [call_enc ho]
        refine (R3s.cons (lit "call" (c := 10)) (R3s.cons (hn.mono (Nat.le_refl _) (by omega : 2 * L ≤ 2 * L + 1)) (R3s.cons ha.tup R3s.nil))).tup.mono (by simp only [Ex.nodes]; omega) (by omega)
theorem isE_repr {a : Nat} {e : Ex} (w : e.raw) (h : isE a e = true) (S : Store) : biW false .repr [.p e.enc] S = .ok (.p (.str e.enc.shown)) S := by
  have hn := (isE_deep h).2
  simp only [isE, Bool.and_eq_true] at h
  exact (enc_r3 a 6 e w h.1).repr (by omega) (by decide) S
theorem res_repr {b : Nat} {e : Ex} (w : e.raw) (hd : e.deep ≤ 6) (hl : e.pr.length < 5000) : resD b e.pr = if isE b e = true then e.enc else .str (Str.ofString "parse") := by
  rw [resD, parse_pr w hd hl]
  by_cases h : isE b e = true
  · rw [if_pos h, if_pos h]
  · rw [if_neg h, if_neg h]
theorem loop39a (n i a : Nat) (e : Ex) (w : e.raw) (hE : isE a e = true) (x1 x4 x5 : Option W) (S : Store) : ∀ (m j : Nat) (x3 x7 : Option W), j + m ≤ 5 → ∃ y3 y7, forL (foStep (cF (n + 26)) cs (.n 3) (.cons (.asg (.n 7) (.ife (.call 34 (.cons (.v 2) (.cons (.v 3) .nil))) (.v 2) (.k (.str "parse")))) (.cons (.ifs (.cmp .NotEq (.bi false .repr (.cons (.call 37 (.cons (.fv "parse_expression") (.cons (.v 3) (.cons (.v 6) .nil)))) .nil)) (.bi false .repr (.cons (.v 7) .nil))) (.cons (.ret (.som (.k (.bool false)))) .nil) .nil) .nil)))
    (rangeL (j : Int) m) [some (.ref i), x1, some (.p e.enc), x3, x4, x5, some (.p (.str (tx e.pr))), x7] S = .nx [some (.ref i), x1, some (.p e.enc), y3, x4, x5, some (.p (.str (tx e.pr))), y7] S
  | 0, j, x3, x7, _ => ⟨x3, x7, rfl⟩
  | m + 1, j, x3, x7, h => by
    have hl := isE_len hE
    have hd := (isE_deep hE).1
    have hs : Shrt e := by unfold Shrt; omega
    have h34 := f34 (n + 16) j e w hs S
    have h37 := f37 (n + 1) j (by omega) S e.pr (by omega)
    rw [res_repr w hd (by omega)] at h37
    have rp : biW false .repr [.p (.str (Str.ofString "parse"))] S = .ok (.p (.str (PyData.shown (.str (Str.ofString "parse"))))) S := (lit "parse" (c := 10) (m := 0)).repr (by decide) (by decide) S
    have step : ∃ y7, foStep (cF (n + 26)) cs (.n 3) (.cons (.asg (.n 7) (.ife (.call 34 (.cons (.v 2) (.cons (.v 3) .nil))) (.v 2) (.k (.str "parse")))) (.cons (.ifs (.cmp .NotEq (.bi false .repr (.cons (.call 37 (.cons (.fv "parse_expression") (.cons (.v 3) (.cons (.v 6) .nil)))) .nil)) (.bi false .repr (.cons (.v 7) .nil))) (.cons (.ret (.som (.k (.bool false)))) .nil) .nil) .nil)) (.int j)
        [some (.ref i), x1, some (.p e.enc), x3, x4, x5, some (.p (.str (tx e.pr))), x7] S = .nx [some (.ref i), x1, some (.p e.enc), some (.p (.int j)), x4, x5, some (.p (.str (tx e.pr))), y7] S := by
      cases hb : isE j e
      · rw [hb] at h34 h37
        simp only [Bool.false_eq_true, if_false] at h37
        generalize PyData.shown (.str (Str.ofString "parse")) = R at rp
        exact ⟨some (.p (.str (Str.ofString "parse"))), by simp [h34, h37, rp, -bi_repr]⟩
      · rw [hb] at h34 h37
        simp only [if_true] at h37
        have re := isE_repr w hb S
        generalize PyData.shown e.enc = R at re
        exact ⟨some (.p e.enc), by simp [h34, h37, re, -bi_repr]⟩
    obtain ⟨z7, step⟩ := step
    obtain ⟨y3, y7, h2⟩ := loop39a n i a e w hE x1 x4 x5 S m (j + 1) (some (.p (.int j))) z7 (by omega)
    refine ⟨y3, y7, ?_⟩
    have : rangeL (j : Int) (m + 1) = .int j :: rangeL ((j + 1 : Nat) : Int) m := rfl
    rw [this, forL_cons, step]
    exact h2
theorem loop39b (n i a : Nat) (ha : a ≤ 4) (z : T) (hz : z.length ≤ 1200) (S : Store) (N0 : Int) (hS : Gs S i N0) (x2 x3 x5 x7 : Option W) : ∀ (m j : Nat) (x4 : Option W) (o : MO) (N : Int), Dr N o → N + 20 * m + 100 < 1000000 →
    ∃ (y4 : Option W) (o' : MO), forL (foStep (cF (n + 26)) cs (.n 4) (.cons (.ifs (.un .Not (.call 38 (.cons (.v 1) (.cons (.call 36 (.cons (.v 0) (.cons (.v 6) .nil))) .nil)))) (.cons (.ret (.som (.k (.bool false)))) .nil) .nil) .nil))
      (rangeL (j : Int) m) [some (.ref i), some (.p (.int a)), x2, x3, x4, x5, some (.p (.str (tx z))), x7] (S.set i o) = .nx [some (.ref i), some (.p (.int a)), x2, x3, y4, x5, some (.p (.str (tx z))), x7] (S.set i o') ∧ Dr (N + 10 * m) o'
  | 0, j, x4, o, N, hd, hN => ⟨x4, o, rfl, by simpa using hd⟩
  | m + 1, j, x4, o, N, hd, hN => by
    obtain ⟨z', o1, h1, lz, d1⟩ := f36 (n + 23) i (S.set i o) N (hS.set hd) z hz (by omega)
    rw [setset] at h1
    have h38 := f38 n a ha (S.set i o1) z' lz
    obtain ⟨y4, o', h2, d2⟩ := loop39b n i a ha z hz S N0 hS x2 x3 x5 x7 m (j + 1) (some (.p (.int j))) o1 (N + 10) d1 (by omega)
    refine ⟨y4, o', ?_, d2.mono (by omega)⟩
    have step : foStep (cF (n + 26)) cs (.n 4) (.cons (.ifs (.un .Not (.call 38 (.cons (.v 1) (.cons (.call 36 (.cons (.v 0) (.cons (.v 6) .nil))) .nil)))) (.cons (.ret (.som (.k (.bool false)))) .nil) .nil) .nil) (.int j)
        [some (.ref i), some (.p (.int a)), x2, x3, x4, x5, some (.p (.str (tx z))), x7] (S.set i o) = .nx [some (.ref i), some (.p (.int a)), x2, x3, some (.p (.int j)), x5, some (.p (.str (tx z))), x7] (S.set i o1) := by
      simp [h1, h38]
    have : rangeL (j : Int) (m + 1) = .int j :: rangeL ((j + 1 : Nat) : Int) m := rfl
    rw [this, forL_cons, step]
    exact h2
theorem eqn_ss {n : Nat} {a b : Str} : eqn (n + 1) (.str a) (.str b) = some (decide (a = b)) := by simp [eqn, PyData.eqv]; rfl
theorem eqp_l2 (x : Str) : eqp (.list [.str x, .str x]) (.list [.str x, .str x]) = some true := by
  simp [eqp, eqn, eqs, PyData.eqv]
theorem f39 (n i : Nat) (S : Store) (N : Int) (hG : Gs S i N) (a : Nat) (ha : a ≤ 4) (hN : N + 10200 < 1000000) :
    ∃ o, cF (n + 27) 39 [.ref i, .p (.int a)] S = .ok (.p (.bool true)) (S.set i o) ∧ Dr (N + 6100) o := by
  obtain ⟨e, o1, h1, w, hE, d1⟩ := f35 (n + 14) i S N hG a ha (by omega)
  have hl := isE_len hE
  have hd := (isE_deep hE).1
  have hs : Shrt e := by unfold Shrt; omega
  have re := fun S => isE_repr w hE S
  have h30 := f30 e (n + 26) (S.set i o1) w hs (by omega)
  have h23 := f23 (n + 12) a ha e w hs hE (S.set i o1)
  obtain ⟨y3, y7, h5⟩ := loop39a n i a e w hE (some (.p (.int a))) none (some (.p (.str e.enc.shown))) (S.set i o1) 5 0 none none (by omega)
  obtain ⟨y4, o2, h6, d2⟩ := loop39b n i a ha e.pr hl S N hG (some (.p e.enc)) y3 (some (.p (.str e.enc.shown))) y7 5 0 none o1 (N + 6000) d1 (by omega)
  refine ⟨o2, ?_, d2.mono (by omega)⟩
  have hq := eqp_l2 (tx e.pr)
  generalize e.enc.shown = K at *
  have hb : d39.ir.body = .cons (.asg (.n 2) (.call 35 (.cons (.v 0) (.cons (.v 1) .nil)))) (.cons (.par 5 6 (.bi false .repr (.cons (.v 2) .nil)) (.call 30 (.cons (.v 2) .nil))) (.cons (.ifs (.cmp .NotEq (.lst false (.cons (.call 23 (.cons (.v 1) (.cons (.v 2) .nil))) (.cons (.call 23 (.cons (.v 1) (.cons (.v 2) .nil))) .nil))) (.lst false (.cons (.v 6) (.cons (.v 6) .nil)))) (.cons (.ret (.som (.k (.bool false)))) .nil) .nil) (.cons (.ifs (.cmp .NotEq (.bi false .repr (.cons (.v 2) .nil)) (.v 5)) (.cons (.ret (.som (.k (.bool false)))) .nil) .nil) (.cons (.fo (.n 3) (.r1 (.k (.int 5))) (.cons (.asg (.n 7) (.ife (.call 34 (.cons (.v 2) (.cons (.v 3) .nil))) (.v 2) (.k (.str "parse")))) (.cons (.ifs (.cmp .NotEq (.bi false .repr (.cons (.call 37 (.cons (.fv "parse_expression") (.cons (.v 3) (.cons (.v 6) .nil)))) .nil)) (.bi false .repr (.cons (.v 7) .nil))) (.cons (.ret (.som (.k (.bool false)))) .nil) .nil) .nil))) (.cons (.fo (.n 4) (.r1 (.k (.int 5))) (.cons (.ifs (.un .Not (.call 38 (.cons (.v 1) (.cons (.call 36 (.cons (.v 0) (.cons (.v 6) .nil))) .nil)))) (.cons (.ret (.som (.k (.bool false)))) .nil) .nil) .nil)) (.cons (.ret (.som (.k (.bool true)))) .nil)))))) := rfl
  rw [show ((0 : Nat) : Int) = 0 from rfl] at h5 h6
  rw [cF_at (F := d39.ir) rfl rfl, hb]
  simp [d39, h1, re, h30, h23, hq, -bi_repr, -foStep_def, -range5, h5, h6]
end L79

set_option maxRecDepth 1000000
set_option maxHeartbeats 400000
set_option linter.all false
namespace L79
open PySem Px Px.Rw Px.Dr
theorem foldl_app (l : List (Array Nat)) : ∀ acc : Array Nat, (l.foldl (· ++ ·) acc).toList = acc.toList ++ (l.map Array.toList).flatten := by
  induction l with
  | nil => simp
  | cons a l ih => intro acc; rw [List.foldl_cons, ih]; simp [List.append_assoc]
theorem repS_tx (w : T) (n : Nat) : repS (tx w) n = tx (List.replicate n w).flatten := by
  unfold repS tx
  congr 1
  apply Array.toList_inj.mp
  rw [foldl_app]
  simp
def rep (s : String) (n : Nat) : T := (List.replicate n (cp s)).flatten
theorem mul_s (s : String) (k : Nat) (h : 2 ≤ k ∧ k ≤ 1000 ∧ 1 ≤ (cp s).length ∧ (cp s).length ≤ 10) (m : Bool) (S : Store) : binD m .Mult (.str (Str.ofString s)) (.int k) S = .ok (.p (.str (tx (rep s k)))) S := by
  obtain ⟨h1, h2, h3, h4⟩ := h
  rw [lit_tx]
  have hl : (repS (tx (cp s)) k).length ≤ sizeLine := by
    rw [repS_tx, tx_len]
    have : ∀ n, (List.replicate n (cp s)).flatten.length = n * (cp s).length := by intro n; simp
    rw [this]
    exact Nat.le_trans (Nat.mul_le_mul h2 h4) (by decide)
  show (if 2 ≤ (k : Int) ∧ (k : Int) ≤ 1000 ∧ 1 ≤ (tx (cp s)).length ∧ (tx (cp s)).length ≤ 1000 ∧ (repS (tx (cp s)) (k : Int).toNat).length ≤ sizeLine then okP (.str (repS (tx (cp s)) (k : Int).toNat)) S else .stuck) = _
  rw [Int.toNat_natCast, if_pos ⟨by omega, by omega, by rw [tx_len]; exact h3, by rw [tx_len]; omega, hl⟩, repS_tx]
  rfl
theorem add_t (v w : T) (h : v.length + w.length ≤ 100000) (m : Bool) (S : Store) : binD m .Add (.str (tx v)) (.str (tx w)) S = .ok (.p (.str (tx (v ++ w)))) S := by
  rw [bin_adds, tx_len, tx_len, if_pos (Nat.le_trans h (by decide)), app_tx]
/-- the text with many parts -/
def wide (p : T) : T := cp "f(" ++ (cp "min(1, min(2, min(3, min(4, 5)))), min(1, min(2, min(3, min(4, 5)))), min(1, min(2, min(3, min(4, 5)))), min(" ++ p ++ cp ", min(2, min(3, min(4, 5))))") ++ cp ")"
theorem f40 (n : Nat) (p : T) (hp : p.length ≤ 100) (S : Store) : cF (n + 1) 40 [.p (.str (tx p))] S = .ok (.p (.str (tx (wide p)))) S := by
  rw [cF_at (F := d40.ir) rfl rfl]
  have ch : Str.ofString "min(2, min(3, min(4, 5)))" = tx (cp "min(2, min(3, min(4, 5)))") := lit_tx _
  have e1 : Str.ofString "min(1, " = tx (cp "min(1, ") := lit_tx _
  have e2 : Str.ofString ")" = tx (cp ")") := lit_tx _
  have e3 : Str.ofString "min(" = tx (cp "min(") := lit_tx _
  have e4 : Str.ofString ", " = tx (cp ", ") := lit_tx _
  have e5 : Str.ofString "f(" = tx (cp "f(") := lit_tx _
  have l0 : (cp "min(2, min(3, min(4, 5)))").length = 25 := by decide +kernel
  have l1 : (cp "min(1, ").length = 7 := by decide +kernel
  have l2 : (cp ")").length = 1 := by decide +kernel
  have l3 : (cp "min(").length = 4 := by decide +kernel
  have l4 : (cp ", ").length = 2 := by decide +kernel
  have l5 : (cp "f(").length = 2 := by decide +kernel
  have a1 := fun m S => add_t (cp "min(1, ") (cp "min(2, min(3, min(4, 5)))") (by omega) m S
  have a2 := fun m S => add_t (cp "min(1, " ++ cp "min(2, min(3, min(4, 5)))") (cp ")") (by simp only [List.length_append]; omega) m S
  have a3 := fun m S => add_t (cp "min(") p (by omega) m S
  have a4 := fun m S => add_t (cp "min(" ++ p) (cp ", ") (by simp only [List.length_append]; omega) m S
  have a5 := fun m S => add_t (cp "min(" ++ p ++ cp ", ") (cp "min(2, min(3, min(4, 5)))") (by simp only [List.length_append]; omega) m S
  have a6 := fun m S => add_t (cp "min(" ++ p ++ cp ", " ++ cp "min(2, min(3, min(4, 5)))") (cp ")") (by simp only [List.length_append]; omega) m S
  obtain ⟨u, hu⟩ : ∃ u, u = cp "min(1, " ++ cp "min(2, min(3, min(4, 5)))" ++ cp ")" := ⟨_, rfl⟩
  obtain ⟨v, hv⟩ : ∃ v, v = cp "min(" ++ p ++ cp ", " ++ cp "min(2, min(3, min(4, 5)))" ++ cp ")" := ⟨_, rfl⟩
  have lu : u.length = 33 := by rw [hu]; simp only [List.length_append]; omega
  have lv : v.length ≤ 132 := by rw [hv]; simp only [List.length_append]; omega
  rw [← hu] at a2
  rw [← hv] at a6
  obtain ⟨mid, hm⟩ : ∃ m, m = u ++ cp ", " ++ (u ++ cp ", " ++ (u ++ cp ", " ++ v)) := ⟨_, rfl⟩
  have hj : ∀ S, meW .join (.p (.str (tx (cp ", ")))) [.p (.list [.str (tx u), .str (tx u), .str (tx u), .str (tx v)])] S = .ok (.p (.str (tx mid))) S := by
    intro S
    simp only [meW, strsOf, Option.map_some]
    rw [if_pos (by simp [lu, l4]; omega)]
    have : Txt.join (tx (cp ", ")) [tx u, tx u, tx u, tx v] = tx mid := by
      show Builtin.Str.glued _ _ = _
      rw [StrLaws.glued_eq_join, hm]
      have q : ∀ a b : T, (tx a ++ tx b : Str) = tx (a ++ b) := fun a b => app_tx
      show tx u ++ tx (cp ", ") ++ (tx u ++ tx (cp ", ") ++ (tx u ++ tx (cp ", ") ++ tx v)) = _
      simp only [q, List.append_assoc]
    rw [this]; rfl
  have lm : mid.length ≤ 300 := by rw [hm]; simp only [List.length_append]; omega
  have a7 := fun m S => add_t (cp "f(") mid (by omega) m S
  have a8 := fun m S => add_t (cp "f(" ++ mid) (cp ")") (by simp only [List.length_append]; omega) m S
  have hw : wide p = cp "f(" ++ mid ++ cp ")" := by
    have e : cp "min(1, min(2, min(3, min(4, 5)))), min(1, min(2, min(3, min(4, 5)))), min(1, min(2, min(3, min(4, 5)))), min(" = u ++ cp ", " ++ (u ++ cp ", " ++ (u ++ cp ", " ++ cp "min(")) := by rw [hu]; decide +kernel
    have e' : cp ", min(2, min(3, min(4, 5))))" = cp ", " ++ cp "min(2, min(3, min(4, 5)))" ++ cp ")" := by decide +kernel
    rw [wide, hm, hv, e, e']
    simp only [List.append_assoc]
  rw [hw]
  have rp : ∀ m S, binD m .Mult (.list [.str (tx u)]) (.int 3) S = mkL m [.str (tx u), .str (tx u), .str (tx u)] S := fun m S => by
    show (if 0 ≤ (3 : Int) ∧ (3 : Int) < 2 ^ 62 ∧ [PyData.str (tx u)].length * (3 : Int).toNat ≤ sizeLine then mkL m (List.replicate (3 : Int).toNat [PyData.str (tx u)]).flatten S else .stuck) = _
    rw [if_pos ⟨by decide, by decide, Nat.le_trans (by simp : _ ≤ 10) (by decide)⟩]; rfl
  simp [d40, ch, e1, e2, e3, e4, e5, a1, a2, a3, a4, a5, a6, a7, a8, rp, hj, -bin_adds, -List.append_assoc]
def good : List T := [rep "inc(" 5 ++ cp "p0" ++ rep ")" 5, cp "1000", cp "0", cp "p3", cp "p()", cp "p(p0)", cp "pa(p1, p2)", cp "iff(1, 2, 3, 4)", cp "if p0 then if p1 then 1 else 2 else 3", cp "dec(if p3 then f() else g(if p0 then 0 else 1, 2))",
  cp "pp(p0, pp())", cp "p(p(p0), ppp(p3))", cp "thens(elses())", wide (cp "1"), wide (cp "inc(inc(inc(1)))"), cp "min(if p0 then 1 else p1, p(p2))"]
def bad : List T := [cp "1001", cp "00", cp "01", cp "p4", cp "p01", cp "p", cp "p-1", cp "-1", cp "f", cp "if(1, 2)", cp "then()", cp "else(1)", cp "inc()", cp "inc(1, 2)", cp "min(1)", cp "max(1, 2, 3)", cp "f(1,2)", cp "f(1,  2)", cp "f( 1)", cp "f(1 )", cp "f (1)", cp "f(1))",
  cp "f(1", cp "", cp " ", cp "dec(p0, 1)", cp "dec p0", cp "p0()", cp "1_0", cp "1_000", cp "p0_0", cp "+1", cp "pp0", cp "p 0", cp "pp", cp "f(1, 2, 3, 4, 5)", cp "f(1, )", cp "f(, 1)", cp "if p0 then 1", cp "if p0 then 1 else", cp "F()", cp "()", cp "p0 p1",
  cp "abcdefghi()", cp "1 + 2", rep "dec(" 800, rep "(" 900, rep "9" 700, rep "f(" 400 ++ rep ")" 400, cp "f(1)\n", cp "if 0 then 1 else 2", cp "p0p", cp "inc(p0)1", cp "if p0 then 1 else 2 ", cp "1p0", cp "if p0 then 1 else 2 else 3",
  cp "if p0  then 1 else 2", cp "if p0 then 1  else 2", cp "if p4 then 1 else 2", cp "if p0 then 1 else 2, 3", rep "inc(" 6 ++ cp "p0" ++ rep ")" 6, wide (cp "inc(inc(min(1, 1)))"), wide (cp "inc(inc(inc(inc(1))))")]
theorem good_ok : good.all (fun z => decide (z.length < 5000) && (parse 4 z).isSome) = true := by decide +kernel
theorem bad_ok : bad.all (fun z => decide (z.length < 5000) && (parse 4 z).isNone) = true := by decide +kernel
def encT (z : T) : PyData := .str (tx z)
theorem sz100 {n : Nat} (h : n ≤ 100) : n ≤ sizeLine := Nat.le_trans h (by decide)
theorem f41 (n : Nat) (S : Store) : cF (n + 2) 41 [] S = .ok (.p (.list (bad.map encT))) S := by
  rw [cF_at (F := d41.ir) rfl rfl]
  have m1 := mul_s "dec(" 800 (by decide +kernel)
  have m2 := mul_s "(" 900 (by decide +kernel)
  have m3 := mul_s "9" 700 (by decide +kernel)
  have m4 := mul_s "f(" 400 (by decide +kernel)
  have m5 := mul_s ")" 400 (by decide +kernel)
  have m6 := mul_s "inc(" 6 (by decide +kernel)
  have m7 := mul_s ")" 6 (by decide +kernel)
  have ep : Str.ofString "p0" = tx (cp "p0") := lit_tx _
  have l4 : (rep "f(" 400).length + (rep ")" 400).length ≤ 100000 := by decide +kernel
  have l6 : (rep "inc(" 6).length + (cp "p0").length ≤ 100000 := by decide +kernel
  have l7 : (rep "inc(" 6 ++ cp "p0").length + (rep ")" 6).length ≤ 100000 := by decide +kernel
  have a4 := add_t _ _ l4
  have a6 := add_t _ _ l6
  have a7 := add_t _ _ l7
  have w1 := f40 n (cp "inc(inc(min(1, 1)))") (by decide +kernel) S
  have w2 := f40 n (cp "inc(inc(inc(inc(1))))") (by decide +kernel) S
  rw [← lit_tx] at w1 w2
  have hbad : bad.map encT = [PyData.str (Str.ofString "1001"), .str (Str.ofString "00"), .str (Str.ofString "01"), .str (Str.ofString "p4"), .str (Str.ofString "p01"), .str (Str.ofString "p"), .str (Str.ofString "p-1"), .str (Str.ofString "-1"), .str (Str.ofString "f"), .str (Str.ofString "if(1, 2)"), .str (Str.ofString "then()"), .str (Str.ofString "else(1)"), .str (Str.ofString "inc()"), .str (Str.ofString "inc(1, 2)"), .str (Str.ofString "min(1)"), .str (Str.ofString "max(1, 2, 3)"), .str (Str.ofString "f(1,2)"), .str (Str.ofString "f(1,  2)"), .str (Str.ofString "f( 1)"), .str (Str.ofString "f(1 )"), .str (Str.ofString "f (1)"), .str (Str.ofString "f(1))"),
    .str (Str.ofString "f(1"), .str (Str.ofString ""), .str (Str.ofString " "), .str (Str.ofString "dec(p0, 1)"), .str (Str.ofString "dec p0"), .str (Str.ofString "p0()"), .str (Str.ofString "1_0"), .str (Str.ofString "1_000"), .str (Str.ofString "p0_0"), .str (Str.ofString "+1"), .str (Str.ofString "pp0"), .str (Str.ofString "p 0"), .str (Str.ofString "pp"), .str (Str.ofString "f(1, 2, 3, 4, 5)"), .str (Str.ofString "f(1, )"), .str (Str.ofString "f(, 1)"), .str (Str.ofString "if p0 then 1"), .str (Str.ofString "if p0 then 1 else"), .str (Str.ofString "F()"), .str (Str.ofString "()"), .str (Str.ofString "p0 p1"),
    .str (Str.ofString "abcdefghi()"), .str (Str.ofString "1 + 2"), .str (tx (rep "dec(" 800)), .str (tx (rep "(" 900)), .str (tx (rep "9" 700)), .str (tx (rep "f(" 400 ++ rep ")" 400)), .str (Str.ofString "f(1)\n"), .str (Str.ofString "if 0 then 1 else 2"), .str (Str.ofString "p0p"), .str (Str.ofString "inc(p0)1"), .str (Str.ofString "if p0 then 1 else 2 "), .str (Str.ofString "1p0"), .str (Str.ofString "if p0 then 1 else 2 else 3"),
    .str (Str.ofString "if p0  then 1 else 2"), .str (Str.ofString "if p0 then 1  else 2"), .str (Str.ofString "if p4 then 1 else 2"), .str (Str.ofString "if p0 then 1 else 2, 3"), .str (tx (rep "inc(" 6 ++ cp "p0" ++ rep ")" 6)), .str (tx (wide (cp "inc(inc(min(1, 1)))"))), .str (tx (wide (cp "inc(inc(inc(inc(1))))")))] := rfl
  rw [hbad]
  generalize hs1 : rep "dec(" 800 = s1 at *
  generalize hs2 : rep "(" 900 = s2 at *
  generalize hs3 : rep "9" 700 = s3 at *
  generalize hs4 : rep "f(" 400 = s4 at *
  generalize hs5 : rep ")" 400 = s5 at *
  generalize hs6 : rep "inc(" 6 = s6 at *
  generalize hs7 : rep ")" 6 = s7 at *
  simp only [show ((800 : Nat) : Int) = 800 from rfl] at m1
  simp only [show ((900 : Nat) : Int) = 900 from rfl] at m2
  simp only [show ((700 : Nat) : Int) = 700 from rfl] at m3
  simp only [show ((400 : Nat) : Int) = 400 from rfl] at m4 m5
  simp only [show ((6 : Nat) : Int) = 6 from rfl] at m6 m7
  simp [d41, m1, m2, m3, m4, m5, m6, m7, ep, a4, a6, a7, w1, w2, -bin_adds, -List.append_assoc, -lit_tx]
theorem read_ok (n : Nat) (S : Store) (z : T) (hz : z.length < 5000) : cF (n + 25) 37 [.fn "parse_expression", .p (.int 4), .p (encT z)] S = .ok (.p (resD 4 z)) S := f37 n 4 (by decide) S z hz
def body42 : Ss := match d42.ir.body with | .cons _ (.cons _ (.cons _ (.cons _ (.cons (.fo _ _ b) _)))) => b | _ => .nil
theorem loop42 (n : Nat) (x0 : Option W) (S : Store) : ∀ (l : List T) (x1 x2 : Option W), (∀ z ∈ l, z.length < 5000 ∧ ∃ e, parse 4 z = some e) → ∃ y1 y2, forL (foStep (cF (n + 25)) cs (.n 1) body42) (l.map encT) [x0, x1, x2] S = .nx [x0, y1, y2] S
  | [], x1, x2, _ => ⟨x1, x2, rfl⟩
  | z :: l, x1, x2, h => by
    obtain ⟨hz, e, he⟩ := h z (by simp)
    obtain ⟨s1, s2, s3⟩ := parse_sound he
    have hs : Shrt e := by unfold Shrt; rw [← s1]; omega
    have h37 := read_ok n S z hz
    rw [resD, he] at h37
    simp only at h37
    have h34 := f34 (n + 15) 4 e s2 hs S
    rw [s3] at h34
    have h30 := f30 e (n + 25) S s2 hs (by have := (isE_deep s3).1; omega)
    have h23 := f23 (n + 11) 4 (by decide) e s2 hs s3 S
    rw [← s1] at h30 h23
    obtain ⟨y1, y2, h2⟩ := loop42 n x0 S l (some (.p (encT z))) (some (.p e.enc)) fun v hv => h v (by simp [hv])
    refine ⟨y1, y2, ?_⟩
    have e4 : ((4 : Nat) : Int) = 4 := rfl
    rw [e4] at h34 h23
    unfold encT at h37 h2
    have step : foStep (cF (n + 25)) cs (.n 1) body42 (encT z) [x0, x1, x2] S = .nx [x0, some (.p (.str (tx z))), some (.p e.enc)] S := by
      unfold encT
      simp [body42, d42, h37, enc_ne, h34, h30, h23]
    rw [List.map_cons, forL_cons, step]
    exact h2
theorem f42 (n : Nat) (S : Store) : cF (n + 26) 42 [] S = .ok (.p (.bool true)) S := by
  have m1 := mul_s "inc(" 5 (by decide +kernel)
  have m2 := mul_s ")" 5 (by decide +kernel)
  have ep : Str.ofString "p0" = tx (cp "p0") := lit_tx _
  have l1 : (rep "inc(" 5).length + (cp "p0").length ≤ 100000 := by decide +kernel
  have l2 : (rep "inc(" 5 ++ cp "p0").length + (rep ")" 5).length ≤ 100000 := by decide +kernel
  have a1 := add_t _ _ l1
  have a2 := add_t _ _ l2
  have w1 := f40 (n + 24) (cp "1") (by decide +kernel) S
  have w2 := f40 (n + 24) (cp "inc(inc(inc(1)))") (by decide +kernel) S
  rw [← lit_tx] at w1 w2
  have hgood : good.map encT = [PyData.str (tx (rep "inc(" 5 ++ cp "p0" ++ rep ")" 5)), .str (Str.ofString "1000"), .str (Str.ofString "0"), .str (Str.ofString "p3"), .str (Str.ofString "p()"), .str (Str.ofString "p(p0)"), .str (Str.ofString "pa(p1, p2)"), .str (Str.ofString "iff(1, 2, 3, 4)"), .str (Str.ofString "if p0 then if p1 then 1 else 2 else 3"), .str (Str.ofString "dec(if p3 then f() else g(if p0 then 0 else 1, 2))"),
    .str (Str.ofString "pp(p0, pp())"), .str (Str.ofString "p(p(p0), ppp(p3))"), .str (Str.ofString "thens(elses())"), .str (tx (wide (cp "1"))), .str (tx (wide (cp "inc(inc(inc(1)))"))), .str (Str.ofString "min(if p0 then 1 else p1, p(p2))")] := rfl
  have hg := List.all_eq_true.mp good_ok
  obtain ⟨y1, y2, hl⟩ := loop42 n (some (.p (.list (good.map encT)))) S good none none (fun z hz => by
    have := hg z hz
    simp only [Bool.and_eq_true, decide_eq_true_eq] at this
    exact ⟨this.1, Option.isSome_iff_exists.mp this.2⟩)
  have hb := List.all_eq_true.mp bad_ok
  have hlc : lcF (lcStep (cF (n + 25)) cs (.v 1) (.n 1) (.cons (.cmp .NotEq (.call 37 (.cons (.fv "parse_expression") (.cons (.k (.int 4)) (.cons (.v 1) .nil)))) (.k (.str "parse"))) .nil) [some (.p (.list (good.map encT))), y1, y2]) (bad.map encT) S = .ok [] S :=
    lcF_none fun z hz => by
      have := hb z hz
      simp only [Bool.and_eq_true, decide_eq_true_eq, Option.isNone_iff_eq_none] at this
      have h37 := read_ok n S z this.1
      rw [resD, this.2] at h37
      simp only at h37
      unfold encT at h37 ⊢
      simp [h37]
  have h41 := f41 (n + 23) S
  have hb42 : d42.ir.body = .cons (match d42.ir.body with | .cons s _ => s | _ => .pass) (.cons (match d42.ir.body with | .cons _ (.cons s _) => s | _ => .pass) (.cons (match d42.ir.body with | .cons _ (.cons _ (.cons s _)) => s | _ => .pass) (.cons (match d42.ir.body with | .cons _ (.cons _ (.cons _ (.cons s _))) => s | _ => .pass) (.cons (.fo (.n 1) (.e (.v 0)) body42) (.cons (.ret (.som (.cmp .Eq (.lc false (.v 1) (.n 1) (.e (.call 41 .nil)) (.cons (.cmp .NotEq (.call 37 (.cons (.fv "parse_expression") (.cons (.k (.int 4)) (.cons (.v 1) .nil)))) (.k (.str "parse"))) .nil)) (.lst false .nil)))) .nil))))) := rfl
  rw [hgood] at hl hlc
  generalize hs1 : rep "inc(" 5 = s1 at *
  generalize hs2 : rep ")" 5 = s2 at *
  simp only [show ((5 : Nat) : Int) = 5 from rfl] at m1 m2
  generalize bad.map encT = B at *
  rw [cF_at (F := d42.ir) rfl rfl, hb42]
  simp [d42, m1, m2, ep, a1, a2, w1, w2, -bin_adds, -List.append_assoc, -foStep_def, hl, h41, hlc, eqp_nn']
theorem loop43b (n i a : Nat) (ha : a ≤ 4) (x0 x1 : Option W) (S : Store) (N0 : Int) (hS : Gs S i N0) : ∀ (m j : Nat) (x4 : Option W) (o : MO) (N : Int), Dr N o → N + 6200 * m + 20000 < 1000000 →
    ∃ (y4 : Option W) (o' : MO), forL (foStep (cF (n + 27)) cs (.n 4) (.cons (.ifs (.un .Not (.call 39 (.cons (.v 2) (.cons (.v 3) .nil)))) (.cons (.ret (.som (.k (.bool false)))) .nil) .nil) .nil))
      (rangeL (j : Int) m) [x0, x1, some (.ref i), some (.p (.int a)), x4] (S.set i o) = .nx [x0, x1, some (.ref i), some (.p (.int a)), y4] (S.set i o') ∧ Dr (N + 6200 * m) o'
  | 0, j, x4, o, N, hd, hN => ⟨x4, o, rfl, by simpa using hd⟩
  | m + 1, j, x4, o, N, hd, hN => by
    obtain ⟨o1, h1, d1⟩ := f39 n i (S.set i o) N (hS.set hd) a ha (by omega)
    rw [setset] at h1
    obtain ⟨y4, o', h2, d2⟩ := loop43b n i a ha x0 x1 S N0 hS m (j + 1) (some (.p (.int j))) o1 (N + 6200) (d1.mono (by omega)) (by omega)
    refine ⟨y4, o', ?_, d2.mono (by omega)⟩
    have step : foStep (cF (n + 27)) cs (.n 4) (.cons (.ifs (.un .Not (.call 39 (.cons (.v 2) (.cons (.v 3) .nil)))) (.cons (.ret (.som (.k (.bool false)))) .nil) .nil) .nil) (.int j) [x0, x1, some (.ref i), some (.p (.int a)), x4] (S.set i o) =
        .nx [x0, x1, some (.ref i), some (.p (.int a)), some (.p (.int j))] (S.set i o1) := by
      simp [h1]
    have : rangeL (j : Int) (m + 1) = .int j :: rangeL ((j + 1 : Nat) : Int) m := rfl
    rw [this, forL_cons, step]
    exact h2
def body43 : Ss := match d43.ir.body with | .cons _ (.cons (.fo _ _ b) _) => b | _ => .nil
theorem loop43 (n : Nat) (x : W) (ns : List Int) (hx : Sc x ns) (hl : ns.length ≤ 63) : ∀ (m j : Nat) (x1 x2 x3 x4 : Option W) (S : Store), j + m ≤ 60 → ∃ y1 y2 y3 y4 S',
    forL (foStep (cF (n + 27)) cs (.n 1) body43) (rangeL (j : Int) m) [some x, x1, x2, x3, x4] S = .nx [some x, y1, y2, y3, y4] S' ∧ S.length ≤ S'.length
  | 0, j, x1, x2, x3, x4, S, _ => ⟨x1, x2, x3, x4, S, rfl, Nat.le_refl _⟩
  | m + 1, j, x1, x2, x3, x4, S, h => by
    obtain ⟨o, h1, d0⟩ := stream (cs := cs) hstream (n + 26) x ns hx hl j (by omega) S
    have hG : Gs (S ++ [o]) S.length 0 := ⟨o, by simp, d0⟩
    obtain ⟨k, o1, h2, k0, k1, d1⟩ := drawE (n + 26) S.length 5 0 (S ++ [o]) hG (by decide) (by decide) (by decide)
    obtain ⟨a, rfl⟩ : ∃ a : Nat, k = a := ⟨k.toNat, by omega⟩
    obtain ⟨y4, o2, h3, d2⟩ := loop43b n S.length a (by omega) (some x) (some (.p (.int j))) (S ++ [o]) 0 hG 4 0 x4 o1 (0 + 1) d1 (by decide)
    obtain ⟨z1, z2, z3, z4, S', h4, l4⟩ := loop43 n x ns hx hl m (j + 1) (some (.p (.int j))) (some (.ref S.length)) (some (.p (.int a))) y4 ((S ++ [o]).set S.length o2) (by omega)
    refine ⟨z1, z2, z3, z4, S', ?_, by simp at l4; omega⟩
    have h1 : cF (n + 27) 25 [x, .p (.int j)] S = .ok (.ref S.length) (S ++ [o]) := h1
    rw [show ((0 : Nat) : Int) = 0 from rfl] at h3
    have hb : body43 = .cons (.asg (.n 2) (.call 25 (.cons (.v 0) (.cons (.v 1) .nil)))) (.cons (.asg (.n 3) (.call 26 (.cons (.v 2) (.cons (.k (.int 5)) .nil)))) (.cons (.fo (.n 4) (.r1 (.k (.int 4))) (.cons (.ifs (.un .Not (.call 39 (.cons (.v 2) (.cons (.v 3) .nil)))) (.cons (.ret (.som (.k (.bool false)))) .nil) .nil) .nil)) .nil)) := rfl
    generalize (S ++ [o]).set S.length o1 = S1 at *
    generalize (S ++ [o]).set S.length o2 = S2 at *
    have hst : foStep (cF (n + 27)) cs (.n 1) body43 (.int j) [some x, x1, x2, x3, x4] S = .nx [some x, some (.p (.int j)), some (.ref S.length), some (.p (.int a)), y4] S2 := by
      rw [foStep_def, hb]
      simp [h1, h2, -foStep_def, -range4, h3]
    have : rangeL (j : Int) (m + 1) = .int j :: rangeL ((j + 1 : Nat) : Int) m := rfl
    rw [this, forL_cons, hst]
    exact h4
theorem math0 (n : Nat) (ns : List Int) (hl : ns.length ≤ 63) (x : W) (hx : Sc x ns) (S0 : Store) : ∃ S' : Store, cF (n + 28) 43 [x] S0 = .ok (.p (.bool true)) (S'.take S0.length) := by
  obtain ⟨y1, y2, y3, y4, S', h, lS⟩ := loop43 n x ns hx hl (max 1 (min 8 ns.length)) 0 none none none none S0 (by omega)
  rw [show ((0 : Nat) : Int) = 0 from rfl] at h
  have e1 : (max 1 (min 8 (ns.length : Int))).toNat = max 1 (min 8 ns.length) := by omega
  have e2 : -4611686018427387904 ≤ max 1 (min 8 (ns.length : Int)) := by omega
  have e3 : max 1 (min 8 (ns.length : Int)) < 4611686018427387904 := by omega
  rw [← e1] at h
  have h42 := f42 (n + 1) S0
  have hf : ∀ d, fin S0.length (.p d) S' = .ok (.p d) (S'.take S0.length) := fun d => fin_p lS
  have hb : d43.ir.body = .cons (.ifs (.un .Not (.call 42 .nil)) (.cons (.ret (.som (.k (.bool false)))) .nil) .nil) (.cons (.fo (.n 1) (.r1 (.bi false .max (.cons (.k (.int 1)) (.cons (.bi false .min (.cons (.k (.int 8)) (.cons (.bi false .len (.cons (.v 0) .nil)) .nil))) .nil)))) body43) (.cons (.ret (.som (.k (.bool true)))) .nil)) := rfl
  generalize hM : max 1 (min 8 (ns.length : Int)) = M at *
  refine ⟨S', ?_⟩
  rw [cF_at (F := d43.ir) rfl rfl, hb]
  simp [d43, h42, sc_len hx, hM, e2, e3, h, hf, -foStep_def]
theorem math (ns : List Int) (hl : ns.length ≤ 63) (x : W) (hx : Sc x ns) : callF (ds.map (·.ir)) cs 31 43 [x] [] = .ok (.p (.bool true)) [] := by
  obtain ⟨S', h⟩ := math0 3 ns hl x hx []
  simpa using h
end L79

set_option Elab.async false
set_option maxRecDepth 1000000
open PySem PySem.W PyProof.Rows
set_option maxHeartbeats 0 in
theorem PySem.Challenge.cw_callsend_k79_expression_texts_holds : PySem.Challenge.rw_callsend_k79_expression_texts.Holds := by
  w_on; o_law; k_head; (case hw => w_witness2)
  k_fill
  refine Px.walk_px (l := PySem.Challenge.rw_callsend_k79_expression_texts) (ds := L79.ds) (g := L79.gd) (cs := L79.cs) (k := 30) (ix := 43) (dl := L79.d43) rfl rfl ⟨rfl, by decide, by decide⟩ (fun w h Y => PySem.W.kIn_of Y) rfl rfl rfl (fun _ _ _ _ _ _ _ => rfl) ?math (by decide +kernel) ?F
  case math => exact fun ns x hl hx => L79.math ns hl x hx
  case F =>
    intro w mg h KX G
    refine' Px.with_exc (x := "CallsError") PySem.F.excBase_ValueError KX G ?ea_1 ?ek_1 ?eq_1 ?es_1 ?et_1 ?e1_1 ?e2_1 ?e3_1 ?e4_1 ?e5_1 ?e6_1 ?e7_1 ?er_1
    (case ea_1 => k_is); (case ek_1 => k_is); (case eq_1 => k_exc); (case es_1 => k_is); (case et_1 => k_is); (case e1_1 => k_is); (case e2_1 => k_is); (case e3_1 => k_is); (case e4_1 => k_is); (case e5_1 => k_is); (case e6_1 => k_is); (case e7_1 => k_is)
    intro e0
    refine' Px.with_exc (x := "InvalidProgram") PySem.F.excBase_ValueError KX G ?ea_2 ?ek_2 ?eq_2 ?es_2 ?et_2 ?e1_2 ?e2_2 ?e3_2 ?e4_2 ?e5_2 ?e6_2 ?e7_2 ?er_2
    (case ea_2 => k_is); (case ek_2 => k_is); (case eq_2 => k_exc); (case es_2 => k_is); (case et_2 => k_is); (case e1_2 => k_is); (case e2_2 => k_is); (case e3_2 => k_is); (case e4_2 => k_is); (case e5_2 => k_is); (case e6_2 => k_is); (case e7_2 => k_is)
    intro e1
    refine' Px.with_exc (x := "ParseError") PySem.F.excBase_ValueError KX G ?ea_3 ?ek_3 ?eq_3 ?es_3 ?et_3 ?e1_3 ?e2_3 ?e3_3 ?e4_3 ?e5_3 ?e6_3 ?e7_3 ?er_3
    (case ea_3 => k_is); (case ek_3 => k_is); (case eq_3 => k_exc); (case es_3 => k_is); (case et_3 => k_is); (case e1_3 => k_is); (case e2_3 => k_is); (case e3_3 => k_is); (case e4_3 => k_is); (case e5_3 => k_is); (case e6_3 => k_is); (case e7_3 => k_is)
    intro e2
    refine' Px.with_pair (b := true) e0 e0 ?p1_4 ?p2_4 ?p3_4 ?p4_4 ?p5_4 ?pr_4
    (case p1_4 => k_is); (case p2_4 => k_is); (case p3_4 => k_is); (case p4_4 => k_is); (case p5_4 => kit_is)
    intro p0_0
    refine' Px.with_pair (b := true) e0 e1 ?p1_5 ?p2_5 ?p3_5 ?p4_5 ?p5_5 ?pr_5
    (case p1_5 => k_is); (case p2_5 => k_is); (case p3_5 => k_is); (case p4_5 => k_is); (case p5_5 => kit_is)
    intro p0_1
    refine' Px.with_pair (b := true) e0 e2 ?p1_6 ?p2_6 ?p3_6 ?p4_6 ?p5_6 ?pr_6
    (case p1_6 => k_is); (case p2_6 => k_is); (case p3_6 => k_is); (case p4_6 => k_is); (case p5_6 => kit_is)
    intro p0_2
    refine' Px.with_pair (b := false) e1 e0 ?p1_7 ?p2_7 ?p3_7 ?p4_7 ?p5_7 ?pr_7
    (case p1_7 => k_is); (case p2_7 => k_is); (case p3_7 => k_is); (case p4_7 => k_is); (case p5_7 => kit_is)
    intro p1_0
    refine' Px.with_pair (b := true) e1 e1 ?p1_8 ?p2_8 ?p3_8 ?p4_8 ?p5_8 ?pr_8
    (case p1_8 => k_is); (case p2_8 => k_is); (case p3_8 => k_is); (case p4_8 => k_is); (case p5_8 => kit_is)
    intro p1_1
    refine' Px.with_pair (b := false) e1 e2 ?p1_9 ?p2_9 ?p3_9 ?p4_9 ?p5_9 ?pr_9
    (case p1_9 => k_is); (case p2_9 => k_is); (case p3_9 => k_is); (case p4_9 => k_is); (case p5_9 => kit_is)
    intro p1_2
    refine' Px.with_pair (b := false) e2 e0 ?p1_10 ?p2_10 ?p3_10 ?p4_10 ?p5_10 ?pr_10
    (case p1_10 => k_is); (case p2_10 => k_is); (case p3_10 => k_is); (case p4_10 => k_is); (case p5_10 => kit_is)
    intro p2_0
    refine' Px.with_pair (b := false) e2 e1 ?p1_11 ?p2_11 ?p3_11 ?p4_11 ?p5_11 ?pr_11
    (case p1_11 => k_is); (case p2_11 => k_is); (case p3_11 => k_is); (case p4_11 => k_is); (case p5_11 => kit_is)
    intro p2_1
    refine' Px.with_pair (b := true) e2 e2 ?p1_12 ?p2_12 ?p3_12 ?p4_12 ?p5_12 ?pr_12
    (case p1_12 => k_is); (case p2_12 => k_is); (case p3_12 => k_is); (case p4_12 => k_is); (case p5_12 => kit_is)
    intro p2_2
    refine' Px.with_cls2 (x := "ExpressionReader") (a1 := "own_text") (a2 := "own_place") KX G ?oa_13 ?o1_13 ?o2_13 ?o3_13 ?o4_13 ?o5_13 ?o6_13 ?orr_13
    (case oa_13 => k_is); (case o1_13 => k_is); (case o2_13 => k_is); (case o3_13 => k_is); (case o4_13 => k_is); (case o5_13 => k_is); (case o6_13 => k_is)
    intro o0
    refine' Px.with_fv (x := "parse_expression") KX G ?va_14 ?vr_14
    (case va_14 => k_is)
    intro v0
    refine' Px.with_def (d := L79.d0) KX G ?a0_15 ?l0_15 ?c0_15 ?k0_15 ?r0_15
    (case a0_15 => k_is); (case l0_15 => k_is); (case c0_15 => k_is); (case k0_15 => k_is)
    intro x0
    refine' Px.with_def (d := L79.d1) KX G ?a1_16 ?l1_16 ?c1_16 ?k1_16 ?r1_16
    (case a1_16 => k_is); (case l1_16 => k_is); (case c1_16 => k_is); (case k1_16 => k_is)
    intro x1
    refine' Px.with_def (d := L79.d2) KX G ?a2_17 ?l2_17 ?c2_17 ?k2_17 ?r2_17
    (case a2_17 => k_is); (case l2_17 => k_is); (case c2_17 => k_is); (case k2_17 => k_is)
    intro x2
    refine' Px.with_def (d := L79.d3) KX G ?a3_18 ?l3_18 ?c3_18 ?k3_18 ?r3_18
    (case a3_18 => k_is); (case l3_18 => k_is); (case c3_18 => k_is); (case k3_18 => k_is)
    intro x3
    refine' Px.with_def (d := L79.d4) KX G ?a4_19 ?l4_19 ?c4_19 ?k4_19 ?r4_19
    (case a4_19 => k_is); (case l4_19 => k_is); (case c4_19 => k_is); (case k4_19 => k_is)
    intro x4
    refine' Px.with_def (d := L79.d5) KX G ?a5_20 ?l5_20 ?c5_20 ?k5_20 ?r5_20
    (case a5_20 => k_is); (case l5_20 => k_is); (case c5_20 => k_is); (case k5_20 => k_is)
    intro x5
    refine' Px.with_def (d := L79.d6) KX G ?a6_21 ?l6_21 ?c6_21 ?k6_21 ?r6_21
    (case a6_21 => k_is); (case l6_21 => k_is); (case c6_21 => k_is); (case k6_21 => k_is)
    intro x6
    refine' Px.with_def (d := L79.d7) KX G ?a7_22 ?l7_22 ?c7_22 ?k7_22 ?r7_22
    (case a7_22 => k_is); (case l7_22 => k_is); (case c7_22 => k_is); (case k7_22 => k_is)
    intro x7
    refine' Px.with_def (d := L79.d8) KX G ?a8_23 ?l8_23 ?c8_23 ?k8_23 ?r8_23
    (case a8_23 => k_is); (case l8_23 => k_is); (case c8_23 => k_is); (case k8_23 => k_is)
    intro x8
    refine' Px.with_def (d := L79.d9) KX G ?a9_24 ?l9_24 ?c9_24 ?k9_24 ?r9_24
    (case a9_24 => k_is); (case l9_24 => k_is); (case c9_24 => k_is); (case k9_24 => k_is)
    intro x9
    refine' Px.with_def (d := L79.d10) KX G ?a10_25 ?l10_25 ?c10_25 ?k10_25 ?r10_25
    (case a10_25 => k_is); (case l10_25 => k_is); (case c10_25 => k_is); (case k10_25 => k_is)
    intro x10
    refine' Px.with_def (d := L79.d11) KX G ?a11_26 ?l11_26 ?c11_26 ?k11_26 ?r11_26
    (case a11_26 => k_is); (case l11_26 => k_is); (case c11_26 => k_is); (case k11_26 => k_is)
    intro x11
    refine' Px.with_def (d := L79.d12) KX G ?a12_27 ?l12_27 ?c12_27 ?k12_27 ?r12_27
    (case a12_27 => k_is); (case l12_27 => k_is); (case c12_27 => k_is); (case k12_27 => k_is)
    intro x12
    refine' Px.with_init (d := L79.d13) o0 ?i1_28 ?i2_28 ?i3_28 ?i4_28 ?i5_28 ?i6_28 ?i7_28 ?ir_28
    (case i1_28 => k_is); (case i2_28 => k_is); (case i3_28 => k_is); (case i4_28 => k_is); (case i5_28 => k_is); (case i6_28 => k_is); (case i7_28 => k_is)
    intro x13
    refine' Px.with_meth (m := "does_follow") (d := L79.d14) o0 ?i1_29 ?i2_29 ?i3_29 ?i4_29 ?i5_29 ?ir_29
    (case i1_29 => k_is); (case i2_29 => k_is); (case i3_29 => k_is); (case i4_29 => k_is); (case i5_29 => k_is)
    intro x14
    refine' Px.with_meth (m := "skip") (d := L79.d15) o0 ?i1_30 ?i2_30 ?i3_30 ?i4_30 ?i5_30 ?ir_30
    (case i1_30 => k_is); (case i2_30 => k_is); (case i3_30 => k_is); (case i4_30 => k_is); (case i5_30 => k_is)
    intro x15
    refine' Px.with_meth (m := "run_of") (d := L79.d16) o0 ?i1_31 ?i2_31 ?i3_31 ?i4_31 ?i5_31 ?ir_31
    (case i1_31 => k_is); (case i2_31 => k_is); (case i3_31 => k_is); (case i4_31 => k_is); (case i5_31 => k_is)
    intro x16
    refine' Px.with_meth (m := "read_expression") (d := L79.d17) o0 ?i1_32 ?i2_32 ?i3_32 ?i4_32 ?i5_32 ?ir_32
    (case i1_32 => k_is); (case i2_32 => k_is); (case i3_32 => k_is); (case i4_32 => k_is); (case i5_32 => k_is)
    intro x17
    refine' Px.with_meth (m := "read_choice") (d := L79.d18) o0 ?i1_33 ?i2_33 ?i3_33 ?i4_33 ?i5_33 ?ir_33
    (case i1_33 => k_is); (case i2_33 => k_is); (case i3_33 => k_is); (case i4_33 => k_is); (case i5_33 => k_is)
    intro x18
    refine' Px.with_meth (m := "read_arguments") (d := L79.d19) o0 ?i1_34 ?i2_34 ?i3_34 ?i4_34 ?i5_34 ?ir_34
    (case i1_34 => k_is); (case i2_34 => k_is); (case i3_34 => k_is); (case i4_34 => k_is); (case i5_34 => k_is)
    intro x19
    refine' Px.with_meth (m := "read_whole") (d := L79.d20) o0 ?i1_35 ?i2_35 ?i3_35 ?i4_35 ?i5_35 ?ir_35
    (case i1_35 => k_is); (case i2_35 => k_is); (case i3_35 => k_is); (case i4_35 => k_is); (case i5_35 => k_is)
    intro x20
    refine' Px.with_def (d := L79.d21) KX G ?a21_36 ?l21_36 ?c21_36 ?k21_36 ?r21_36
    (case a21_36 => k_is); (case l21_36 => k_is); (case c21_36 => k_is); (case k21_36 => k_is)
    intro x21
    refine' Px.with_def (d := L79.d22) KX G ?a22_37 ?l22_37 ?c22_37 ?k22_37 ?r22_37
    (case a22_37 => k_is); (case l22_37 => k_is); (case c22_37 => k_is); (case k22_37 => k_is)
    intro x22
    refine' Px.with_def (d := L79.d23) KX G ?a23_38 ?l23_38 ?c23_38 ?k23_38 ?r23_38
    (case a23_38 => k_is); (case l23_38 => k_is); (case c23_38 => k_is); (case k23_38 => k_is)
    intro x23
    refine' Px.with_def (d := L79.d24) KX G ?a24_39 ?l24_39 ?c24_39 ?k24_39 ?r24_39
    (case a24_39 => k_is); (case l24_39 => k_is); (case c24_39 => k_is); (case k24_39 => k_is)
    intro x24
    refine' Px.with_def (d := L79.d25) KX G ?a25_40 ?l25_40 ?c25_40 ?k25_40 ?r25_40
    (case a25_40 => k_is); (case l25_40 => k_is); (case c25_40 => k_is); (case k25_40 => k_is)
    intro x25
    refine' Px.with_def (d := L79.d26) KX G ?a26_41 ?l26_41 ?c26_41 ?k26_41 ?r26_41
    (case a26_41 => k_is); (case l26_41 => k_is); (case c26_41 => k_is); (case k26_41 => k_is)
    intro x26
    refine' Px.with_def (d := L79.d27) KX G ?a27_42 ?l27_42 ?c27_42 ?k27_42 ?r27_42
    (case a27_42 => k_is); (case l27_42 => k_is); (case c27_42 => k_is); (case k27_42 => k_is)
    intro x27
    refine' Px.with_def (d := L79.d28) KX G ?a28_43 ?l28_43 ?c28_43 ?k28_43 ?r28_43
    (case a28_43 => k_is); (case l28_43 => k_is); (case c28_43 => k_is); (case k28_43 => k_is)
    intro x28
    refine' Px.with_def (d := L79.d29) KX G ?a29_44 ?l29_44 ?c29_44 ?k29_44 ?r29_44
    (case a29_44 => k_is); (case l29_44 => k_is); (case c29_44 => k_is); (case k29_44 => k_is)
    intro x29
    refine' Px.with_def (d := L79.d30) KX G ?a30_45 ?l30_45 ?c30_45 ?k30_45 ?r30_45
    (case a30_45 => k_is); (case l30_45 => k_is); (case c30_45 => k_is); (case k30_45 => k_is)
    intro x30
    refine' Px.with_def (d := L79.d31) KX G ?a31_46 ?l31_46 ?c31_46 ?k31_46 ?r31_46
    (case a31_46 => k_is); (case l31_46 => k_is); (case c31_46 => k_is); (case k31_46 => k_is)
    intro x31
    refine' Px.with_def (d := L79.d32) KX G ?a32_47 ?l32_47 ?c32_47 ?k32_47 ?r32_47
    (case a32_47 => k_is); (case l32_47 => k_is); (case c32_47 => k_is); (case k32_47 => k_is)
    intro x32
    refine' Px.with_def (d := L79.d33) KX G ?a33_48 ?l33_48 ?c33_48 ?k33_48 ?r33_48
    (case a33_48 => k_is); (case l33_48 => k_is); (case c33_48 => k_is); (case k33_48 => k_is)
    intro x33
    refine' Px.with_def (d := L79.d34) KX G ?a34_49 ?l34_49 ?c34_49 ?k34_49 ?r34_49
    (case a34_49 => k_is); (case l34_49 => k_is); (case c34_49 => k_is); (case k34_49 => k_is)
    intro x34
    refine' Px.with_def (d := L79.d35) KX G ?a35_50 ?l35_50 ?c35_50 ?k35_50 ?r35_50
    (case a35_50 => k_is); (case l35_50 => k_is); (case c35_50 => k_is); (case k35_50 => k_is)
    intro x35
    refine' Px.with_def (d := L79.d36) KX G ?a36_51 ?l36_51 ?c36_51 ?k36_51 ?r36_51
    (case a36_51 => k_is); (case l36_51 => k_is); (case c36_51 => k_is); (case k36_51 => k_is)
    intro x36
    refine' Px.with_def (d := L79.d37) KX G ?a37_52 ?l37_52 ?c37_52 ?k37_52 ?r37_52
    (case a37_52 => k_is); (case l37_52 => k_is); (case c37_52 => k_is); (case k37_52 => k_is)
    intro x37
    refine' Px.with_def (d := L79.d38) KX G ?a38_53 ?l38_53 ?c38_53 ?k38_53 ?r38_53
    (case a38_53 => k_is); (case l38_53 => k_is); (case c38_53 => k_is); (case k38_53 => k_is)
    intro x38
    refine' Px.with_def (d := L79.d39) KX G ?a39_54 ?l39_54 ?c39_54 ?k39_54 ?r39_54
    (case a39_54 => k_is); (case l39_54 => k_is); (case c39_54 => k_is); (case k39_54 => k_is)
    intro x39
    refine' Px.with_def (d := L79.d40) KX G ?a40_55 ?l40_55 ?c40_55 ?k40_55 ?r40_55
    (case a40_55 => k_is); (case l40_55 => k_is); (case c40_55 => k_is); (case k40_55 => k_is)
    intro x40
    refine' Px.with_def (d := L79.d41) KX G ?a41_56 ?l41_56 ?c41_56 ?k41_56 ?r41_56
    (case a41_56 => k_is); (case l41_56 => k_is); (case c41_56 => k_is); (case k41_56 => k_is)
    intro x41
    refine' Px.with_def (d := L79.d42) KX G ?a42_57 ?l42_57 ?c42_57 ?k42_57 ?r42_57
    (case a42_57 => k_is); (case l42_57 => k_is); (case c42_57 => k_is); (case k42_57 => k_is)
    intro x42
    refine' Px.with_def (d := L79.d43) KX G ?a43_58 ?l43_58 ?c43_58 ?k43_58 ?r43_58
    (case a43_58 => k_is); (case l43_58 => k_is); (case c43_58 => k_is); (case k43_58 => k_is)
    intro x43
    refine' Px.with_int (w := w) (x := "MAX_PARAMETERS") (i := 4) KX G ?ca0_59 ?cr0_59
    (case ca0_59 => k_is)
    intro c0
    refine' Px.with_int (w := w) (x := "MAX_NAME") (i := 8) KX G ?ca1_60 ?cr1_60
    (case ca1_60 => k_is)
    intro c1
    refine' Px.with_str (w := w) (x := "LETTERS_graphs") (y := "abcdefghijklmnopqrstuvwxyz") (by decide) KX G ?ca2_61 ?cr2_61
    (case ca2_61 => k_is)
    intro c2
    refine' Px.with_int (w := w) (x := "MAX_NUMBER") (i := 1000) KX G ?ca3_62 ?cr3_62
    (case ca3_62 => k_is)
    intro c3
    refine' Px.with_int (w := w) (x := "MAX_DEPTH") (i := 6) KX G ?ca4_63 ?cr4_63
    (case ca4_63 => k_is)
    intro c4
    refine' Px.with_int (w := w) (x := "MAX_NODES") (i := 40) KX G ?ca5_64 ?cr5_64
    (case ca5_64 => k_is)
    intro c5
    refine' Px.with_tup (w := w) (x := "RESERVED") (ds := [(.str "dec"), (.str "else"), (.str "if"), (.str "inc"), (.str "max"), (.str "min"), (.str "then")]) (by decide) KX G ?ca6_65 ?cl6_65 ?ce6_65 ?cr6_65
    (case ca6_65 => k_is); (case cl6_65 => k_is); (case ce6_65 => rfl)
    intro c6
    refine' Px.with_kd (w := w) (x := "LENGTHS") (kvs := [("param", (.int 2)), ("number", (.int 2)), ("inc", (.int 2)), ("dec", (.int 2)), ("min", (.int 3)), ("max", (.int 3)), ("if", (.int 4)), ("call", (.int 3))]) KX G ?ca7_66 ?cl7_66 ?ct7_66 ?cw7_66 ?ce7_66 ?cr7_66
    (case ca7_66 => k_is); (case cl7_66 => k_is); (case ct7_66 => exact ⟨⟨_, _, rfl, rfl⟩, ⟨_, _, rfl, rfl⟩, ⟨_, _, rfl, rfl⟩, ⟨_, _, rfl, rfl⟩, ⟨_, _, rfl, rfl⟩, ⟨_, _, rfl, rfl⟩, ⟨_, _, rfl, rfl⟩, ⟨_, _, rfl, rfl⟩, trivial⟩); (case cw7_66 => rfl); (case ce7_66 => rfl)
    intro c7
    refine' Px.with_str (w := w) (x := "DIGITS") (y := "0123456789") (by decide) KX G ?ca8_67 ?cr8_67
    (case ca8_67 => k_is)
    intro c8
    refine' Px.with_str (w := w) (x := "LETTERS_formats") (y := "abcdefghijklmnopqrstuvwxyz") (by decide) KX G ?ca9_68 ?cr9_68
    (case ca9_68 => k_is)
    intro c9
    refine' Px.with_int (w := w) (x := "MAX_ARITY") (i := 4) KX G ?ca10_69 ?cr10_69
    (case ca10_69 => k_is)
    intro c10
    refine' Px.with_int (w := w) (x := "MOST_DIGITS") (i := 4) KX G ?ca11_70 ?cr11_70
    (case ca11_70 => k_is)
    intro c11
    refine' Px.with_kd (w := w) (x := "SIZES") (kvs := [("inc", (.int 1)), ("dec", (.int 1)), ("min", (.int 2)), ("max", (.int 2))]) KX G ?ca12_71 ?cl12_71 ?ct12_71 ?cw12_71 ?ce12_71 ?cr12_71
    (case ca12_71 => k_is); (case cl12_71 => k_is); (case ct12_71 => exact ⟨⟨_, _, rfl, rfl⟩, ⟨_, _, rfl, rfl⟩, ⟨_, _, rfl, rfl⟩, ⟨_, _, rfl, rfl⟩, trivial⟩); (case cw12_71 => rfl); (case ce12_71 => rfl)
    intro c12
    refine' Px.with_none (x := "abs") KX G ?na0_72 ?nr0_72
    (case na0_72 => k_is)
    intro n_abs
    refine' Px.with_none (x := "len") KX G ?na1_73 ?nr1_73
    (case na1_73 => k_is)
    intro n_len
    refine' Px.with_none (x := "max") KX G ?na2_74 ?nr2_74
    (case na2_74 => k_is)
    intro n_max
    refine' Px.with_none (x := "min") KX G ?na3_75 ?nr3_75
    (case na3_75 => k_is)
    intro n_min
    refine' Px.with_none (x := "int") KX G ?na4_76 ?nr4_76
    (case na4_76 => k_is)
    intro n_int
    refine' Px.with_none (x := "str") KX G ?na5_77 ?nr5_77
    (case na5_77 => k_is)
    intro n_str
    refine' Px.with_none (x := "repr") KX G ?na6_78 ?nr6_78
    (case na6_78 => k_is)
    intro n_repr
    refine' Px.with_none (x := "sum") KX G ?na7_79 ?nr7_79
    (case na7_79 => k_is)
    intro n_sum
    refine' Px.with_none (x := "all") KX G ?na8_80 ?nr8_80
    (case na8_80 => k_is)
    intro n_all
    refine' Px.with_none (x := "any") KX G ?na9_81 ?nr9_81
    (case na9_81 => k_is)
    intro n_any
    refine' Px.with_none (x := "list") KX G ?na10_82 ?nr10_82
    (case na10_82 => k_is)
    intro n_list
    refine' Px.with_none (x := "tuple") KX G ?na11_83 ?nr11_83
    (case na11_83 => k_is)
    intro n_tuple
    refine' Px.with_none (x := "sorted") KX G ?na12_84 ?nr12_84
    (case na12_84 => k_is)
    intro n_sorted
    refine' Px.with_none (x := "isinstance") KX G ?na13_85 ?nr13_85
    (case na13_85 => k_is)
    intro n_isinstance
    refine' Px.with_none (x := "range") KX G ?na14_86 ?nr14_86
    (case na14_86 => k_is)
    intro n_range
    refine' Px.with_none (x := "set") KX G ?na15_87 ?nr15_87
    (case na15_87 => k_is)
    intro n_set
    refine' Px.with_none (x := "zip") KX G ?na16_88 ?nr16_88
    (case na16_88 => k_is)
    intro n_zip
    refine' Px.with_none (x := "enumerate") KX G ?na17_89 ?nr17_89
    (case na17_89 => k_is)
    intro n_enumerate
    refine' Px.with_none (x := "bool") KX G ?na18_90 ?nr18_90
    (case na18_90 => k_is)
    intro n_bool
    refine' Px.with_none (x := "dict") KX G ?na19_91 ?nr19_91
    (case na19_91 => k_is)
    intro n_dict
    have ex := ((.cons e0 (.cons e1 (.cons e2 .nil))) : Px.ExsAt _ mg L79.gd.xn L79.gd.xf _)
    have tb := Px.tab_of (xt := L79.gd.xt) ex (.cons (.cons p0_0 (.cons p0_1 (.cons p0_2 .nil))) (.cons (.cons p1_0 (.cons p1_1 (.cons p1_2 .nil))) (.cons (.cons p2_0 (.cons p2_1 (.cons p2_2 .nil))) .nil)))
    exact ⟨_, rfl, L79.chk, L79.fns x0 x1 x2 x3 x4 x5 x6 x7 x8 x9 x10 x11 x12 x21 x22 x23 x24 x25 x26 x27 x28 x29 x30 x31 x32 x33 x34 x35 x36 x37 x38 x39 x40 x41 x42 x43, by decide +kernel, L79.mts x14 x15 x16 x17 x18 x19 x20, L79.mis x13, L79.oc o0, L79.fvs v0, L79.bnd, L79.kws , L79.cst c0 c1 c2 c3 c4 c5 c6 c7 c8 c9 c10 c11 c12,
      (fun b => match b with | .abs => n_abs | .len => n_len | .max => n_max | .min => n_min | .int => n_int | .str => n_str | .repr => n_repr | .sum => n_sum | .all => n_all | .any => n_any | .list => n_list | .tuple => n_tuple | .sorted => n_sorted),
      n_isinstance, n_range, n_set, n_zip, n_enumerate, (fun t => match t with | .int => n_int | .bool => n_bool | .str => n_str | .tuple => n_tuple | .list => n_list | .dict => n_dict), ex.xc, tb.xs, ex.xl⟩
